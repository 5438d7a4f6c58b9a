import PyProof.Rows.All
import Wide.All
import OpenK.AllK
import Wide.FinOn
import KE.KStateDown
import HandS.Head0
import HandS.Head1
import HandS.Head2
import HandS.HeadEnd
import HandS.HeadHook1
import HandS.HeadHook2
import HandS.HeadNt
import HandS.ForMost
import HandS.Defaults
import HandS.Codes
import HandS.More
import HandS.Star
import HandS.IterVal
import HandS.IsInst
import HandS.Wide
import HandS.TupAny
import HandS.RaiseMore
import HandS.Steps
import HandS.Text
import HandS.Iter
import HandS.Zip
import PyProof.ReprRoads
import PyProof.ReprLen
import HandS.TupLe
import KE.KUnpackStar
import PyProof.Rows.MatchSeqLen
import PyProof.RulesMatchSeq
import HandS.Ends
import HandS.Lambda
import HandS.TryMany
import HandS.ExcOwn
import HandS.EndTab
import KE.KExcInit
import HandS.ExcField
import HandS.SetFor
import HandS.SetTxt0
import HandS.Strs
import HandS.SortInts
import HandS.SortOrd
import KE.KSortTup
import KE.KOpsOwn
import KE.KFmtOwn
import HandS.Property
import HandS.ClsMeth
import HandS.TupMul
import HandS.Style
import HandS.FStr
import PyProof.SumAny
import KE.GoesMore
import HandS.DictComp
import HandS.MakeKwOnly
import KE.KDictPairs
import PyProof.DictUpdate
import PyProof.RowDictHeap
import PyProof.ListCopy
import HandS.ListItems
import HandS.Dict
import KE.GoesEnum
import KE.KDictZip
import KE.KItemsList
import PyProof.EqKinds
import HandS.ExcValue
import HandS.ExcInit
import HandS.ExcIs
import HandS.Sort
import HandS.DeepEq
import HandS.ListEq
import PyProof.NeKinds
import PyProof.MeetsIn
import PySem.Challenge.RW_loopgrowth_k15_machines_step_by_step
set_option Elab.async false
set_option linter.all false
set_option maxRecDepth 100000
set_option maxHeartbeats 4000000
namespace Hd
open PySem PySem.Spec PyProof.Rows L2
def obsM (ex : PySem.W.Frag → Bool) (fn : List He5.DefA) (K : PySem.W.Frag) : He.AlD := (ex K && fn.all fun d => d.ok K, fn.map fun d => He5.fnA K (d.at_ K))
def SaysM (ex : PySem.W.Frag → Bool) (fn : List He5.DefA) (K : PySem.W.Frag) : Prop := obsM ex fn K = He5.valA fn
section
variable {ex : PySem.W.Frag → Bool} {fn : List He5.DefA} {K : PySem.W.Frag}
theorem SaysM.fact (c : SaysM ex fn K) : ex K = true := (He.ba (show (ex K && fn.all fun d => d.ok K) = true from congrArg (fun z : He.AlD => z.1) c)).1
theorem SaysM.def_ (c : SaysM ex fn K) (i : Nat) {d : He5.DefA} (h : fn[i]? = some d := by rfl) : ∃ fd, L2.FunD K d.name d.qual d.params d.body d.scope (d.dvs K) (d.kws K) (d.at_ K) fd := by
  have c2 := (He.ba (show (ex K && fn.all fun d => d.ok K) = true from congrArg (fun z : He.AlD => z.1) c)).2
  have e : fn.map (fun d => He5.fnA K (d.at_ K)) = fn.map He5.DefA.val := congrArg (fun z : He.AlD => z.2) c
  have e2 : (fn.map fun d => He5.fnA K (d.at_ K))[i]? = (fn.map He5.DefA.val)[i]? := by rw [e]
  rw [List.getElem?_map, List.getElem?_map, h] at e2
  exact He5.DefA.funD (Option.some.inj e2) (List.all_eq_true.mp c2 d (List.mem_of_getElem? h))
end
end Hd
set_option Elab.async false
set_option linter.all false
set_option maxRecDepth 100000
set_option maxHeartbeats 4000000
namespace Rd
open PySem L2
def rInt1 : List V → Hp → VK → Prop := fun xs H Q => (∃ i, xs = [.int i] ∧ Q (.int i) H) ∨ ∃ k, xs = [.bl k] ∧ Q (.int (if k then 1 else 0)) H
def rAbs : List V → Hp → VK → Prop := fun xs H Q => ∃ i, xs = [.int i] ∧ Q (.int (if i < 0 then -i else i)) H
def rMax2 : List V → Hp → VK → Prop := fun xs H Q => ∃ i j, xs = [.int i, .int j] ∧ Q (.int (if j > i then j else i)) H
def rMin2 : List V → Hp → VK → Prop := fun xs H Q => ∃ i j, xs = [.int i, .int j] ∧ Q (.int (if j < i then j else i)) H
def rLen (K : PySem.W.Frag) : List V → Hp → VK → Prop := fun xs H Q => ∃ x n, xs = [x] ∧ LenV K x H n ∧ Q (.int n) H
section
variable {X : Cx}
theorem c_int : CallR X (.type "int") rInt1 := call_int1
theorem c_abs : CallR X (.builtin "abs") rAbs := call_abs
theorem c_max2 (hc : X.calm = true) : CallR X (.builtin "max") rMax2 := call_max2 hc
theorem c_min2 (hc : X.calm = true) : CallR X (.builtin "min") rMin2 := call_min2 hc
theorem c_len : CallR X (.builtin "len") (rLen X.K) := call_len
/-- ** of great ints -/
theorem op_powW : OpR X (binaryOp .Pow) (rI (fun i j => 0 ≤ j ∧ (Builtin.Int.intBits i : Int) * j ≤ 2 ^ 27) fun i j => .int (i ^ j.toNat)) :=
  opI fun _ _ _ _ _ _ _ hc q => PyProof.Rows.pow_int hc.1 hc.2 q
end
theorem cxK {CX : CXT} {P : Program} {w : World} {K : PySem.W.Frag} {mg : Str → Option Value} {base : Heap} {N : List Str} {qual : Str} {scope : Scope} {f : Addr} {cd : Value} {A : Around} {outer : List Env} {s : Shared} {H : Hp} {E : XK} :
  (cxOf CX P w K mg base N qual scope f cd A outer s H E).K = K := rfl
theorem noxK {X : Cx} : X.nox.K = X.K := rfl
section
variable {K : PySem.W.Frag} {σ : L2.St} {H : Hp} {Q : VK} {QB : Bool → Hp → Prop} {QA : List V → Hp → Prop} {i : Nat} {v x y : V} {ta tb tc te : TE} {r : R2} {t u tA tB' : TT} {tr : TA} {D : Ends} {s1 s2 : TS} {g : TG}
theorem rd_var (h : σ[i]? = some (some v)) (q : Q v H) : tVar i σ H Q := ⟨v, h, q⟩
theorem rd_c (q : Q v H) : tC v σ H Q := q
theorem rd_op (q : ta σ H fun x H1 => tb σ H1 fun y H2 => r x y H2 Q) : tOp r ta tb σ H Q := q
theorem rd_un {r : V → Hp → VK → Prop} (q : ta σ H fun x H1 => r x H1 Q) : tUn r ta σ H Q := q
theorem rd_I0 {g : Int → Int → V} {a b : Int} (q : Q (g a b) H) : rI0 g (.int a) (.int b) H Q := ⟨a, b, rfl, rfl, q⟩
theorem rd_I {C : Int → Int → Prop} {g : Int → Int → V} {a b : Int} (c : C a b) (q : Q (g a b) H) : rI C g (.int a) (.int b) H Q := ⟨a, b, rfl, rfl, c, q⟩
theorem rd_U {g : Int → V} {a : Int} (q : Q (g a) H) : rU g (.int a) H Q := ⟨a, rfl, q⟩
theorem rd_eq (h : scal x y = true) (q : Q (.bl (decide (x = y))) H) : rEq x y H Q := ⟨h, q⟩
theorem rd_ne (h : scal x y = true) (q : Q (.bl (!decide (x = y))) H) : rNe x y H Q := ⟨h, q⟩
theorem rd_ixL {p : Addr} {xs : List V} {j : Int} (h : SqL K H p xs) (ha : atI xs j = some v) (q : Q v H) : rIxL K (.ref p) (.int j) H Q := ⟨p, xs, j, v, rfl, rfl, h, ha, q⟩
theorem rd_ixT {p : Addr} {xs : List V} {j : Int} (h : SqT K H p xs) (ha : atI xs j = some v) (q : Q v H) : rIxT K (.ref p) (.int j) H Q := ⟨p, xs, j, v, rfl, rfl, h, ha, q⟩
theorem at0 {α : Type} {v0 : α} {r : List α} : atI (v0 :: r) 0 = some v0 := atI_nat (j := 0) rfl
theorem at1 {α : Type} {v0 v1 : α} {r : List α} : atI (v0 :: v1 :: r) 1 = some v1 := atI_nat (j := 1) rfl
theorem at2 {α : Type} {v0 v1 v2 : α} {r : List α} : atI (v0 :: v1 :: v2 :: r) 2 = some v2 := atI_nat (j := 2) rfl
theorem at3 {α : Type} {v0 v1 v2 v3 : α} {r : List α} : atI (v0 :: v1 :: v2 :: v3 :: r) 3 = some v3 := atI_nat (j := 3) rfl
theorem at4 {α : Type} {v0 v1 v2 v3 v4 : α} {r : List α} : atI (v0 :: v1 :: v2 :: v3 :: v4 :: r) 4 = some v4 := atI_nat (j := 4) rfl
theorem ixN_nat {n j : Nat} (h : j < n) : ixN n (j : Int) = some j := by
  unfold ixN
  rw [if_pos (by omega), if_pos (by omega)]; simp
theorem rd_sub {to ti : TE} {t : TSet} {QS : L2.St → Hp → Prop} (q : to σ H fun o H1 => ti σ H1 fun i H2 => t o i v H2 fun H3 => QS σ H3) : gSub to ti t v σ H QS := q
theorem rd_setL {p : Addr} {xs : List V} {k : Nat} {QH : Hp → Prop} (h : H p = some (.lst xs)) (hk : k < xs.length) (q : QH (upd H p (.lst (xs.set k v)))) : rSetL (.ref p) (.int (k : Nat)) v H QH := ⟨p, xs, k, k, rfl, rfl, h, ixN_nat hk, q⟩
theorem rd_cb {r : List V → Hp → VK → Prop} (q : tr σ H fun vs H1 => r vs H1 Q) : tCB r tr σ H Q := q
theorem rd_nil (q : QA [] H) : tNil σ H QA := q
theorem rd_cons (q : ta σ H fun x H1 => tr σ H1 fun xs H2 => QA (x :: xs) H2) : tCons ta tr σ H QA := q
theorem rd_int {a : Int} (q : Q (.int a) H) : rInt1 [.int a] H Q := .inl ⟨a, rfl, q⟩
theorem rd_intB {b : Bool} (q : Q (.int (if b then 1 else 0)) H) : rInt1 [.bl b] H Q := .inr ⟨b, rfl, q⟩
theorem rd_abs {a : Int} (q : Q (.int (if a < 0 then -a else a)) H) : rAbs [.int a] H Q := ⟨a, rfl, q⟩
theorem rd_max2 {a b : Int} (q : Q (.int (if b > a then b else a)) H) : rMax2 [.int a, .int b] H Q := ⟨a, b, rfl, q⟩
theorem rd_min2 {a b : Int} (q : Q (.int (if b < a then b else a)) H) : rMin2 [.int a, .int b] H Q := ⟨a, b, rfl, q⟩
theorem rd_lenL {p : Addr} {xs : List V} (h : SqL K H p xs) (q : Q (.int (xs.length : Nat)) H) : rLen K [.ref p] H Q := ⟨_, _, rfl, .inl ⟨xs, h, rfl⟩, q⟩
theorem rd_lenT {p : Addr} {xs : List V} (h : SqT K H p xs) (q : Q (.int (xs.length : Nat)) H) : rLen K [.ref p] H Q := ⟨_, _, rfl, .inr ⟨xs, h, rfl⟩, q⟩
theorem rd_call {sp : Sp} {dvs : List V} {E : XK} (q : tr σ H fun vs H1 => sp (vs ++ dvs) H1 Q E) : tCall sp dvs E tr σ H Q := q
theorem rd_ifE (q : t σ H fun c H1 => if c = true then ta σ H1 Q else tb σ H1 Q) : tIf t ta tb σ H Q := q
theorem rd_test (q : te σ H fun x H' => ∃ k, x = .bl k ∧ QB k H') : tTest te σ H QB := q
theorem rd_tB (q : te σ H fun x H' => ∃ k, x = .bl k ∧ QB k H') : tB te σ H QB := q
theorem rd_blV {b : Bool} {P : Bool → Prop} (q : P b) : ∃ k, V.bl b = .bl k ∧ P k := ⟨b, rfl, q⟩
theorem rd_and (q : t σ H fun c H1 => if c = true then u σ H1 QB else QB false H1) : tAnd t u σ H QB := q
theorem rd_or (q : t σ H fun c H1 => if c = true then QB true H1 else u σ H1 QB) : tOr t u σ H QB := q
theorem rd_not (q : t σ H fun c H1 => QB (!c) H1) : tNot t σ H QB := q
theorem rd_andV (q : ta σ H fun x H1 => ∃ c, x = .bl c ∧ if c = true then tb σ H1 Q else Q (.bl false) H1) : tAndV ta tb σ H Q := q
theorem rd_orV (q : ta σ H fun x H1 => ∃ c, x = .bl c ∧ if c = true then Q (.bl true) H1 else tb σ H1 Q) : tOrV ta tb σ H Q := q
theorem rd_notV (q : ta σ H fun x H1 => ∃ c, x = .bl c ∧ Q (.bl (!c)) H1) : tNotV ta σ H Q := q
theorem rd_seq (q : s1 { nx := s2 D, rt := D.rt, bk := D.bk, ct := D.ct } σ H) : tSeq s1 s2 D σ H := q
theorem rd_asg (q : te σ H fun x H1 => g x σ H1 D.nx) : tAsg te g D σ H := q
theorem rd_name0 {QS : L2.St → Hp → Prop} {z : Option V} (q : QS (some v :: σ) H) : gName 0 v (z :: σ) H QS := q
theorem rd_nameS {QS : L2.St → Hp → Prop} {z : Option V} (q : gName i v σ H fun σ' H' => QS (z :: σ') H') : gName (i + 1) v (z :: σ) H QS := q
theorem rd_next (q : D.nx σ H) : tNext D σ H := q
theorem rd_ret (q : te σ H D.rt) : tRet te D σ H := q
theorem rd_drop (q : te σ H fun _ H1 => D.nx σ H1) : tDrop te D σ H := q
theorem rd_ifS (q : t σ H fun b H1 => if b = true then s1 D σ H1 else s2 D σ H1) : tIfS t s1 s2 D σ H := q
end
theorem rd_start' {g : TG} {x : V} {QS : L2.St → Hp → Prop} {σ : L2.St} {H : Hp} (σ' : L2.St) (e : σ = σ') (h : g x σ' H QS) : g x σ H QS := by subst e; exact h
theorem rd_start {t : TS} {D : Ends} {σ : L2.St} {H : Hp} (σ' : L2.St) (e : σ = σ') (h : t D σ' H) : t D σ H := by subst e; exact h
/-- a promise by its arguments: a stands for what the arguments tell -/
def mkSp {α : Type} (args : α → List V) (pre : α → Hp → VK → XK → Prop) : Sp := fun vs H Q E => ∃ a : α, vs = args a ∧ pre a H Q E
theorem rd_sp {α : Type} {args : α → List V} {pre : α → Hp → VK → XK → Prop} {vs : List V} {H : Hp} {Q : VK} {E : XK} (a : α) (e : vs = args a) (h : pre a H Q E) : mkSp args pre vs H Q E := ⟨a, e, h⟩
/-- room for k calls; if gd is told, no repr is under way -/
structure RoomG (gd : Bool) (k : Nat) (A : Around) : Prop extends Room k A where
  gs : gd = true → A.guards = some []
theorem RoomG.mono {gd : Bool} {j k : Nat} {A : Around} (r : RoomG gd k A) (h : j ≤ k) : RoomG gd j A := ⟨r.toRoom.mono h, r.gs⟩
theorem RoomG.gd {k : Nat} {A : Around} (r : RoomG true k A) : A.guards = some [] := r.gs rfl
theorem RoomG.any {k : Nat} {A : Around} (r : Room k A) : RoomG false k A := ⟨r, fun e => nomatch e⟩
theorem RoomG.deeper {gd : Bool} {k : Nat} {A : Around} (r : RoomG gd (k + 1) A) (env : Env) : RoomG gd k (A.deeper env) := ⟨r.toRoom.deeper env, r.gs⟩
theorem RoomG.make {gd : Bool} {k : Nat} {A : Around} (r : RoomG gd (k + 1) A) (C : Addr) (us : List Value) (kw : List (Str × Value)) : RoomG gd k (A.under (.builtin "type.__call__" ⟨.ref C :: us, kw⟩)) := by
  refine ⟨r.toRoom.make C us kw, fun q => ?_⟩
  have e := r.gs q
  simpa [Around.under, Code.guards, Code.isGuard, guardIds, pushGuards] using e
/-- a promise by positional values -/
def FnG (gd : Bool) (P : Program) (w : World) (K : PySem.W.Frag) (mg : Str → Option Value) (base : Heap) (CX : CXT) (k : Nat) (f : Addr) (sp : Sp) : Prop :=
  ∀ (A : Around) (outer : List Env) (s : Shared) (H : Hp) (us : List Value) (vs : List V) (Q : VK) (E : XK), RoomG gd k A → Env0 P w K mg base A outer s H → Vals vs us → sp vs H Q E →
    codeAny (model P w) A (.call (.ref f) ⟨us, []⟩) (CR CX outer P w H s Q E) s
/-- the def st at f -/
def HasAt (K : PySem.W.Frag) (f : Addr) (x qual : Str) (st : Stmt) : Prop := ∃ fd, FunD K x qual (defArgs st) (defBody st) (defScope st) [] [] f fd
/-- the module's def x, at any place -/
def Has (K : PySem.W.Frag) (mg : Str → Option Value) (x : Str) (st : Stmt) : Prop := ∃ f, HasAt K f x x st ∧ mg x = some (.ref f) ∧ PySem.W.keepIn K (.ref f) = true
/-- a def's promise, by the module's name x -/
def Fn (gd : Bool) (P : Program) (w : World) (K : PySem.W.Frag) (mg : Str → Option Value) (base : Heap) (CX : CXT) (k : Nat) (x : Str) (sp : Sp) : Prop :=
  ∃ f, FnG gd P w K mg base CX k f sp ∧ mg x = some (.ref f) ∧ PySem.W.keepIn K (.ref f) = true
section
variable {gd : Bool} {P : Program} {w : World} {K : PySem.W.Frag} {mg : Str → Option Value} {base : Heap} {CX : CXT} {k : Nat} {f : Addr} {x qual : Str} {st : Stmt} {N ps : List Str} {sp : Sp}
theorem FnG.mono {j : Nat} (F : FnG gd P w K mg base CX j f sp) (h : j ≤ k) : FnG gd P w K mg base CX k f sp := fun A outer s H us vs Q E hr => F A outer s H us vs Q E (hr.mono h)
theorem FnG.imp {sp' : Sp} (F : FnG gd P w K mg base CX k f sp) (h : ∀ vs H Q E, sp' vs H Q E → sp vs H Q E) : FnG gd P w K mg base CX k f sp' := fun A outer s H us vs Q E hr e0 r hs => F A outer s H us vs Q E hr e0 r (h _ _ _ _ hs)
/-- a def that is called by position and without defaults -/
theorem HasAt.fnX {α : Type} {args : α → List V} {pre : α → Hp → VK → XK → Prop} (h : HasAt K f x qual st) (S : FnScope N ps (defScope st)) (hl : ∀ a, (args a).length = ps.length)
    (hb : ∀ (kV doc pm : Value) (an : Option Addr) (cdv ct : Value) (us : List Value), us.length = ps.length → bindArgs (PySem.W.fnOf x qual (defArgs st) (defBody st) (defScope st) .none kV doc pm an cdv ct) ⟨us, []⟩ = pure (ps.zip us))
    (body : ∀ (cdv : Value) (A : Around) (outer : List Env) (s : Shared) (H : Hp) (Q : VK) (E : XK) (a : α), RoomG gd k (A.deeper (PyProof.Rows.envOfC qual (defScope st) s.heap.objs.size f cdv)) → pre a H Q E →
      ∃ t, PSs (cxOf CX P w K mg base N qual (defScope st) f cdv A outer s H E) (defBody st) t ∧ t { nx := fun _ H' => Q .non H', rt := Q } (start N (args a)) H) :
    FnG gd P w K mg base CX (k + 1) f (mkSp args pre) := by
  obtain ⟨fd, F⟩ := h
  obtain ⟨oc, od, dV, kV, doc, pm, an, cdv, ct, osl, e, lk, hcd, hD, hK⟩ := F.ex
  subst e
  rcases hD with ⟨_, e⟩ | ⟨e, _⟩
  · subst e
    intro A outer s H us vs Q E hr e0 r hsp
    obtain ⟨a, rfl, ha⟩ := hsp
    have hu : us.length = ps.length := by rw [← Vals.length r]; exact hl a
    refine StX.run_bnd lk hcd S hr.toRoom e0 (G := fun xs H2 => xs = args a ∧ H2 = H) (fun A' Ex Q' hq => ?_) fun s2 H2 xs hx hr' => ?_
    · rw [hb kV doc pm an cdv ct us hu]
      exact PySem.wpAny_pure (hq s H _ us e0 Un.refl rfl (fun _ _ z => z) r (hl a) ⟨rfl, rfl⟩)
    · obtain ⟨rfl, rfl⟩ := hx
      exact body cdv A outer s2 H2 Q E a ⟨hr', hr.gs⟩ ha
  · exact absurd rfl e
/-- .. which lets nothing out -/
theorem HasAt.fn {α : Type} {args : α → List V} {pre : α → Hp → VK → XK → Prop} (h : HasAt K f x qual st) (S : FnScope N ps (defScope st)) (hl : ∀ a, (args a).length = ps.length)
    (hb : ∀ (kV doc pm : Value) (an : Option Addr) (cdv ct : Value) (us : List Value), us.length = ps.length → bindArgs (PySem.W.fnOf x qual (defArgs st) (defBody st) (defScope st) .none kV doc pm an cdv ct) ⟨us, []⟩ = pure (ps.zip us))
    (body : ∀ (cdv : Value) (A : Around) (outer : List Env) (s : Shared) (H : Hp) (Q : VK) (E : XK) (a : α), RoomG gd k (A.deeper (PyProof.Rows.envOfC qual (defScope st) s.heap.objs.size f cdv)) → pre a H Q E →
      ∃ t, PSs (cxOf CX0 P w K mg base N qual (defScope st) f cdv A outer s H E).nox (defBody st) t ∧ t { nx := fun _ H' => Q .non H', rt := Q } (start N (args a)) H) :
    FnG gd P w K mg base CX0 (k + 1) f (mkSp args pre) := by
  refine HasAt.fnX h S hl hb fun cdv A outer s H Q E a hr ha => ?_
  obtain ⟨t, h1, h2⟩ := body cdv A outer s H Q E a hr ha
  exact ⟨t, h1.nox, h2⟩
theorem Has.fnX {α : Type} {args : α → List V} {pre : α → Hp → VK → XK → Prop} (h : Has K mg x st) (S : FnScope N ps (defScope st)) (hl : ∀ a, (args a).length = ps.length)
    (hb : ∀ (kV doc pm : Value) (an : Option Addr) (cdv ct : Value) (us : List Value), us.length = ps.length → bindArgs (PySem.W.fnOf x x (defArgs st) (defBody st) (defScope st) .none kV doc pm an cdv ct) ⟨us, []⟩ = pure (ps.zip us))
    (body : ∀ (f : Addr) (cdv : Value) (A : Around) (outer : List Env) (s : Shared) (H : Hp) (Q : VK) (E : XK) (a : α), RoomG gd k (A.deeper (PyProof.Rows.envOfC x (defScope st) s.heap.objs.size f cdv)) → pre a H Q E →
      ∃ t, PSs (cxOf CX P w K mg base N x (defScope st) f cdv A outer s H E) (defBody st) t ∧ t { nx := fun _ H' => Q .non H', rt := Q } (start N (args a)) H) :
    Fn gd P w K mg base CX (k + 1) x (mkSp args pre) := by
  obtain ⟨f, F, hm, hk⟩ := h
  exact ⟨f, F.fnX S hl hb (body f), hm, hk⟩
theorem Has.fn {α : Type} {args : α → List V} {pre : α → Hp → VK → XK → Prop} (h : Has K mg x st) (S : FnScope N ps (defScope st)) (hl : ∀ a, (args a).length = ps.length)
    (hb : ∀ (kV doc pm : Value) (an : Option Addr) (cdv ct : Value) (us : List Value), us.length = ps.length → bindArgs (PySem.W.fnOf x x (defArgs st) (defBody st) (defScope st) .none kV doc pm an cdv ct) ⟨us, []⟩ = pure (ps.zip us))
    (body : ∀ (f : Addr) (cdv : Value) (A : Around) (outer : List Env) (s : Shared) (H : Hp) (Q : VK) (E : XK) (a : α), RoomG gd k (A.deeper (PyProof.Rows.envOfC x (defScope st) s.heap.objs.size f cdv)) → pre a H Q E →
      ∃ t, PSs (cxOf CX0 P w K mg base N x (defScope st) f cdv A outer s H E).nox (defBody st) t ∧ t { nx := fun _ H' => Q .non H', rt := Q } (start N (args a)) H) :
    Fn gd P w K mg base CX0 (k + 1) x (mkSp args pre) := by
  obtain ⟨f, F, hm, hk⟩ := h
  exact ⟨f, F.fn S hl hb (body f), hm, hk⟩
end
section
variable {gd : Bool} {X : Cx} {CX : CXT} {k : Nat} {x : Str} {sp : Sp} {E : XK} {p pos : Pos} {e : Expr} {es : List Expr} {t : TA}
/-- the callee runs -/
theorem run_fnG {pins : List (Addr × Obj)} {σ : L2.St} {H : Hp} {s : Shared} {f : Addr} {Q : VK} {us : List Value} {vs : List V} (F : FnG gd X.prog X.w X.K X.mg X.base CX k f sp) (hr : RoomG gd k X.A) (hx : Passes CX X E) (I : Inv X pins σ H s) (r : Vals vs us) (h : sp vs H Q E) :
    codeAny (model X.prog X.w) X.A (.call (.ref f) ⟨us, []⟩) (fun r s' => match r with | .ok (.ret v) => EP X pins σ Q v s' | .ok _ => False | .error e => X.xe e s') s := by
  refine codeAny_mono (F X.A X.stack s H us vs Q E hr I.env0 r h) fun r s' hq => ?_
  match r, hq with
  | .error e, hq => exact hx pins σ H s e s' I hq
  | .ok (.ret u), hq => exact I.after hq
  | .ok .next, hq => exact False.elim hq
  | .ok .brk, hq => exact False.elim hq
  | .ok .cont, hq => exact False.elim hq
/-- f(..) by position -/
def tFn (sp : Sp) (E : XK) (t : TA) : TE := fun σ H Q => t σ H fun vs H1 => sp vs H1 Q E
theorem pe_fnX (h : Fn gd X.prog X.w X.K X.mg X.base CX k x sp) (hr : RoomG gd k X.A) (hg : Gl X x) (hx : Passes CX X E) (ha : PA X (e :: es) t) (hdb : (x == ("__debug__" : Str)) = false := by decide) (he : starEach (e :: es) X.env = (false, eval e X.env) :: starEach es X.env := by rfl)
    (hpl : (backTo pos (starEach es X.env)).any (·.1) = false := by rfl) : PE X (.Call (.Name x p) (e :: es) [] pos) (tFn sp E t) := by
  obtain ⟨f, F, hm, hk⟩ := h
  refine ⟨fun pins s σ H Q I h => ?_⟩
  refine wpAny_Call_Name_kw (ld_glob I hg hm ?_ hdb)
  refine PySem.W.callWith_K (h₀ := X.base) I.ok.mod.kin hk (thn (ha.run pos pins s σ H _ I h) fun us s1 ⟨vs, H1, I1, r, q⟩ => ⟨I1.kIn, ?_⟩) he hpl
  exact wpAny_call (run_fnG F hr hx I1 r q)
theorem pe_fn (h : Fn gd X.prog X.w X.K X.mg X.base CX0 k x sp) (hr : RoomG gd k X.A) (hg : Gl X x) (ha : PA X (e :: es) t) (hdb : (x == ("__debug__" : Str)) = false := by decide) (he : starEach (e :: es) X.env = (false, eval e X.env) :: starEach es X.env := by rfl)
    (hpl : (backTo pos (starEach es X.env)).any (·.1) = false := by rfl) : PE X (.Call (.Name x p) (e :: es) [] pos) (tFn sp E0 t) := pe_fnX h hr hg pass0 ha hdb he hpl
theorem rd_fn {σ : L2.St} {H : Hp} {Q : VK} (q : t σ H fun vs H1 => sp vs H1 Q E) : tFn sp E t σ H Q := q
end
theorem same_new {H : Hp} {p : Addr} {o : HO} (h : H p = none) : Same H (upd H p o) := fun b u e => by
  rw [upd_ne (ne_of_none e h)]
  exact e
theorem Same.at {H H' : Hp} (e : Same H H') {b : Addr} {o : HO} (h : H b = some o) : H' b = some o := e b o h
theorem Same.sqT {K : PySem.W.Frag} {H H' : Hp} {a : Addr} {xs : List V} (e : Same H H') (h : SqT K H a xs) : SqT K H' a xs := by
  rcases h with (h | ⟨o, h⟩) | h
  · exact .inl (.inl (e _ _ h))
  · exact .inl (.inr ⟨o, e _ _ h⟩)
  · exact .inr h
theorem small64 {n : Nat} (h : n ≤ 100000) : n ≤ sizeLine := Nat.le_trans h (by decide)
def rMkTup : List V → Hp → VK → Prop := fun xs H Q => xs.length ≤ sizeLine ∧ ∀ p, H p = none → Q (.ref p) (upd H p (.tup xs))
def rMkLst : List V → Hp → VK → Prop := fun xs H Q => xs.length ≤ sizeLine ∧ ∀ p, H p = none → Q (.ref p) (upd H p (.lst xs))
section
variable {X : Cx} {es : List Expr} {t : TA} {k : Nat} {pos : Pos} {H : Hp} {Q : VK} {xs : List V}
theorem pe_tup (h : PA X es t) : PE X (.Tuple es k pos) (tCB rMkTup t) := L2.pe_tup h
theorem pe_lst (h : PA X es t) : PE X (.List es pos) (tCB rMkLst t) := L2.pe_lst h
theorem rd_mkTup (hn : xs.length ≤ sizeLine) (q : ∀ p H', H p = none → Same H H' → H' p = some (.tup xs) → Q (.ref p) H') : rMkTup xs H Q := ⟨hn, fun p hp => q p _ hp (same_new hp) upd_same⟩
theorem rd_mkLst (hn : xs.length ≤ sizeLine) (q : ∀ p H', H p = none → Same H H' → H' p = some (.lst xs) → Q (.ref p) H') : rMkLst xs H Q := ⟨hn, fun p hp => q p _ hp (same_new hp) upd_same⟩
end
/-- isinstance(v, n) for a built-in class n -/
def Isi (K : PySem.W.Frag) (H : Hp) (v : V) (n : String) (b : Bool) : Prop := ∃ t, TyX K H v t ∧ PySem.W.kitOne K t (.type n) = some b
section
variable {K : PySem.W.Frag} {H : Hp} {Q : VK} {v : V} {n : String} {b : Bool} {a : Addr} {xs : List V}
theorem rd_isi (h : Isi K H v n b) (q : Q (.bl b) H) : rIsi K [v, .ty n] H Q := by
  obtain ⟨t, h1, h2⟩ := h
  exact ⟨v, .ty n, t, .type n, b, rfl, .ty n, h1, h2, q⟩
theorem ty_tup (h : SqT K H a xs) : TyX K H (.ref a) (.type "tuple") := by
  rcases h with (h | ⟨o, h⟩) | ⟨o, its, n, h1, h2, _⟩
  · exact .base (.tup h)
  · exact .fTuple h
  · exact .kTuple h1 h2
theorem isi_of {t : String} (h : TyX K H v (.type t)) (hk : kitB t n = some b) : Isi K H v n b := ⟨_, h, kit_ty hk⟩
theorem isi_int {i : Int} (hk : kitB "int" n = some b) : Isi K H (.int i) n b := isi_of (.base (.int i)) hk
theorem isi_str {x : Str} (hk : kitB "str" n = some b) : Isi K H (.str x) n b := isi_of (.base (.str x)) hk
theorem isi_tup (h : SqT K H a xs) (hk : kitB "tuple" n = some b) : Isi K H (.ref a) n b := isi_of (ty_tup h) hk
theorem kk_int_int : kitB "int" "int" = some true := by decide +kernel
theorem kk_int_bool : kitB "int" "bool" = some false := by decide +kernel
theorem kk_tup_tup : kitB "tuple" "tuple" = some true := by decide +kernel
theorem c_isi {X : Cx} : CallR X (.builtin "isinstance") (rIsi X.K) := call_isi
theorem c_all {X : Cx} (hc : X.calm = true) : CallR X (.builtin "all") (rAll X.K) := cr_all hc
theorem rd_all {bs : List Bool} (h : SqL K H a (bs.map V.bl)) (q : Q (.bl (bs.all id)) H) : rAll K [.ref a] H Q := ⟨a, bs, rfl, h, q⟩
end
section
variable {K : PySem.W.Frag} {σ : L2.St} {H : Hp} {Q : VK} {g : TG} {te tl : TE} {tt : TT} {ta : TA} {vs : List Nat} {a : Addr} {xs : List V} {D : Ends} {tb : TS} {wi : TI}
/-- what is walked: value by value -/
def rIT (K : PySem.W.Frag) (x : V) (H : Hp) (R : It → Hp → Prop) : Prop := ∃ a, x = .ref a ∧ (∃ xs, SqT K H a xs) ∧ R (Itt K a) H
def rIL (K : PySem.W.Frag) (x : V) (H : Hp) (R : It → Hp → Prop) : Prop := ∃ a, x = .ref a ∧ (∃ xs, SqL K H a xs) ∧ R (Itl K a) H
def rIR1 (vs : List V) (H : Hp) (R : It → Hp → Prop) : Prop := ∃ j : Int, vs = [.int j] ∧ -(2 ^ 62) ≤ j ∧ j < 2 ^ 62 ∧ R (Itr 0 j.toNat) H
def rIR2 (vs : List V) (H : Hp) (R : It → Hp → Prop) : Prop := ∃ i j : Int, vs = [.int i, .int j] ∧ (-(2 ^ 62) ≤ i ∧ i < 2 ^ 62 ∧ -(2 ^ 62) ≤ j ∧ j < 2 ^ 62) ∧ R (Itr i (j - i).toNat) H
theorem rd_iTup {R : It → Hp → Prop} (q : tl σ H fun x H1 => rIT K x H1 R) : iTup K tl σ H R := q
theorem rd_iList {R : It → Hp → Prop} (q : tl σ H fun x H1 => rIL K x H1 R) : iList K tl σ H R := q
theorem rd_iRng1 {R : It → Hp → Prop} (q : ta σ H fun vs H1 => rIR1 vs H1 R) : iRng1 ta σ H R := q
theorem rd_iRng2 {R : It → Hp → Prop} (q : ta σ H fun vs H1 => rIR2 vs H1 R) : iRng2 ta σ H R := q
theorem rd_IT {R : It → Hp → Prop} (h : SqT K H a xs) (q : R (Itt K a) H) : rIT K (.ref a) H R := ⟨a, rfl, ⟨xs, h⟩, q⟩
theorem rd_IL {R : It → Hp → Prop} (h : SqL K H a xs) (q : R (Itl K a) H) : rIL K (.ref a) H R := ⟨a, rfl, ⟨xs, h⟩, q⟩
theorem rd_IR1 {R : It → Hp → Prop} {j : Int} (h0 : -(2 ^ 62) ≤ j) (h1 : j < 2 ^ 62) (q : R (Itr 0 j.toNat) H) : rIR1 [.int j] H R := ⟨j, rfl, h0, h1, q⟩
/-- a comprehension's, a loop's turns over J -/
def rLc (g : TG) (tt : TT) (te : TE) (vs : List Nat) (σ : L2.St) (Q : VK) (J : It) (H : Hp) : Prop := ∀ D, H D = none → ∃ W : Nat → Nat → Hp → Prop, (∃ m, W 0 m (upd H D (.lst []))) ∧ ∀ i m H, W i m H →
  (J.stop i H ∧ Q (.ref D) H) ∨ (J.go i H ∧ ∃ Nx : Hp → Prop, (∀ H', Nx H' → ∃ m', m' < m ∧ W (i + 1) m' H') ∧ ∀ x H', J.yld i H x H' → g x (wipe σ vs) H' fun σ2 H2 => wipe σ2 vs = wipe σ vs ∧ tt σ2 H2 fun b H3 =>
    if b = true then te σ2 H3 fun y H4 => ∃ acc, H4 D = some (.lst acc) ∧ acc.length < sizeLine ∧ Nx (upd H4 D (.lst (acc ++ [y]))) else Nx H3)
def rFor (g : TG) (tb : TS) (D : Ends) (σ : L2.St) (J : It) (H : Hp) : Prop := ∃ W : Nat → Nat → L2.St → Hp → Prop, (∃ m, W 0 m σ H) ∧ ∀ i m σ H, W i m σ H →
  (J.stop i H ∧ D.nx σ H) ∨ (J.go i H ∧ ∃ N : L2.St → Hp → Prop, (∀ σ' H', N σ' H' → ∃ m', m' < m ∧ W (i + 1) m' σ' H') ∧ ∀ x H', J.yld i H x H' → g x σ H' fun σ2 H2 => tb { D with nx := N, ct := N, bk := D.nx } σ2 H2)
theorem rd_lc (q : wi σ H fun J H1 => rLc g tt te vs σ Q J H1) : tLc wi g tt te vs σ H Q := q
theorem rd_for (q : wi σ H fun J H1 => rFor g tb D σ J H1) : tFor wi g tb D σ H := q
theorem for_tup (Pv : Nat → L2.St → Hp → Prop) (h0 : Pv 0 σ H) (hl : ∀ i σ H, i ≤ xs.length → Pv i σ H → SqT K H a xs)
    (hs : ∀ i x σ H, xs[i]? = some x → Pv i σ H → g x σ H fun σ2 H2 => tb { nx := Pv (i + 1), rt := D.rt, ct := Pv (i + 1), bk := D.nx } σ2 H2) (hd : ∀ σ H, Pv xs.length σ H → D.nx σ H) : rFor g tb D σ (Itt K a) H := L2.for_tup Pv h0 hl hs hd
theorem for_list (Pv : Nat → L2.St → Hp → Prop) (h0 : Pv 0 σ H) (hl : ∀ i σ H, i ≤ xs.length → Pv i σ H → SqL K H a xs)
    (hs : ∀ i x σ H, xs[i]? = some x → Pv i σ H → g x σ H fun σ2 H2 => tb { nx := Pv (i + 1), rt := D.rt, ct := Pv (i + 1), bk := D.nx } σ2 H2) (hd : ∀ σ H, Pv xs.length σ H → D.nx σ H) : rFor g tb D σ (Itl K a) H := L2.for_list Pv h0 hl hs hd
theorem for_range {lo : Int} {n : Nat} (Pv : Nat → L2.St → Hp → Prop) (h0 : Pv 0 σ H)
    (hs : ∀ i σ H, i < n → Pv i σ H → g (.int (lo + i)) σ H fun σ2 H2 => tb { nx := Pv (i + 1), rt := D.rt, ct := Pv (i + 1), bk := D.nx } σ2 H2) (hd : ∀ σ H, Pv n σ H → D.nx σ H) : rFor g tb D σ (Itr lo n) H := L2.for_range Pv h0 hs hd
/-- what a comprehension makes, item by item, of things that stay: f of each item -/
theorem lc_pure {J : It} (f : V → V) (hz : xs.length ≤ 100000)
    (go : ∀ i H1, i < xs.length → Same H H1 → J.go i H1) (stop : ∀ H1, Same H H1 → J.stop xs.length H1) (yld : ∀ i H1 x H2, i < xs.length → Same H H1 → J.yld i H1 x H2 → H2 = H1 ∧ xs[i]? = some x)
    (step : ∀ x H1 (N : V → Hp → Prop), x ∈ xs → Same H H1 → (∀ H2, Same H1 H2 → N (f x) H2) → g x (wipe σ vs) H1 fun σ2 H2 => wipe σ2 vs = wipe σ vs ∧ te σ2 H2 N)
    (done : ∀ D H', H D = none → Same H H' → H' D = some (.lst (xs.map f)) → Q (.ref D) H') : rLc g tYes te vs σ Q J H := by
  intro D hD
  let Pv : Nat → Hp → Prop := fun i H1 => Same H H1 ∧ H1 D = some (.lst ((xs.take i).map f))
  refine ⟨fun i m H1 => m = xs.length - i ∧ i ≤ xs.length ∧ Pv i H1, ⟨xs.length, by simp, Nat.zero_le _, same_new hD, by rw [upd_same]; rfl⟩, ?_⟩
  rintro i m H1 ⟨rfl, hi, s1, hd1⟩
  by_cases hlt : i < xs.length
  · refine .inr ⟨go i H1 hlt s1, Pv (i + 1), fun H' p' => ⟨xs.length - (i + 1), by omega, rfl, hlt, p'⟩, fun x H' y => ?_⟩
    obtain ⟨rfl, ex⟩ := yld i H1 x H' hlt s1 y
    refine step x H' _ (List.mem_of_getElem? ex) s1 fun H2 s2 => ?_
    have hz2 : ((xs.take i).map f).length < sizeLine := by
      rw [List.length_map, List.length_take]
      exact Nat.lt_of_le_of_lt (Nat.le_trans (Nat.min_le_right _ _) hz) (by decide)
    refine ⟨_, s2 _ _ hd1, hz2, ?_⟩
    refine ⟨fun b o e => ?_, ?_⟩
    · rw [upd_ne (ne_of_none e hD)]
      exact s2 _ _ (s1 _ _ e)
    · rw [upd_same, List.take_add_one, ex, List.map_append]
      rfl
  · have e : i = xs.length := by omega
    subst e
    refine .inl ⟨stop H1 s1, done D H1 hD s1 ?_⟩
    rw [hd1, List.take_length]
/-- .. over a tuple, a list -/
theorem lc_tup (f : V → V) (hz : xs.length ≤ 100000) (hS : SqT K H a xs)
    (step : ∀ x H1 (N : V → Hp → Prop), x ∈ xs → Same H H1 → (∀ H2, Same H1 H2 → N (f x) H2) → g x (wipe σ vs) H1 fun σ2 H2 => wipe σ2 vs = wipe σ vs ∧ te σ2 H2 N)
    (done : ∀ D H', H D = none → Same H H' → H' D = some (.lst (xs.map f)) → Q (.ref D) H') : rLc g tYes te vs σ Q (Itt K a) H := by
  refine lc_pure (xs := xs) f hz (fun i H1 hi s1 => ?_) (fun H1 s1 => ?_) (fun i H1 x H2 hi s1 y => ?_) step done
  · exact ⟨xs, xs[i], Same.sqT s1 hS, by simp [hi]⟩
  · exact ⟨xs, Same.sqT s1 hS, Nat.le_refl _⟩
  · obtain ⟨e, y⟩ := y
    exact ⟨e, y xs (Same.sqT s1 hS)⟩
theorem lc_lst (f : V → V) (hz : xs.length ≤ 100000) (hS : SqL K H a xs)
    (step : ∀ x H1 (N : V → Hp → Prop), x ∈ xs → Same H H1 → (∀ H2, Same H1 H2 → N (f x) H2) → g x (wipe σ vs) H1 fun σ2 H2 => wipe σ2 vs = wipe σ vs ∧ te σ2 H2 N)
    (done : ∀ D H', H D = none → Same H H' → H' D = some (.lst (xs.map f)) → Q (.ref D) H') : rLc g tYes te vs σ Q (Itl K a) H := by
  refine lc_pure (xs := xs) f hz (fun i H1 hi s1 => ?_) (fun H1 s1 => ?_) (fun i H1 x H2 hi s1 y => ?_) step done
  · exact ⟨xs, xs[i], L2.Same.seq s1 hS, by simp [hi]⟩
  · exact ⟨xs, L2.Same.seq s1 hS, Nat.le_refl _⟩
  · obtain ⟨e, y⟩ := y
    exact ⟨e, y xs (L2.Same.seq s1 hS)⟩
end
section
variable {σ : L2.St} {H : Hp} {c : TT} {tb : TS} {D : Ends}
/-- while: W with its measure -/
theorem rd_while (W : Nat → L2.St → Hp → Prop) (m : Nat) (w0 : W m σ H)
    (step : ∀ m σ H, W m σ H → c σ H fun b H1 => if b = true then ∃ N : L2.St → Hp → Prop, (∀ σ' H', N σ' H' → ∃ m', m' < m ∧ W m' σ' H') ∧ tb { nx := N, rt := D.rt, bk := D.nx, ct := N } σ H1 else D.nx σ H1) : tWhile c tb D σ H :=
  ⟨W, ⟨m, w0⟩, step⟩
theorem rd_turn {W : Nat → L2.St → Hp → Prop} {m : Nat} {rt : VK} {bk : L2.St → Hp → Prop} (q : tb { nx := fun σ' H' => ∃ m', m' < m ∧ W m' σ' H', rt := rt, bk := bk, ct := fun σ' H' => ∃ m', m' < m ∧ W m' σ' H' } σ H) :
    ∃ N : L2.St → Hp → Prop, (∀ σ' H', N σ' H' → ∃ m', m' < m ∧ W m' σ' H') ∧ tb { nx := N, rt := rt, bk := bk, ct := N } σ H := ⟨_, fun _ _ h => h, q⟩
theorem rd_aug {i : Nat} {x : V} {te : TE} {ti : TIp} (h : σ[i]? = some (some x)) (q : te σ H fun y H1 => ti x y H1 fun z H2 => D.nx (σ.set i (some z)) H2) : tAug i te ti D σ H := ⟨x, h, q⟩
theorem rd_ipI {f : Int → Int → Int} {Q : VK} {a b : Int} (q : Q (.int (f a b)) H) : ipI f (.int a) (.int b) H Q := ⟨a, b, rfl, rfl, q⟩
theorem rd_slA {K : PySem.W.Frag} {a : Addr} {xs : List V} {lo hi : Option Int} {Q : VK} (h : SqT K H a xs) (q1 : HT.sIx xs.length 0 lo = 0 ∧ HT.sIx xs.length xs.length hi = xs.length → Q (.ref a) H)
    (q2 : ¬ (HT.sIx xs.length 0 lo = 0 ∧ HT.sIx xs.length xs.length hi = xs.length) → ∀ p, H p = none → Q (.ref p) (upd H p (.tup (cutV xs lo hi)))) : rSlA K (.ref a) lo hi H Q := ⟨a, xs, rfl, h, q1, q2⟩
/-- a slice, told by what it is -/
theorem rd_cut {K : PySem.W.Frag} {a : Addr} {xs : List V} {lo hi : Option Int} {Q : VK} (h : SqT K H a xs) (q : ∀ p H', Same H H' → SqT K H' p (cutV xs lo hi) → Q (.ref p) H') : rSlA K (.ref a) lo hi H Q := by
  refine rd_slA h (fun e => q a H (Same.refl H) ?_) fun _ p hp => q p _ (same_new hp) (SqT.of upd_same)
  unfold cutV
  rw [e.1, e.2, List.drop_zero, Nat.sub_zero, List.take_length]
  exact h
theorem cut_to (xs : List V) (n : Nat) (h : n ≤ xs.length) : cutV xs none (some (n : Int)) = xs.take n := by
  unfold cutV HT.sIx
  dsimp only
  rw [if_neg (by omega), List.drop_zero]
  congr 1
  omega
theorem rd_nx {n : L2.St → Hp → Prop} {r : VK} {b c : L2.St → Hp → Prop} (q : n σ H) : (Ends.mk n r b c).nx σ H := q
theorem rd_rt {n : L2.St → Hp → Prop} {r : VK} {b c : L2.St → Hp → Prop} {v : V} (q : r v H) : (Ends.mk n r b c).rt v H := q
theorem rd_sl {r : V → Option Int → Option Int → Hp → VK → Prop} {ta : TE} {tl th : TO} {Q : VK} (q : ta σ H fun x H1 => tl σ H1 fun lo H2 => th σ H2 fun hi H3 => r x lo hi H3 Q) : tSl r ta tl th σ H Q := q
theorem rd_noPart {Q : Option Int → Hp → Prop} (q : Q none H) : tNoPart σ H Q := q
theorem rd_part {t : TE} {Q : Option Int → Hp → Prop} (q : t σ H fun x H1 => ∃ i, x = .int i ∧ Q (some i) H1) : tPart t σ H Q := q
theorem rd_intV {a : Int} {P : Int → Prop} (q : P a) : ∃ k, V.int a = .int k ∧ P k := ⟨a, rfl, q⟩
end
end Rd
set_option Elab.async false
set_option linter.all false
set_option maxRecDepth 100000
set_option maxHeartbeats 4000000
namespace Rd
open PySem PySem.Spec PyProof.Rows L2
/-- a module's class or def as a value -/
theorem pe_glr {X : Cx} {x : Str} {a : Addr} {pos : Pos} (hg : Gl X x) (hm : X.mg x = some (.ref a)) (hd : (x == ("__debug__" : Str)) = false := by decide) : PE X (.Name x pos) (tC (.ref a)) := pe_glob (v := .ref a) hg hm rfl hd
/-- a module's number -/
theorem pe_gli {X : Cx} {x : Str} {i : Int} {pos : Pos} (hg : Gl X x) (hm : ∃ t, X.mg x = some (.int i t)) (hd : (x == ("__debug__" : Str)) = false := by decide) : PE X (.Name x pos) (tC (.int i)) := by
  obtain ⟨t, hm⟩ := hm
  exact pe_glob (v := .int i) hg hm ⟨t, rfl⟩ hd
theorem pe_gls {X : Cx} {x z : Str} {pos : Pos} (hg : Gl X x) (hm : ∃ t, X.mg x = some (.str z t)) (hd : (x == ("__debug__" : Str)) = false := by decide) : PE X (.Name x pos) (tC (.str z)) := by
  obtain ⟨t, hm⟩ := hm
  exact pe_glob (v := .str z) hg hm ⟨t, rfl⟩ hd
def rListOf (K : PySem.W.Frag) : List V → Hp → VK → Prop := fun xs H Q => ∃ p ys, xs = [.ref p] ∧ (SqL K H p ys ∨ SqT K H p ys) ∧ ∀ l, H l = none → Q (.ref l) (upd H l (.lst ys))
def rTupleOf (K : PySem.W.Frag) : List V → Hp → VK → Prop := fun xs H Q => ∃ p ys, xs = [.ref p] ∧ ((SqL K H p ys ∧ ∀ l, H l = none → Q (.ref l) (upd H l (.tup ys))) ∨ (SqT K H p ys ∧ Q (.ref p) H))
section
variable {X : Cx} {K : PySem.W.Frag} {H : Hp} {Q : VK} {a : Addr} {xs : List V} {v : V} {σ : L2.St}
theorem c_list : CallR X (.type "list") (rListOf X.K) := call_list_of
theorem c_tuple : CallR X (.type "tuple") (rTupleOf X.K) := call_tuple_of
theorem rd_listL (h : SqL K H a xs) (q : ∀ l H', H l = none → Same H H' → H' l = some (.lst xs) → Q (.ref l) H') : rListOf K [.ref a] H Q := ⟨a, xs, rfl, .inl h, fun l hl => q l _ hl (same_new hl) upd_same⟩
theorem rd_listT (h : SqT K H a xs) (q : ∀ l H', H l = none → Same H H' → H' l = some (.lst xs) → Q (.ref l) H') : rListOf K [.ref a] H Q := ⟨a, xs, rfl, .inr h, fun l hl => q l _ hl (same_new hl) upd_same⟩
theorem rd_tupleL (h : SqL K H a xs) (q : ∀ l H', H l = none → Same H H' → H' l = some (.tup xs) → Q (.ref l) H') : rTupleOf K [.ref a] H Q := ⟨a, xs, rfl, .inl ⟨h, fun l hl => q l _ hl (same_new hl) upd_same⟩⟩
theorem rd_tupleT (h : SqT K H a xs) (q : Q (.ref a) H) : rTupleOf K [.ref a] H Q := ⟨a, xs, rfl, .inr ⟨h, q⟩⟩
theorem rd_bm {T : String} {r : V → List V → Hp → VK → Prop} {to : TE} {t : TA} (q : to σ H fun x H1 => tyV K T x H1 ∧ t σ H1 fun xs H2 => r x xs H2 Q) : tBM K T r to t σ H Q := q
theorem rd_bm0 {T : String} {r : V → List V → Hp → VK → Prop} {to : TE} (q : to σ H fun x H1 => tyV K T x H1 ∧ r x [] H1 Q) : tBM0 K T r to σ H Q := q
theorem tyL (h : SqL K H a xs) : tyV K "list" (.ref a) H := .inl ⟨rfl, _, h⟩
theorem rd_append {y : V} (h : H a = some (.lst xs)) (hz : xs.length < sizeLine) (q : Q .non (upd H a (.lst (xs ++ [y])))) : rAppend (.ref a) [y] H Q := ⟨a, xs, y, rfl, rfl, h, hz, q⟩
theorem rd_pop {y : V} (h : H a = some (.lst xs)) (hy : xs[xs.length - 1]? = some y) (q : Q y (upd H a (.lst xs.dropLast))) : rPop (.ref a) [] H Q := ⟨a, xs, y, rfl, rfl, h, hy, q⟩
theorem rd_cat {b : Addr} {ys : List V} (h1 : H a = some (.lst xs)) (h2 : H b = some (.lst ys)) (hz : xs.length + ys.length ≤ sizeLine) (q : ∀ p H', H p = none → Same H H' → H' p = some (.lst (xs ++ ys)) → Q (.ref p) H') : rCat (.ref a) (.ref b) H Q :=
  ⟨a, b, xs, ys, rfl, rfl, h1, h2, hz, fun p hp => q p _ hp (same_new hp) upd_same⟩
theorem rd_eqD {x y : V} {d e : PyData} (h1 : Dp K H x d) (h2 : Dp K H y e) (s1 : SeqAt.shaped d = true) (s2 : SeqAt.shaped e = true) (q : Q (.bl (PyData.eqv d e)) H) : rEqD K x y H Q := ⟨d, e, h1, h2, s1, s2, q⟩
theorem rd_neD {x y : V} {d e : PyData} (h1 : Dp K H x d) (h2 : Dp K H y e) (s1 : SeqAt.shaped d = true) (s2 : SeqAt.shaped e = true) (q : Q (.bl (!PyData.eqv d e)) H) : rNeD K x y H Q := ⟨d, e, h1, h2, s1, s2, q⟩
theorem rd_isN {x : V} (q : Q (.bl (decide (x = .non))) H) : rIsN x .non H Q := ⟨rfl, q⟩
theorem rd_notN {x : V} (q : Q (.bl (!decide (x = .non))) H) : rNotN x .non H Q := ⟨rfl, q⟩
end
end Rd
set_option Elab.async false
set_option linter.all false
set_option maxRecDepth 100000
set_option maxHeartbeats 4000000
namespace Rd
open PySem PySem.Spec PyProof.Rows L2
mutual
/-- v is the data d, in which there is no list -/
inductive Dt (K : PySem.W.Frag) (H : Hp) : V → PyData → Prop
  | non : Dt K H .non .none
  | bl (b : Bool) : Dt K H (.bl b) (.bool b)
  | int (i : Int) : Dt K H (.int i) (.int i)
  | str (x : Str) : Dt K H (.str x) (.str x)
  | tup {a : Addr} {xs : List V} {ds : List PyData} : SqT K H a xs → DtAll K H xs ds → Dt K H (.ref a) (.tuple ds)
inductive DtAll (K : PySem.W.Frag) (H : Hp) : List V → List PyData → Prop
  | nil : DtAll K H [] []
  | cons {v : V} {vs : List V} {d : PyData} {ds : List PyData} : Dt K H v d → DtAll K H vs ds → DtAll K H (v :: vs) (d :: ds)
end
section
variable {K : PySem.W.Frag} {H H' : Hp}
mutual
theorem Dt.dp : ∀ (d : PyData) (v : V), Dt K H v d → Dp K H v d
  | .none, _, h => by cases h; exact .non
  | .bool _, _, h => by cases h; exact .bl _
  | .int _, _, h => by cases h; exact .int _
  | .str _, _, h => by cases h; exact .str _
  | .list _, _, h => nomatch h
  | .tuple ds, _, h => by cases h with | tup h1 h2 => exact .tup h1 (DtAll.dp ds _ h2)
  | .dict _, _, h => nomatch h
theorem DtAll.dp : ∀ (ds : List PyData) (vs : List V), DtAll K H vs ds → DpAll K H vs ds
  | [], _, h => by cases h; exact .nil
  | d :: ds, _, h => by cases h with | cons h1 h2 => exact .cons (Dt.dp d _ h1) (DtAll.dp ds _ h2)
end
mutual
theorem Dt.mono' (m : ∀ a xs, SqT K H a xs → SqT K H' a xs) : ∀ (d : PyData) (v : V), Dt K H v d → Dt K H' v d
  | .none, _, h => by cases h; exact .non
  | .bool _, _, h => by cases h; exact .bl _
  | .int _, _, h => by cases h; exact .int _
  | .str _, _, h => by cases h; exact .str _
  | .list _, _, h => nomatch h
  | .tuple ds, _, h => by cases h with | tup h1 h2 => exact .tup (m _ _ h1) (DtAll.mono' m ds _ h2)
  | .dict _, _, h => nomatch h
theorem DtAll.mono' (m : ∀ a xs, SqT K H a xs → SqT K H' a xs) : ∀ (ds : List PyData) (vs : List V), DtAll K H vs ds → DtAll K H' vs ds
  | [], _, h => by cases h; exact .nil
  | d :: ds, _, h => by cases h with | cons h1 h2 => exact .cons (Dt.mono' m d _ h1) (DtAll.mono' m ds _ h2)
end
theorem Dt.same {d : PyData} {v : V} (h : Dt K H v d) (s : Same H H') : Dt K H' v d := h.mono' (fun _ _ q => Same.sqT s q)
end
section
variable {K : PySem.W.Frag} {σ : L2.St} {H : Hp} {QS : L2.St → Hp → Prop} {t : TGs} {g : TG} {a : Addr} {xs : List V} {v : V} {n : Nat}
theorem rd_gTup (h : SqT K H a xs) (hn : xs.length = n) (q : t xs σ H QS) : gTup K n t (.ref a) σ H QS := ⟨a, xs, rfl, h, hn, q⟩
theorem rd_gCons (q : g v σ H fun σ' H' => t xs σ' H' QS) : gCons g t (v :: xs) σ H QS := ⟨v, xs, rfl, q⟩
theorem rd_gNil (q : QS σ H) : gNil [] σ H QS := ⟨rfl, q⟩
end
/-- a pair as target in a comprehension, where the part K is told -/
theorem pg_tupK {X : Cx} {K : PySem.W.Frag} {es : List Expr} {k : Nat} {t : TGs} {n : Nat} {pos : Pos} (hK : X.K = K) (hc : X.calm = true) (h : PGs X es t) (hn : (assignEach es X.env).length = n := by rfl) (hst : (assignEach es X.env).findIdx? (·.1) = none := by rfl) : PG X (.Tuple es k pos) (gTup K n t) := by
  subst hK
  exact pg_tup hc h hn hst
section
variable {K : PySem.W.Frag} {σ : L2.St} {H : Hp} {Q : VK} {g : TG} {te : TE} {tt : TT} {ta : TA} {vs : List Nat} {a b : Addr} {xs ys : List V} {D : Ends} {tb : TS}
def rIE (K : PySem.W.Frag) (vs : List V) (H : Hp) (R : It → Hp → Prop) : Prop := ∃ a xs, vs = [.ref a] ∧ SqL K H a xs ∧ R (Ite K a) H
def rIZ (K : PySem.W.Frag) (vs : List V) (H : Hp) (R : It → Hp → Prop) : Prop := ∃ a b xs ys, vs = [.ref a, .ref b] ∧ SqL K H a xs ∧ SqL K H b ys ∧ R (Itz K a b) H
theorem rd_iEnum {R : It → Hp → Prop} (q : ta σ H fun vs H1 => rIE K vs H1 R) : iEnum K ta σ H R := q
theorem rd_iZip {R : It → Hp → Prop} (q : ta σ H fun vs H1 => rIZ K vs H1 R) : iZip K ta σ H R := q
theorem rd_IE {R : It → Hp → Prop} (h : SqL K H a xs) (q : R (Ite K a) H) : rIE K [.ref a] H R := ⟨a, xs, rfl, h, q⟩
theorem rd_IZ {R : It → Hp → Prop} (h1 : SqL K H a xs) (h2 : SqL K H b ys) (q : R (Itz K a b) H) : rIZ K [.ref a, .ref b] H R := ⟨a, b, xs, ys, rfl, h1, h2, q⟩
theorem for_enum (Pv : Nat → L2.St → Hp → Prop) (h0 : Pv 0 σ H) (hl : ∀ i σ H, i ≤ xs.length → Pv i σ H → SqL K H a xs)
    (hs : ∀ i x σ H T H', xs[i]? = some x → Pv i σ H → H T = none → Same H H' → H' T = some (.tup [.int (i : Nat), x]) → g (.ref T) σ H' fun σ2 H2 => tb { nx := Pv (i + 1), rt := D.rt, ct := Pv (i + 1), bk := D.nx } σ2 H2)
    (hd : ∀ σ H, Pv xs.length σ H → D.nx σ H) : rFor g tb D σ (Ite K a) H := by
  refine ⟨fun i m σ1 H1 => m = xs.length - i ∧ i ≤ xs.length ∧ Pv i σ1 H1, ⟨_, rfl, Nat.zero_le _, h0⟩, ?_⟩
  rintro i m σ1 H1 ⟨rfl, hi, p⟩
  have hq := hl i σ1 H1 hi p
  by_cases hlt : i < xs.length
  · refine .inr ⟨⟨xs, xs[i], hq, List.getElem?_eq_getElem hlt⟩, Pv (i + 1), fun σ' H' p' => ⟨xs.length - (i + 1), by omega, rfl, hlt, p'⟩, fun v H' y => ?_⟩
    obtain ⟨T, x, rfl, hT, rfl, hx⟩ := y
    exact hs i x σ1 H1 T _ (hx xs hq) p hT (same_new hT) upd_same
  · obtain rfl : i = xs.length := by omega
    exact .inl ⟨⟨xs, hq, Nat.le_refl _⟩, hd σ1 H1 p⟩
/-- a comprehension with a test over what stays: the items are told by zs -/
theorem lc_gen {α : Type} {J : It} (zs : List α) (is : α → V → Hp → Prop) (pr : α → Bool) (f : α → V) (hz : zs.length ≤ 100000)
    (go : ∀ i H1, i < zs.length → Same H H1 → J.go i H1) (stop : ∀ H1, Same H H1 → J.stop zs.length H1) (yld : ∀ i H1 x H2 z, zs[i]? = some z → Same H H1 → J.yld i H1 x H2 → Same H1 H2 ∧ is z x H2)
    (step : ∀ z x H1 (N : Hp → Prop) (M : V → Hp → Prop), z ∈ zs → Same H H1 → is z x H1 → (pr z = false → ∀ H2, Same H1 H2 → N H2) → (pr z = true → ∀ H2, Same H1 H2 → M (f z) H2) →
      g x (wipe σ vs) H1 fun σ2 H2 => wipe σ2 vs = wipe σ vs ∧ tt σ2 H2 fun b H3 => if b = true then te σ2 H3 M else N H3)
    (done : ∀ D H', H D = none → Same H H' → H' D = some (.lst ((zs.filter pr).map f)) → Q (.ref D) H') : rLc g tt te vs σ Q J H := by
  intro D hD
  let Pv : Nat → Hp → Prop := fun i H1 => Same H H1 ∧ H1 D = some (.lst (((zs.take i).filter pr).map f))
  refine ⟨fun i m H1 => m = zs.length - i ∧ i ≤ zs.length ∧ Pv i H1, ⟨zs.length, by simp, Nat.zero_le _, same_new hD, by rw [upd_same]; rfl⟩, ?_⟩
  rintro i m H1 ⟨rfl, hi, s1, hd1⟩
  by_cases hlt : i < zs.length
  · refine .inr ⟨go i H1 hlt s1, Pv (i + 1), fun H' p' => ⟨zs.length - (i + 1), by omega, rfl, hlt, p'⟩, fun x H' y => ?_⟩
    have ez : zs[i]? = some zs[i] := List.getElem?_eq_getElem hlt
    obtain ⟨s2, hx⟩ := yld i H1 x H' _ ez s1 y
    have et : ((zs.take (i + 1)).filter pr).map f = ((zs.take i).filter pr).map f ++ (if pr zs[i] = true then [f zs[i]] else []) := by
      rw [List.take_add_one, ez, List.filter_append, List.map_append]
      congr 1
      show (([zs[i]] : List α).filter pr).map f = _
      by_cases hp : pr zs[i] = true
      · rw [if_pos hp, List.filter_cons, if_pos hp]; rfl
      · rw [if_neg hp, List.filter_cons, if_neg hp]; rfl
    refine step zs[i] x H' _ _ (List.getElem_mem hlt) (s1.trans s2) hx (fun hp H2 s3 => ?_) (fun hp H2 s3 => ?_)
    · refine ⟨(s1.trans s2).trans s3, ?_⟩
      rw [et, if_neg (by rw [hp]; exact Bool.false_ne_true), List.append_nil]
      exact s3 _ _ (s2 _ _ hd1)
    · have hz2 : (((zs.take i).filter pr).map f).length < sizeLine := by
        rw [List.length_map]
        exact Nat.lt_of_le_of_lt (Nat.le_trans (List.length_filter_le _ _) (Nat.le_trans (by rw [List.length_take]; exact Nat.min_le_right _ _) hz)) (by decide)
      refine ⟨_, s3 _ _ (s2 _ _ hd1), hz2, fun b o e => ?_, ?_⟩
      · rw [upd_ne (ne_of_none e hD)]
        exact s3 _ _ (s2 _ _ (s1 _ _ e))
      · rw [upd_same, et, if_pos hp]
  · obtain rfl : i = zs.length := by omega
    refine .inl ⟨stop H1 s1, done D H1 hD s1 ?_⟩
    rw [hd1, List.take_length]
end
section
variable {K : PySem.W.Frag} {σ : L2.St} {H : Hp} {Q : VK} {g : TG} {te : TE} {vs : List Nat}
/-- [.. for i in range(..)], each turn of which may change the heap -/
theorem lc_rngI {lo : Int} {n : Nat} (P : Nat → Addr → List V → Hp → Prop) (h0 : ∀ D, H D = none → P 0 D [] (upd H D (.lst [])))
    (step : ∀ (i : Nat) D acc H1 (N : VK), i < n → H D = none → P i D acc H1 → (∀ y H3, H3 D = some (.lst acc) → acc.length < sizeLine → P (i + 1) D (acc ++ [y]) (upd H3 D (.lst (acc ++ [y]))) → N y H3) →
      g (.int (lo + i)) (wipe σ vs) H1 fun σ2 H2 => wipe σ2 vs = wipe σ vs ∧ te σ2 H2 N)
    (done : ∀ D acc H1, H D = none → P n D acc H1 → Q (.ref D) H1) : rLc g tYes te vs σ Q (Itr lo n) H := by
  intro D hD
  refine ⟨fun i m H1 => m = n - i ∧ i ≤ n ∧ ∃ acc, P i D acc H1, ⟨n, rfl, Nat.zero_le _, [], h0 D hD⟩, ?_⟩
  rintro i m H1 ⟨rfl, hi, acc, p⟩
  by_cases hlt : i < n
  · refine .inr ⟨hlt, fun H2 => ∃ acc, P (i + 1) D acc H2, fun H' p' => ⟨n - (i + 1), by omega, rfl, hlt, p'⟩, fun x H' y => ?_⟩
    obtain ⟨rfl, rfl⟩ := y
    exact step i D acc H' _ hlt hD p fun y H3 h1 h2 h3 => ⟨acc, h1, h2, _, h3⟩
  · obtain rfl : i = n := by omega
    exact .inl ⟨Nat.le_refl _, done D acc H1 hD p⟩
end
section
variable {K : PySem.W.Frag} {σ : L2.St} {H : Hp} {Q : VK} {a : Addr} {xs : List V} {x y : V}
def rJoin (K : PySem.W.Frag) : V → List V → Hp → VK → Prop := fun x xs H Q => ∃ a p, ∃ ys : List Str, x = .str a ∧ xs = [.ref p] ∧ (SqL K H p (ys.map V.str) ∨ SqT K H p (ys.map V.str)) ∧ (ys.map (·.length)).sum + ys.length * a.length ≤ 16777216 ∧ Q (.str (Txt.join a ys)) H
theorem pe_join {X : Cx} {o e : Expr} {to te : TE} {apos pos : Pos} (ho : PE X o to) (he : PE X e te) (hs : starEach [e] X.env = [(false, eval e X.env)] := by rfl) (hbase : attributeBase o "join" X.env (eval o X.env) = eval o X.env := by rfl) (hline : (apos.endLine == pos.line) = true := by rfl) :
    PE X (.Call (.Attribute o "join" apos) [e] [] pos) (tM1 (rJoin X.K) to te) := L2.pe_join ho he hs hbase hline
theorem rd_m1 {r : V → List V → Hp → VK → Prop} {to te : TE} (q : to σ H fun x H1 => (∃ a, x = .str a) ∧ te σ H1 fun y H2 => r x [y] H2 Q) : tM1 r to te σ H Q := q
theorem rd_strV {z : Str} {P : Prop} (q : P) : (∃ a, V.str z = .str a) ∧ P := ⟨⟨z, rfl⟩, q⟩
theorem rd_joinL {z : Str} {ys : List Str} (h : SqL K H a (ys.map V.str)) (hz : (ys.map (·.length)).sum + ys.length * z.length ≤ 16777216) (q : Q (.str (Txt.join z ys)) H) : rJoin K (.str z) [.ref a] H Q := ⟨z, a, ys, rfl, rfl, .inl h, hz, q⟩
end
end Rd
set_option Elab.async false
set_option linter.all false
set_option maxRecDepth 100000
set_option maxHeartbeats 4000000
namespace Rd
open PySem PySem.Spec PyProof.Rows L2
section
variable {X : Cx} {cs : List MatchCase} {body : List Stmt} {tb : TS} {tr : List V → TS} {g : TG} {gs : TGs} {pos : Pos} {e : Expr} {te : TE}
def tMatch (K : PySem.W.Frag) (te : TE) (t : List V → TS) : TS := fun D σ H => te σ H fun x H1 => ∃ a xs, x = .ref a ∧ SqT K H1 a xs ∧ t xs D σ H1
end
end Rd
set_option Elab.async false
set_option linter.all false
set_option maxRecDepth 100000
set_option maxHeartbeats 4000000
namespace Rd
open PySem PySem.Spec PyProof.Rows L2
theorem roomG_caller {k : Nat} (h : Room k callerA) : RoomG true k callerA := ⟨h, fun _ => rfl⟩
end Rd
set_option Elab.async false
set_option linter.all false
set_option maxRecDepth 100000
set_option maxHeartbeats 4000000
namespace Rd
open PySem PySem.Spec PyProof.Rows L2
def spStar (n : Nat) (sp : Sp) : Sp := fun vs H Q E => ∃ ws rest, vs = ws ++ rest ∧ ws.length = n ∧ rest.length ≤ sizeLine ∧ ∀ p H', H p = Option.none → Same H H' → H' p = some (.tup rest) → sp (ws ++ [V.ref p]) H' Q E
/-- the code of the function at f -/
def codeOf (K : PySem.W.Frag) (f : Addr) : Value := match K.lookup f with
  | some ⟨_, _, .func fd, _⟩ => fd.code
  | _ => .none
section
variable {gd : Bool} {P : Program} {w : World} {K : PySem.W.Frag} {mg : Str → Option Value} {base : Heap} {CX : CXT} {k : Nat} {f : Addr} {x qual : Str} {st : Stmt} {N ps : List Str} {sp : Sp}
theorem FnG.ofR (F : FnR P w K mg base CX k f sp) : FnG gd P w K mg base CX k f sp := fun A outer s H us vs Q E hr => F A outer s H us vs Q E hr.toRoom
theorem HasAt.starX {α : Type} {args : α → List V} {pre : α → Hp → VK → XK → Prop} {pv : Str} (h : HasAt K f x qual st) (S : FnScope N (ps ++ [pv]) (defScope st)) (hCX : StX.CXUp CX)
    (hb : ∀ (kV doc pm : Value) (an : Option Addr) (cdv ct : Value) (us rest : List Value), us.length = ps.length → bindArgs (PySem.W.fnOf x qual (defArgs st) (defBody st) (defScope st) .none kV doc pm an cdv ct) ⟨us ++ rest, []⟩ = (newTuple rest >>= fun t => pure (ps.zip us ++ [(pv, t)])))
    (body : ∀ (cdv : Value) (A : Around) (outer : List Env) (s : Shared) (H : Hp) (Q : VK) (E : XK) (a : α), RoomG false k (A.deeper (PyProof.Rows.envOfC qual (defScope st) s.heap.objs.size f cdv)) → pre a H Q E →
      ∃ t, PSs (cxOf CX P w K mg base N qual (defScope st) f cdv A outer s H E) (defBody st) t ∧ t { nx := fun _ H' => Q .non H', rt := Q } (start N (args a)) H) :
    FnG gd P w K mg base CX (k + 1) f (spStar ps.length (mkSp args pre)) := by
  obtain ⟨fd, F⟩ := h
  obtain ⟨oc, od, dV, kV, doc, pm, an, cdv, ct, osl, e, lk, hcd, hD, hK⟩ := F.ex
  subst e
  rcases hD with ⟨_, e⟩ | ⟨e, _⟩
  · subst e
    refine FnG.ofR (FnR.imp (StX.fn_star (sp := mkSp args pre) lk hcd S hCX (fun us rest hl => hb kV doc pm an cdv ct us rest hl) fun A outer s H vs Q E hr hs => ?_) fun vs H Q E hs => ?_)
    · obtain ⟨a, rfl, ha⟩ := hs
      exact body cdv A outer s H Q E a (RoomG.any hr) ha
    · obtain ⟨ws, rest, e1, e2, e3, e4⟩ := hs
      exact ⟨ws, rest, e1, e2, e3, fun p hp => e4 p _ hp (same_new hp) upd_same⟩
  · exact absurd rfl e
theorem Has.starX {α : Type} {args : α → List V} {pre : α → Hp → VK → XK → Prop} {pv : Str} (h : Has K mg x st) (S : FnScope N (ps ++ [pv]) (defScope st)) (hCX : StX.CXUp CX)
    (hb : ∀ (kV doc pm : Value) (an : Option Addr) (cdv ct : Value) (us rest : List Value), us.length = ps.length → bindArgs (PySem.W.fnOf x x (defArgs st) (defBody st) (defScope st) .none kV doc pm an cdv ct) ⟨us ++ rest, []⟩ = (newTuple rest >>= fun t => pure (ps.zip us ++ [(pv, t)])))
    (body : ∀ (f : Addr) (cdv : Value) (A : Around) (outer : List Env) (s : Shared) (H : Hp) (Q : VK) (E : XK) (a : α), RoomG false k (A.deeper (PyProof.Rows.envOfC x (defScope st) s.heap.objs.size f cdv)) → pre a H Q E →
      ∃ t, PSs (cxOf CX P w K mg base N x (defScope st) f cdv A outer s H E) (defBody st) t ∧ t { nx := fun _ H' => Q .non H', rt := Q } (start N (args a)) H) :
    Fn gd P w K mg base CX (k + 1) x (spStar ps.length (mkSp args pre)) := by
  obtain ⟨f, F, hm, hk⟩ := h
  exact ⟨f, F.starX S hCX hb (body f), hm, hk⟩
/-- the module's def x, its code object known -/
structure HasC (K : PySem.W.Frag) (mg : Str → Option Value) (x : Str) (st : Stmt) (c : Addr) : Prop where
  ex : ∃ f, HasAt K f x x st ∧ mg x = some (.ref f) ∧ PySem.W.keepIn K (.ref f) = true ∧ codeOf K f = .ref c
theorem HasC.fn {α : Type} {args : α → List V} {pre : α → Hp → VK → XK → Prop} {c : Addr} (h : HasC K mg x st c) (S : FnScope N ps (defScope st)) (hl : ∀ a, (args a).length = ps.length)
    (hb : ∀ (kV doc pm : Value) (an : Option Addr) (cdv ct : Value) (us : List Value), us.length = ps.length → bindArgs (PySem.W.fnOf x x (defArgs st) (defBody st) (defScope st) .none kV doc pm an cdv ct) ⟨us, []⟩ = pure (ps.zip us))
    (body : ∀ (f : Addr) (A : Around) (outer : List Env) (s : Shared) (H : Hp) (Q : VK) (E : XK) (a : α), RoomG gd k (A.deeper (PyProof.Rows.envOfC x (defScope st) s.heap.objs.size f (.ref c))) → pre a H Q E →
      ∃ t, PSs (cxOf CX0 P w K mg base N x (defScope st) f (.ref c) A outer s H E).nox (defBody st) t ∧ t { nx := fun _ H' => Q .non H', rt := Q } (start N (args a)) H) :
    Fn gd P w K mg base CX0 (k + 1) x (mkSp args pre) := by
  obtain ⟨f, ⟨fd, F⟩, hm, hk, hc⟩ := h.ex
  refine ⟨f, ?_, hm, hk⟩
  obtain ⟨oc, od, dV, kV, doc, pm, an, cdv, ct, osl, e, lk, hcd, hD, hK⟩ := F.ex
  subst e
  have ec : cdv = .ref c := by
    unfold codeOf at hc
    rw [lk] at hc
    exact hc
  subst ec
  rcases hD with ⟨_, e⟩ | ⟨e, _⟩
  · subst e
    intro A outer s H us vs Q E hr e0 r hsp
    obtain ⟨a, rfl, ha⟩ := hsp
    have hu : us.length = ps.length := by rw [← Vals.length r]; exact hl a
    refine StX.run_bnd lk hcd S hr.toRoom e0 (G := fun xs H2 => xs = args a ∧ H2 = H) (fun A' Ex Q' hq => ?_) fun s2 H2 xs hx hr' => ?_
    · rw [hb kV doc pm an _ ct us hu]
      exact PySem.wpAny_pure (hq s H _ us e0 Un.refl rfl (fun _ _ z => z) r (hl a) ⟨rfl, rfl⟩)
    · obtain ⟨rfl, rfl⟩ := hx
      obtain ⟨t, h1, h2⟩ := body f A outer s2 _ Q E a ⟨hr', hr.gs⟩ ha
      exact ⟨t, h1.nox, h2⟩
  · exact absurd rfl e
/-- nothing is let out -/
theorem passNo {X : Cx} {P : Program} {w : World} (eP : P = X.prog := by rfl) (ew : w = X.w := by rfl) : Passes (L2.CX P w) X E0 := by
  subst eP ew
  exact passes_call (W := fun _ _ _ _ => False) LamX.takes0 fun _ _ _ _ z => z
end
theorem u0 {gd : Bool} {k : Nat} {A : Around} (hr : RoomG gd k A) : A.units < cLine := Nat.lt_of_le_of_lt (Nat.le_add_right _ _) hr.units
section
variable {K : PySem.W.Frag} {σ : L2.St} {H : Hp} {D : Ends} {te : TE} {t : List V → TS} {a : Addr} {xs : List V} {tr : List V → TS} {tb : TS} {gs : TGs} {ta : TA} {i j n : Nat}
theorem if_t {c : Bool} {A B : Prop} (h : c = true) (q : A) : if c = true then A else B := by rw [if_pos h]; exact q
theorem if_f {c : Bool} {A B : Prop} (h : c = false) (q : B) : if c = true then A else B := by rw [if_neg (by rw [h]; decide)]; exact q
def rMt (K : PySem.W.Frag) (t : List V → TS) (D : Ends) (σ : L2.St) (x : V) (H : Hp) : Prop := ∃ a xs, x = .ref a ∧ SqT K H a xs ∧ t xs D σ H
theorem rd_tMatch (q : te σ H fun x H1 => rMt K t D σ x H1) : tMatch K te t D σ H := q
def rPar (i j : Nat) (D : Ends) (σ : L2.St) (vs : List V) (H : Hp) : Prop := ∃ v w, vs = [v, w] ∧ D.nx ((σ.set i (some v)).set j (some w)) H
theorem rd_tPar (q : ta σ H fun vs H1 => rPar i j D σ vs H1) : tPar i j ta D σ H := q
theorem rd_par {v w : V} (q : D.nx ((σ.set i (some v)).set j (some w)) H) : rPar i j D σ [v, w] H := ⟨v, w, rfl, q⟩
theorem rd_dnew {Q : VK} (q : ∀ p H', H p = none → Same H H' → H' p = some (.dK []) → Q (.ref p) H') : tDNewK σ H Q := fun p hp => q p _ hp (same_new hp) upd_same
theorem rd_slL {Q : VK} {lo hi : Option Int} (h : SqL K H a xs) (q : ∀ p H', H p = none → Same H H' → H' p = some (.lst (cutV xs lo hi)) → Q (.ref p) H') : rSlL K (.ref a) lo hi H Q := ⟨a, xs, rfl, h, fun p hp => q p _ hp (same_new hp) upd_same⟩
end
theorem vals_at : ∀ {xs : List V} {us : List Value}, Vals xs us → ∀ {j : Nat} {x : V} {u : Value}, xs[j]? = some x → us[j]? = some u → RelV x u
  | _, _, .nil, j, x, u, e, _ => by simp at e
  | _, _, .cons r rr, 0, x, u, e1, e2 => by cases e1; cases e2; exact r
  | _, _, .cons r rr, j + 1, x, u, e1, e2 => vals_at rr e1 e2
end Rd
set_option Elab.async false
set_option linter.all false
set_option maxRecDepth 100000
set_option maxHeartbeats 4000000
namespace Rd
open PySem PySem.Spec PyProof.Rows L2
theorem tabs_same {T : List (Addr × Str)} {H H' : Hp} (h : LamX.Tabs T H) (s : Same H H') : LamX.Tabs T H' := h.ext s
theorem sqL_N {K : PySem.W.Frag} {H H' : Hp} {a : Addr} {xs : List V} (e : LamX.ExtN H H') (h : SqL K H a xs) : SqL K H' a xs := by
  rcases h with (h | ⟨o, h⟩) | h
  · exact .inl (.inl (e _ _ h fun ps z => by cases z))
  · exact .inl (.inr ⟨o, e _ _ h fun ps z => by cases z⟩)
  · exact .inr h
/-- a list of one's own is written -/
theorem tabs_keep {T : List (Addr × Str)} {H H' : Hp} {p : Addr} {xs : List V} (h : LamX.Tabs T H) (hp : H p = some (.lst xs)) (k : ∀ b o, b ≠ p → H b = some o → H' b = some o) : LamX.Tabs T H' := by
  intro z hz
  obtain ⟨ps, h1, h2, h3⟩ := h z hz
  refine ⟨ps, k _ _ (ne_of h1 hp (by intro q; cases q)) h1, h2, fun pos cv hc => ?_⟩
  obtain ⟨c, e1, e2⟩ := h3 pos cv hc
  exact ⟨c, e1, k _ _ (ne_of e2 hp (by unfold LamX.CodeO; intro q; cases q)) e2⟩
section
variable {P : Program} {w : World} {K : PySem.W.Frag} {mg mb : Str → Option Value} {CX : CXT} {k : Nat} {fa a : Addr} {sp : Sp} {s₁ : Shared} {vs : List Value} {ns : List Int} {cs : List (Addr × Addr)}
abbrev tab0 : Obj := { cls := .none, data := .fields #[] }
/-- the law is called; its script at a and the tables of code objects, all empty, may be tracked -/
theorem law_atT (H : Hp) (KX : K.In s₁.heap) (hns : s₁.heap.Ns mainGlobals mg) (hb : s₁.heap.Ns builtinsNs mb) (hbb : ∀ x : Str, x ≠ "__name__" → mb x = bootBuiltins x) (hlim : s₁.heap.NoLimit) (hg : s₁.gens = #[])
    (hT : ∀ p ∈ cs, s₁.heap.get? p.2 = some tab0 ∧ K.lookup p.2 = none ∧ PySem.W.CodeHd s₁.heap p.1 p.2)
    (hbm : ∃ (bm : Addr) (ob : Obj), mg "__builtins__" = some (.ref bm) ∧ bm ≠ builtinsNs ∧ s₁.heap.get? bm = some ob ∧ ob.cls = .type "module" ∧ ob.dict = some builtinsNs ∧ ob.data = .plain)
    (ha : s₁.heap.get? a = some { cls := .type "list", data := .seq vs.toArray }) (hr : RoomG true k callerA) (F : ∀ base : Heap, (∀ p ∈ cs, LamX.TabB base mg p.1 p.2) → FnG true P w K mg base CX k fa sp) (hok : HOk P w H s₁.heap)
    (only : ∀ b, H b ≠ none → (b = a ∧ K.lookup a = none ∧ ∃ o xs, H b = some (.frz o (.lst xs))) ∨ (∃ p ∈ cs, b = p.2 ∧ H b = some (.tbl #[]))) (hsp : sp [.ref a] H (fun v _ => v = .bl true) fun _ _ _ => False) (hCX : ∀ e s', ¬ CX [] H s₁ (fun _ _ _ => False) e s') :
    codeAny (model P w) callerA (.call (.ref fa) ⟨[.ref a], []⟩) (fun r s' => r = .ok (.ret (.bool true)) ∧ OldK s₁.heap s'.heap ∧ s'.os = s₁.os ∧ AllBare s'.gens) s₁ := by
  -- what is neither a list nor an empty record is not tracked
  have free : ∀ {b o}, s₁.heap.get? b = some o → (∀ us n, o.data ≠ .seq us n) → o.data ≠ .fields #[] → H b = none := by
    intro b o e d1 d2
    refine Classical.byContradiction fun n => ?_
    rcases only b n with ⟨rfl, _⟩ | ⟨p, hp, rfl, _⟩
    · obtain rfl := Option.some.inj (ha.symm.trans e)
      exact d1 _ _ rfl
    · obtain rfl := Option.some.inj ((hT p hp).1.symm.trans e)
      exact d2 rfl
  have names : ∀ {b m}, s₁.heap.Ns b m → (hidT s₁.heap H).Ns b m := by
    rintro b m ⟨o, es, ep, e, d, r⟩
    exact ⟨o, es, ep, hidT_get e (free e (fun us n z => nomatch d.symm.trans z) fun z => nomatch d.symm.trans z), d, r⟩
  have kin : K.In (hidT s₁.heap H) := by
    intro b o e
    refine hidT_get (KX b o e) (Classical.byContradiction fun n => ?_)
    rcases only b n with ⟨rfl, hk, _⟩ | ⟨p, hp, rfl, _⟩
    · exact nomatch hk.symm.trans e
    · exact nomatch (hT p hp).2.1.symm.trans e
  obtain ⟨mc, lim1, lim2⟩ := hlim
  have md : Mod K mg (hidT s₁.heap H) := ⟨kin, names hns, ⟨mb, names hb, hbb⟩, mc, names lim1, lim2⟩
  have env : Env0 P w K mg (hidT s₁.heap H) callerA [] s₁ H :=
    { frames := rfl, mod := md, bs := fun b o e => of_hidT e, bsz := Nat.le_of_eq (hidT_size _ _), funs := trivial, frf := fun b hb => absurd (show b ∈ ([] : List Addr) from hb) (by simp), hok := hok, bare := .of_eq hg }
  have TB : ∀ p ∈ cs, LamX.TabB (hidT s₁.heap H) mg p.1 p.2 := by
    intro p hp
    obtain ⟨t1, t2, o, us, file, tf, flags, tg, inF, text, tt, e1, r1, r2, rs⟩ := hT p hp
    obtain ⟨bm, ob, b1, b2, b3, b4, b5, b6⟩ := hbm
    refine ⟨⟨o, us, file, tf, flags, tg, inF, text, tt, hidT_get e1 (free e1 (fun us n z => nomatch r2.symm.trans z) fun z => ?_), r1, r2, rs⟩, ⟨bm, ob, b1, b2, fun q => ?_, fun q => ?_, hidT_get b3 (free b3 (fun us n z => nomatch b6.symm.trans z) fun z => nomatch b6.symm.trans z), b4, b5, b6⟩, fun z => ?_⟩
    · have z' : us = #[] := by have := r2.symm.trans z; injection this
      have r3 := rs.1
      rw [z'] at r3
      simp at r3
    · obtain ⟨o', es, ep, e, d, _⟩ := hns
      rw [← q] at e
      obtain rfl := Option.some.inj (b3.symm.trans e)
      exact nomatch b6.symm.trans d
    · rw [← q] at t1
      obtain rfl := Option.some.inj (b3.symm.trans t1)
      exact nomatch b6
    · obtain ⟨o', es, ep, e, d, _⟩ := hns
      rw [z] at e
      obtain rfl := Option.some.inj (t1.symm.trans e)
      exact nomatch d
  refine codeAny_mono (F _ TB callerA [] s₁ H [.ref a] [.ref a] _ _ hr env (.cons rfl .nil) hsp) fun r s' h => ?_
  match r, h with
  | .error e, h => exact (hCX e s' h).elim
  | .ok .next, h => exact False.elim h
  | .ok .brk, h => exact False.elim h
  | .ok .cont, h => exact False.elim h
  | .ok (.ret u), h =>
    obtain ⟨v, H', os, bare, un, hok', rv, q⟩ := h
    have qv : v = .bl true := q
    rw [qv] at rv
    obtain rfl : u = Value.bool true := rv
    -- each object: it stays, or it is a table that has grown
    have each : ∀ b o, s₁.heap.get? b = some o → s'.heap.get? b = some o ∨ ∃ p ∈ cs, b = p.2 ∧ ∃ more, s'.heap.get? b = some { cls := .none, data := .fields more } := by
      intro b o e
      by_cases n : H b = none
      · exact .inl (un.keep b o e n (fun z => absurd (show b ∈ ([] : List Addr) from z) (by simp)) (by simp))
      · rcases only b n with ⟨_, _, ob, xs, z⟩ | ⟨p, hp, e2, z⟩
        · obtain ⟨e1, _⟩ := hok b _ z
          obtain ⟨e3, _⟩ := hok' b _ (un.frzs b ob _ z)
          rw [e] at e1
          injection e1 with e1
          rw [e1]
          exact .inl e3
        · obtain ⟨more, z2⟩ := un.tbls b #[] z
          exact .inr ⟨p, hp, e2, _, hok' b _ z2⟩
    refine ⟨rfl, ⟨fun b o e => ?_, fun b o e => ?_⟩, os, bare⟩
    · rcases each b o e with z | ⟨p, hp, e2, more, z⟩
      · exact .inl z
      · obtain ⟨t1, _, C⟩ := hT p hp
        subst e2
        obtain rfl := Option.some.inj (t1.symm.trans e)
        exact .inr (.inl ⟨(C.tab t1).isCodeTable, rfl, #[], more, rfl, by rw [Array.empty_append]; exact z⟩)
    · rcases each b o e with z | ⟨_, _, _, _, z⟩
      · exact ⟨_, z⟩
      · exact ⟨_, z⟩
end
theorem walk_ofT {l : PySem.W.OpenLaw} {n k : Nat} {q : Program} {loose : List Str} {XP : (Str → Option Value) → Heap → Prop} {YP : World → Heap → Prop} {d : DefRec} (hn : l.most = some n) (hn2 : n ≤ sizeLine) (hdf : d.params.defaults = []) (hr : RoomG true k callerA)
    (F : ∀ (w : World) (mg : Str → Option Value) (fa : Addr) (h : Heap), YP w h → h.Ns mainGlobals mg → mg d.name = some (.ref fa) → ∃ (K : PySem.W.Frag) (cs : List (Addr × Addr)) (sp : Sp), K.In h ∧
      (∀ p ∈ cs, h.get? p.2 = some tab0 ∧ K.lookup p.2 = none ∧ PySem.W.CodeHd h p.1 p.2) ∧
      (∀ (H : Hp) (a : Addr) (ns : List Int), ns.length ≤ n → (∀ p ∈ cs, H p.2 = some (.tbl #[])) → SqL K H a (ns.map V.int) → sp [.ref a] H (fun v _ => v = .bl true) fun _ _ _ => False) ∧
      ∀ base : Heap, (∀ p ∈ cs, LamX.TabB base mg p.1 p.2) → FnG true l.prog w K mg base CX0 k fa sp) :
    PySem.W.WalkO q loose XP YP l.row.toRowW d [] (fun f vs => PySem.call f vs) := by
  refine Att.attach_call hn hdf fun w s₀ s₁ mg mb fa o pm cd doc a vs ns G Y ho hd hcd hmg hobj hints hlen hg => ?_
  obtain ⟨K, cs, sp, KX, hT, hsp, hF⟩ := F w mg fa _ Y G.T.g hmg
  have rv := vals_ints hints
  have hl : (ns.map V.int).length ≤ sizeLine := by rw [List.length_map]; exact Nat.le_trans hlen hn2
  have aT : ∀ p ∈ cs, p.2 ≠ a := fun p hp z => by
    have t := (hT p hp).1
    rw [z] at t
    exact nomatch congrArg Obj.data (Option.some.inj (hobj.symm.trans t))
  cases hk : K.lookup a with
  | some o =>
    have e := (KX a o hk).symm.trans hobj
    injection e with e
    subst e
    let H : Hp := fun b => if b ∈ cs.map (·.2) then some (.tbl #[]) else none
    have hA : ∀ p ∈ cs, H p.2 = some (.tbl #[]) := fun p hp => if_pos (List.mem_map.mpr ⟨p, hp, rfl⟩)
    have hN : ∀ {b}, b ∉ cs.map (·.2) → H b = none := fun h => if_neg h
    refine law_atT H KX G.T.g G.T.b G.T.builtins G.T.nolimit hg hT G.T.bmain hobj hr hF (fun b u z => ?_) (fun b z => ?_)
      (hsp _ a ns hlen hA (.inr ⟨_, vs.toArray, _, hk, rfl, rfl, rfl, by rw [List.size_toArray, hints.length]; exact Nat.le_trans hlen hn2, by simpa using rv⟩)) fun e s' z => z
    · by_cases hb : b ∈ cs.map (·.2)
      · obtain ⟨p, hp, rfl⟩ := List.mem_map.mp hb
        obtain rfl := Option.some.inj ((hA p hp).symm.trans z)
        exact (hT p hp).1
      · exact nomatch (hN hb).symm.trans z
    · by_cases hb : b ∈ cs.map (·.2)
      · obtain ⟨p, hp, rfl⟩ := List.mem_map.mp hb
        exact .inr ⟨p, hp, rfl, hA p hp⟩
      · exact absurd (hN hb) z
  | none =>
    let H : Hp := fun b => if b = a then some (.frz { cls := .type "list", data := .seq vs.toArray } (.lst (ns.map V.int))) else if b ∈ cs.map (·.2) then some (.tbl #[]) else none
    have hA : H a = some (.frz { cls := .type "list", data := .seq vs.toArray } (.lst (ns.map V.int))) := if_pos rfl
    have hC : ∀ p ∈ cs, H p.2 = some (.tbl #[]) := fun p hp => (if_neg (aT p hp)).trans (if_pos (List.mem_map.mpr ⟨p, hp, rfl⟩))
    have hN : ∀ {b}, b ≠ a → b ∉ cs.map (·.2) → H b = none := fun h h' => (if_neg h).trans (if_neg h')
    refine law_atT H KX G.T.g G.T.b G.T.builtins G.T.nolimit hg hT G.T.bmain hobj hr hF (fun b u z => ?_) (fun b z => ?_) (hsp H a ns hlen hC (.inl (.inr ⟨_, hA⟩))) fun e s' z => z
    · by_cases hb : b = a
      · subst hb
        obtain rfl := Option.some.inj (hA.symm.trans z)
        exact ⟨hobj, hl, vs, _, rv, hobj⟩
      · by_cases hc : b ∈ cs.map (·.2)
        · obtain ⟨p, hp, rfl⟩ := List.mem_map.mp hc
          obtain rfl := Option.some.inj ((hC p hp).symm.trans z)
          exact (hT p hp).1
        · exact nomatch (hN hb hc).symm.trans z
    · by_cases hb : b = a
      · subst hb
        exact .inl ⟨rfl, hk, _, _, hA⟩
      · by_cases hc : b ∈ cs.map (·.2)
        · obtain ⟨p, hp, rfl⟩ := List.mem_map.mp hc
          exact .inr ⟨p, hp, rfl, hC p hp⟩
        · exact absurd (hN hb hc) z
end Rd
set_option Elab.async false
set_option linter.all false
set_option maxRecDepth 100000
set_option maxHeartbeats 4000000
namespace Hd
open PySem PySem.Spec PyProof.Rows L2
def codeAt (K : PySem.W.Frag) (x : Str) : Addr := match Rd.codeOf K (He.ga K x) with
  | .ref c => c
  | _ => 0
def tabAt (K : PySem.W.Frag) (x : Str) : Addr := match K.lookup (codeAt K x) with
  | some ⟨_, _, .fields vs, _⟩ => (match vs.getD 11 Value.none with
    | Value.ref P => P
    | _ => 0)
  | _ => 0
def isS : Value → Bool
  | .str _ _ => true
  | _ => false
def isI : Value → Bool
  | .int _ _ => true
  | _ => false
def isB : Value → Bool
  | .bool _ => true
  | _ => false
theorem isS_ok {v : Value} (h : isS v = true) : ∃ z t, v = .str z t := by cases v <;> first | exact ⟨_, _, rfl⟩ | cases h
theorem isI_ok {v : Value} (h : isI v = true) : ∃ z t, v = .int z t := by cases v <;> first | exact ⟨_, _, rfl⟩ | cases h
theorem isB_ok {v : Value} (h : isB v = true) : ∃ z, v = .bool z := by cases v <;> first | exact ⟨_, rfl⟩ | cases h
def codeB (K : PySem.W.Frag) (x : Str) : Bool := decide (Rd.codeOf K (He.ga K x) = .ref (codeAt K x)) && (match K.lookup (codeAt K x) with
  | some ⟨cls, _, .fields vs, _⟩ => decide (cls = .type "code") && (decide (vs[11]? = some (.ref (tabAt K x))) && (isS (vs.getD 18 .none) && (isI (vs.getD 7 .none) && (isB (vs.getD 9 .none) && (isI (vs.getD 10 .none) && !decide (codeAt K x = tabAt K x))))))
  | _ => false)
theorem codeB_ok {K : PySem.W.Frag} {h : Heap} {x : Str} (X : K.In h) (c : codeB K x = true) : Rd.codeOf K (He.ga K x) = .ref (codeAt K x) ∧ PySem.W.CodeHd h (codeAt K x) (tabAt K x) := by
  obtain ⟨c1, c2⟩ := He.ba c
  refine ⟨of_decide_eq_true c1, ?_⟩
  split at c2
  · rename_i cls dd vs sl hlk
    obtain ⟨e1, c3⟩ := He.ba c2
    obtain ⟨e2, c4⟩ := He.ba c3
    obtain ⟨e3, c5⟩ := He.ba c4
    obtain ⟨e4, c6⟩ := He.ba c5
    obtain ⟨e5, c7⟩ := He.ba c6
    obtain ⟨e6, e7⟩ := He.ba c7
    obtain ⟨f, tf, q3⟩ := isS_ok e3
    obtain ⟨fl, tg, q4⟩ := isI_ok e4
    obtain ⟨b, q5⟩ := isB_ok e5
    obtain ⟨tx, tt, q6⟩ := isI_ok e6
    have q2 := of_decide_eq_true e2
    have q2' : vs.getD 11 .none = .ref (tabAt K x) := by
      rw [Array.getD_eq_getD_getElem?, q2]; rfl
    exact ⟨_, vs, f, tf, fl, tg, b, tx, tt, X _ _ hlk, of_decide_eq_true e1, rfl, q2, q2', q3, q4, q5, q6, of_decide_eq_false (by simpa using e7)⟩
  · cases c2
def tabB (g : Addr → Option Obj) (a : Addr) : Bool := match g a with
  | some ⟨cls, dd, .fields vs, sl⟩ => decide (cls = .none) && (dd.isNone && (vs.toList.isEmpty && sl.toList.isEmpty))
  | _ => false
theorem tabB_ok {g : Addr → Option Obj} {a : Addr} (c : tabB g a = true) : g a = some Rd.tab0 := by
  unfold tabB at c
  split at c
  · rename_i cls dd vs sl e
    obtain ⟨e1, c2⟩ := He.ba c
    obtain ⟨e2, c3⟩ := He.ba c2
    obtain ⟨e3, e4⟩ := He.ba c3
    obtain rfl := of_decide_eq_true e1
    obtain ⟨vs⟩ := vs
    obtain ⟨sl⟩ := sl
    cases dd with
    | some _ => cases e2
    | none =>
      cases vs with
      | cons _ _ => cases e3
      | nil => cases sl with
        | cons _ _ => cases e4
        | nil => exact e
  · cases c
def tabsB (xs : List Str) (K : PySem.W.Frag) (g : Addr → Option Obj) : Bool := xs.all fun x => codeB K x && ((K.lookup (tabAt K x)).isNone && tabB g (tabAt K x))
/-- what the names reach, but for the tables -/
def asT (xs : List Str) (g : Addr → Option Obj) (n : Nat) : List Addr := (He5.asA g n).filter fun a => !((xs.map (tabAt (He.frG g (He5.asA g n)))).contains a)
def obsT (xs : List Str) (n : Nat) (ex : PySem.W.Frag → Bool) (fn : List He5.DefA) (g : Addr → Option Obj) : He.AlD := ((obsM ex fn (He.frG g (asT xs g n))).1 && tabsB xs (He.frG g (asT xs g n)) g, (obsM ex fn (He.frG g (asT xs g n))).2)
/-- what is known of the defs xs -/
def SaysT (xs : List Str) (K : PySem.W.Frag) (h : Heap) : Prop := ∀ x ∈ xs, codeB K x = true ∧ K.lookup (tabAt K x) = none ∧ h.get? (tabAt K x) = some Rd.tab0
def hookT (xs : List Str) (n : Nat) (ex : PySem.W.Frag → Bool) (fn : List He5.DefA) : PySem.W.Hook where
  α := He.AlD
  obs := fun s => obsT xs n ex fn s.heap.get?
  val := fun _ => He5.valA fn
  says := fun _ h => ∃ K : PySem.W.Frag, K.In h ∧ SaysM ex fn K ∧ SaysT xs K h
  of := fun w s e => by
    have e1 : ((obsM ex fn (He.frG s.heap.get? (asT xs s.heap.get? n))).1 && tabsB xs (He.frG s.heap.get? (asT xs s.heap.get? n)) s.heap.get?) = true := (congrArg (fun z : He.AlD => z.1) e).trans rfl
    obtain ⟨a1, a2⟩ := He.ba e1
    refine ⟨He.frG s.heap.get? (asT xs s.heap.get? n), He.frG_in, ?_, fun x hx => ?_⟩
    · show obsM ex fn (He.frG s.heap.get? (asT xs s.heap.get? n)) = He5.valA fn
      have e2 : (obsM ex fn (He.frG s.heap.get? (asT xs s.heap.get? n))).2 = (He5.valA fn).2 := by
        have e3 := congrArg (fun z : He.AlD => z.2) e
        exact e3
      refine Prod.ext ?_ e2
      rw [a1]
      have e4 := congrArg (fun z : He.AlD => z.1) e
      exact e1.symm.trans e4
    · obtain ⟨b1, b2⟩ := He.ba (List.all_eq_true.mp a2 x hx)
      obtain ⟨b3, b4⟩ := He.ba b2
      exact ⟨b1, Option.isNone_iff_eq_none.mp b3, tabB_ok b4⟩
  keeps := fun _ _ _ ⟨K, hK, c, t⟩ k => ⟨K, PySem.W.Frag.In.keeps hK k, c, fun x hx => ⟨(t x hx).1, (t x hx).2.1, k _ _ (t x hx).2.2⟩⟩
theorem obsT_eq {xs : List Str} {n : Nat} {ex : PySem.W.Frag → Bool} {fn : List He5.DefA} {g : Addr → Option Obj} {s : Shared} (h : ∀ a, g a = s.heap.get? a) : obsT xs n ex fn g = (hookT xs n ex fn).obs s := by
  have e : g = s.heap.get? := funext h
  rw [e] <;> rfl
end Hd
set_option Elab.async false
set_option linter.all false
namespace M
open PySem L2
structure AdsG where
  (C fi fo po ch lv en gi eq pn gn pt gt pc gc ps gs : Addr)
def letters : Str := "abcdefghijklmnopqrstuvwxyz"
end M
set_option Elab.async false
set_option linter.all false
namespace M
open PySem L2
structure AdsM where
  (C M fi fm bh tk ta tn hg gg gs gl gn gL gp pg ps pl pn pL pp ct st eq bk tw wk : Addr)
/-- the error classes and their inits -/
structure AdsE where
  (IG IO UN IN NE NU fU fN fE fH : Addr)
def AdsE.at (e : AdsE) : Nat → Addr
  | 0 => e.IG
  | 1 => e.IO
  | 2 => e.UN
  | 3 => e.IN
  | 4 => e.NE
  | _ => e.NU
end M
set_option Elab.async false
set_option linter.all false
set_option maxRecDepth 100000
set_option maxHeartbeats 0
namespace HE0
open PySem L2 M
def top (i : Nat) : Stmt := PySem.Challenge.pw_loopgrowth_k15_machines_step_by_step.main.body.getD i (.Pass ⟨0, 0, 0, 0⟩)
abbrev s__law_dice : Stmt := top 43
abbrev s__law_roll : Stmt := top 44
abbrev s__law_one_of : Stmt := top 45
abbrev s__law_mixed : Stmt := top 46
abbrev s__law_change : Stmt := top 47
abbrev s__law_kind : Stmt := top 48
abbrev s__law_words : Stmt := top 49
abbrev s__law_graph : Stmt := top 50
abbrev s__law_built : Stmt := top 51
abbrev s__law_row : Stmt := top 52
abbrev s__law_step : Stmt := top 53
abbrev s__law_behind : Stmt := top 54
abbrev s__law_told : Stmt := top 55
abbrev s__law_start : Stmt := top 56
abbrev s__law_spot : Stmt := top 57
abbrev s__law_loads : Stmt := top 58
abbrev s__law_possible : Stmt := top 59
abbrev s__law_due : Stmt := top 60
abbrev s__law_name : Stmt := top 61
abbrev s__law_tops : Stmt := top 62
abbrev s__law_stands : Stmt := top 63
abbrev s__law_right : Stmt := top 64
abbrev s_law : Stmt := top 65
abbrev s_is_name : Stmt := top 16
abbrev s_is_small : Stmt := top 17
abbrev s_is_pair : Stmt := top 18
abbrev s_is_change : Stmt := top 19
abbrev s_is_transition : Stmt := top 20
abbrev s_are_names : Stmt := top 21
abbrev s_reached_from : Stmt := top 22
abbrev s_are_one_loop : Stmt := top 23
abbrev s_states_of : Stmt := top 24
abbrev s_fit_counters : Stmt := top 25
abbrev s_require_parts : Stmt := top 26
abbrev s_is_integer : Stmt := top 30
abbrev s_is_many : Stmt := top 31
abbrev s_require_graph : Stmt := top 32
abbrev s_require_name : Stmt := top 33
abbrev s_require_counter : Stmt := top 34
abbrev s_require_state : Stmt := top 35
abbrev s_require_many : Stmt := top 36
abbrev s_can_take : Stmt := top 40
abbrev s_possible_in : Stmt := top 41
abbrev s_Graph___init__ : Stmt := inClass (top 27) 0
abbrev s_Graph_of : Stmt := inClass (top 27) 1
abbrev s_Graph___eq__ : Stmt := inClass (top 27) 18
abbrev s_Machine_graph : Stmt := inClass (top 39) 1
abbrev s_Machine_state : Stmt := inClass (top 39) 2
abbrev s_Machine_loads : Stmt := inClass (top 39) 3
abbrev s_Machine_steps : Stmt := inClass (top 39) 4
abbrev s_Machine_log : Stmt := inClass (top 39) 5
abbrev s_Machine_possible : Stmt := inClass (top 39) 6
abbrev s_Machine_take : Stmt := inClass (top 39) 7
abbrev s_Machine_take_all : Stmt := inClass (top 39) 8
abbrev s_Machine_taken : Stmt := inClass (top 39) 10
abbrev s_Machine_highest : Stmt := inClass (top 39) 11
abbrev s_Machine___contains__ : Stmt := inClass (top 39) 16
abbrev s_Machine___str__ : Stmt := inClass (top 39) 18
abbrev s_Machine___init__ : Stmt := inClass (top 39) 0
abbrev s_Moment___init__ : Stmt := inClass (top 38) 0
abbrev s_Moment_behind : Stmt := inClass (top 38) 1
abbrev s_NotEnough___init__ : Stmt := inClass (top 7) 0
def dF (x : Str) (st : Stmt) : He5.DefA := ⟨fun K => He.ga K x, x, x, defArgs st, defBody st, defScope st, [], []⟩
def dM (C m qual : Str) (st : Stmt) : He5.DefA := ⟨fun K => He.ma K (He.ga K C) m, m, qual, defArgs st, defBody st, defScope st, [], []⟩
section
variable {K : PySem.W.Frag} {h : Heap} {mg : Str → Option Value} {ex : PySem.W.Frag → Bool} {fn : List He5.DefA}
theorem keep_of {x q : Str} {ps : Arguments} {b : List Stmt} {sc : Scope} {ds : List V} {ks : List (Str × V)} {f : Addr} {fd : FuncData} (F : L2.FunD K x q ps b sc ds ks f fd) : PySem.W.keepIn K (.ref f) = true := by
  obtain ⟨oc, od, dV, kV, doc, pm, an, cdv, ct, osl, e, lk, _⟩ := F.ex
  unfold PySem.W.keepIn
  dsimp only
  rw [lk]
theorem has_of (X : K.In h) (G : h.Ns mainGlobals mg) (c : Hd.SaysM ex fn K) (i : Nat) {x : Str} {st : Stmt} (hi : fn[i]? = some (dF x st)) (hg : (He.Fa.glo x).ok K = true) : Rd.Has K mg x st := by
  obtain ⟨fd, F⟩ := c.def_ i hi
  exact ⟨He.ga K x, ⟨fd, F⟩, He.glo_ok X G hg, keep_of F⟩
theorem hasM_of (c : Hd.SaysM ex fn K) (i : Nat) {C m qual : Str} {st : Stmt} (hi : fn[i]? = some (dM C m qual st)) : Rd.HasAt K (He.ma K (He.ga K C) m) m qual st := by
  obtain ⟨fd, F⟩ := c.def_ i hi
  exact ⟨fd, F⟩
/-- attributes of the class x are read off it -/
def readB (K : PySem.W.Frag) (x : Str) : Bool := PySem.W.readsIn K (He.ga K x) (.type "type") && He.eqO (PySem.W.specialIn K (.ref (He.ga K x)) "__getattribute__") (some (some (.builtin "type.__getattribute__")))
theorem read_ok {x : Str} (h : readB K x = true) : ClX.CRead K (He.ga K x) (.type "type") := by
  obtain ⟨h1, h2⟩ := He.ba h
  exact ⟨h1, He.eqO_ok h2⟩
/-- x.m is a class method -/
def cmetB (K : PySem.W.Frag) (x m : Str) : Bool := He5.wrapB K (He.ga K x) "classmethod" "classmethod.__get__" m && PySem.W.fnIn K (He5.wf K (He.ga K x) "classmethod" m)
theorem cmet_ok {x m : Str} (h : cmetB K x m = true) : ClX.CMet K (He.ga K x) (.type "type") m (He.ma K (He.ga K x) m) (He5.wf K (He.ga K x) "classmethod" m) := by
  obtain ⟨h1, h2⟩ := He.ba h
  exact He5.cmet_of h1 h2
end
def dP (C m qual : Str) (st : Stmt) : He5.DefA := ⟨fun K => He5.wf K (He.ga K C) "property" m, m, qual, defArgs st, defBody st, defScope st, [], []⟩
/-- the one default, the keyword's default of the def at f -/
def dfAt (K : PySem.W.Frag) (f : Addr) : Addr := match K.lookup f with
  | some ⟨_, _, .func fd, _⟩ => (match fd.defaults with
    | .ref T => (match K.lookup T with
      | some ⟨_, _, .seq its _, _⟩ => (match its.toList.head? with
        | some (Value.ref a) => a
        | _ => 0)
      | _ => 0)
    | _ => 0)
  | _ => 0
def kwAt (K : PySem.W.Frag) (f : Addr) (x : Str) : Addr := match K.lookup f with
  | some ⟨_, _, .func fd, _⟩ => (match fd.kwdefaults with
    | .ref D => (match PySem.W.nsIn K D x with
      | some (some (.ref a)) => a
      | _ => 0)
    | _ => 0)
  | _ => 0
def dCD (C m qual : Str) (st : Stmt) : He5.DefA := ⟨fun K => He5.wf K (He.ga K C) "classmethod" m, m, qual, defArgs st, defBody st, defScope st, [.adr fun K => dfAt K (He5.wf K (He.ga K C) "classmethod" m)], []⟩
def dMK (C m qual kw : Str) (st : Stmt) : He5.DefA := ⟨fun K => He.ma K (He.ga K C) m, m, qual, defArgs st, defBody st, defScope st, [], [(kw, .adr fun K => kwAt K (He.ma K (He.ga K C) m) kw)]⟩
def aG (K : PySem.W.Frag) : AdsG where
  C := He.ga K "Graph"
  fi := He.ma K (He.ga K "Graph") "__init__"
  fo := He5.wf K (He.ga K "Graph") "classmethod" "of"
  po := He.ma K (He.ga K "Graph") "of"
  ch := He.ma K (He.ga K "Graph") "change"
  lv := He.ma K (He.ga K "Graph") "leaving"
  en := He.ma K (He.ga K "Graph") "entering"
  gi := He.ma K (He.ga K "Graph") "__getitem__"
  eq := He.ma K (He.ga K "Graph") "__eq__"
  pn := He.ma K (He.ga K "Graph") "names"
  gn := He5.wf K (He.ga K "Graph") "property" "names"
  pt := He.ma K (He.ga K "Graph") "transitions"
  gt := He5.wf K (He.ga K "Graph") "property" "transitions"
  pc := He.ma K (He.ga K "Graph") "counters"
  gc := He5.wf K (He.ga K "Graph") "property" "counters"
  ps := He.ma K (He.ga K "Graph") "states"
  gs := He5.wf K (He.ga K "Graph") "property" "states"
/-- the default of the states -/
def aE (K : PySem.W.Frag) : Addr := kwAt K (aG K).fi "states"
def propB (K : PySem.W.Frag) (C : Addr) (m : Str) : Bool := He.eqO (PySem.W.findIn K (.ref C) m) (some (some (.ref (He.ma K C m)))) && (He.eqO (PySem.W.specialIn K (.ref (He.ma K C m)) "__get__") (some (some (.builtin "property.__get__"))) && (decide (PySem.W.takesIn K (.ref (He.ma K C m)) = some true) && (match PySem.W.recIn K (He.ma K C m) "property" with
  | some (.ref _ :: _) => true
  | _ => false)))
def eqB (K : PySem.W.Frag) (C f : Addr) : Bool := He.eqO (PySem.W.findIn K (.ref C) "__eq__") (some (some (.ref f))) && (PySem.W.isFn K (.ref f) && (He.eqO (PySem.W.findIn K (.ref C) "__ne__") (some (some (.builtin "object.__ne__"))) && decide (PySem.W.mroIn K C (.type "object") = some true)))
def objB (K : PySem.W.Frag) (C : Addr) : Bool := He.eqO (PySem.W.findIn K (.ref C) "__class__") (some (some (.builtin "object.__class__"))) && (He.eqO (PySem.W.specialIn K (.builtin "object.__class__") "__get__") (some (some (.builtin "getset_descriptor.__get__"))) && (decide (PySem.W.takesIn K (.builtin "object.__class__") = some true) && (decide (PySem.W.mroIn K C (.type "object") = some true) && decide (PySem.W.kitOne K (.ref C) (.ref C) = some true))))
def methB (K : PySem.W.Frag) (C f : Addr) (m : Str) : Bool := He.eqO (PySem.W.findIn K (.ref C) m) (some (some (.ref f))) && (PySem.W.isFn K (.ref f) && PySem.W.fnIn K f)
/-- the empty tuple at e -/
def emptyB (K : PySem.W.Frag) (e : Addr) : Bool := match K.lookup e with
  | some ⟨.type c, _, .seq its _, _⟩ => decide (c = "tuple") && (decide (its.size ≤ sizeLine) && He.relAll [] its.toList)
  | _ => false
def graphL (K : PySem.W.Frag) : List Bool := [readB K "Graph", cmetB K "Graph" "of", propB K (aG K).C "names", propB K (aG K).C "transitions", propB K (aG K).C "counters", propB K (aG K).C "states", methB K (aG K).C (aG K).gi "__getitem__", eqB K (aG K).C (aG K).eq, objB K (aG K).C, emptyB K (aE K)]
def graphB (K : PySem.W.Frag) : Bool := (graphL K).all id
def graphFa : List He.Fa := [.glo "Graph", .cls "Graph", .noat "Graph" "own_counters", .noat "Graph" "own_states", .noat "Graph" "own_transitions", .noat "Graph" "own_names", .noat "Graph" "own_rows", .mkr "Graph", .meth "Graph" "change", .meth "Graph" "leaving", .meth "Graph" "entering", .int "MAX_COUNTERS" 5, .int "MAX_STATES" 8, .int "MAX_TRANSITIONS" 16, .int "MAX_CHANGE" 9, .int "MAX_NAME" 8, .str "LETTERS" letters]
def dMN (C m qual kw : Str) (st : Stmt) : He5.DefA := ⟨fun K => He.ma K (He.ga K C) m, m, qual, defArgs st, defBody st, defScope st, [], [(kw, .non)]⟩
def fn : List He5.DefA := [dF "_law_dice" s__law_dice, dF "_law_roll" s__law_roll, dF "_law_one_of" s__law_one_of, dF "_law_mixed" s__law_mixed, dF "_law_change" s__law_change, dF "_law_kind" s__law_kind, dF "_law_words" s__law_words, dF "_law_graph" s__law_graph, dF "_law_built" s__law_built, dF "_law_row" s__law_row, dF "_law_step" s__law_step, dF "_law_behind" s__law_behind, dF "_law_told" s__law_told, dF "_law_start" s__law_start, dF "_law_spot" s__law_spot, dF "_law_loads" s__law_loads, dF "_law_possible" s__law_possible, dF "_law_due" s__law_due, dF "_law_name" s__law_name, dF "_law_tops" s__law_tops, dF "_law_stands" s__law_stands, dF "_law_right" s__law_right, dF "law" s_law, dF "is_name" s_is_name, dF "is_small" s_is_small, dF "is_pair" s_is_pair, dF "is_change" s_is_change, dF "is_transition" s_is_transition, dF "are_names" s_are_names, dF "reached_from" s_reached_from, dF "are_one_loop" s_are_one_loop, dF "states_of" s_states_of, dF "fit_counters" s_fit_counters, dF "require_parts" s_require_parts, dF "is_integer" s_is_integer, dF "is_many" s_is_many, dF "require_graph" s_require_graph, dF "require_name" s_require_name, dF "require_counter" s_require_counter, dF "require_state" s_require_state, dF "require_many" s_require_many, dF "can_take" s_can_take, dF "possible_in" s_possible_in, dMK "Graph" "__init__" "Graph.__init__" "states" s_Graph___init__, dCD "Graph" "of" "Graph.of" s_Graph_of, dM "Graph" "__eq__" "Graph.__eq__" s_Graph___eq__, dP "Machine" "graph" "Machine.graph" s_Machine_graph, dP "Machine" "state" "Machine.state" s_Machine_state, dP "Machine" "loads" "Machine.loads" s_Machine_loads, dP "Machine" "steps" "Machine.steps" s_Machine_steps, dP "Machine" "log" "Machine.log" s_Machine_log, dP "Machine" "possible" "Machine.possible" s_Machine_possible, dM "Machine" "take" "Machine.take" s_Machine_take, dM "Machine" "take_all" "Machine.take_all" s_Machine_take_all, dM "Machine" "taken" "Machine.taken" s_Machine_taken, dM "Machine" "highest" "Machine.highest" s_Machine_highest, dM "Machine" "__contains__" "Machine.__contains__" s_Machine___contains__, dM "Machine" "__str__" "Machine.__str__" s_Machine___str__, dMN "Machine" "__init__" "Machine.__init__" "start" s_Machine___init__, dM "Moment" "__init__" "Moment.__init__" s_Moment___init__, dM "Moment" "behind" "Moment.behind" s_Moment_behind, dM "NotEnough" "__init__" "NotEnough.__init__" s_NotEnough___init__]
def frees : List He.Fa := [.free "len", .free "int", .free "abs", .free "max", .free "min", .free "range", .free "isinstance", .free "all", .free "any", .free "tuple", .free "list", .free "str", .free "zip", .free "bool", .free "repr", .free "iter", .free "enumerate", .free "set", .free "sorted", .free "dict", .free "sum"]
def glos : List He.Fa := [.glo "_law_dice", .glo "_law_roll", .glo "_law_one_of", .glo "_law_mixed", .glo "_law_change", .glo "_law_kind", .glo "_law_words", .glo "_law_graph", .glo "_law_built", .glo "_law_row", .glo "_law_step", .glo "_law_behind", .glo "_law_told", .glo "_law_start", .glo "_law_spot", .glo "_law_loads", .glo "_law_possible", .glo "_law_due", .glo "_law_name", .glo "_law_tops", .glo "_law_stands", .glo "_law_right", .glo "law", .glo "is_name", .glo "is_small", .glo "is_pair", .glo "is_change", .glo "is_transition", .glo "are_names", .glo "reached_from", .glo "are_one_loop", .glo "states_of", .glo "fit_counters", .glo "require_parts", .glo "is_integer", .glo "is_many", .glo "require_graph", .glo "require_name", .glo "require_counter", .glo "require_state", .glo "require_many", .glo "can_take", .glo "possible_in"]
def keM15 : List Value := [.type "KeyError", .type "LookupError", .type "Exception", .type "BaseException", .type "object"]
def ieM15 : List Value := [.type "IndexError", .type "LookupError", .type "Exception", .type "BaseException", .type "object"]
def aeM15 : List Value := [.type "ArithmeticError", .type "Exception", .type "BaseException", .type "object"]
def leM15 : List Value := [.type "LookupError", .type "Exception", .type "BaseException", .type "object"]
def xiB (K : PySem.W.Frag) (C : Addr) (bm : List Value) (n : String) : Bool := PySem.W.excInitIn K C bm n && (PySem.W.excOver K C bm && (He.eqO (PySem.W.findIn K (.ref C) "__setattr__") (some (some (.builtin "object.__setattr__"))) && (PySem.W.hasDictIn K C && PySem.W.keepIn K (.ref C))))
def vB (K : PySem.W.Frag) (B : String) (i : String) : Bool := match PySem.W.findCls K (.type B) (.type "type") "__init__" with
  | some (.val (.builtin n)) => decide (n = i)
  | _ => false
def aM (K : PySem.W.Frag) : AdsM where
  C := He.ga K "Machine"
  M := He.ga K "Moment"
  fi := He.ma K (He.ga K "Machine") "__init__"
  tk := He.ma K (He.ga K "Machine") "take"
  ta := He.ma K (He.ga K "Machine") "take_all"
  tn := He.ma K (He.ga K "Machine") "taken"
  hg := He.ma K (He.ga K "Machine") "highest"
  pg := He.ma K (He.ga K "Machine") "graph"
  ps := He.ma K (He.ga K "Machine") "state"
  pl := He.ma K (He.ga K "Machine") "loads"
  pn := He.ma K (He.ga K "Machine") "steps"
  pL := He.ma K (He.ga K "Machine") "log"
  pp := He.ma K (He.ga K "Machine") "possible"
  ct := He.ma K (He.ga K "Machine") "__contains__"
  st := He.ma K (He.ga K "Machine") "__str__"
  eq := He.ma K (He.ga K "Machine") "__eq__"
  bk := He.ma K (He.ga K "Machine") "back"
  tw := He.ma K (He.ga K "Machine") "twin"
  wk := He.ma K (He.ga K "Machine") "walk"
  fm := He.ma K (He.ga K "Moment") "__init__"
  bh := He.ma K (He.ga K "Moment") "behind"
  gg := He5.wf K (He.ga K "Machine") "property" "graph"
  gs := He5.wf K (He.ga K "Machine") "property" "state"
  gl := He5.wf K (He.ga K "Machine") "property" "loads"
  gn := He5.wf K (He.ga K "Machine") "property" "steps"
  gL := He5.wf K (He.ga K "Machine") "property" "log"
  gp := He5.wf K (He.ga K "Machine") "property" "possible"
def aX (K : PySem.W.Frag) : AdsE where
  IG := He.ga K "InvalidGraph"
  IO := He.ga K "InvalidOperation"
  UN := He.ga K "UnknownName"
  fU := He.ma K (He.ga K "UnknownName") "__init__"
  IN := He.ga K "InvalidNumber"
  fN := He.ma K (He.ga K "InvalidNumber") "__init__"
  NE := He.ga K "NotEnough"
  fE := He.ma K (He.ga K "NotEnough") "__init__"
  NU := He.ga K "NothingToUndo"
  fH := He.ma K (He.ga K "NothingToUndo") "__init__"
def errL (K : PySem.W.Frag) : List (List Bool) := [[xiB K (aX K).UN keM15 "LookupError.__new__", He.eqO (PySem.W.findIn K (.ref (aX K).UN) "__init__") (some (some (.ref (aX K).fU))), decide (PySem.W.typeIn K (.ref (aX K).fU) = some (.type "function")), decide (PySem.W.subIn K (.ref (aX K).UN) (.type "BaseException") = some true), decide (PySem.W.typeIn K (.ref (aX K).UN) = some (.type "type")), xfB K (aX K).UN, He.eqO (PySem.W.findIn K (.ref (aX K).UN) "name") (some none), He.eqO (PySem.W.takerIn K (aX K).UN "name") (some none), vB K "KeyError" "KeyError.__init__"], [xiB K (aX K).IN ieM15 "IndexError.__new__", He.eqO (PySem.W.findIn K (.ref (aX K).IN) "__init__") (some (some (.ref (aX K).fN))), decide (PySem.W.typeIn K (.ref (aX K).fN) = some (.type "function")), decide (PySem.W.subIn K (.ref (aX K).IN) (.type "BaseException") = some true), decide (PySem.W.typeIn K (.ref (aX K).IN) = some (.type "type")), xfB K (aX K).IN, He.eqO (PySem.W.findIn K (.ref (aX K).IN) "value") (some none), He.eqO (PySem.W.takerIn K (aX K).IN "value") (some none), vB K "IndexError" "IndexError.__init__"], [xiB K (aX K).NE aeM15 "ArithmeticError.__new__", He.eqO (PySem.W.findIn K (.ref (aX K).NE) "__init__") (some (some (.ref (aX K).fE))), decide (PySem.W.typeIn K (.ref (aX K).fE) = some (.type "function")), decide (PySem.W.subIn K (.ref (aX K).NE) (.type "BaseException") = some true), decide (PySem.W.typeIn K (.ref (aX K).NE) = some (.type "type")), xfB K (aX K).NE, He.eqO (PySem.W.findIn K (.ref (aX K).NE) "counter") (some none), He.eqO (PySem.W.takerIn K (aX K).NE "counter") (some none), vB K "ArithmeticError" "ArithmeticError.__init__"], [xiB K (aX K).NU leM15 "LookupError.__new__", He.eqO (PySem.W.findIn K (.ref (aX K).NU) "__init__") (some (some (.ref (aX K).fH))), decide (PySem.W.typeIn K (.ref (aX K).fH) = some (.type "function")), decide (PySem.W.subIn K (.ref (aX K).NU) (.type "BaseException") = some true), decide (PySem.W.typeIn K (.ref (aX K).NU) = some (.type "type")), xfB K (aX K).NU, He.eqO (PySem.W.findIn K (.ref (aX K).NU) "many") (some none), He.eqO (PySem.W.takerIn K (aX K).NU "many") (some none), vB K "LookupError" "LookupError.__init__"]]
def errPB (K : PySem.W.Frag) : Bool := (errL K).all fun l => l.all id
def exmB (K : PySem.W.Frag) : Bool := (List.range 6).all fun i => (List.range 6).all fun j => decide (PySem.W.exmOne K (.ref ((aX K).at i)) (.ref ((aX K).at j)) = some (decide (i = j)))
def machL (K : PySem.W.Frag) : List Bool := [propB K (aM K).C "graph", propB K (aM K).C "state", propB K (aM K).C "loads", propB K (aM K).C "steps", propB K (aM K).C "log", propB K (aM K).C "possible", He.eqO (PySem.W.findIn K (.ref (aM K).C) "__contains__") (some (some (.ref (aM K).ct))), PySem.W.isFn K (.ref (aM K).ct), He.eqO (PySem.W.findIn K (.ref (aM K).C) "__str__") (some (some (.ref (aM K).st))), PySem.W.isFn K (.ref (aM K).st)]
def machB (K : PySem.W.Frag) : Bool := (machL K).all id
def fas : List He.Fa := [.glo "InvalidGraph", .exc "InvalidGraph", .glo "InvalidOperation", .exc "InvalidOperation", .glo "UnknownName", .glo "InvalidNumber", .glo "NotEnough", .glo "NothingToUndo", .free "KeyError", .free "IndexError", .free "ArithmeticError", .free "LookupError", .glo "Machine", .cls "Machine", .noat "Machine" "own_graph", .noat "Machine" "own_now", .noat "Machine" "own_past", .noat "Machine" "own_log", .mkr "Machine", .meth "Machine" "take", .meth "Machine" "take_all", .meth "Machine" "taken", .meth "Machine" "highest", .glo "Moment", .cls "Moment", .noat "Moment" "own_state", .noat "Moment" "own_loads", .noat "Moment" "own_tops", .mkr "Moment", .meth "Moment" "behind"]
def fasB (K : PySem.W.Frag) : Bool := fas.all fun f => f.ok K
def lams : List Str := [("_law_right" : Str), ("law" : Str)]
def tabsB (K : PySem.W.Frag) : Bool := decide ((lams.map fun x => Hd.tabAt K x).Nodup)
def ex (K : PySem.W.Frag) : Bool := (glos.all fun f => f.ok K) && ((frees.all fun f => f.ok K) && ((graphFa.all fun f => f.ok K) && (graphB K && [machB K, errPB K, exmB K, fasB K, tabsB K].all id)))
abbrev R : PySem.W.OpenRow := PySem.W.OpenLaw.row PySem.Challenge.rw_loopgrowth_k15_machines_step_by_step
abbrev hk : PySem.W.Hook := Hd.hookT lams 5 ex fn
def ob (s : PySem.W.SharedT) : He.AlD := Hd.obsT lams 5 ex fn (HandSHeadRun.getT s)
theorem ob_eq (s : PySem.W.SharedT) : ob s = hk.obs s.abs := Hd.obsT_eq (HandSHeadRun.getT_eq s)
def loose : List Str := [("_wall" : Str), ("LoopError" : Str), ("InvalidGraph" : Str), ("InvalidOperation" : Str), ("InvalidNumber" : Str), ("UnknownName" : Str), ("NotEnough" : Str), ("NothingToUndo" : Str), ("MAX_COUNTERS" : Str), ("MAX_STATES" : Str), ("MAX_TRANSITIONS" : Str), ("MAX_CHANGE" : Str), ("MAX_NAME" : Str), ("LETTERS" : Str), ("is_name" : Str), ("is_small" : Str), ("is_pair" : Str), ("is_change" : Str), ("is_transition" : Str), ("are_names" : Str), ("reached_from" : Str), ("are_one_loop" : Str), ("states_of" : Str), ("fit_counters" : Str), ("require_parts" : Str), ("Graph" : Str), ("require_known" : Str), ("is_integer" : Str), ("is_many" : Str), ("require_graph" : Str), ("require_name" : Str), ("require_counter" : Str), ("require_state" : Str), ("require_many" : Str), ("Moment" : Str), ("Machine" : Str), ("can_take" : Str), ("possible_in" : Str), ("_law_dice" : Str), ("_law_roll" : Str), ("_law_one_of" : Str), ("_law_mixed" : Str), ("_law_change" : Str), ("_law_kind" : Str), ("_law_words" : Str), ("_law_graph" : Str), ("_law_built" : Str), ("_law_row" : Str), ("_law_step" : Str), ("_law_behind" : Str), ("_law_told" : Str), ("_law_start" : Str), ("_law_spot" : Str), ("_law_loads" : Str), ("_law_possible" : Str), ("_law_due" : Str), ("_law_name" : Str), ("_law_tops" : Str), ("_law_stands" : Str), ("_law_right" : Str)]
def kOf (s : PySem.W.SharedT) : PySem.W.Frag := He.frG (HandSHeadRun.getT s) (Hd.asT lams (HandSHeadRun.getT s) 5)
def obA (s : PySem.W.SharedT) : Bool := let K := kOf s; (glos.all fun f => f.ok K) && ((frees.all fun f => f.ok K) && ((graphFa.all fun f => f.ok K) && graphB K))
def obB (s : PySem.W.SharedT) : Bool := let K := kOf s; [machB K, errPB K, exmB K, fasB K, tabsB K].all id && Hd.tabsB lams K (HandSHeadRun.getT s)
def obC (s : PySem.W.SharedT) : Bool × List He5.FnW := let K := kOf s; (fn.all fun d => d.ok K, fn.map fun d => He5.fnA K (d.at_ K))
theorem ob_join {o : Option PySem.W.SharedT} (hA : o.map obA = some true) (hB : o.map obB = some true) (hC : o.map obC = some (true, fn.map He5.DefA.val)) : o.map ob = some (He5.valA fn) := by
  cases o with
  | none => cases hA
  | some s =>
    have a1 : obA s = true := Option.some.inj hA
    have b1 : obB s = true := Option.some.inj hB
    have c1 := Option.some.inj hC
    obtain ⟨b2, b3⟩ := Bool.and_eq_true_iff.mp b1
    obtain ⟨a2, a1⟩ := Bool.and_eq_true_iff.mp a1
    obtain ⟨a3, a1⟩ := Bool.and_eq_true_iff.mp a1
    obtain ⟨a4, a5⟩ := Bool.and_eq_true_iff.mp a1
    have x1 : ex (kOf s) = true := by
      unfold ex
      rw [a2, a3, a4, a5, b2]; rfl
    have c2 : (fn.all fun d => d.ok (kOf s)) = true := congrArg (fun z => z.1) c1
    have c3 : (fn.map fun d => He5.fnA (kOf s) (d.at_ (kOf s))) = fn.map He5.DefA.val := congrArg (fun z => z.2) c1
    show some (((ex (kOf s) && fn.all fun d => d.ok (kOf s)) && Hd.tabsB lams (kOf s) (HandSHeadRun.getT s), fn.map fun d => He5.fnA (kOf s) (d.at_ (kOf s))) : He.AlD) = some (true, fn.map He5.DefA.val)
    rw [x1, c2, b3, c3]; rfl
theorem run_join {α β γ δ : Type} {o : Option α} {f1 : α → β} {f2 : α → γ} {f3 : α → δ} {b : β} {c : γ} {d : δ} (h : o.map (fun s => (f1 s, f2 s)) = some (b, c)) (h3 : o.map f3 = some d) : o.map (fun s => (f1 s, f2 s, f3 s)) = some (b, c, d) := by
  cases o with
  | none => cases h
  | some s =>
    have e := Option.some.inj h
    have e3 : f3 s = d := Option.some.inj h3
    have e1 : f1 s = b := congrArg (fun z => z.1) e
    have e2 : f2 s = c := congrArg (fun z => z.2) e
    show some (f1 s, f2 s, f3 s) = _
    rw [e1, e2, e3]
theorem runA (w : World) : ∀ os, (HandSHeadRun.endF (HandSHeadRun.stepQ (HandSHeadRun.denQ HandSHeadRun.tabQ) R.prog w) 20000 R.prog w os).map obA = some true := by
  intro os
  kernel_rfl
theorem runB (w : World) : ∀ os, (HandSHeadRun.endF (HandSHeadRun.stepQ (HandSHeadRun.denQ HandSHeadRun.tabQ) R.prog w) 20000 R.prog w os).map obB = some true := by
  intro os
  kernel_rfl
theorem runC (w : World) : ∀ os, (HandSHeadRun.endF (HandSHeadRun.stepQ (HandSHeadRun.denQ HandSHeadRun.tabQ) R.prog w) 20000 R.prog w os).map obC = some (true, fn.map He5.DefA.val) := by
  intro os
  kernel_rfl
open PySem PySem.W PySem.Calls PyProof.Rows HandSHeadRun in
theorem runL (w : World) : ∀ os, (HandSHeadRun.endF (HandSHeadRun.stepQ (HandSHeadRun.denQ HandSHeadRun.tabQ) R.prog w) 20000 R.prog w os).map (fun s => (looksF R.prog (boot_heap w.params) s.abs, seenQ (PySem.W.view R.prog [65]) loose (importedModules R.prog.main.body) (fun s => xlAt (PySem.W.view R.prog [65]) [] s && recOk R.toRowW.records s) s.abs)) = some (true, openGood (PySem.W.view R.prog [65]) loose) := by
  intro os
  kernel_rfl
theorem run (w : World) : HandSHeadRun.RunEq R (PySem.W.view R.prog [65]) hk ob 20000 loose w := by
  intro os
  exact run_join (runL w os) (ob_join (runA w os) (runB w os) (runC w os))
abbrev q35 : Program := PySem.W.view R.prog [65]
abbrev dL : DefRec := HandSHeadRun.topDef R.prog 65
theorem h_open : PySem.W.opening R.prog = PySem.W.plainProg R.prog.main.scope.names := by kernel_rfl
theorem h_fence (s : Shared) : fenceModules? R.prog s = some s := by kernel_rfl
theorem h_def : PySem.W.defOf q35 R.name = some (dL, []) := by kernel_rfl
theorem h_the : R.prog.theDef R.name = some (dL.params, dL.body, dL.scope) := by kernel_rfl
theorem h_kw : PySem.W.kwWritten? dL.params.kwonlyargs dL.params.kw_defaults = some [] := by kernel_rfl
theorem h_said : R.wellSaid = true := by decide +kernel
theorem h_ok : (PySem.W.chainsOk q35 && PySem.W.opensWell R.prog && (PySem.W.frees R.toRowW && R.within.isEmpty)) = true := by decide +kernel
theorem h_bare : R.prog.bare := ⟨rfl, rfl, rfl, rfl, rfl, by decide +kernel⟩
theorem h_name : dL.name = ("law" : Str) := by kernel_rfl
theorem h_dfl : dL.params.defaults = [] := by kernel_rfl
theorem h_prom : R.toRowW.promised := by w_witness2
end HE0
set_option Elab.async false
set_option linter.all false
set_option maxRecDepth 100000
set_option maxHeartbeats 4000000
namespace Rd
open PySem PySem.Spec PySem.Froz PyProof.Rows L2
def txOf (e : Int × Value) : Str := match e.2 with | .str k _ => k | _ => Str.empty
/-- the set of the texts l at a, which can be walked -/
def SetS (P : Program) (w : World) (h : Heap) (a : Addr) (l : List Str) : Prop := ∃ D : SD, h.get? a = some (Froz.sObj "set" D) ∧ TxOk P w D l ∧ (D.1.toList.map txOf).Perm l ∧ l.Nodup ∧ Ris D.2.2.place.toList ∧ (w.params.followText "set-order" = true ∨ D.2.2.led = true)
section
variable {P : Program} {w : World} {h h' : Heap} {a : Addr} {l : List Str}
theorem SetS.at (R : SetS P w h a l) (k : ∀ o, h.get? a = some o → h'.get? a = some o) : SetS P w h' a l := by
  obtain ⟨D, ho, r⟩ := R
  exact ⟨D, k _ ho, r⟩
theorem addTx_facts {x : Int} {v : Value} {D : SD} (r : Ris D.2.2.place.toList) : (addTx x v D).1.toList.Perm (D.1.push (x, v)).toList ∧ Ris (addTx x v D).2.2.place.toList ∧ (addTx x v D).2.2.led = D.2.2.led := by
  have p1 := layNew_perm D.2.2 D.1 x v
  have r1 := layNew_ris D.2.2 D.1 x v r
  have l1 := layNew_led D.2.2 D.1 x v
  unfold addTx tailTx
  generalize layNew D.2.2 D.1 x v = Z at p1 r1 l1 ⊢
  obtain ⟨e1, t1, wd, gv⟩ := Z
  dsimp only at p1 r1 l1 ⊢
  have r2 : Ris (if t1.plain = true then { t1 with plain := false } else t1).place.toList := by split <;> exact r1
  have l2 : (if t1.plain = true then { t1 with plain := false } else t1).led = D.2.2.led := by split <;> exact l1
  generalize (if t1.plain = true then { t1 with plain := false } else t1) = t2 at r2 l2 ⊢
  split
  · exact ⟨(relayAll_perm t2 e1 _).trans p1, relayAll_ris t2 e1 _, (relayAll_led t2 e1 _).trans l2⟩
  · exact ⟨p1, r2, l2⟩
end
section
variable {P : Program} {w : World} {A : Around} {E : Value → Shared → Prop} {s : Shared} {a : Addr} {l : List Str}
/-- a text is put in -/
def putT (l : List Str) (k : Str) : List Str := if k ∈ l then l else l ++ [k]
theorem setS_add {k : Str} {u : Tok} {Q : Bool → Shared → Prop} (R : SetS P w s.heap a l) (room : l.length + 1 < scanBound) (hQ : ∀ (b : Bool) h2, Heap.SameBut a s.heap h2 → SetS P w h2 a (putT l k) → Q b { s with heap := h2 }) :
    wpAny (model P w) A (setAddHashed a (.str k u) (hashStr w k)) Q E s := by
  obtain ⟨D, ho, F, pm, nd, hr, hl⟩ := id R
  by_cases hk : k ∈ l
  · have el : ElemsOf (strKind P w) D.1.toList := F.el
    have sz : D.1.size = l.length := F.sz
    unfold setAddHashed setAddHashedIn
    refine wpAny_holding (wpAny_bind (wpAny_setState_of (es := D.1) (ep := D.2.1) (t := D.2.2) ho rfl F.fit ?_))
    dsimp only
    rw [byScan_of (knd := strKind P w) rfl (by omega) el]
    simp only [↓reduceIte]
    unfold setAddByScan
    refine wpAny_bind (wpAny_bind (wpAny_rule (wpAny_bind (wpAny_setScan_of (knd := strKind P w) (k := k) (is_str k u) ho rfl F.fit el ?_))))
    cases hf : List.findIdx? (fun e => (strKind P w).is k e.2) D.1.toList with
    | none =>
      obtain ⟨e, he, q⟩ := (F.mem k).mp hk
      have := List.findIdx?_eq_none_iff.mp hf e he
      rw [q] at this
      cases this
    | some j =>
      dsimp only
      refine wpAny_pure (wpAny_pure ?_)
      have := hQ false s.heap (Heap.SameBut.refl a s.heap) (by unfold putT; rw [if_pos hk]; exact R)
      exact this
  · refine add_x ho F hk room (hQ true _ (Heap.SameBut.update _ _ _) ?_)
    obtain ⟨p1, r1, l1⟩ := addTx_facts (x := hashStr w k) (v := .str k u) hr
    have F1 := add_ok (k := k) u F
    have e1 : putT l k = l ++ [k] := by unfold putT; rw [if_neg hk]
    rw [e1]
    have pl : (k :: l).Perm (l ++ [k]) := (List.perm_append_singleton k l).symm
    refine ⟨_, get_upd _ ho rfl, ⟨F1.el, fun z => (pl.mem_iff.symm.trans (F1.mem z)), by rw [F1.sz, pl.length_eq], F1.fit⟩, ?_, pl.nodup_iff.mp (List.nodup_cons.mpr ⟨hk, nd⟩), r1, hl.imp id fun z => l1.trans z⟩
    have p2 := p1.map txOf
    rw [Array.toList_push, List.map_append] at p2
    exact p2.trans (pm.append_right _)
/-- without repeats, in the order of their first places -/
def dedT (xs : List Str) : List Str := xs.foldl putT []
theorem dedT_snoc (xs : List Str) (k : Str) : dedT (xs ++ [k]) = putT (dedT xs) k := by unfold dedT; rw [List.foldl_append]; rfl
theorem mem_putT {xs : List Str} {k z : Str} : z ∈ putT xs k ↔ z ∈ xs ∨ z = k := by
  unfold putT
  by_cases h : k ∈ xs
  · rw [if_pos h]
    exact ⟨.inl, fun q => q.elim id fun e => e ▸ h⟩
  · rw [if_neg h, List.mem_append, List.mem_singleton]
theorem len_putT (xs : List Str) (k : Str) : (putT xs k).length ≤ xs.length + 1 := by
  unfold putT
  split
  · omega
  · rw [List.length_append]; exact Nat.le_refl _
theorem mem_fold : ∀ (xs acc : List Str) (z : Str), z ∈ xs.foldl putT acc ↔ z ∈ acc ∨ z ∈ xs
  | [], acc, z => by simp
  | k :: xs, acc, z => by
    rw [List.foldl_cons, mem_fold xs, mem_putT, List.mem_cons, or_assoc]
theorem mem_dedT {xs : List Str} {z : Str} : z ∈ dedT xs ↔ z ∈ xs := by
  unfold dedT
  rw [mem_fold]
  simp
theorem len_fold : ∀ (xs acc : List Str), (xs.foldl putT acc).length ≤ acc.length + xs.length
  | [], acc => by simp
  | k :: xs, acc => by
    rw [List.foldl_cons, List.length_cons]
    have := len_fold xs (putT acc k)
    have := len_putT acc k
    omega
theorem len_dedT (xs : List Str) : (dedT xs).length ≤ xs.length := by
  have := len_fold xs []
  unfold dedT
  simpa using this
theorem nodup_putT {xs : List Str} {k : Str} (h : xs.Nodup) : (putT xs k).Nodup := by
  unfold putT
  split
  · exact h
  · rename_i q
    exact (List.perm_append_singleton k xs).nodup_iff.mpr (List.nodup_cons.mpr ⟨q, h⟩)
theorem nodup_fold : ∀ (xs acc : List Str), acc.Nodup → (xs.foldl putT acc).Nodup
  | [], _, h => h
  | k :: xs, acc, h => nodup_fold xs _ (nodup_putT h)
theorem nodup_dedT (xs : List Str) : (dedT xs).Nodup := nodup_fold xs [] List.nodup_nil
theorem fold_new : ∀ (xs acc : List Str), (acc ++ xs).Nodup → xs.foldl putT acc = acc ++ xs
  | [], acc, _ => by simp
  | k :: xs, acc, h => by
    have hk : k ∉ acc := fun q => by
      have := List.nodup_append.mp h
      exact this.2.2 k q k List.mem_cons_self rfl
    rw [List.foldl_cons]
    have e : putT acc k = acc ++ [k] := by unfold putT; rw [if_neg hk]
    rw [e, fold_new xs _ (by rw [List.append_assoc]; exact h), List.append_assoc]
    rfl
theorem dedT_nodup {xs : List Str} (h : xs.Nodup) : dedT xs = xs := by
  have := fold_new xs [] (by simpa using h)
  simpa [dedT] using this
abbrev set0 (w : World) : Obj := { cls := .type "set", dict := none, data := .set #[] 0 (.fresh 0 0 (!w.params.followText "set-order")) }
theorem setS_new {h : Heap} (ho : h.get? a = some (set0 w)) : SetS P w h a [] :=
  ⟨(#[], 0, _), ho, TxOk.nil rfl, List.Perm.refl _, List.nodup_nil, List.Pairwise.nil, by
    show _ ∨ (!w.params.followText "set-order") = true
    cases w.params.followText "set-order" <;> simp⟩
/-- the texts of an iterator are put in, one by one -/
theorem set_update_txt {I : Addr} {fp wr : List Addr} {G : Array GenState → Array GenState → Prop} {Pv : Nat → Value → Prop} {St : Nat → Shared → Prop} {R : Result → Shared → Prop} (ns : List Str) (S : Addr)
    (W : WalksS P w A.in1 I fp wr G ns.length Pv St) (hSf : S ∉ fp) (hb : ns.length + 1 < scanBound) (hval : ∀ i v, Pv i v → ∃ k t, ns[i]? = some k ∧ v = .str k t)
    (hR : ∀ s0 s2, Moved (S :: wr) G s0 s2 → s0 = s → SetS P w s2.heap S (dedT ns) → R (.ok (.ret .none)) s2) :
    St 0 s → SetS P w s.heap S [] → codeAny (model P w) A (.builtin "set.update.loop" ⟨[.ref S, .ref I], []⟩) R s := by
  have hSw : S ∉ wr := fun q => hSf (W.sub _ q)
  have sub : ∀ b ∈ wr, b ∈ S :: wr := fun b q => List.mem_cons_of_mem _ q
  suffices all : ∀ (m i : Nat) (s1 : Shared), ns.length - i = m → i ≤ ns.length → St i s1 → SetS P w s1.heap S (dedT (ns.take i)) → (∀ s2, Moved (S :: wr) G s1 s2 → SetS P w s2.heap S (dedT ns) → R (.ok (.ret .none)) s2) →
      codeAny (model P w) A (.builtin "set.update.loop" ⟨[.ref S, .ref I], []⟩) R s1 from
    fun h0 h1 => all _ 0 s rfl (Nat.zero_le _) h0 h1 fun s2 m2 r2 => hR s s2 m2 rfl r2
  intro m
  induction m with
  | zero =>
    intro i s1 em hi hst hS hR
    obtain rfl : i = ns.length := by omega
    refine codeAny_builtin F.entry_set_update_loop ?_
    rw [Around.under_plainId F.plain_set_update_loop _]
    show wpAny _ A.in1 (pyNext (.ref I) >>= _) _ _ s1
    refine wpAny_bind (W.done s1 _ _ hst fun s2 hm => ?_)
    show wpAny _ A.in1 (ret Value.none) _ _ s2
    rw [List.take_length] at hS
    exact wpAny_pure (hR s2 (hm.mono sub) (hS.at fun o e => hm.heap S o hSw e))
  | succ m ih =>
    intro i s1 em hi hst hS hR
    have hlt : i < ns.length := by omega
    refine codeAny_builtin F.entry_set_update_loop ?_
    rw [Around.under_plainId F.plain_set_update_loop _]
    show wpAny _ A.in1 (pyNext (.ref I) >>= _) _ _ s1
    refine wpAny_bind (W.item i s1 _ _ hlt hst fun v s2 hP hst2 hm => ?_)
    obtain ⟨z, t, hz, rfl⟩ := hval i v hP
    have hS2 := hS.at (h' := s2.heap) fun o e => hm.heap S o hSw e
    show wpAny _ A.in1 (holding [Value.str z t] (setAdd S (.str z t)) >>= _) _ _ s2
    refine wpAny_bind (wpAny_holding ?_)
    unfold setAdd
    refine wpAny_holding (wpAny_bind ((strKind P w).pyHash (k := z) (is_str z t) ?_))
    have hlen := len_dedT (ns.take i)
    rw [List.length_take] at hlen
    refine setS_add (s := { s2 with toks := s2.toks + 1 }) hS2 (by omega) fun b h2 hsb hS3 => ?_
    rw [← dedT_snoc] at hS3
    have et : ns.take (i + 1) = ns.take i ++ [z] := by rw [List.take_add_one, hz]; rfl
    rw [← et] at hS3
    refine wpAny_pure ⟨plainId_quiet F.plain_set_update_loop _, ih (i + 1) _ (by omega) hlt (W.frame _ s2 _ _ hst2 (Nat.le_succ _) fun c hc o e => ?_) hS3 fun s3 hm3 hS4 => ?_⟩
    · rw [hsb.2 c fun q => hSf (q ▸ hc)]
      exact e
    · refine hR s3 (Moved.trans W.gtrans ((hm.mono sub).then_heap (Nat.le_succ _) fun c o hc e => ?_) hm3) hS4
      rw [hsb.2 c fun q => hc (q ▸ List.mem_cons_self)]
      exact e
set_option maxHeartbeats 16000000 in
/-- set(v), v a tuple or a list of texts -/
theorem call_set_txt {v : Addr} {items : Array Value} {T : String} (ns : List Str) {Q : Value → Shared → Prop} (hh : A.handled = none) (hT : (T = "tuple" ∧ s.heap.IsTuple v items) ∨ (T = "list" ∧ s.heap.IsList v items))
    (hval : ∀ (i : Nat) (x : Value), items[i]? = some x → ∃ k t, ns[i]? = some k ∧ x = .str k t) (hsz : items.size = ns.length) (hb : ns.length + 1 < scanBound)
    (hQ : ∀ (h2 : Heap) (tk : Nat), SetS P w h2 s.heap.objs.size (dedT ns) → (∀ b o, s.heap.get? b = some o → h2.get? b = some o) → Q (.ref s.heap.objs.size) { s with heap := h2, toks := tk }) :
    wpAny (model P w) A (call (.type "set") [.ref v]) Q E s := by
  obtain ⟨c, tl, hmro⟩ := F.called_set.mro
  have hmade := F.called_set.made
  have hsub := F.called_set.sub
  refine wpAny_call (codeAny_of_tree ?_)
  show wpAny _ _ (callAny (.type "set") _) _ _ _
  refine wpAny_pure ⟨Code.quiet_builtin _ (by decide +kernel), codeAny_builtin F.entry_type_call ?_⟩
  rw [Around.under_plain (weight_type_call_type "set" [.ref v] []) rfl]
  have n1 := F.called_set.notType
  have n2 := F.called_set.canCreate
  have n3 := F.typeCall_set_1 (.ref v)
  repeat (any_goals (first | assumption | wp_step))
  refine codeAny_mono (code_set_led1 (.ref v) (E := E) (Q₁ := fun obj s1 => obj = .ref s.heap.objs.size ∧ s1 = { s with heap := s.heap.push (set0 w) }) ⟨rfl, rfl⟩) fun r s1 hr => ?_
  match r, hr with
  | .error e, hr => exact hr
  | .ok .next, hr => exact hr.elim
  | .ok .brk, hr => exact hr.elim
  | .ok .cont, hr => exact hr.elim
  | .ok (.ret obj), hr =>
    obtain ⟨rfl, rfl⟩ := hr
    have hS : (s.heap.push (set0 w)).get? s.heap.objs.size = some (set0 w) := Heap.get?_push_size _ rfl
    have hTy : Shared.TypeIs { s with heap := s.heap.push (set0 w) } (.ref s.heap.objs.size) "set" := ⟨_, hS, rfl⟩
    have i1 := F.called_set.init.lookup
    have i2 := F.called_set.init.bind (.ref s.heap.objs.size)
    repeat (any_goals (first | assumption | wp_step))
    refine codeAny_mono (codeAny_call_builtin (R := wants (fun r s2 => r = .none ∧ ∃ h2 tk, s2 = { s with heap := h2, toks := tk } ∧ SetS P w h2 s.heap.objs.size (dedT ns) ∧ ∀ b o, s.heap.get? b = some o → h2.get? b = some o) E) F.called_set.init.plain F.entry_set_init (check_set_init_1 hTy ?_)) fun r2 s2 hr2 => ?_
    · have hz1 : (s.heap.push (set0 w)).objs.size = s.heap.objs.size + 1 := Heap.size_push ..
      have h3 : A.in1.in1.in1.handled = none := by simp [hh]
      have fin : ∀ {I : Addr} {G : Array GenState → Array GenState → Prop} {s0 s2 : Shared} {wr : List Addr}, Moved (s.heap.objs.size :: wr) G s0 s2 → (∀ b ∈ wr, s.heap.objs.size ≤ b) → (G = fun a b => b = a) → SetS P w s2.heap s.heap.objs.size (dedT ns) → (∀ b o, s.heap.get? b = some o → s0.heap.get? b = some o) → s0.gens = s.gens → s0.drawn = s.drawn → s0.os = s.os →
          ∃ h2 tk, s2 = { s with heap := h2, toks := tk } ∧ SetS P w h2 s.heap.objs.size (dedT ns) ∧ ∀ b o, s.heap.get? b = some o → h2.get? b = some o := by
        intro I G s0 s2 wr hm hwr hG r2 k0 g0 d0 o0
        obtain ⟨h2, g2, d2, tk2, os2⟩ := s2
        subst hG
        have eg : g2 = s0.gens := hm.gens
        have ed : d2 = s0.drawn := hm.drawn
        have eo : os2 = s0.os := hm.os
        refine ⟨h2, tk2, ?_, r2, fun b o e => hm.heap b o (fun z => ?_) (k0 b o e)⟩
        · rw [eg, ed, eo, g0, d0, o0]
        · have hb0 : b < s.heap.objs.size := Heap.lt_size e
          rcases List.mem_cons.mp z with q | q
          · exact absurd hb0 (by rw [q]; exact Nat.lt_irrefl _)
          · exact absurd hb0 (Nat.not_lt_of_le (hwr b q))
      rcases hT with ⟨rfl, hl⟩ | ⟨rfl, hl⟩
      · obtain ⟨ol, hol, hcl, nl, hdl⟩ := hl
        obtain ⟨ocls, odict, odata, oslots⟩ := ol
        simp only at hcl hdl
        subst hcl; subst hdl
        have hol1 := Heap.get?_push_of_some (set0 w) hol
        have q1 := F.sub_tuple_set
        have q2 := F.sub_tuple_frozenset
        have q3 : (Value.type "tuple" == Value.type "dict") = false := by decide
        have hl1 : (s.heap.push (set0 w)).IsTuple v items := ⟨_, hol1, rfl, nl, rfl⟩
        unfold Builtin.«set.__init__» noKeywords Builtin.Frozenset.updateFrom
        generalize hPI : pyIter = PI
        wp_walk
        subst hPI
        have hlS : v < s.heap.objs.size := Heap.lt_size hol
        have nI : v ≠ (s.heap.push (set0 w)).objs.size := by rw [hz1]; exact Nat.ne_of_lt (Nat.lt_succ_of_lt hlS)
        refine wpAny_pyIter_tuple hl1 (wpAny_bind (wpAny_runValue ?_))
        have W := (Walks.tuple (prog := P) (w := w) h3 _ v nI items).toS
        rw [hsz] at W
        refine set_update_txt ns s.heap.objs.size W ?_ hb hval (fun s0 s2 hm e0 r2 => ?_) ⟨⟨_, Heap.get?_push_size _ rfl, rfl, rfl⟩, hl1.push _⟩ (setS_new (Heap.get?_push_of_some _ hS))
        · rw [hz1]
          simp only [List.mem_cons, List.mem_singleton, List.not_mem_nil, or_false, not_or]
          exact ⟨Nat.ne_of_lt (Nat.lt_succ_self _), Nat.ne_of_gt hlS⟩
        · subst e0
          show wpAny _ _ _ _ _ _
          refine wpAny_pure ?_
          show wpAny _ _ (ret Value.none) _ _ _
          refine wpAny_pure ⟨rfl, fin (I := v) hm (fun b q => ?_) rfl r2 (fun b o e => Heap.get?_push_of_some _ (Heap.get?_push_of_some _ e)) rfl rfl rfl⟩
          rw [List.mem_singleton.mp q, hz1]
          exact Nat.le_succ _
      · obtain ⟨ol, hol, hcl, nl, hdl⟩ := hl
        obtain ⟨ocls, odict, odata, oslots⟩ := ol
        simp only at hcl hdl
        subst hcl; subst hdl
        have hol1 := Heap.get?_push_of_some (set0 w) hol
        have q1 := F.sub_list_set
        have q2 := F.sub_list_frozenset
        have q3 : (Value.type "list" == Value.type "dict") = false := by decide
        have hl1 : (s.heap.push (set0 w)).IsList v items := ⟨_, hol1, rfl, nl, rfl⟩
        unfold Builtin.«set.__init__» noKeywords Builtin.Frozenset.updateFrom
        generalize hPI : pyIter = PI
        wp_walk
        subst hPI
        have hlS : v < s.heap.objs.size := Heap.lt_size hol
        have nI : v ≠ (s.heap.push (set0 w)).objs.size := by rw [hz1]; exact Nat.ne_of_lt (Nat.lt_succ_of_lt hlS)
        refine wpAny_pyIter_list hl1 (wpAny_bind (wpAny_runValue ?_))
        have W := (Walks.list (prog := P) (w := w) h3 _ v nI items).toS
        rw [hsz] at W
        refine set_update_txt ns s.heap.objs.size W ?_ hb hval (fun s0 s2 hm e0 r2 => ?_) ⟨⟨_, Heap.get?_push_size _ rfl, rfl, rfl⟩, hl1.push _⟩ (setS_new (Heap.get?_push_of_some _ hS))
        · rw [hz1]
          simp only [List.mem_cons, List.mem_singleton, List.not_mem_nil, or_false, not_or]
          exact ⟨Nat.ne_of_lt (Nat.lt_succ_self _), Nat.ne_of_gt hlS⟩
        · subst e0
          show wpAny _ _ _ _ _ _
          refine wpAny_pure ?_
          show wpAny _ _ (ret Value.none) _ _ _
          refine wpAny_pure ⟨rfl, fin (I := v) hm (fun b q => ?_) rfl r2 (fun b o e => Heap.get?_push_of_some _ (Heap.get?_push_of_some _ e)) rfl rfl rfl⟩
          rw [List.mem_singleton.mp q, hz1]
          exact Nat.le_succ _
    · match r2, hr2 with
      | .error e, hr2 => exact hr2
      | .ok .next, hr2 => exact hr2.elim
      | .ok .brk, hr2 => exact hr2.elim
      | .ok .cont, hr2 => exact hr2.elim
      | .ok (.ret r), hr2 =>
        obtain ⟨rfl, h2, tk, rfl, r3, k3⟩ := hr2
        repeat (any_goals (first | assumption | wp_step))
        exact hQ _ _ r3 k3
end
end Rd
set_option Elab.async false
set_option linter.all false
set_option maxRecDepth 100000
set_option maxHeartbeats 4000000
namespace Rd
open PySem PySem.Spec PySem.Froz PyProof.Rows L2 SrtO
/-- the order of texts -/
def lts (x y : Str) : Bool := decide (x.cps.toList < y.cps.toList)
theorem lts_asym {x y : Str} (h : lts x y = true) : lts y x = false := by
  unfold lts at *
  rw [decide_eq_true_eq] at h
  rw [decide_eq_false_iff_not]
  exact fun q => List.lt_irrefl _ (List.lt_trans h q)
theorem lts_trans {x y z : Str} (h1 : lts x y = true) (h2 : lts y z = true) : lts x z = true := by
  unfold lts at *
  rw [decide_eq_true_eq] at *
  exact List.lt_trans h1 h2
theorem lts_irrefl (x : Str) : lts x x = false := by
  unfold lts
  rw [decide_eq_false_iff_not]
  exact List.lt_irrefl _
theorem lts_total {x y : Str} (h1 : lts x y = false) (h2 : lts y x = false) : x = y := by
  unfold lts at *
  rw [decide_eq_false_iff_not] at *
  have e := List.le_antisymm (List.not_lt.mp h2) (List.not_lt.mp h1)
  cases x
  cases y
  congr 1
  exact Array.toList_inj.mp e
theorem lts_ntr {x y z : Str} (h1 : lts y x = false) (h2 : lts z y = false) : lts z x = false := by
  unfold lts at *
  rw [decide_eq_false_iff_not] at *
  exact List.not_lt.mpr (List.le_trans (List.not_lt.mp h1) (List.not_lt.mp h2))
theorem swo_key (k : Value → Str) : Swo fun v u => lts (k v) (k u) := ⟨fun _ _ h => lts_asym h, fun _ _ _ h1 h2 => lts_ntr h1 h2⟩
/-- rising texts, without repeats -/
def Asc (l : List Str) : Prop := l.Pairwise fun x y => lts x y = true
theorem asc_of {l : List Str} (h : l.Pairwise fun x y => lts y x = false) (nd : l.Nodup) : Asc l := by
  unfold Asc
  have := List.pairwise_and_iff.mpr ⟨h, nd⟩
  refine this.imp fun {x y} ⟨q1, q2⟩ => ?_
  cases q : lts x y with
  | true => rfl
  | false => exact absurd (lts_total q q1) q2
theorem Asc.nodup {l : List Str} (h : Asc l) : l.Nodup := h.imp fun {x y} q e => by
  rw [e, lts_irrefl] at q
  cases q
theorem Asc.eq : ∀ {l m : List Str}, Asc l → Asc m → (∀ z, z ∈ l ↔ z ∈ m) → l = m
  | [], [], _, _, _ => rfl
  | [], y :: _, _, _, h => nomatch (h y).mpr List.mem_cons_self
  | x :: _, [], _, _, h => nomatch (h x).mp List.mem_cons_self
  | x :: l, y :: m, h1, h2, h => by
    obtain ⟨a1, b1⟩ := List.pairwise_cons.mp h1
    obtain ⟨a2, b2⟩ := List.pairwise_cons.mp h2
    have e : x = y := by
      rcases List.mem_cons.mp ((h x).mp List.mem_cons_self) with q | q
      · exact q
      · rcases List.mem_cons.mp ((h y).mpr List.mem_cons_self) with q' | q'
        · exact q'.symm
        · have z1 := a2 x q
          have z2 := a1 y q'
          rw [lts_asym z1] at z2
          cases z2
    subst e
    have hx : ∀ {r : List Str}, (∀ z ∈ r, lts x z = true) → x ∉ r := fun q m => by
      have := q x m
      rw [lts_irrefl] at this
      cases this
    rw [Asc.eq b1 b2 fun z => ⟨fun hz => ?_, fun hz => ?_⟩]
    · rcases List.mem_cons.mp ((h z).mp (List.mem_cons_of_mem _ hz)) with q | q
      · exact absurd hz (q ▸ hx a1)
      · exact q
    · rcases List.mem_cons.mp ((h z).mpr (List.mem_cons_of_mem _ hz)) with q | q
      · exact absurd hz (q ▸ hx a2)
      · exact q
theorem Asc.perm_eq {l m : List Str} (h1 : Asc l) (h2 : Asc m) (p : l.Perm m) : l = m := h1.eq h2 fun z => p.mem_iff
section
variable {P : Program} {w : World} {A : Around} {E : Value → Shared → Prop} {s : Shared}
/-- the items of a list or a tuple, gathered; the heap has grown -/
theorem collect_seqZ {Q : List Value → Shared → Prop} (v : Addr) {T : String} {o : Obj} {items : Array Value} {n : Nat} (hT : T = "list" ∨ T = "tuple") (ho : s.heap.get? v = some o) (hc : o.cls = .type T) (hd : o.data = .seq items n) (hz : items.size ≤ sizeLine)
    (hQ : ∀ h2 : Heap, (∀ b u, s.heap.get? b = some u → h2.get? b = some u) → s.heap.objs.size ≤ h2.objs.size → Q items.toList { s with heap := h2 }) : wpAny (model P w) A (collect (.ref v)) Q E s := by
  let l0 : Obj := { cls := .type "list", data := .seq ([] : List Value).toArray }
  have g0 : (s.heap.push l0).get? s.heap.objs.size = some l0 := Heap.get?_push_size _ rfl
  have g1 := Heap.get?_update_self (Obj.mapSeq (· ++ items)) g0 rfl
  have done : wpAny (model P w) A (load s.heap.objs.size >>= fun o => match o.data with
      | Data.seq xs _ => pure xs.toList
      | _ => unsupported "internal:collect") Q E { s with heap := (s.heap.push l0).update s.heap.objs.size (Obj.mapSeq (· ++ items)) } := by
    refine wpAny_bind (wpAny_load g1 (wpAny_pure ?_))
    have e : ((#[] : Array Value) ++ items).toList = items.toList := by simp
    show Q ((#[] : Array Value) ++ items).toList _
    rw [e]
    refine hQ _ (fun b u q => (Heap.get?_update_other _ _ (Nat.ne_of_gt (Heap.lt_size q))).trans (Heap.get?_push_of_some _ q)) ?_
    rw [Heap.size_update, Heap.size_push]
    exact Nat.le_succ _
  unfold collect
  refine wpAny_bind (wpAny_runValue (codeAny_builtin F.entry_proto_collect ?_))
  rw [Around.under_plainId F.plain_proto_collect _]
  show wpAny _ A.in1 (newList [] >>= fun l => again (.builtin "list.__iadd__" ⟨[l, .ref v], []⟩)) _ _ s
  refine wpAny_bind (wpAny_newObj_type (wpAny_pure ⟨plainId_quiet F.plain_list_iadd _, codeAny_builtin F.entry_list_iadd ?_⟩))
  rw [Around.under_plainId F.plain_list_iadd _]
  refine wpAny_mono (wpAny_extend_seq (hsz := hz) (A := A) (R := fun r s2 => r = .ok (.ret (.ref s.heap.objs.size)) ∧ s2 = { s with heap := (s.heap.push l0).update s.heap.objs.size (Obj.mapSeq (· ++ items)) }) (s := { s with heap := s.heap.push l0 }) _ v _ 0 hT g0 (Heap.get?_push_of_some _ ho) hc hd ⟨rfl, rfl⟩) (fun fin s2 q => ?_) (fun e s2 q => absurd q.1 (by simp))
  match fin, q with
  | .done f, ⟨e, e2⟩ =>
    cases e
    subst e2
    exact done
  | .again c, q =>
    refine ⟨q.1, codeAny_mono q.2 fun r s3 hr => ?_⟩
    obtain ⟨rfl, rfl⟩ := hr
    exact done
theorem sorted_src {v : Value} {C : List Value → Prop} {ltv : Value → Value → Bool} {Q : Value → Shared → Prop} (O : Swo ltv)
    (hcol : wpAny (model P w) A.in1 (collect v) (fun vs s1 => C vs ∧ (∀ b o, s.heap.get? b = some o → s1.heap.get? b = some o) ∧ s.heap.objs.size ≤ s1.heap.objs.size ∧ s1.gens = s.gens ∧ s1.os = s.os) E s) (hz : ∀ vs, C vs → vs.length ≤ sizeLine)
    (hS : ∀ vs, C vs → 2 ≤ vs.length → ∀ (s1 : Shared) (a : Addr), s1.heap.get? a = some (seqObj "list" vs.toArray 0) → (∀ b o, s.heap.get? b = some o → s1.heap.get? b = some o) → SortableO P w A.in1.in1 s1 a vs ltv)
    (hQ : ∀ vs out s2 p n, C vs → Srtd ltv out → Stb ltv out vs → (∀ b o, s.heap.get? b = some o → s2.heap.get? b = some o) → s.heap.objs.size ≤ p → s2.heap.get? p = some (seqObj "list" out.toArray n) → s2.gens = s.gens → s2.os = s.os → Q (.ref p) s2) :
    wpAny (model P w) A (call (.builtin "sorted") [v]) Q E s := by
  refine Calls.call_function_entry kind_sorted plain_sorted entry_sorted (args_sorted1 _) ?_
  unfold Builtin.«sorted»
  refine wpAny_bind (m := checkCount "sorted" 1 1 _) (wpAny_pure ?_)
  refine wpAny_bind (wpAny_mono hcol (fun vs s1 ⟨c, k1, z1, g1, o1⟩ => ?_) fun _ _ z => z)
  refine wpAny_bind (wpAny_newList ?_ (hz vs c))
  have hoL : (s1.heap.push (seqObj "list" vs.toArray 0)).get? s1.heap.objs.size = some (seqObj "list" vs.toArray 0) := Heap.get?_push_size _ rfl
  have keep : ∀ b o, s.heap.get? b = some o → (s1.heap.push (seqObj "list" vs.toArray 0)).get? b = some o := fun b o q => Heap.get?_push_of_some _ (k1 b o q)
  refine wpAny_bind (wpAny_holding (wpAny_call_entry slot_list_sort ⟨_, hoL, rfl⟩ entry_list_sort (list_sort_ord (s := { s1 with heap := s1.heap.push (seqObj "list" vs.toArray 0) }) O hoL (hz vs c) (fun h2 => hS vs c h2 { s1 with heap := s1.heap.push (seqObj "list" vs.toArray 0) } _ hoL keep) fun out hs hb => ⟨_, rfl, ?_⟩) (args_list_sort _)))
  obtain ⟨n, hn⟩ := sortedHeap_at (vs := vs) (out := out.toArray) hoL
  refine wpAny_pure ⟨_, rfl, hQ vs out _ s1.heap.objs.size n c hs hb (fun b o e => ?_) z1 hn g1 o1⟩
  have q := k1 b o e
  have lt := Heap.lt_size q
  show (sortedHeap (s1.heap.push (seqObj "list" vs.toArray 0)) s1.heap.objs.size vs out.toArray).get? b = some o
  rw [sortedHeap_old (Nat.ne_of_lt lt) (by rw [size_push']; exact Nat.lt_succ_of_lt lt)]
  exact Heap.get?_push_of_some _ q
def kS (v : Value) : Str := match v with | .str x _ => x | _ => Str.empty
theorem strs_mem : ∀ {vs : List Value} {ss : List Str}, StrsAre vs ss → ∀ v ∈ vs, ∃ t, v = .str (kS v) t
  | _, _, .nil, _, h => nomatch h
  | _, _, .cons x t r, v, h => by
    rcases List.mem_cons.mp h with e | e
    · exact ⟨t, by rw [e]; rfl⟩
    · exact strs_mem r v e
theorem kS_strs : ∀ {vs : List Value} {ss : List Str}, StrsAre vs ss → vs.map kS = ss
  | _, _, .nil => rfl
  | _, _, .cons x t r => by rw [List.map_cons, kS_strs r]; rfl
theorem strs_of_mem : ∀ {vs : List Value}, (∀ v ∈ vs, ∃ t, v = .str (kS v) t) → StrsAre vs (vs.map kS)
  | [], _ => .nil
  | v :: r, h => by
    obtain ⟨t, e⟩ := h v List.mem_cons_self
    rw [List.map_cons]
    have q := StrsAre.cons (kS v) t (strs_of_mem fun u hu => h u (List.mem_cons_of_mem _ hu))
    rw [← e] at q
    exact q
theorem strs_sortable {a : Addr} {vs : List Value} {ss : List Str} (hS : StrsAre vs ss) (h2 : 2 ≤ vs.length) : SortableO P w A s a vs fun v u => lts (kS v) (kS u) := by
  intro h1 _
  refine ⟨oneType', fun Q E hq => ?_, fun p q hm hm' => ?_⟩
  · match vs, hS, h2 with
    | v1 :: v2 :: rest, hS, _ =>
      rw [keyKind_strs hS]
      exact wpAny_pure hq
    | [], _, h => exact absurd h (by decide)
    | [v], _, h => exact absurd h (by simp)
  · obtain ⟨t, e⟩ := strs_mem hS _ hm
    obtain ⟨u, e'⟩ := strs_mem hS _ hm'
    show wpAny (model P w) A (keyLt' oneType' p.1 q.1) (fun r s2 => s2 = _ ∧ r = lts (kS p.1) (kS q.1)) (fun _ _ => False) _
    rw [e, e', keyLt'_oneType]
    exact oneLt_str ⟨rfl, rfl⟩
/-- v is a tuple that begins with the text k v -/
def TupK (h : Heap) (k : Value → Str) (v : Value) : Prop := ∃ a o t n, ∃ xs : Array Value, v = .ref a ∧ h.get? a = some o ∧ o.cls = .type "tuple" ∧ o.data = .seq xs n ∧ xs[0]? = some (.str (k v) t)
theorem katTups_of {h : Heap} {k : Value → Str} : ∀ {vs : List Value}, (∀ v ∈ vs, TupK h k v) → ∃ fs, PySem.W.KatTups h vs fs ∧ fs.length = vs.length ∧ ∀ f ∈ fs, ∃ x t, f = .str x t
  | [], _ => ⟨[], PySem.W.KatTups.nil, rfl, fun _ z => nomatch z⟩
  | v :: r, hv => by
    obtain ⟨fs, k1, k2, k3⟩ := katTups_of (vs := r) fun u hu => hv u (List.mem_cons_of_mem _ hu)
    obtain ⟨a, o, t, n, xs, e, h1, h2, h3, h4⟩ := hv v List.mem_cons_self
    refine ⟨.str (k v) t :: fs, ?_, by rw [List.length_cons, List.length_cons, k2], fun f hf => ?_⟩
    · have q := PySem.W.KatTups.cons h1 h2 h3 h4 k1
      rw [← e] at q
      exact q
    · rcases List.mem_cons.mp hf with z | z
      · exact ⟨_, _, z⟩
      · exact k3 f z
theorem kat_self {b fin : Bool} {Q : Bool → Shared → Prop} : ∀ (l : List Value) (i : Nat), Q fin s → PySem.W.KatLex P w A b fin Q (l.zip l) i s
  | [], _, h => PySem.W.kat_nil h
  | v :: r, i, h => PySem.W.kat_cons (SeqAt.EqAt.same v P w _ _ (PySem.W.kat_yes (kat_self r (i + 1) h)))
theorem tups_sortable {a : Addr} {vs : List Value} {k : Value → Str} (hv : ∀ v ∈ vs, TupK s.heap k v) (inj : ∀ v ∈ vs, ∀ u ∈ vs, k v = k u → v = u) (ha : ∀ o, s.heap.get? a = some o → o.cls ≠ .type "tuple") (h2 : 2 ≤ vs.length) :
    SortableO P w A s a vs fun v u => lts (k v) (k u) := by
  intro h1 keep
  have hv1 : ∀ v ∈ vs, TupK h1 k v := fun v hm => by
    obtain ⟨b, o, t, n, xs, e, q1, q2, q3⟩ := hv v hm
    exact ⟨b, o, t, n, xs, e, keep b o (fun z => by subst z; exact ha o q1 q2) q1, q2, q3⟩
  obtain ⟨fs, f1, f2, f3⟩ := katTups_of hv1
  refine ⟨tuples' true, fun Q E hq => ?_, fun p q hm hm' => ?_⟩
  · refine PySem.W.kat_kind (T := .type "str") f1 (by omega) (fun f hf => ?_) (by rfl) ?_
    · obtain ⟨x, t, rfl⟩ := f3 f hf
      exact PySem.W.Looks.now
    · have e : (Value.type "str" != Value.type "tuple") = true := by first | decide +kernel | rfl | decide
      rw [e]
      exact hq
  · show wpAny (model P w) A (keyLt' (tuples' true) p.1 q.1) (fun r s2 => s2 = _ ∧ r = lts (k p.1) (k q.1)) (fun _ _ => False) _
    have hm : p.1 ∈ vs := hm
    have hm' : q.1 ∈ vs := hm'
    obtain ⟨x, ox, t, n, xs, ex, gx, cx, dx, fx⟩ := hv1 _ hm
    by_cases e : p.1 = q.1
    · rw [← e, lts_irrefl, ex]
      refine PySem.W.kat_lt gx dx gx dx (kat_self _ 0 ⟨rfl, ?_⟩)
      exact decide_eq_false (Nat.lt_irrefl _)
    · obtain ⟨y, oy, u, m, ys, ey, gy, cy, dy, fy⟩ := hv1 _ hm'
      have hne : ¬ k p.1 = k q.1 := fun z => e (inj _ hm _ hm' z)
      generalize k p.1 = kp at fx hne ⊢
      generalize k q.1 = kq at fy hne ⊢
      rw [ex, ey]
      refine PySem.W.kat_lt gx dx gy dy ?_
      obtain ⟨r1, e1⟩ : ∃ r, xs.toList = .str kp t :: r := by
        cases hh : xs.toList with
        | nil =>
          rw [← Array.getElem?_toList, hh] at fx
          cases fx
        | cons z r =>
          rw [← Array.getElem?_toList, hh] at fx
          exact ⟨r, by rw [Option.some.inj fx]⟩
      obtain ⟨r2, e2⟩ : ∃ r, ys.toList = .str kq u :: r := by
        cases hh : ys.toList with
        | nil =>
          rw [← Array.getElem?_toList, hh] at fy
          cases fy
        | cons z r =>
          rw [← Array.getElem?_toList, hh] at fy
          exact ⟨r, by rw [Option.some.inj fy]⟩
      rw [e1, e2, List.zip_cons_cons]
      refine PySem.W.kat_cons (SeqAt.EqAt.str_str kp t kq u P w _ _ ?_)
      have eb : (kp == kq) = false := beq_eq_false_iff_ne.mpr hne
      rw [eb]
      exact PySem.W.kat_no (oneLt_str ⟨rfl, rfl⟩)
end
/-- the set of the texts l at a -/
def SetL (P : Program) (w : World) (a : Addr) (l : List Str) : HO := .ext fun h => SetS P w h a l
section
variable {X : Cx}
theorem setL_new {P : Program} {w : World} {H : Hp} {h : Heap} {a : Addr} {l : List Str} (R : SetS P w h a l) : ObjOk P w H h a (SetL P w a l) := ⟨R, let ⟨_, ho, _⟩ := R; ⟨_, ho⟩, fun _ _ r k => r.at k⟩
theorem setL_get {pins : List (Addr × Obj)} {σ : L2.St} {H : Hp} {s : Shared} {a : Addr} {l : List Str} (I : Inv X pins σ H s) (ha : H a = some (SetL X.prog X.w a l)) : SetS X.prog X.w s.heap a l := (I.hok a _ ha).1
theorem strs_get : ∀ {xs : List Str} {its : List Value}, Vals (xs.map V.str) its → ∀ (i : Nat) (x : Value), its[i]? = some x → ∃ k t, xs[i]? = some k ∧ x = .str k t
  | [], [], .nil, i, x, h => by simp at h
  | k :: xs, _ :: _, .cons r t, 0, x, h => by
    obtain ⟨tk, e⟩ := r
    exact ⟨k, tk, rfl, by rw [← Option.some.inj h, e]⟩
  | k :: xs, _ :: _, .cons r t, i + 1, x, h => by
    obtain ⟨k', t', e1, e2⟩ := strs_get t i x h
    exact ⟨k', t', e1, e2⟩
theorem strsAre_vals : ∀ {ys : List Str} {us : List Value}, Vals (ys.map V.str) us → StrsAre us ys
  | [], _, .nil => .nil
  | y :: ys, _, .cons r t => by
    obtain ⟨k, rfl⟩ := r
    exact .cons y k (strsAre_vals t)
/-- a list or a tuple of texts -/
def TxtSeq (K : PySem.W.Frag) (H : Hp) (a : Addr) (xs : List Str) : Prop := SqT K H a (xs.map V.str) ∨ SqL K H a (xs.map V.str)
/-- set(xs) of texts -/
def rSetT (K : PySem.W.Frag) (P : Program) (w : World) : List V → Hp → VK → Prop := fun vs H Q => ∃ (a : Addr) (xs : List Str), vs = [.ref a] ∧ TxtSeq K H a xs ∧ xs.length < 1000 ∧ ∀ p, H p = none → Q (.ref p) (upd H p (SetL P w p (dedT xs)))
theorem c_setT (hc : X.calm = true) : CallR X (.type "set") (rSetT X.K X.prog X.w) := by
  intro pins s σ H vs us Q I r h
  obtain ⟨a, xs, rfl, hs, hl, q⟩ := h
  rw [Vals.ref1 r]
  have hb : xs.length + 1 < scanBound := Nat.lt_of_lt_of_le (Nat.succ_lt_succ hl) (by decide)
  have fin : ∀ (h2 : Heap) (tk : Nat), SetS X.prog X.w h2 s.heap.objs.size (dedT xs) → (∀ b o, s.heap.get? b = some o → h2.get? b = some o) → EP X pins σ Q (.ref s.heap.objs.size) { s with heap := h2, toks := tk } := fun h2 tk R k =>
    ⟨.ref _, upd H s.heap.objs.size (SetL X.prog X.w s.heap.objs.size (dedT xs)), I.laid (t' := tk) k (Nat.le_refl _) (setL_new R), rfl, q _ (I.hok.fresh (Nat.le_refl _))⟩
  rcases hs with hs | hs
  · obtain ⟨its, rv, hp, _⟩ := I.tuple hs
    have hz : its.length = xs.length := by rw [← rv.length, List.length_map]
    exact call_set_txt xs (I.ok.hd hc) (.inl ⟨rfl, hp⟩) (fun i x hx => strs_get rv i x (by simpa using hx)) (by simpa using hz) hb fin
  · obtain ⟨its, rv, hp, _⟩ := I.list hs
    have hz : its.length = xs.length := by rw [← rv.length, List.length_map]
    exact call_set_txt xs (I.ok.hd hc) (.inr ⟨rfl, hp.isList⟩) (fun i x hx => strs_get rv i x (by simpa using hx)) (by simpa using hz) hb fin
theorem rd_setT {K : PySem.W.Frag} {P : Program} {w : World} {H : Hp} {Q : VK} {a : Addr} {xs : List Str} (h : TxtSeq K H a xs) (hl : xs.length < 1000) (q : ∀ p H', H p = none → Same H H' → H' p = some (SetL P w p (dedT xs)) → Q (.ref p) H') : rSetT K P w [.ref a] H Q := ⟨a, xs, rfl, h, hl, fun p hp => q p _ hp (same_new hp) upd_same⟩
/-- len of a set of texts -/
def rLenSt (P : Program) (w : World) : List V → Hp → VK → Prop := fun vs H Q => ∃ (a : Addr) (l : List Str), vs = [.ref a] ∧ H a = some (SetL P w a l) ∧ l.length < 2 ^ 62 ∧ Q (.int (l.length : Nat)) H
theorem c_lenSt : CallR X (.builtin "len") (rLenSt X.prog X.w) := by
  intro pins s σ H vs us Q I r h
  obtain ⟨a, l, rfl, ha, hl, q⟩ := h
  rw [Vals.ref1 r]
  obtain ⟨D, ho, F, _⟩ := setL_get I ha
  have e : D.1.size = l.length := F.sz
  exact call_len_set (es := D.1) (ep := D.2.1) (t := D.2.2) ho ⟨rfl, rfl, rfl⟩ rfl F.fit (by rw [e]; omega) ⟨.int (l.length : Nat), H, I.tok _, ⟨_, by rw [e]⟩, q⟩
theorem rd_lenSt {P : Program} {w : World} {H : Hp} {Q : VK} {a : Addr} {l : List Str} (h : H a = some (SetL P w a l)) (hl : l.length < 2 ^ 62) (q : Q (.int (l.length : Nat)) H) : rLenSt P w [.ref a] H Q := ⟨a, l, rfl, h, hl, q⟩
theorem shared_eq {s s2 : Shared} (o : s2.os = s.os) : s2 = { s with heap := s2.heap, gens := s2.gens, drawn := s2.drawn, toks := s2.toks } := by
  cases s2
  cases s
  cases o
  rfl
/-- a new list at p in a later state -/
theorem laid_late {pins : List (Addr × Obj)} {σ : L2.St} {H : Hp} {s s2 : Shared} {p : Addr} {zs : List V} {out : List Value} {n : Nat} {Q : VK} (I : Inv X pins σ H s) (k : ∀ b o, s.heap.get? b = some o → s2.heap.get? b = some o) (hp : s.heap.objs.size ≤ p)
    (hg : s2.heap.get? p = some (seqObj "list" out.toArray n)) (rv : Vals zs out) (hz : zs.length ≤ sizeLine) (g : s2.gens = s.gens) (o : s2.os = s.os) (q : H p = none → Q (.ref p) (upd H p (.lst zs))) : EP X pins σ Q (.ref p) s2 := by
  have hn : H p = none := I.hok.fresh hp
  have J : Inv X pins σ (upd H p (.lst zs)) { s with heap := s2.heap, gens := s2.gens, drawn := s2.drawn, toks := s2.toks } :=
    I.call (ch := []) (Un.laid k hp hn) (I.hok.laid k hp ⟨hz, out, n, rv, hg⟩) (by rw [g]; exact I.bare) (fun _ z => nomatch z)
  rw [shared_eq o]
  exact ⟨.ref p, _, J, rfl, q hn⟩
theorem vals_strs : ∀ {us : List Value} {ys : List Str}, StrsAre us ys → Vals (ys.map V.str) us
  | _, _, .nil => .nil
  | _, _, .cons y t r => .cons ⟨t, rfl⟩ (vals_strs r)
/-- sorted of texts -/
def rSortT (K : PySem.W.Frag) (P : Program) (w : World) : List V → Hp → VK → Prop := fun vs H Q => ∃ (a : Addr) (xs : List Str), vs = [.ref a] ∧ (TxtSeq K H a xs ∨ H a = some (SetL P w a xs)) ∧ xs.length < 1000 ∧
  ∀ (ys : List Str) (p : Addr), ys.Perm xs → ys.Pairwise (fun x y => lts y x = false) → H p = none → Q (.ref p) (upd H p (.lst (ys.map V.str)))
theorem c_sortT (hc : X.calm = true) : CallR X (.builtin "sorted") (rSortT X.K X.prog X.w) := by
  intro pins s σ H vs us Q I r h
  obtain ⟨a, xs, rfl, hs, hl, q⟩ := h
  rw [Vals.ref1 r]
  refine sorted_src (C := fun vs => StrsAre vs (vs.map kS) ∧ (vs.map kS).Perm xs) (swo_key kS) ?_ (fun vs c => ?_) (fun vs c h2 s1 b _ _ => strs_sortable c.1 h2) fun vs out s2 p n c hs hb k hp hg g o => ?_
  · rcases hs with (hs | hs) | hs
    · obtain ⟨its, rv, ⟨oo, ho, hcl, nn, hd⟩, hz⟩ := I.tuple hs
      have st := strsAre_vals rv
      refine collect_seqZ (T := "tuple") a (.inr rfl) ho hcl hd (by simpa [← rv.length] using hz) fun h2 k kz => ?_
      refine ⟨?_, k, ?_, rfl, rfl⟩
      · rw [show its.toArray.toList = its by simp, kS_strs st]
        exact ⟨st, List.Perm.refl _⟩
      · exact kz
    · obtain ⟨its, rv, ⟨oo, nn, ho, hcl, _, hd⟩, hz⟩ := I.list hs
      have st := strsAre_vals rv
      refine collect_seqZ (T := "list") a (.inl rfl) ho hcl hd (by simpa [← rv.length] using hz) fun h2 k kz => ?_
      refine ⟨?_, k, ?_, rfl, rfl⟩
      · rw [show its.toArray.toList = its by simp, kS_strs st]
        exact ⟨st, List.Perm.refl _⟩
      · exact kz
    · obtain ⟨D, ho, F, pm, nd, hr, hled⟩ := setL_get I hs
      have hsz : D.1.size = xs.length := F.sz
      refine collect_set (a := a) (es := D.1) (ep := D.2.1) (t := D.2.2) (I.ok.hd hc) ⟨_, ho, rfl, rfl⟩ F.fit (by rw [hsz]; exact Nat.lt_of_lt_of_le hl (by decide)) hr hled fun s1 out k z g o pm2 => ?_
      have hm : ∀ v ∈ out, ∃ t, v = .str (kS v) t := fun v hv => by
        obtain ⟨e, he, rfl⟩ := List.mem_map.mp (pm2.mem_iff.mp hv)
        obtain ⟨⟨k0, q1, _⟩, _⟩ := F.el e he
        obtain ⟨t, ev⟩ := Value.isStrOf_shape (x := k0) (v := e.2) q1
        exact ⟨t, by rw [ev]; rfl⟩
      refine ⟨⟨strs_of_mem hm, ?_⟩, k, z, g, o⟩
      have e1 : D.1.toList.map txOf = (D.1.toList.map (·.2)).map kS := by rw [List.map_map]; rfl
      rw [e1] at pm
      exact (pm2.map kS).trans pm
  · have := c.2.length_eq
    rw [List.length_map] at this
    rw [this]
    exact small64 (by omega)
  · have hm : ∀ v ∈ out, ∃ t, v = .str (kS v) t := fun v hv => strs_mem c.1 v (hb.perm.mem_iff.mp hv)
    have st := strs_of_mem hm
    have pm : (out.map kS).Perm xs := (hb.perm.map kS).trans c.2
    refine laid_late I k hp hg (vals_strs st) ?_ g o (q _ p pm (List.pairwise_map.mpr hs))
    rw [List.length_map, pm.length_eq]
    exact small64 (by omega)
theorem rd_sortT {K : PySem.W.Frag} {P : Program} {w : World} {H : Hp} {Q : VK} {a : Addr} {xs : List Str} (h : TxtSeq K H a xs ∨ H a = some (SetL P w a xs)) (hl : xs.length < 1000) (q : ∀ (ys : List Str) (p : Addr) (H' : Hp), ys.Perm xs → ys.Pairwise (fun x y => lts y x = false) → H p = none → Same H H' → H' p = some (.lst (ys.map V.str)) → Q (.ref p) H') : rSortT K P w [.ref a] H Q :=
  ⟨a, xs, rfl, h, hl, fun ys p h1 h2 hp => q ys p _ h1 h2 hp (same_new hp) upd_same⟩
/-- sorted of tuples that begin with different texts: zs the texts and the tuples -/
def rSortK (K : PySem.W.Frag) : List V → Hp → VK → Prop := fun vs H Q => ∃ (a : Addr) (zs : List (Str × Addr)), vs = [.ref a] ∧ (SqT K H a (zs.map fun z => .ref z.2) ∨ SqL K H a (zs.map fun z => .ref z.2)) ∧ zs.length < 1000 ∧ (∀ z ∈ zs, ∃ r, SqT K H z.2 (.str z.1 :: r)) ∧ (zs.map (·.1)).Nodup ∧
  ∀ (ys : List (Str × Addr)) (p : Addr), ys.Perm zs → Asc (ys.map (·.1)) → H p = none → Q (.ref p) (upd H p (.lst (ys.map fun z => .ref z.2)))
theorem vals_refs : ∀ {zs : List (Str × Addr)} {us : List Value}, Vals (zs.map fun z => .ref z.2) us → us = zs.map fun z => .ref z.2
  | [], _, .nil => rfl
  | z :: zs, _, .cons r t => by
    have e : _ = Value.ref z.2 := r
    rw [List.map_cons, e, vals_refs t]
theorem refs_vals : ∀ (zs : List (Str × Addr)), Vals (zs.map fun z => V.ref z.2) (zs.map fun z => Value.ref z.2)
  | [] => .nil
  | z :: zs => .cons rfl (refs_vals zs)
theorem c_sortK : CallR X (.builtin "sorted") (rSortK X.K) := by
  intro pins s σ H vs us Q I r h
  obtain ⟨a, zs, rfl, hs, hl, ht, nd, q⟩ := h
  rw [Vals.ref1 r]
  -- the text of a tuple
  let k : Value → Str := fun v => match v with
    | .ref b => ((zs.find? fun z => decide (z.2 = b)).map (·.1)).getD Str.empty
    | _ => Str.empty
  have same : ∀ z ∈ zs, ∀ y ∈ zs, z.2 = y.2 → z = y := fun z hz y hy e => by
    obtain ⟨r1, h1⟩ := ht z hz
    obtain ⟨r2, h2⟩ := ht y hy
    rw [e] at h1
    have e1 := I.tuple_inj h1 h2
    injection e1 with e2
    injection e2 with e2
    exact Prod.ext e2 e
  have hk : ∀ z ∈ zs, k (.ref z.2) = z.1 := fun z hz => by
    show ((zs.find? fun y => decide (y.2 = z.2)).map (·.1)).getD Str.empty = z.1
    cases hf : zs.find? fun y => decide (y.2 = z.2) with
    | none =>
      have := List.find?_eq_none.mp hf z hz
      simp at this
    | some y =>
      have hy := List.mem_of_find?_eq_some hf
      have e := List.find?_some hf
      rw [same y hy z hz (of_decide_eq_true e)]
      rfl
  have injK : ∀ {l : List (Str × Addr)}, (l.map (·.1)).Nodup → ∀ z ∈ l, ∀ y ∈ l, z.1 = y.1 → z = y := by
    intro l
    induction l with
    | nil => intro _ z hz; exact nomatch hz
    | cons u l ih =>
      intro nd z hz y hy e
      rw [List.map_cons] at nd
      obtain ⟨n1, n2⟩ := List.nodup_cons.mp nd
      rcases List.mem_cons.mp hz with z1 | z1
      · rcases List.mem_cons.mp hy with z2 | z2
        · rw [z1, z2]
        · exact absurd (List.mem_map.mpr ⟨y, z2, by rw [← e, z1]⟩) n1
      · rcases List.mem_cons.mp hy with z2 | z2
        · exact absurd (List.mem_map.mpr ⟨z, z1, by rw [e, z2]⟩) n1
        · exact ih n2 z z1 y z2 e
  have tup : ∀ v ∈ zs.map (fun z => Value.ref z.2), TupK s.heap k v := fun v hv => by
    obtain ⟨z, hz, rfl⟩ := List.mem_map.mp hv
    obtain ⟨r1, h1⟩ := ht z hz
    obtain ⟨its, rv, ⟨o, ho, hcl, n, hd⟩, _⟩ := I.tuple h1
    cases rv with
    | cons rx rr =>
      obtain ⟨t, e⟩ := rx
      refine ⟨z.2, o, t, n, _, rfl, ho, hcl, hd, ?_⟩
      rw [hk z hz, e]
      rfl
  have inj : ∀ v ∈ zs.map (fun z => Value.ref z.2), ∀ u ∈ zs.map (fun z => Value.ref z.2), k v = k u → v = u := fun v hv u hu e => by
    obtain ⟨z, hz, rfl⟩ := List.mem_map.mp hv
    obtain ⟨y, hy, rfl⟩ := List.mem_map.mp hu
    rw [hk z hz, hk y hy] at e
    rw [injK nd z hz y hy e]
  refine sorted_src (C := fun vs => vs = zs.map fun z => Value.ref z.2) (swo_key k) ?_ (fun vs c => ?_) (fun vs c h2 s1 b hb kp => ?_) fun vs out s2 p n c hs hb kp hp hg g o => ?_
  · rcases hs with hs | hs
    · obtain ⟨its, rv, ⟨oo, ho, hcl, nn, hd⟩, hz⟩ := I.tuple hs
      refine collect_seqZ (T := "tuple") a (.inr rfl) ho hcl hd (by simpa [← rv.length] using hz) fun h2 k kz => ?_
      refine ⟨?_, k, kz, rfl, rfl⟩
      rw [vals_refs rv]
    · obtain ⟨its, rv, ⟨oo, nn, ho, hcl, _, hd⟩, hz⟩ := I.list hs
      refine collect_seqZ (T := "list") a (.inl rfl) ho hcl hd (by simpa [← rv.length] using hz) fun h2 k kz => ?_
      refine ⟨?_, k, kz, rfl, rfl⟩
      rw [vals_refs rv]
  · rw [c, List.length_map]
    exact small64 (by omega)
  · subst c
    refine tups_sortable (fun v hv => ?_) inj (fun o e hcl => ?_) h2
    · obtain ⟨b', o, t, n, xs, e, q1, q2⟩ := tup v hv
      exact ⟨b', o, t, n, xs, e, kp _ _ q1, q2⟩
    · rw [hb] at e
      rw [← Option.some.inj e] at hcl
      have z : Value.type "list" = Value.type "tuple" := hcl
      injection z with z
      exact absurd z (by decide)
  · subst c
    have mem : ∀ v ∈ out, ∃ z ∈ zs, v = .ref z.2 := fun v hv => by
      obtain ⟨z, hz, e⟩ := List.mem_map.mp (hb.perm.mem_iff.mp hv)
      exact ⟨z, hz, e.symm⟩
    -- the pairs behind
    have pull : ∀ {l : List Value} {m : List (Str × Addr)}, l.Perm (m.map fun z => Value.ref z.2) → ∃ ys : List (Str × Addr), ys.Perm m ∧ l = ys.map fun z => Value.ref z.2 := by
      intro l m hp
      generalize hM : (m.map fun z => Value.ref z.2) = M at hp
      have : ∀ {l M : List Value}, l.Perm M → ∀ m : List (Str × Addr), (m.map fun z => Value.ref z.2) = M → ∃ ys : List (Str × Addr), ys.Perm m ∧ l = ys.map fun z => Value.ref z.2 := by
        intro l M hp
        induction hp with
        | nil =>
          intro m hm
          rw [List.map_eq_nil_iff.mp hm]
          exact ⟨[], List.Perm.refl _, rfl⟩
        | cons x p ih =>
          intro m hm
          match m, hm with
          | y :: m, hm =>
            rw [List.map_cons] at hm
            injection hm with h1 h2
            obtain ⟨ys, p1, e1⟩ := ih m h2
            exact ⟨y :: ys, p1.cons y, by rw [List.map_cons, e1, h1]⟩
        | swap x y l =>
          intro m hm
          match m, hm with
          | a :: b :: m, hm =>
            rw [List.map_cons, List.map_cons] at hm
            injection hm with h1 h2
            injection h2 with h2 h3
            exact ⟨b :: a :: m, List.Perm.swap _ _ _, by rw [List.map_cons, List.map_cons, h1, h2, h3]⟩
        | trans p1 p2 ih1 ih2 =>
          intro m hm
          obtain ⟨ys, q1, e1⟩ := ih2 m hm
          obtain ⟨xs, q2, e2⟩ := ih1 ys e1.symm
          exact ⟨xs, q2.trans q1, e2⟩
      exact this hp m hM
    obtain ⟨ys, py, ey⟩ := pull hb.perm
    have hks : ∀ z ∈ ys, k (.ref z.2) = z.1 := fun z hz => hk z (py.mem_iff.mp hz)
    have asc : Asc (ys.map (·.1)) := by
      refine asc_of ?_ ((py.map (·.1)).nodup_iff.mpr nd)
      rw [ey] at hs
      have h1 := List.pairwise_map.mp hs
      refine List.pairwise_map.mpr ?_
      refine List.Pairwise.imp_of_mem ?_ h1
      intro x y hx hy q
      have q : lts (k (.ref y.2)) (k (.ref x.2)) = false := q
      rw [hks x hx, hks y hy] at q
      exact q
    subst ey
    refine laid_late I kp hp hg (refs_vals ys) ?_ g o (q ys p py asc)
    rw [List.length_map, py.length_eq]
    exact small64 (by omega)
theorem rd_sortK {K : PySem.W.Frag} {H : Hp} {Q : VK} {a : Addr} {zs : List (Str × Addr)} (h : SqT K H a (zs.map fun z => .ref z.2) ∨ SqL K H a (zs.map fun z => .ref z.2)) (hl : zs.length < 1000) (ht : ∀ z ∈ zs, ∃ r, SqT K H z.2 (.str z.1 :: r)) (nd : (zs.map (·.1)).Nodup)
    (q : ∀ (ys : List (Str × Addr)) (p : Addr) (H' : Hp), ys.Perm zs → Asc (ys.map (·.1)) → H p = none → Same H H' → H' p = some (.lst (ys.map fun z => .ref z.2)) → Q (.ref p) H') : rSortK K [.ref a] H Q := ⟨a, zs, rfl, h, hl, ht, nd, fun ys p h1 h2 hp => q ys p _ h1 h2 hp (same_new hp) upd_same⟩
end
end Rd
set_option Elab.async false
set_option linter.all false
set_option maxRecDepth 100000
set_option maxHeartbeats 4000000
namespace Rd
open PySem PySem.Spec PyProof.Rows L2
theorem FnG.toR {P : Program} {w : World} {K : PySem.W.Frag} {mg : Str → Option Value} {base : Heap} {CX : CXT} {k : Nat} {f : Addr} {sp : Sp} (F : FnG false P w K mg base CX k f sp) : FnR P w K mg base CX k f sp := fun A outer s H us vs Q E hr => F A outer s H us vs Q E (RoomG.any hr)
section
variable {X : Cx} {CX : CXT} {k i : Nat} {f C : Addr} {sp : Sp} {E : XK} {x m : Str} {e o : Expr} {es : List Expr} {te ta : TE} {t : TA} {p pos sp_ apos : Pos}
/-- a new instance of C, by the promise of its __init__ -/
def rMake (C : Addr) (sp : Sp) (E : XK) : List V → Hp → VK → Prop := fun vs H Q => ∀ x dx, H x = Option.none → H dx = Option.none → dx ≠ x → sp (V.ref x :: vs) (upd (upd H dx (.own x)) x (.ins C dx [])) (fun v H2 => v = .non ∧ Q (.ref x) H2) E
theorem pe_mk (M : Mk X.K C f) (F : FnR X.prog X.w X.K X.mg X.base CX k f sp) (hr : Room (k + 1) X.A) (hg : Gl X x) (hm : X.mg x = some (.ref C)) (hx : Passes CX X E) (ha : PA X (e :: es) t) (hdb : (x == ("__debug__" : Str)) = false := by decide)
    (he : starEach (e :: es) X.env = (false, eval e X.env) :: starEach es X.env := by rfl) (hpl : (backTo pos (starEach es X.env)).any (·.1) = false := by rfl) : PE X (.Call (.Name x p) (e :: es) [] pos) (tCB (rMake C sp E) t) := StX.pe_makeR M F hr hg hm hx ha hdb he hpl
/-- C(*e), C a global -/
def rStar (K : PySem.W.Frag) (r : List V → Hp → VK → Prop) : V → Hp → VK → Prop := fun y H Q => ∃ a xs, y = V.ref a ∧ (SqT K H a xs ∨ SqL K H a xs) ∧ r xs H Q
/-- c(*e), c a local name that holds the class -/
def tMkVS (K : PySem.W.Frag) (i : Nat) (C : Addr) (r : List V → Hp → VK → Prop) (te : TE) : TE := fun σ H Q => σ[i]? = some (some (.ref C)) ∧ te σ H fun y H1 => rStar K r y H1 Q
abbrev rFld (K : PySem.W.Frag) (f : Str) (x : V) (H1 : Hp) (Q : VK) : Prop := ∃ a C dx fs v, x = .ref a ∧ H1 a = some (.ins C dx fs) ∧ Cls K C ∧ NoAttr K C f ∧ fs.lookup f = some v ∧ Q v H1
variable {σ : L2.St} {H : Hp} {Q : VK}
theorem rd_mkVS {K : PySem.W.Frag} {r : List V → Hp → VK → Prop} (h : σ[i]? = some (some (.ref C))) (q : te σ H fun y H1 => rStar K r y H1 Q) : tMkVS K i C r te σ H Q := ⟨h, q⟩
theorem rd_starT {K : PySem.W.Frag} {r : List V → Hp → VK → Prop} {a : Addr} {xs : List V} (h : SqT K H a xs) (q : r xs H Q) : rStar K r (.ref a) H Q := ⟨a, xs, rfl, .inl h, q⟩
abbrev rMethA (C : Addr) (m : Str) (sp : Sp) (E : XK) (t : TA) (σ : L2.St) (Q : VK) (x : V) (H1 : Hp) : Prop := ∃ a dx fs, x = .ref a ∧ H1 a = some (.ins C dx fs) ∧ fs.lookup m = none ∧ t σ H1 fun vs H2 => sp (x :: vs) H2 Q E
theorem rd_methR (q : ta σ H fun x H1 => rMethA C m sp E t σ Q x H1) : tMethR C m sp E ta t σ H Q := q
theorem rd_cmeth (q : ta σ H fun x H1 => x = .ref C ∧ t σ H1 fun vs H2 => sp (.ref C :: vs) H2 Q E) : ClX.tCMeth C sp E ta t σ H Q := q
theorem rd_fldS {K : PySem.W.Frag} {tv : TE} {f : Str} {D : Ends} (q : tv σ H fun y H1 => ta σ H1 fun x H2 => ∃ a C dx fs, x = .ref a ∧ H2 a = some (.ins C dx fs) ∧ Cls K C ∧ NoAttr K C f ∧ fs.length < 1000 ∧ D.nx σ (upd H2 a (.ins C dx (putF f y fs)))) : sFld K ta tv f D σ H := q
theorem rd_fld {K : PySem.W.Frag} {f : Str} (q : ta σ H fun x H1 => rFld K f x H1 Q) : tFld K ta f σ H Q := q
end
/-- isinstance(x, C) of an own class -/
theorem rd_isiC {K : PySem.W.Frag} {H : Hp} {Q : VK} {v : V} {t : Value} {C : Addr} {b : Bool} (h : TyX K H v t) (hk : PySem.W.kitOne K t (.ref C) = some b) (q : Q (.bl b) H) : rIsi K [v, .ref C] H Q := ⟨v, .ref C, t, .ref C, b, rfl, .own C, h, hk, q⟩
def tPropR (C : Addr) (sp : Sp) (E : XK) (ta : TE) : TE := fun σ H Q => ta σ H fun x H1 => ∃ a dx fs, x = .ref a ∧ H1 a = some (.ins C dx fs) ∧ sp [.ref a] H1 Q E
abbrev rPropA (C : Addr) (sp : Sp) (E : XK) (Q : VK) (x : V) (H1 : Hp) : Prop := ∃ a dx fs, x = .ref a ∧ H1 a = some (.ins C dx fs) ∧ sp [.ref a] H1 Q E
theorem rd_propR {C : Addr} {sp : Sp} {E : XK} {ta : TE} {σ : L2.St} {H : Hp} {Q : VK} (q : ta σ H fun x H1 => rPropA C sp E Q x H1) : tPropR C sp E ta σ H Q := q
section
variable {X : Cx} {CX : CXT} {k : Nat} {C p g f0 f : Addr} {n : Str} {sp : Sp} {E : XK} {e : Expr} {pos : Pos} {ta : TE}
theorem pe_propR (he : PE X e ta) (c : Cls X.K C) (hp : PropOf X.K C n p g) (F : FnR X.prog X.w X.K X.mg X.base CX k g sp) (hr : Room (k + 1) X.A) (hx : Passes CX X.nox E) (hab : attributeBase e n X.env (eval e X.env) = eval e X.env := by rfl) : PE X (.Attribute e n pos) (tPropR C sp E ta) := by
  refine ⟨fun pins s σ H Q I h => attr_of hab (thn (he.run pins s σ H _ I h) fun u s1 ⟨x, H1, I1, rx, a, dx, fs, ex, ea, q⟩ => ?_)⟩
  subst ex
  obtain rfl : u = Value.ref a := rx
  obtain ⟨mA, O, _, _, _, _⟩ := ins_get I1.hok ea
  obtain ⟨od, J, _⟩ := O.look
  obtain ⟨rest, hrec⟩ := hp.rec_
  have I2 := I1.tok (s1.toks + 1)
  have hc : (PySem.W.clsIn X.K C).isSome = true := by
    obtain ⟨cd, hc, _⟩ := PySem.W.any_some c.hd
    rw [hc] <;> rfl
  refine PySem.W.get_bind I1.kIn J (PySem.W.plainGet_of (c.get n)).1 (PySem.W.findObj_data hc hp.at_ hp.get hp.tak) (PySem.W.plainGet_of (c.get n)).2 (wpAny_call (PySem.W.prop_get (s := { s1 with toks := s1.toks + 1 }) I1.kIn hrec ?_))
  refine codeAny_mono (F X.A.in1 X.stack { s1 with toks := s1.toks + 1 } H1 [.ref a] [.ref a] Q E hr.in1 I2.env0.in1 (.cons rfl .nil) q) fun r s' hq => ?_
  match r, hq with
  | .error er, hq => exact False.elim (hx pins σ H1 { s1 with toks := s1.toks + 1 } er s' (I2.wish _) hq)
  | .ok (.ret u), hq =>
    obtain ⟨v, H', I3, rv, q3⟩ := I2.after hq
    show wpAny _ _ (handedOut u) _ _ _
    rw [PySem.W.handedOut_of (handed_of rv)]
    exact wpAny_pure ⟨v, H', I3, rv, q3⟩
  | .ok .next, hq => exact False.elim hq
  | .ok .brk, hq => exact False.elim hq
  | .ok .cont, hq => exact False.elim hq
theorem ins_look {pins : List (Addr × Obj)} {σ : L2.St} {H : Hp} {s : Shared} {a dx : Addr} {fs : List (Str × V)} (I : Inv X pins σ H s) (h : H a = some (.ins C dx fs)) : ∃ ox od, PySem.W.InstAt s.heap a ox C od ∧ ox.data = .plain := StX.insC_at I (.inr ⟨dx, fs, h⟩)
end
section
variable {X : Cx} {CX : CXT} {k : Nat} {C f fr : Addr} {sp : Sp} {E : XK}
/-- what comes back fits R; A' is where the def runs -/
theorem run_at {pins : List (Addr × Obj)} {σ : L2.St} {H : Hp} {s : Shared} {Q : VK} {us : List Value} {vs : List V} {A' : Around} {R : Value → Shared → Prop} (F : FnR X.prog X.w X.K X.mg X.base CX k f sp) (hr : Room k A') (e0 : Env0 X.prog X.w X.K X.mg X.base A' X.stack s H) (hx : Passes CX X E) (I : Inv X pins σ H s) (r : Vals vs us)
    (h : sp vs H Q E) (hR : ∀ u s', EP X pins σ Q u s' → R u s') : wpAny (model X.prog X.w) A' (call (.ref f) us) R X.xe s := by
  refine wpAny_call (codeAny_mono (F A' X.stack s H us vs Q E hr e0 r h) fun r s' hq => ?_)
  match r, hq with
  | .error e, hq => exact hx pins σ H s e s' I hq
  | .ok (.ret u), hq => exact hR u s' (I.after hq)
  | .ok .next, hq => exact False.elim hq
  | .ok .brk, hq => exact False.elim hq
  | .ok .cont, hq => exact False.elim hq
structure OwnEq (K : PySem.W.Frag) (C f : Addr) : Prop where
  e : PySem.W.findIn K (.ref C) "__eq__" = some (some (.ref f))
  ef : PySem.W.isFn K (.ref f) = true
  n : PySem.W.findIn K (.ref C) "__ne__" = some (some (.builtin "object.__ne__"))
  m : PySem.W.mroIn K C (.type "object") = some true
def rEqO (C : Addr) (sp : Sp) (E : XK) (neg : Bool) : R2 := fun x y H Q => (∃ a dx fs, x = .ref a ∧ H a = some (.ins C dx fs)) ∧ (∃ b dy gs, y = .ref b ∧ H b = some (.ins C dy gs)) ∧ sp [x, y] H (fun v H' => ∃ b, v = .bl b ∧ Q (.bl (b != neg)) H') E
theorem op_eqO (O : OwnEq X.K C f) (F : FnR X.prog X.w X.K X.mg X.base CX k f sp) (hr : Room k X.A) (hx : Passes CX X E) : OpR X (compareOp .Eq) (rEqO C sp E false) := by
  intro pins s σ H x y v u Q I rx ry h
  obtain ⟨⟨a, dx, fs, rfl, ha⟩, ⟨b, dy, gs, rfl, hb⟩, h⟩ := h
  cases rx
  cases ry
  obtain ⟨m, hF⟩ := I.fr
  obtain ⟨ox, od, J, _⟩ := ins_look I ha
  obtain ⟨oy, od', J', _⟩ := ins_look I hb
  refine PySem.W.cmp_K (op := .Eq) (tb := .ref C) (Nat.lt_of_le_of_lt (Nat.le_add_right _ _) hr.units) hF I.ok.mod.kin J J'.type (by simp [PySem.W.notFirst]) O.e O.ef (run_at (vs := [.ref a, .ref b]) F hr I.env0 hx I (.cons rfl (.cons rfl .nil)) h fun u s' hq => ?_)
  obtain ⟨v, H', I', rv, c, rfl, q⟩ := hq
  cases rv
  exact ⟨.bl c, H', I', rfl, by simpa using q⟩
theorem ifBound_B {M : Model} {A : Around} {E : Value → Shared → Prop} {s : Shared} {K : PySem.W.Frag} {x : Addr} {ox : Obj} {od : Option Obj} {name : Str} {id : String} {args : List Value} {Q : Option Value → Shared → Prop} (X : K.In s.heap) (J : PySem.W.InstAt s.heap x ox C od)
    (hs : PySem.W.findIn K (.ref C) name = some (some (.builtin id))) (hb : ∀ self, bindSpecial (.builtin id) self = pure (.builtin id, [self])) (h : wpAny M A (call (.builtin id) (.ref x :: args)) (fun v => Q (some v)) E s) : wpAny M A (callSpecialIfBound? (.ref x) name args) Q E s := by
  simp only [callSpecialIfBound?, bindSpecialIfBound?]
  refine wpAny_holding (wpAny_bind (wpAny_bind (wpAny_bind (J.type.here ((PySem.W.looks_findIn X hs).here ?_)))))
  refine wpAny_bind (wpAny_askSetting (wpAny_ite ?_))
  have last : wpAny M A (call (.builtin id) ([.ref x] ++ args) >>= fun v => pure (some v)) Q E s := wpAny_bind (wpAny_mono h (fun v s' z => wpAny_pure z) fun _ _ z => z)
  split
  · exact wpAny_bind ((PySem.W.Looks.of_pure (hb _)).here (wpAny_pure (by exact last)))
  · exact wpAny_tryCatch (wpAny_bind ((PySem.W.Looks.of_pure (hb _)).here (wpAny_pure (by exact last))))
theorem op_neO (O : OwnEq X.K C f) (F : FnR X.prog X.w X.K X.mg X.base CX k f sp) (hr : Room (k + 1) X.A) (hx : Passes CX X E) : OpR X (compareOp .NotEq) (rEqO C sp E true) := by
  intro pins s σ H x y v u Q I rx ry h
  obtain ⟨⟨a, dx, fs, rfl, ha⟩, ⟨b, dy, gs, rfl, hb⟩, h⟩ := h
  cases rx
  cases ry
  obtain ⟨ox, od, J, _⟩ := ins_look I ha
  obtain ⟨oy, od', J', _⟩ := ins_look I hb
  have un : X.A.units < cLine := Nat.lt_of_le_of_lt (Nat.le_add_right _ _) hr.units
  have un1 : X.A.in1.units < cLine := Nat.lt_of_le_of_lt (Nat.le_add_right _ _) hr.in1.units
  have core : wpAny (model X.prog X.w) X.A (call (.builtin "object.__ne__") [.ref a, .ref b]) (fun v s' => ∃ c, v = .bool c ∧ EP X pins σ Q v s') X.xe s := by
    refine wpAny_call (codeAny_call_builtin PySem.F.slot_object_ne.plain PySem.F.entry_object_ne (PySem.W.check_slot (i := "object.__ne__") (owner := "object") (n := "__ne__") (by decide +kernel) (by decide +kernel) (J.type.andThen (PySem.W.looks_mroIn I.kIn O.m)) (PySem.F.args_object_ne_2 _ _) ?_))
    unfold Builtin.«object.__ne__»
    refine wpAny_bind (m := slotArgs "__ne__" 1 _) (wpAny_pure ?_)
    refine wpAny_bind (m := cRoomFor _ _) (wpAny_cRoomFor un1 ?_)
    refine wpAny_bind (m := callSpecialIfBound? (.ref a) (Str.ofString "__eq__") _) (PySem.W.ifBound_K I.kIn J O.e O.ef (run_at (vs := [.ref a, .ref b]) F hr.in1 I.env0.in1 hx I (.cons rfl (.cons rfl .nil)) h fun u s' hq => ?_))
    obtain ⟨v, H', I', rv, c, rfl, q⟩ := hq
    cases rv
    refine wpAny_bind (m := truthy (.bool c)) (wpAny_pure (wpAny_pure ⟨!c, rfl, .bl (!c), H', I', rfl, ?_⟩))
    cases c <;> exact q
  have one : wpAny (model X.prog X.w) X.A (tryCompare (.ref a) (cmpInfo .NotEq).2.1 (.ref b)) (fun r s' => ∃ v, r = some v ∧ EP X pins σ Q v s') X.xe s := by
    unfold tryCompare
    refine wpAny_bind (ifBound_B I.kIn J O.n PySem.F.slot_object_ne.bind (wpAny_mono core (fun v s' hv => ?_) fun _ _ e => e))
    obtain ⟨c, rfl, q⟩ := hv
    exact wpAny_pure ⟨_, rfl, q⟩
  show wpAny _ _ (richCompare .NotEq (.ref a) (.ref b)) _ _ _
  unfold richCompare
  simp only [oneThing_ref]
  refine wpAny_holding (wpAny_bind (wpAny_cRoomFor un ?_))
  refine wpAny_bind (J.type.here (wpAny_bind (J'.type.here ?_)))
  split
  · rename_i q
    simp at q
  · refine wpAny_bind (wpAny_pure ?_)
    simp only [Bool.false_eq_true, if_false]
    refine wpAny_bind (wpAny_mono one (fun r s' z => ?_) fun _ _ e => e)
    obtain ⟨v, rfl, hq⟩ := z
    exact wpAny_pure hq
def rStrO (C : Addr) (sp : Sp) (E : XK) : List V → Hp → VK → Prop := fun vs H Q => ∃ a dx fs, vs = [.ref a] ∧ H a = some (.ins C dx fs) ∧ sp [.ref a] H (fun v H' => ∃ z, v = .str z ∧ Q (.str z) H') E
theorem rd_strO {σ : L2.St} {H : Hp} {Q : VK} {a dx : Addr} {fs : List (Str × V)} (h : H a = some (.ins C dx fs)) (q : sp [.ref a] H (fun v H' => ∃ z, v = .str z ∧ Q (.str z) H') E) : rStrO C sp E [.ref a] H Q := ⟨a, dx, fs, rfl, h, q⟩
theorem c_strO (hs : PySem.W.findIn X.K (.ref C) "__str__" = some (some (.ref f))) (hf : PySem.W.isFn X.K (.ref f) = true) (F : FnR X.prog X.w X.K X.mg X.base CX k f sp) (hr : Room (k + 2) X.A) (hx : Passes CX X E) : CallR X (.type "str") (rStrO C sp E) := by
  intro pins s σ H xs us Q I r h
  obtain ⟨a, dx, fs, rfl, ha, h⟩ := h
  cases r with
  | cons r1 r2 =>
    cases r2
    cases r1
    obtain ⟨ox, od, J, _⟩ := ins_look I ha
    have un : X.A.in1.in1.units < cLine := Nat.lt_of_le_of_lt (Nat.le_add_right _ _) hr.in1.in1.units
    refine callType_codes (T := "str") (Bi := Builtin.«object.__init__») (Q₁ := fun r s₁ => ∃ y u, r = .str y u ∧ EP X pins σ Q r s₁) PySem.F.called_str (PySem.F.typeCall_str_1 _) PySem.F.entry_object_init ?_ ?_
    · refine codeAny_of_tree ?_
      show wpAny _ X.A.in1.in1 (do checkBuiltinCall "str.__new__" ⟨[.type "str", .ref a], []⟩; again (.builtin "str.__new__" ⟨[.type "str", .ref a], []⟩)) _ _ s
      refine wpAny_bind (wpAny_of_eq (PySem.F.newCall_str_1 _) (wpAny_pure ⟨plainId_quiet (by decide +kernel) _, codeAny_builtin PySem.F.entry_str_new ?_⟩))
      rw [Around.under_plainId (by decide +kernel) _, str_new_tree]
      refine wpAny_bind (wpAny_pure (wpAny_bind (wpAny_of_eq isSubtype_str_str ?_)))
      have key : wpAny (model X.prog X.w) X.A.in1.in1 (PySem.Builtin.Str.strOf (.ref a)) (fun r s₁ => ∃ y u, r = .str y u ∧ EP X pins σ Q r s₁) X.xe s := by
        unfold PySem.Builtin.Str.strOf
        rw [show PySem.Builtin.Str.isExactStr (.ref a) = false from rfl]
        refine wpAny_bind (m := cRoomFor _ _) (wpAny_cRoomFor un ?_)
        refine wpAny_bind (m := callSpecial? (.ref a) (Str.ofString "__str__")) (PySem.W.special_fn I.kIn J hs (beq_iff_eq.mp hf) (run_at (vs := [.ref a]) F hr.in1.in1 I.env0.in1.in1 hx I (.cons rfl .nil) h fun u s' hq => ?_))
        obtain ⟨v, H', I', rv, z, rfl, q⟩ := hq
        obtain ⟨t, rfl⟩ := rv
        exact wpAny_pure ⟨_, _, rfl, .str z, H', I', ⟨t, rfl⟩, q⟩
      exact wpAny_bind (wpAny_mono key (fun r s₁ hr => wpAny_pure hr) fun _ _ y => y)
    · rintro obj s₁ ⟨y, u, rfl, hq⟩
      exact ⟨typeIs_str _ _ _, PySem.F.args_object_init_2 _ _, object_init_meets PySem.F.called_str.init.lookup PySem.F.called_str.made (by decide) X.prog X.w X.A.in1 _ s₁ ⟨typeIs_str _ _ _, rfl, hq⟩⟩
end
end Rd
set_option Elab.async false
set_option linter.all false
set_option maxRecDepth 100000
set_option maxHeartbeats 4000000
namespace Rd
open PySem PySem.Spec PyProof.Rows L2
section
variable {X : Cx}
theorem tuple_mul1 (l : Addr) (items : Array Value) (n : Nat) (dd : Option Addr) (sl : Array (Option Value)) (u : Tok) :
    Meets (Builtin.«tuple.__mul__» ⟨[.ref l, .int 1 u], []⟩) (fun _ R s => s.heap.get? l = some { cls := .type "tuple", dict := dd, data := .seq items n, slots := sl } ∧ R (.ok (.ret (Value.ref l))) s) :=
  .of_wp fun prog w A R s h => by
    obtain ⟨hp, g, d, tk, os⟩ := s
    obtain ⟨hl, h⟩ := h
    have f1 := AutoSeq1.idx_int
    have c1 : (items.isEmpty || (1 : Int) == 1) = true := by simp
    wp_walk using wpAny_loadPart' hl
    repeat (first
      | (refine wpAny_ite_false (decide_eq_false (by decide)) ?_; wp_walk using wpAny_loadPart' hl)
      | (refine wpAny_ite_true (decide_eq_true (by rw [c1])) ?_; wp_walk using wpAny_loadPart' hl))
    exact ⟨_, rfl, h⟩
theorem tuple_mul0 (l : Addr) (items : Array Value) (hne : items.isEmpty = false) (n : Nat) (dd : Option Addr) (sl : Array (Option Value)) (u : Tok) :
    Meets (Builtin.«tuple.__mul__» ⟨[.ref l, .int 0 u], []⟩) (fun _ R s => s.heap.get? l = some { cls := .type "tuple", dict := dd, data := .seq items n, slots := sl } ∧
      R (.ok (.ret (Value.ref s.heap.objs.size))) { s with heap := s.heap.push { cls := Value.type "tuple", data := Data.seq #[] }, toks := s.toks }) :=
  .of_wp fun prog w A R s h => by
    obtain ⟨hp, g, d, tk, os⟩ := s
    obtain ⟨hl, h⟩ := h
    have f1 := AutoSeq1.idx_int
    have c1 : (items.isEmpty || (0 : Int) == 1) = false := by rw [hne]; rfl
    have c2 : (decide ((0 : Int) ≤ 0) || items.isEmpty) = true := by rfl
    wp_walk using wpAny_loadPart' hl
    repeat (first
      | (refine wpAny_ite_false (decide_eq_false (by decide)) ?_; wp_walk using wpAny_loadPart' hl)
      | (refine wpAny_ite_false (decide_eq_false (by rw [c1]; exact Bool.false_ne_true)) ?_; wp_walk using wpAny_loadPart' hl)
      | (refine wpAny_ite_true (decide_eq_true (by rw [c2])) ?_; wp_walk using wpAny_loadPart' hl)
      | (refine wpAny_ite_false (decide_eq_false (Nat.not_lt.mpr (Nat.zero_le _))) ?_; wp_walk using wpAny_loadPart' hl))
    exact ⟨_, rfl, h⟩
/-- a tuple (not empty) times 0, 1, .. 1000 -/
def rMulT (K : PySem.W.Frag) : R2 := fun x y H Q => ∃ l k xs, x = .ref l ∧ y = .int k ∧ SqT K H l xs ∧ xs ≠ [] ∧ 0 ≤ k ∧ k ≤ 1000 ∧ xs.length ≤ 1000 ∧ (k = 1 → Q (.ref l) H) ∧ (k ≠ 1 → ∀ p, H p = none → Q (.ref p) (upd H p (.tup (List.replicate k.toNat xs).flatten)))
theorem op_mulT : OpR X (binaryOp .Mult) (rMulT X.K) := by
  intro pins s σ H x y v u Q I rx ry h
  obtain ⟨l, k, xs, ex, ey, hT, hne, h1, h2, hz, q1, q2⟩ := h
  by_cases hk : 2 ≤ k
  · exact op_repT pins s σ H x y v u Q I rx ry ⟨l, k, xs, ex, ey, hT, hne, hk, h2, hz, q2 (by omega)⟩
  · subst ex ey
    cases rx
    obtain ⟨t, rfl⟩ := ry
    obtain ⟨its, r, ⟨⟨cls, dd, data, sl⟩, ho, hc, n, hd⟩, hs⟩ := I.tuple hT
    simp only at hc hd
    subst hc hd
    have hle : its.length = xs.length := r.length.symm
    have hn : its ≠ [] := fun e => hne (by
      rw [e] at hle
      exact List.eq_nil_of_length_eq_zero hle.symm)
    have hi : its.toArray.isEmpty = false := by
      cases its with
      | nil => exact absurd rfl hn
      | cons a b => rfl
    rcases (show k = 0 ∨ k = 1 by omega) with e | e
    · subst e
      refine wpAny_binaryOp_repeat_ref (T := "tuple") (U := "int") (by decide) ⟨_, ho, rfl⟩ (fun s' => typeIs_int s' 0 t) noFill_tuple_mul F.fills_int_mul F.slot_int_rmul repeat_tuple F.slot_int_index.lookup
        (call_meets F.slot_int_rmul (typeIs_int s 0 t) F.entry_int_rmul (F.args_int_rmul_2 _ _) (int_rmul_tuple 0 t l its.toArray n dd sl)
          ⟨ho, rfl, ⟨_, ho, rfl⟩, call_meets F.slot_tuple_mul ⟨_, ho, rfl⟩ F.entry_tuple_mul (F.args_tuple_mul_2 _ _) (tuple_mul0 l its.toArray hi n dd sl t) ⟨ho, ?_⟩⟩)
      refine ⟨.ref s.heap.objs.size, _, I.laid (t' := s.toks) (o := .tup []) (fun b ob q => Heap.get?_push_of_some _ q) (Nat.le_refl _) ?_, rfl, q2 (by decide) _ (I.hok.fresh (Nat.le_refl _))⟩
      exact ⟨by show 0 ≤ sizeLine; decide, [], .nil, IsTup.new _ _⟩
    · subst e
      refine wpAny_binaryOp_repeat_ref (T := "tuple") (U := "int") (by decide) ⟨_, ho, rfl⟩ (fun s' => typeIs_int s' 1 t) noFill_tuple_mul F.fills_int_mul F.slot_int_rmul repeat_tuple F.slot_int_index.lookup
        (call_meets F.slot_int_rmul (typeIs_int s 1 t) F.entry_int_rmul (F.args_int_rmul_2 _ _) (int_rmul_tuple 1 t l its.toArray n dd sl)
          ⟨ho, rfl, ⟨_, ho, rfl⟩, call_meets F.slot_tuple_mul ⟨_, ho, rfl⟩ F.entry_tuple_mul (F.args_tuple_mul_2 _ _) (tuple_mul1 l its.toArray n dd sl t) ⟨ho, ?_⟩⟩)
      exact ⟨.ref l, H, I, rfl, q1 rfl⟩
theorem rd_mulT {K : PySem.W.Frag} {H : Hp} {Q : VK} {a : Addr} {k : Int} {xs : List V} (h : SqT K H a xs) (hne : xs ≠ []) (h0 : 0 ≤ k) (h1 : k ≤ 1000) (hz : xs.length ≤ 1000)
    (q : ∀ p H', Same H H' → SqT K H' p (List.replicate k.toNat xs).flatten → Q (.ref p) H') : rMulT K (.ref a) (.int k) H Q := by
  refine ⟨a, k, xs, rfl, rfl, h, hne, h0, h1, hz, fun e => q a H (Same.refl H) ?_, fun _ p hp => q p _ (same_new hp) (SqT.of upd_same)⟩
  subst e
  show SqT K H a (List.replicate 1 xs).flatten
  have e2 : (List.replicate 1 xs).flatten = xs := by simp
  rw [e2]
  exact h
end
end Rd
set_option Elab.async false
set_option linter.all false
set_option maxRecDepth 100000
set_option maxHeartbeats 4000000
namespace Rd
open PySem PySem.Spec PyProof.Rows L2
theorem c_lenK {X : Cx} {K : PySem.W.Frag} (hK : X.K = K) : CallR X (.builtin "len") (rLen K) := by subst hK; exact c_len
theorem ix_tupK {X : Cx} {K : PySem.W.Frag} (hK : X.K = K) : IxR X (rIxT K) := by subst hK; exact ix_tup
theorem ix_listK {X : Cx} {K : PySem.W.Frag} (hK : X.K = K) : IxR X (rIxL K) := by subst hK; exact ix_list
def tJoined (ts : List TE) : TE := fun σ H Q => tJs ts Str.empty σ H fun out H1 => Q (.str out) H1
theorem pe_js {X : Cx} {v1 v2 : Expr} {rest : List Expr} {ts : List TE} {pos : Pos} (h : PJ X (v1 :: v2 :: rest) ts) : PE X (.JoinedStr (v1 :: v2 :: rest) pos) (tJoined ts) := pe_joined h
def rStrI : List V → Hp → VK → Prop := fun xs H Q => ∃ i, xs = [.int i] ∧ i.natAbs.log2 < 1920 ∧ Q (.str (toString i)) H
theorem c_strI {X : Cx} : CallR X (.type "str") rStrI := call_str_int
theorem rd_strI {H : Hp} {Q : VK} {i : Int} (h : i.natAbs.log2 < 1920) (q : Q (.str (toString i)) H) : rStrI [.int i] H Q := ⟨i, rfl, h, q⟩
def rJs (ts : List TE) (acc : Str) (σ : L2.St) (Q : Str → Hp → Prop) (x : V) (H : Hp) : Prop := ∃ y : Str, x = .str y ∧ (acc ++ y).length ≤ sizeLine ∧ tJs ts (acc ++ y) σ H Q
theorem rd_joined {ts : List TE} {σ : L2.St} {H : Hp} {Q : VK} (q : tJs ts Str.empty σ H fun out H1 => Q (.str out) H1) : tJoined ts σ H Q := q
theorem rd_js1 {t : TE} {ts : List TE} {acc : Str} {σ : L2.St} {H : Hp} {Q : Str → Hp → Prop} (q : t σ H fun x H1 => rJs ts acc σ Q x H1) : tJs (t :: ts) acc σ H Q := q
theorem rd_js {ts : List TE} {acc y : Str} {σ : L2.St} {H : Hp} {Q : Str → Hp → Prop} (h : (acc ++ y).length ≤ sizeLine) (q : tJs ts (acc ++ y) σ H Q) : rJs ts acc σ Q (.str y) H := ⟨y, rfl, h, q⟩
theorem rd_js0 {acc : Str} {σ : L2.St} {H : Hp} {Q : Str → Hp → Prop} (q : Q acc H) : tJs [] acc σ H Q := q
def rFmt (Q : VK) (x : V) (H : Hp) : Prop := (∃ y : Str, x = .str y ∧ y.length ≤ sizeLine ∧ Q (.str y) H) ∨ ∃ i : Int, x = .int i ∧ i.natAbs.log2 < 1920 ∧ Q (.str (toString i)) H
theorem rd_fmt {te : TE} {σ : L2.St} {H : Hp} {Q : VK} (q : te σ H fun x H1 => rFmt Q x H1) : tFmt te σ H Q := q
theorem rd_fmtS {y : Str} {H : Hp} {Q : VK} (h : y.length ≤ sizeLine) (q : Q (.str y) H) : rFmt Q (.str y) H := .inl ⟨y, rfl, h, q⟩
theorem rd_fmtI {i : Int} {H : Hp} {Q : VK} (h : i.natAbs.log2 < 1920) (q : Q (.str (toString i)) H) : rFmt Q (.int i) H := .inr ⟨i, rfl, h, q⟩
def rRevL (K : PySem.W.Frag) (Q : VK) (x : V) (H : Hp) : Prop := ∃ a xs, x = .ref a ∧ SqL K H a xs ∧ ∀ p, H p = none → Q (.ref p) (upd H p (.lst xs.reverse))
theorem rd_tRevL {K : PySem.W.Frag} {te : TE} {σ : L2.St} {H : Hp} {Q : VK} (q : te σ H fun x H1 => rRevL K Q x H1) : tRevL K te σ H Q := q
def rStarA (K : PySem.W.Frag) (t : TA) (σ : L2.St) (QA : List V → Hp → Prop) (x : V) (H : Hp) : Prop := ∃ p xs, x = V.ref p ∧ (SqT K H p xs ∨ SqL K H p xs) ∧ t σ H fun ys H2 => QA (xs ++ ys) H2
theorem rd_tStar {K : PySem.W.Frag} {te : TE} {t : TA} {σ : L2.St} {H : Hp} {QA : List V → Hp → Prop} (q : te σ H fun x H1 => rStarA K t σ QA x H1) : StX.tStar K te t σ H QA := q
section
variable {K : PySem.W.Frag} {σ : L2.St} {H : Hp} {Q : VK} {g : TG} {te : TE} {tt : TT} {vs : List Nat} {a b : Addr} {xs ys : List V}
theorem rd_chain {r r' : R2} {ta tb tc : TE} (q : ta σ H fun x H1 => tb σ H1 fun y H2 => r x y H2 fun z H3 => ∃ k, z = .bl k ∧ if k = true then tc σ H3 fun w H4 => r' y w H4 Q else Q (.bl false) H3) : tChain r r' ta tb tc σ H Q := q
def rIZT (K : PySem.W.Frag) (vs : List V) (H : Hp) (R : It → Hp → Prop) : Prop := ∃ a b xs ys, vs = [.ref a, .ref b] ∧ ((SqL K H a xs ∧ SqL K H b ys ∧ R (Itz K a b) H) ∨ (SqT K H a xs ∧ SqT K H b ys ∧ R (RZ.ItzT K a b) H))
theorem rd_iZipA {ta : TA} {R : It → Hp → Prop} (q : ta σ H fun vs H1 => rIZT K vs H1 R) : RZ.iZipA K ta σ H R := q
theorem rd_IZT {R : It → Hp → Prop} (h1 : SqT K H a xs) (h2 : SqT K H b ys) (q : R (RZ.ItzT K a b) H) : rIZT K [.ref a, .ref b] H R := ⟨a, b, xs, ys, rfl, .inr ⟨h1, h2, q⟩⟩
theorem lc_zipT (hl : xs.length = ys.length) (f : V × V → V) (hz : xs.length ≤ 100000) (h1 : SqT K H a xs) (h2 : SqT K H b ys)
    (step : ∀ (z : V × V) T H1 (M : V → Hp → Prop), z ∈ xs.zip ys → Same H H1 → H1 T = some (.tup [z.1, z.2]) → (∀ H2, Same H1 H2 → M (f z) H2) → g (.ref T) (wipe σ vs) H1 fun σ2 H2 => wipe σ2 vs = wipe σ vs ∧ te σ2 H2 M)
    (done : ∀ D H', H D = none → Same H H' → H' D = some (.lst ((xs.zip ys).map f)) → Q (.ref D) H') : rLc g tYes te vs σ Q (RZ.ItzT K a b) H := by
  have lz : (xs.zip ys).length = xs.length := by rw [List.length_zip]; omega
  refine lc_gen (xs.zip ys) (fun z v H2 => ∃ T, v = .ref T ∧ H2 T = some (.tup [z.1, z.2])) (fun _ => true) f (by omega) (fun i H1 hi s1 => ?_) (fun H1 s1 => ?_) (fun i H1 x H2 z ez s1 y => ?_) (fun z x H1 N M hz' s1 hx hN hM => ?_) (fun D H' h1 h2 h3 => ?_)
  · exact ⟨xs, ys, xs[i]'(by omega), ys[i]'(by omega), Same.sqT s1 h1, Same.sqT s1 h2, List.getElem?_eq_getElem _, List.getElem?_eq_getElem _⟩
  · exact ⟨xs, ys, Same.sqT s1 h1, Same.sqT s1 h2, .inl (by omega)⟩
  · obtain ⟨T, u, v, rfl, hT, rfl, hu, hv⟩ := y
    have e1 := hu xs (Same.sqT s1 h1)
    have e2 := hv ys (Same.sqT s1 h2)
    have : (xs.zip ys)[i]? = some (u, v) := by rw [List.getElem?_zip_eq_some]; exact ⟨e1, e2⟩
    rw [this] at ez
    injection ez with ez
    subst ez
    exact ⟨same_new hT, T, rfl, upd_same⟩
  · obtain ⟨T, rfl, hT⟩ := hx
    exact step z T H1 M hz' s1 hT (hM rfl)
  · refine done D H' h1 h2 ?_
    rw [h3, List.filter_eq_self.mpr fun _ _ => rfl]
end
end Rd
set_option Elab.async false
set_option linter.all false
set_option maxRecDepth 100000
set_option maxHeartbeats 4000000
namespace Rd
open PySem PySem.Spec PyProof.Rows L2
def sObj (u : Value) (c : Nat) : Obj := { cls := .type "list", dict := none, data := .seq #[u] c, slots := #[] }
abbrev rCO (C : Addr) (sp : Sp) (E : XK) (t : TA) (σ : L2.St) (Q : VK) (y : V) (H1 : Hp) : Prop := ∃ a, y = .ref a ∧ t σ H1 fun vs H2 => (∃ dx fs, H2 a = some (.ins C dx fs)) ∧ sp (.ref a :: vs) H2 Q E
def tCO (C : Addr) (sp : Sp) (E : XK) (tf : TE) (t : TA) : TE := fun σ H Q => tf σ H fun y H1 => rCO C sp E t σ Q y H1
theorem rd_tCO {C : Addr} {sp : Sp} {E : XK} {tf : TE} {t : TA} {σ : L2.St} {H : Hp} {Q : VK} (q : tf σ H fun y H1 => rCO C sp E t σ Q y H1) : tCO C sp E tf t σ H Q := q
end Rd
set_option Elab.async false
set_option linter.all false
set_option maxRecDepth 100000
set_option maxHeartbeats 4000000
namespace Rd
open PySem PySem.Spec PyProof.Rows L2
theorem pe_bmK {X : Cx} {K : PySem.W.Frag} {T name id : String} {r : V → List V → Hp → VK → Prop} {o e : Expr} {es : List Expr} {to : TE} {t : TA} {apos cpos : Pos} (hK : X.K = K) (pa : PlainAttrs T) (slot : Slot T name id) (hty : typeOf (.builtin id) = pure (.type "method_descriptor")) (hm : MtM X id r) (ho : PE X o to) (ha : PA X (e :: es) t)
    (hbase : attributeBase o name X.env (eval o X.env) = eval o X.env := by rfl)
    (hfew : ((backTo cpos (starEach (e :: es) X.env)).all (fun x => !x.1) && (backToKw cpos (keywordEach [] X.env)).all (fun x => x.1.isSome)
      && decide ((e :: es).length + ([] : List Keyword).length + (if ([] : List Keyword).isEmpty then 0 else 1) < 30)) = true := by rfl)
    (hline : (apos.endLine == cpos.line) = true := by rfl) (hs : starEach (e :: es) X.env = (false, eval e X.env) :: starEach es X.env := by rfl) (hplain : (backTo cpos (starEach es X.env)).any (·.1) = false := by rfl) :
    PE X (.Call (.Attribute o name apos) (e :: es) [] cpos) (tBM K T r to t) := by
  subst hK
  exact pe_bm pa slot hty hm ho ha hbase hfew hline hs hplain
theorem rd_popAt {H : Hp} {Q : VK} {a : Addr} {xs : List V} {k : Nat} (h : H a = some (.lst xs)) (hk : k < xs.length) (hz : xs.length < 1000000) (q : Q xs[k] (upd H a (.lst (xs.eraseIdx k)))) : rPopAt (.ref a) [.int (k : Nat)] H Q := by
  refine ⟨a, xs, (k : Nat), k, xs[k], rfl, rfl, h, by omega, by omega, ?_, List.getElem?_eq_getElem hk, q⟩
  unfold seqIndex?
  have e : ¬ ((k : Nat) : Int) < 0 := by omega
  simp [e, hk]
end Rd
set_option Elab.async false
set_option linter.all false
set_option maxRecDepth 100000
set_option maxHeartbeats 4000000
namespace Rd
open PySem PySem.Spec PyProof.Rows L2
open AutoSeq1 (wpAny_loadPart')
/-- the tuple at a, each item with its number in a new pair -/
def IteT (K : PySem.W.Frag) (a : Addr) : It :=
  ⟨fun i H => ∃ (xs : List V) (x : V), SqT K H a xs ∧ xs[i]? = some x, fun i H v H' => ∃ T x, v = .ref T ∧ H T = none ∧ H' = upd H T (.tup [.int (i : Nat), x]) ∧ ∀ xs, SqT K H a xs → xs[i]? = some x, fun i H => ∃ xs : List V, SqT K H a xs ∧ xs.length = i⟩
def rIET (K : PySem.W.Frag) (vs : List V) (H : Hp) (R : It → Hp → Prop) : Prop := ∃ a xs, vs = [.ref a] ∧ SqT K H a xs ∧ R (IteT K a) H
def iEnumT (K : PySem.W.Frag) (ta : TA) : TI := fun σ H R => ta σ H fun vs H1 => rIET K vs H1 R
section
variable {K : PySem.W.Frag} {σ : L2.St} {H : Hp} {g : TG} {tb : TS} {D : Ends} {a : Addr} {xs : List V} {ta : TA}
theorem rd_iEnumT {R : It → Hp → Prop} (q : ta σ H fun vs H1 => rIET K vs H1 R) : iEnumT K ta σ H R := q
theorem rd_IET {R : It → Hp → Prop} (h : SqT K H a xs) (q : R (IteT K a) H) : rIET K [.ref a] H R := ⟨a, xs, rfl, h, q⟩
end
end Rd
set_option Elab.async false
set_option linter.all false
set_option maxRecDepth 100000
set_option maxHeartbeats 4000000
namespace Rd
open PySem PySem.Spec PyProof.Rows L2
def ItT (t it : Addr) : HO := .ext fun h => h.get? it = some { cls := .type "tuple_iterator", data := .fields #[.ref t, .int 0 0] }
def rIO (K : PySem.W.Frag) (C : Addr) (sp : Nat → Sp) (R : It → Hp → Prop) (v : V) (H : Hp) : Prop := ∃ x, v = .ref x ∧ (∃ dx fs, H x = some (.ins C dx fs)) ∧ ∀ n, sp n [.ref x] H (fun u H2 => ∃ it p, u = .ref it ∧ n ≤ it ∧ H2 it = some (ItT p it) ∧ R (Itt K p) (ItX.dropH H2 it)) E0
def iOwn (K : PySem.W.Frag) (C : Addr) (sp : Nat → Sp) (te : TE) : TI := fun σ H R => te σ H fun v H1 => rIO K C sp R v H1
theorem rd_iOwn {K : PySem.W.Frag} {C : Addr} {sp : Nat → Sp} {te : TE} {σ : L2.St} {H : Hp} {R : It → Hp → Prop} (q : te σ H fun v H1 => rIO K C sp R v H1) : iOwn K C sp te σ H R := q
end Rd
set_option Elab.async false
set_option linter.all false
set_option maxRecDepth 100000
set_option maxHeartbeats 4000000
namespace Rd
open PySem PySem.Spec PyProof.Rows L2
def SqF (H : Hp) (a : Addr) (xs : List V) : Prop := ∃ o : Obj, o.dict = none ∧ H a = some (.frz o (.tup xs))
theorem SqF.sq {K : PySem.W.Frag} {H : Hp} {a : Addr} {xs : List V} (h : SqF H a xs) : SqT K H a xs := let ⟨o, _, e⟩ := h; .inl (.inr ⟨o, e⟩)
theorem SqF.same {H H' : Hp} {a : Addr} {xs : List V} (h : SqF H a xs) (s : Same H H') : SqF H' a xs := let ⟨o, d, e⟩ := h; ⟨o, d, s _ _ e⟩
def rMkTupF : List V → Hp → VK → Prop := fun xs H Q => xs.length ≤ sizeLine ∧ ∀ (p : Addr) (o : Obj), H p = none → o.dict = none → Q (.ref p) (upd H p (.frz o (.tup xs)))
section
variable {X : Cx} {es : List Expr} {t : TA} {k : Nat} {pos : Pos} {H : Hp} {Q : VK} {xs : List V} {K : PySem.W.Frag} {a : Addr}
theorem pe_tupF (h : PA X es t) : PE X (.Tuple es k pos) (tCB rMkTupF t) := by
  refine ⟨fun pins s σ H Q I hq => ?_⟩
  refine wpAny_Tuple_spliced (thn (h.run pos pins s σ H _ I hq) fun us s1 ⟨xs, H1, I1, r, z, q⟩ => ⟨by rw [← r.length]; exact z, ?_⟩)
  refine ⟨.ref s1.heap.objs.size, upd H1 s1.heap.objs.size (.frz { cls := .type "tuple", data := .seq us.toArray } (.tup xs)), I1.laid (t' := s1.toks) (fun b u e => Heap.get?_push_of_some _ e) (Nat.le_refl _) ?_, rfl, q _ _ (I1.hok.fresh (Nat.le_refl _)) rfl⟩
  exact ⟨Heap.get?_push_size _ rfl, z, us, r, ⟨_, Heap.get?_push_size _ rfl, rfl, _, rfl⟩⟩
theorem rd_mkTupF (hn : xs.length ≤ sizeLine) (q : ∀ p H', H p = none → Same H H' → SqF H' p xs → Q (.ref p) H') : rMkTupF xs H Q := ⟨hn, fun p o hp ho => q p _ hp (same_new hp) ⟨o, ho, upd_same⟩⟩
def rTupleF (K : PySem.W.Frag) : List V → Hp → VK → Prop := fun xs H Q => ∃ p ys, xs = [.ref p] ∧ SqL K H p ys ∧ ∀ (l : Addr) (o : Obj), H l = none → o.dict = none → Q (.ref l) (upd H l (.frz o (.tup ys)))
theorem c_tupleF : CallR X (.type "tuple") (rTupleF X.K) := by
  intro pins s σ H xs us Q I r h
  obtain ⟨p, ys, rfl, hq, q⟩ := h
  rw [Vals.ref1 r]
  obtain ⟨its, rv, pl, hz⟩ := I.list hq
  have hlen := rv.length
  refine call_tuple_list pl.isList (fun h2 kp => ?_) (by simp only [List.size_toArray] <;> omega)
  have I1 : L2.Inv X pins σ H { s with heap := h2 } := I.kept (t' := s.toks) kp
  refine ⟨.ref h2.objs.size, _, I1.laid (t' := s.toks) (o := .frz { cls := .type "tuple", data := .seq its.toArray } (.tup ys)) (fun b o e => Heap.get?_push_of_some _ e) (Nat.le_refl _) ?_, rfl, q _ _ (I1.hok.fresh (Nat.le_refl _)) rfl⟩
  exact ⟨Heap.get?_push_size _ rfl, hz, its, rv, IsTup.new _ _⟩
theorem rd_tupleF (h : SqL K H a xs) (q : ∀ l H', H l = none → Same H H' → SqF H' l xs → Q (.ref l) H') : rTupleF K [.ref a] H Q := ⟨a, xs, rfl, h, fun l o hl ho => q l _ hl (same_new hl) ⟨o, ho, upd_same⟩⟩
/-- a list display whose place is not that of sys.modules -/
def rMkLstN : List V → Hp → VK → Prop := fun xs H Q => xs.length ≤ sizeLine ∧ ∀ p : Addr, H p = none → p ≠ sysModules → Q (.ref p) (upd H p (.lst xs))
theorem pe_lstN (h : PA X es t) : PE X (.List es pos) (tCB rMkLstN t) := by
  refine ⟨fun pins s σ H Q I hq => ?_⟩
  refine wpAny_List_spliced (thn (h.run pos pins s σ H _ I hq) fun us s1 ⟨xs, H1, I1, r, z, q⟩ => ⟨by rw [← r.length]; exact z, ?_⟩)
  exact ⟨.ref s1.heap.objs.size, upd H1 s1.heap.objs.size (.lst xs), I1.laid (t' := s1.toks) (fun b u e => Heap.get?_push_of_some _ e) (Nat.le_refl _) ⟨z, us, 0, r, Heap.get?_push_size _ rfl⟩, rfl, q _ (I1.hok.fresh (Nat.le_refl _)) (Nat.ne_of_gt I1.big)⟩
theorem rd_mkLstN (hn : xs.length ≤ sizeLine) (q : ∀ p H', H p = none → p ≠ sysModules → Same H H' → H' p = some (.lst xs) → Q (.ref p) H') : rMkLstN xs H Q := ⟨hn, fun p hp np => q p _ hp np (same_new hp) upd_same⟩
end
section
variable {X : Cx} {H : Hp} {Q : VK} {K : PySem.W.Frag} {a b : Addr} {kvs more : List (Key × V)} {σ : L2.St}
/-- a.update(b) -/
def rUpd : V → List V → Hp → VK → Prop := fun x xs H Q => ∃ (a b : Addr) (kvs more : List (Key × V)), x = .ref a ∧ xs = [.ref b] ∧ a ≠ b ∧ H a = some (.dK kvs) ∧ H b = some (.dK more) ∧ kvs.length + more.length ≤ sizeLine ∧ Q .non (upd H a (.dK (mergeK kvs more)))
theorem mt_upd : MtR X "dict.update" rUpd := by
  intro pins s σ H x xs v us Q I rx rxs h
  obtain ⟨a, b, kvs, more, rfl, rfl, hne, ha, hb, hz, q⟩ := h
  cases rx
  obtain ⟨u, rfl, ru⟩ := vals1 rxs
  cases ru
  obtain ⟨z1, s1, vs, rel, dd⟩ := dk_of I.hok ha
  obtain ⟨z2, s2, ws, rel2, dd2⟩ := dk_of I.hok hb
  have hl : (mergeK kvs more).length ≤ sizeLine := Nat.le_trans (length_mergeK more kvs) hz
  refine call_meetsIn F.slot_dict_update dd.typeIs F.entry_dict_update (F.args_dict_update_2 _ _) (meets_dict_update (mixKind X.prog X.w) a b hne s2) ⟨vs, ws, dd, dd2, by rw [← rel.length, ← rel2.length]; exact hz, fun h2 d1 d2 sb => ?_⟩
  have he : ∃ o, h2.get? a = some o := let ⟨o, _, _, e, _⟩ := d1; ⟨o, e⟩
  exact ⟨.non, _, I.write (e := a) (t' := s.toks) (o := .dK (mergeK kvs more)) (by rw [ha]; trivial) (.inl rfl) (fun c o hc e => (sb.2 c hc).trans e) he (dk_new hl s1 (KV.merge rel2 rel) d1), rfl, q⟩
theorem rd_upd (hne : a ≠ b) (ha : H a = some (.dK kvs)) (hb : H b = some (.dK more)) (hz : kvs.length + more.length ≤ sizeLine) (q : Q .non (upd H a (.dK (mergeK kvs more)))) : rUpd (.ref a) [.ref b] H Q := ⟨a, b, kvs, more, rfl, rfl, hne, ha, hb, hz, q⟩
theorem tyD (h : H a = some (.dK kvs)) : tyV K "dict" (.ref a) H := .inr (.inr (.inl ⟨rfl, .inl ⟨kvs, h⟩⟩))
/-- dict(l), l a list of pairs -/
def rDictL (K : PySem.W.Frag) : List V → Hp → VK → Prop := fun xs H Q => ∃ (a : Addr) (ps : List Addr) (kvs : List (Key × V)), xs = [.ref a] ∧ SqL K H a (ps.map V.ref) ∧ Paired (fun p kv => SqT K H p [kV kv.1, kv.2]) ps kvs ∧ ∀ p, H p = none → Q (.ref p) (upd H p (.dK (mergeK [] kvs)))
theorem c_dictL (hc : X.calm = true) : CallR X (.type "dict") (rDictL X.K) := call_dictP hc
theorem rd_dictL {ps : List Addr} (h : SqL K H a (ps.map V.ref)) (hp : Paired (fun p kv => SqT K H p [kV kv.1, kv.2]) ps kvs) (q : ∀ p H', H p = none → Same H H' → H' p = some (.dK (mergeK [] kvs)) → Q (.ref p) H') : rDictL K [.ref a] H Q := ⟨a, ps, kvs, rfl, h, hp, fun p hp => q p _ hp (same_new hp) upd_same⟩
/-- len(d) -/
def rLenD : List V → Hp → VK → Prop := fun xs H Q => ∃ (a : Addr) (kvs : List (Key × V)), xs = [.ref a] ∧ L2.Rd H a (.dK kvs) ∧ Q (.int (kvs.length : Nat)) H
theorem c_lenD : CallR X (.builtin "len") rLenD := by
  intro pins s σ H xs us Q I r h
  obtain ⟨a, kvs, rfl, ha, q⟩ := h
  rw [Vals.ref1 r]
  exact d_len I ha fun t s2 I2 => ⟨.int (kvs.length : Nat), H, I2, ⟨t, rfl⟩, q⟩
theorem rd_lenD (h : H a = some (.dK kvs)) (q : Q (.int (kvs.length : Nat)) H) : rLenD [.ref a] H Q := ⟨a, kvs, rfl, .inl h, q⟩
/-- sorted(d), keys texts -/
def rSortD : List V → Hp → VK → Prop := fun xs H Q => ∃ (a : Addr) (kvs : List (Key × V)) (ks : List Str), xs = [.ref a] ∧ L2.Rd H a (.dK kvs) ∧ kvs.map (·.1) = ks.map Sum.inr ∧ ks.length < 64 ∧
    ∀ ys p, ys.Perm ks → sortedS ys = true → H p = none → Q (.ref p) (upd H p (.lst (ys.map V.str)))
theorem c_sortD (hc : X.calm = true) : CallR X (.builtin "sorted") rSortD := call_sortedD hc
theorem rising_pw : ∀ (l : List Str) (x : Str), risingS x l = true → (x :: l).Pairwise fun a b => lts b a = false
  | [], x, _ => List.pairwise_singleton _ _
  | y :: l, x, h => by
    unfold risingS at h
    rw [Bool.and_eq_true] at h
    have ih := rising_pw l y h.2
    have e1 : lts y x = false := by
      have e0 := h.1
      rw [Bool.not_eq_true', ltCps_eq] at e0
      exact e0
    refine List.pairwise_cons.mpr ⟨fun z hz => ?_, ih⟩
    rcases List.mem_cons.mp hz with q | q
    · rw [q]; exact e1
    · exact lts_ntr e1 ((List.pairwise_cons.mp ih).1 z q)
theorem sortedS_pw {l : List Str} (h : sortedS l = true) : l.Pairwise fun a b => lts b a = false := by
  cases l with
  | nil => exact List.Pairwise.nil
  | cons x l => exact rising_pw l x h
theorem rd_sortD {ks : List Str} (h : H a = some (.dK kvs)) (hk : kvs.map (·.1) = ks.map Sum.inr) (hl : ks.length < 64) (nd : ks.Nodup) (q : ∀ (ys : List Str) (p : Addr) (H' : Hp), ys.Perm ks → Asc ys → H p = none → Same H H' → H' p = some (.lst (ys.map V.str)) → Q (.ref p) H') : rSortD [.ref a] H Q :=
  ⟨a, kvs, ks, rfl, .inl h, hk, hl, fun ys p h1 h2 hp => q ys p _ h1 (asc_of (sortedS_pw h2) (h1.nodup_iff.mpr nd)) hp (same_new hp) upd_same⟩
theorem rd_dget {td ty : TE} (q : td σ H fun x H1 => ty σ H1 fun y H2 => ∃ a v, x = .ref a ∧ DGet H2 a y (some v) ∧ Q v H2) : tDGet td ty σ H Q := q
theorem rd_din {td ty : TE} (q : ty σ H fun y H1 => td σ H1 fun x H2 => ∃ a o, x = .ref a ∧ DGet H2 a y o ∧ Q (.bl o.isSome) H2) : tDIn ty td σ H Q := q
theorem rd_dnotin {td ty : TE} (q : ty σ H fun y H1 => td σ H1 fun x H2 => ∃ a o, x = .ref a ∧ DGet H2 a y o ∧ Q (.bl (!o.isSome)) H2) : tDNotIn ty td σ H Q := q
theorem rd_dput {td ty tv : TE} {D : Ends} (q : tv σ H fun v H1 => td σ H1 fun x H2 => ty σ H2 fun y H3 => ∃ a H4, x = .ref a ∧ DPut H3 a y v H4 ∧ D.nx σ H4) : sDPut td ty tv D σ H := q
theorem dg_s {x : Str} (h : H a = some (.dK kvs)) : DGet H a (.str x) (valV kvs (Sum.inr x)) := DGet.k (k := Sum.inr x) h
theorem dp_s {x : Str} {v : V} (h : H a = some (.dK kvs)) (hl : kvs.length < sizeLine) : DPut H a (.str x) v (upd H a (.dK (putK kvs (Sum.inr x) v))) := DPut.k (k := Sum.inr x) h hl
end
mutual
/-- v is the data d: dicts, lists (not at the place of sys.modules), and data of tuples -/
inductive Dz (K : PySem.W.Frag) (H : Hp) : V → PyData → Prop
  | base {v : V} {d : PyData} : Dt K H v d → Dz K H v d
  | dic {a : Addr} {kvs : List (Key × V)} {ds : List PyData} : H a = some (.dK kvs) → DzAll K H (kvs.map (·.2)) ds → Dz K H (.ref a) (.dict ((kvs.map fun kv => match kv.1 with | .inl i => PyData.int i | .inr x => PyData.str x).zip ds))
  | lst {a : Addr} {xs : List V} {ds : List PyData} : SqL K H a xs → a ≠ sysModules → DzAll K H xs ds → Dz K H (.ref a) (.list ds)
inductive DzAll (K : PySem.W.Frag) (H : Hp) : List V → List PyData → Prop
  | nil : DzAll K H [] []
  | cons {v : V} {vs : List V} {d : PyData} {ds : List PyData} : Dz K H v d → DzAll K H vs ds → DzAll K H (v :: vs) (d :: ds)
end
section
variable {X : Cx} {pins : List (Addr × Obj)} {σ : L2.St} {H : Hp} {s : Shared}
mutual
theorem Dt.reads0 (I : L2.Inv X pins σ H s) : ∀ (d : PyData) (v : V) (u : Value), Dt X.K H v d → RelV v u → Reads s.heap u d []
  | .none, _, _, h, r => by cases h; cases r; exact Reads.none
  | .bool b, _, _, h, r => by cases h; cases r; exact Reads.bool b
  | .int i, _, _, h, r => by cases h; obtain ⟨t, rfl⟩ := r; exact Reads.int i t
  | .str x, _, _, h, r => by cases h; obtain ⟨t, rfl⟩ := r; exact Reads.str x t
  | .list _, _, _, h, _ => nomatch h
  | .dict _, _, _, h, _ => nomatch h
  | .tuple ds, _, _, h, r => by
    cases h with
    | tup h1 h2 =>
      cases r
      obtain ⟨its, rv, ⟨o, ho, hc, n, hd⟩, _⟩ := I.tuple h1
      exact Reads.tuple ho hc hd (by simpa using DtAll.reads0 I ds _ _ h2 rv)
theorem DtAll.reads0 (I : L2.Inv X pins σ H s) : ∀ (ds : List PyData) (vs : List V) (us : List Value), DtAll X.K H vs ds → Vals vs us → ReadsAll s.heap us ds []
  | [], _, _, h, r => by cases h; cases r; exact ReadsAll.nil
  | d :: ds, _, _, h, r => by
    cases h with
    | cons h1 h2 =>
      cases r with
      | cons r1 r2 => exact ReadsAll.cons (Dt.reads0 I d _ _ h1 r1) (DtAll.reads0 I ds _ _ h2 r2)
end
def encK (k : Key) : PyData := match k with | .inl i => .int i | .inr x => .str x
theorem reads_key {h : Heap} {P : Program} {w : World} (k : Key) (u : Value) (q : (mixKind P w).is k u = true) : Reads h u (encK k) [] := by
  rcases keyIs_shape q with ⟨i, t, e1, e2⟩ | ⟨x, t, e1, e2⟩
  · rw [e1, e2]
    exact Reads.int i t
  · rw [e1, e2]
    exact Reads.str x t
theorem pairsRead_of {h : Heap} : ∀ {kvs : List (Key × V)} {vs : List (Key × Value)} {ds : List PyData} {as : List Addr}, KV kvs vs → ReadsAll h (vs.map (·.2)) ds as → PyProof.V.PairsRead h encK vs ((kvs.map fun kv => encK kv.1).zip ds) as
  | [], _, _, _, .nil, r => by
    cases r
    exact PyProof.V.PairsRead.nil
  | (k, v) :: kvs, (k', u) :: vs, ds, as, .cons r1 r2, r => by
    obtain ⟨e, _⟩ := r1
    dsimp only at e
    subst e
    rw [List.map_cons] at r
    cases r with
    | cons q1 q2 => exact PyProof.V.PairsRead.cons q1 (pairsRead_of r2 q2)
theorem kv_vals : ∀ {kvs : List (Key × V)} {vs : List (Key × Value)}, KV kvs vs → Vals (kvs.map (·.2)) (vs.map (·.2))
  | _, _, .nil => .nil
  | _, _, .cons r t => .cons r.2 (kv_vals t)
mutual
theorem Dz.reads (I : L2.Inv X pins σ H s) : ∀ {d : PyData} {v : V} {u : Value}, Dz X.K H v d → RelV v u → ∃ as, Reads s.heap u d as ∧ sysModules ∉ as
  | _, _, _, .base h, r => ⟨[], Dt.reads0 I _ _ _ h r, fun z => nomatch z⟩
  | _, _, _, .lst h1 hn h2, r => by
    cases r
    obtain ⟨its, rv, ⟨o, n, ho, hc, _, hd⟩, _⟩ := I.list h1
    obtain ⟨as, q1, q2⟩ := DzAll.reads I h2 rv
    exact ⟨_, Reads.list ho hc hd (by simpa using q1), fun z => by
      rcases List.mem_cons.mp z with e | e
      · exact hn e.symm
      · exact q2 e⟩
  | _, _, _, .dic h1 h2, r => by
    cases r
    obtain ⟨_, hm, vs, rel, dd⟩ := dk_of I.hok h1
    obtain ⟨as, q1, q2⟩ := DzAll.reads I h2 (kv_vals rel)
    have hp := pairsRead_of rel q1
    refine ⟨_, PyProof.V.reads_dictOf (knd := mixKind X.prog X.w) (enc := encK) (fun k u q => reads_key k u q) dd hp, fun z => ?_⟩
    rcases List.mem_cons.mp z with e | e
    · rw [← e] at hm
      simp at hm
    · exact q2 e
theorem DzAll.reads (I : L2.Inv X pins σ H s) : ∀ {ds : List PyData} {vs : List V} {us : List Value}, DzAll X.K H vs ds → Vals vs us → ∃ as, ReadsAll s.heap us ds as ∧ sysModules ∉ as
  | _, _, _, .nil, .nil => ⟨[], ReadsAll.nil, fun z => nomatch z⟩
  | _, _, _, .cons h1 h2, .cons r1 r2 => by
    obtain ⟨as, q1, q2⟩ := Dz.reads I h1 r1
    obtain ⟨bs, q3, q4⟩ := DzAll.reads I h2 r2
    exact ⟨_, ReadsAll.cons q1 q3, fun z => (List.mem_append.mp z).elim q2 q4⟩
end
end
def rRepZ (K : PySem.W.Frag) : List V → Hp → VK → Prop := fun xs H Q => ∃ a d, xs = [.ref a] ∧ Dz K H (.ref a) d ∧ d.showable = true ∧ d.depth ≤ 60 ∧ d.shown.length ≤ sizeLine ∧ Q (.str d.shown) H
theorem c_reprZ {X : Cx} (hg : X.A.guards = some []) (hu : X.A.units + 64 < cLine) : CallR X (.builtin "repr") (rRepZ X.K) := by
  intro pins s σ H xs us Q I r h
  obtain ⟨a, d, rfl, hd, hs, hz, hl, q⟩ := h
  rw [Vals.ref1 r]
  obtain ⟨as, rd, nm⟩ := Dz.reads I hd rfl
  exact repr_of_reads' rd hs (fun _ => nm) hg (by omega) (fun _ _ e => e) (fun h' u tk hk => ⟨.str _, H, I.kept hk, ⟨_, rfl⟩, q⟩) hl
theorem rd_reprZ {K : PySem.W.Frag} {H : Hp} {Q : VK} {a : Addr} {d : PyData} (h : Dz K H (.ref a) d) (hs : d.showable = true) (hz : d.depth ≤ 60) (hl : d.shown.length ≤ sizeLine) (q : Q (.str d.shown) H) : rRepZ K [.ref a] H Q := ⟨a, d, rfl, h, hs, hz, hl, q⟩
end Rd
set_option Elab.async false
set_option linter.all false
set_option maxRecDepth 100000
set_option maxHeartbeats 4000000
namespace Rd
open PySem PySem.Spec PyProof.Rows L2
/-- a promise of calls with positional values and the keyword kw: its value ahead of the others -/
def FnK (P : Program) (w : World) (K : PySem.W.Frag) (mg : Str → Option Value) (base : Heap) (CX : CXT) (k : Nat) (f : Addr) (kw : Str) (sp : Sp) : Prop :=
  ∀ (A : Around) (outer : List Env) (s : Shared) (H : Hp) (us : List Value) (vs : List V) (Q : VK) (E : XK) (u : Value) (v : V), Room k A → Env0 P w K mg base A outer s H → Vals vs us → RelV v u → sp (v :: vs) H Q E →
    codeAny (model P w) A (.call (.ref f) ⟨us, [(kw, u)]⟩) (CR CX outer P w H s Q E) s
/-- two values, the keyword's, the tuple of the rest -/
def spStarK (sp : Sp) : Sp := fun vs H Q E => ∃ v a b rest, vs = v :: a :: b :: rest ∧ rest.length ≤ sizeLine ∧ ∀ p H', H p = none → Same H H' → H' p = some (.tup rest) → sp [a, b, v, .ref p] H' Q E
section
variable {P : Program} {w : World} {K : PySem.W.Frag} {mg : Str → Option Value} {base : Heap} {CX : CXT} {k : Nat} {f : Addr} {x qual : Str} {st : Stmt} {N : List Str} {p1 p2 kw pv : Str}
theorem HasAt.starK {sp : Sp} (h : HasAt K f x qual st) (S : FnScope N [p1, p2, kw, pv] (defScope st)) (hCX : StX.CXUp CX)
    (hb : ∀ (kV doc pm : Value) (an : Option Addr) (cdv ct a b u : Value) (rest : List Value), bindArgs (PySem.W.fnOf x qual (defArgs st) (defBody st) (defScope st) .none kV doc pm an cdv ct) ⟨a :: b :: rest, [(kw, u)]⟩ = (newTuple rest >>= fun t => pure [(p1, a), (p2, b), (kw, u), (pv, t)]))
    (body : ∀ (cdv : Value) (A : Around) (outer : List Env) (s : Shared) (H : Hp) (Q : VK) (E : XK) (vs : List V), Room k (A.deeper (PyProof.Rows.envOfC qual (defScope st) s.heap.objs.size f cdv)) → sp vs H Q E →
      ∃ t, PSs (cxOf CX P w K mg base N qual (defScope st) f cdv A outer s H E) (defBody st) t ∧ t { nx := fun _ H' => Q .non H', rt := Q } (start N vs) H) :
    FnK P w K mg base CX (k + 1) f kw (spStarK sp) := by
  obtain ⟨fd, F⟩ := h
  obtain ⟨oc, od, dV, kV, doc, pm, an, cdv, ct, osl, e, lk, hcd, hD, hK⟩ := F.ex
  subst e
  rcases hD with ⟨_, e⟩ | ⟨e, _⟩
  · subst e
    intro A outer s H us vs Q E u v hr e0 r rv hsp
    obtain ⟨v', a, b, rest, ev, hz, hq⟩ := hsp
    obtain ⟨rfl, rfl⟩ := List.cons.inj ev
    match us, r with
    | ua :: ub :: ur, .cons ra (.cons rb rr) =>
      have hn : H s.heap.objs.size = none := e0.hok.fresh (Nat.le_refl _)
      have hl2 : ur.length ≤ sizeLine := by rw [← rr.length]; exact hz
      refine StX.run_bnd lk hcd S hr e0 (G := fun xs H2 => ∃ p, H p = none ∧ xs = [a, b, v, V.ref p] ∧ H2 = upd H p (.tup rest)) (fun A2 Ex Q2 hq2 => ?_) fun s2 H2 xs ⟨p, hp, ex, eH⟩ hr2 => ?_
      · rw [hb kV doc pm an cdv ct ua ub u ur]
        refine wpAny_bind (wpAny_newTuple (wpAny_pure ?_) hl2)
        have new : ObjOk P w (upd H s.heap.objs.size (.tup rest)) (s.heap.push ({ cls := .type "tuple", data := .seq ur.toArray } : Obj)) s.heap.objs.size (.tup rest) := ⟨hz, ur, rr, ⟨_, Heap.get?_push_size _ rfl, rfl, _, rfl⟩⟩
        have un := StX.un_laid (fs := frs outer) (s := s) (o := ({ cls := .type "tuple", data := .seq ur.toArray } : Obj)) (u := .tup rest) hn
        exact hq2 _ _ [a, b, v, V.ref s.heap.objs.size] [ua, ub, u, Value.ref s.heap.objs.size] (StX.env0_laid e0 new) un rfl (fun e s' => hCX outer s H _ _ E e s' un (fun c o q => Heap.get?_push_of_some _ q) rfl) (.cons ra (.cons rb (.cons rv (.cons rfl .nil)))) rfl ⟨_, hn, rfl, rfl⟩
      · subst ex eH
        exact body cdv A outer s2 _ Q E _ hr2 (hq p _ hp (same_new hp) upd_same)
  · exact absurd rfl e
end
end Rd
namespace Rd
open PySem PySem.Spec PyProof.Rows L2
section
variable {P : Program} {w : World} {K : PySem.W.Frag} {mg : Str → Option Value} {base : Heap} {CX : CXT} {k : Nat} {f : Addr} {x qual : Str} {st : Stmt} {N : List Str} {p1 p2 kw pv : Str}
/-- the def st at f, with a default of its keyword -/
def HasAtK (K : PySem.W.Frag) (f : Addr) (x qual : Str) (st : Stmt) (kw : Str) (dv : V) : Prop := ∃ fd, FunD K x qual (defArgs st) (defBody st) (defScope st) [] [(kw, dv)] f fd
theorem HasAtK.at {dv : V} (h : HasAtK K f x qual st kw dv) : HasAt K f x qual st := by
  obtain ⟨fd, ⟨oc, od, dV, kV, doc, pm, an, cdv, ct, osl, e, lk, hcd, hD, hK⟩, kp⟩ := h
  exact ⟨fd, ⟨oc, od, dV, kV, doc, pm, an, cdv, ct, osl, e, lk, hcd, hD, .inl rfl⟩, kp⟩
/-- the keyword is left out -/
def spStarD (dv : V) (sp : Sp) : Sp := fun vs H Q E => ∃ a b rest, vs = a :: b :: rest ∧ rest.length ≤ sizeLine ∧ ∀ p H', H p = none → Same H H' → H' p = some (.tup rest) → sp [a, b, dv, .ref p] H' Q E
theorem HasAtK.starD {sp : Sp} {dv : V} (h : HasAtK K f x qual st kw dv) (S : FnScope N [p1, p2, kw, pv] (defScope st)) (hCX : StX.CXUp CX)
    (hb : ∀ (D : Addr) (doc pm : Value) (an : Option Addr) (cdv ct a b : Value) (rest : List Value), ∃ (β γ : Type) (k1 : Option Value → Sem β) (k2 : β → Sem γ) (k3 : γ → Sem (List (Str × Value))) (c : Value → β), bindArgs (PySem.W.fnOf x qual (defArgs st) (defBody st) (defScope st) .none (.ref D) doc pm an cdv ct) ⟨a :: b :: rest, []⟩ = (((nsGet D kw >>= k1) >>= k2) >>= k3) ∧ (∀ u, k1 (some u) = pure (c u)) ∧ ∀ u, (k2 (c u) >>= k3) = (newTuple rest >>= fun t => pure [(p1, a), (p2, b), (kw, u), (pv, t)]))
    (body : ∀ (cdv : Value) (A : Around) (outer : List Env) (s : Shared) (H : Hp) (Q : VK) (E : XK) (vs : List V), Room k (A.deeper (PyProof.Rows.envOfC qual (defScope st) s.heap.objs.size f cdv)) → sp vs H Q E →
      ∃ t, PSs (cxOf CX P w K mg base N qual (defScope st) f cdv A outer s H E) (defBody st) t ∧ t { nx := fun _ H' => Q .non H', rt := Q } (start N vs) H) :
    FnR P w K mg base CX (k + 1) f (spStarD dv sp) := by
  obtain ⟨fd, F⟩ := h
  obtain ⟨oc, od, dV, kV, doc, pm, an, cdv, ct, osl, e, lk, hcd, hD, hK⟩ := F.ex
  subst e
  rcases hD with ⟨_, e⟩ | ⟨e, _⟩
  · subst e
    rcases hK with e | ⟨D, e, hq0⟩
    · exact nomatch e
    subst e
    obtain ⟨u, hu, ru⟩ := hq0 (kw, dv) List.mem_cons_self
    intro A outer s H us vs Q E hr e0 r hsp
    obtain ⟨a, b, rest, ev, hz, hq⟩ := hsp
    subst ev
    match us, r with
    | ua :: ub :: ur, .cons ra (.cons rb rr) =>
      have hn : H s.heap.objs.size = none := e0.hok.fresh (Nat.le_refl _)
      have hl2 : ur.length ≤ sizeLine := by rw [← rr.length]; exact hz
      have KX : K.In s.heap := e0.mod.kin.keeps fun b o e => (e0.bs b o e).1
      refine StX.run_bnd lk hcd S hr e0 (G := fun xs H2 => ∃ p, H p = none ∧ xs = [a, b, dv, V.ref p] ∧ H2 = upd H p (.tup rest)) (fun A2 Ex Q2 hq2 => ?_) fun s2 H2 xs ⟨p, hp, ex, eH⟩ hr2 => ?_
      · obtain ⟨β, γ, k1, k2, k3, c, e1, e2, e3⟩ := hb D doc pm an cdv ct ua ub ur
        rw [e1, bind_assoc]
        refine wpAny_bind (((PySem.W.looks_nsIn KX hu).andThen (PySem.W.Looks.of_pure (e2 u))).here ?_)
        rw [e3 u]
        refine wpAny_bind (wpAny_newTuple (wpAny_pure ?_) hl2)
        have new : ObjOk P w (upd H s.heap.objs.size (.tup rest)) (s.heap.push ({ cls := .type "tuple", data := .seq ur.toArray } : Obj)) s.heap.objs.size (.tup rest) := ⟨hz, ur, rr, ⟨_, Heap.get?_push_size _ rfl, rfl, _, rfl⟩⟩
        have un := StX.un_laid (fs := frs outer) (s := s) (o := ({ cls := .type "tuple", data := .seq ur.toArray } : Obj)) (u := .tup rest) hn
        exact hq2 _ _ [a, b, dv, V.ref s.heap.objs.size] [ua, ub, u, Value.ref s.heap.objs.size] (StX.env0_laid e0 new) un rfl (fun e s' => hCX outer s H _ _ E e s' un (fun c o q => Heap.get?_push_of_some _ q) rfl) (.cons ra (.cons rb (.cons ru (.cons rfl .nil)))) rfl ⟨_, hn, rfl, rfl⟩
      · subst ex eH
        exact body cdv A outer s2 _ Q E _ hr2 (hq p _ hp (same_new hp) upd_same)
  · exact absurd rfl e
end
end Rd
namespace Rd
open PySem PySem.Spec PyProof.Rows L2
section
variable {P : Program} {w : World} {K : PySem.W.Frag} {mg : Str → Option Value} {base : Heap} {CX : CXT} {k : Nat} {f : Addr} {x qual : Str} {st : Stmt} {N : List Str} {p1 p2 kw pv : Str}
/-- a def with defaults, all of which are given -/
def HasAtD (K : PySem.W.Frag) (f : Addr) (x qual : Str) (st : Stmt) : Prop := ∃ dv fd, FunD K x qual (defArgs st) (defBody st) (defScope st) [dv] [] f fd
theorem HasAtD.fn {α : Type} {args : α → List V} {pre : α → Hp → VK → XK → Prop} {gd : Bool} {ps : List Str} (h : HasAtD K f x qual st) (S : FnScope N ps (defScope st)) (hl : ∀ a, (args a).length = ps.length)
    (hb : ∀ (T : Addr) (kV doc pm : Value) (an : Option Addr) (cdv ct : Value) (us : List Value), us.length = ps.length → ∃ k : Option (Array Value) → Sem (List (Str × Value)), bindArgs (PySem.W.fnOf x qual (defArgs st) (defBody st) (defScope st) (.ref T) kV doc pm an cdv ct) ⟨us, []⟩ = (seqItems? (.ref T) >>= k) ∧ ∀ its, its.size = 1 → k (some its) = pure (ps.zip us))
    (body : ∀ (cdv : Value) (A : Around) (outer : List Env) (s : Shared) (H : Hp) (Q : VK) (E : XK) (a : α), RoomG gd k (A.deeper (PyProof.Rows.envOfC qual (defScope st) s.heap.objs.size f cdv)) → pre a H Q E →
      ∃ t, PSs (cxOf CX0 P w K mg base N qual (defScope st) f cdv A outer s H E).nox (defBody st) t ∧ t { nx := fun _ H' => Q .non H', rt := Q } (start N (args a)) H) :
    FnG gd P w K mg base CX0 (k + 1) f (mkSp args pre) := by
  obtain ⟨dv, fd, F⟩ := h
  obtain ⟨oc, od, dV, kV, doc, pm, an, cdv, ct, osl, e, lk, hcd, hD, hK⟩ := F.ex
  subst e
  rcases hD with ⟨e, _⟩ | ⟨_, T, o, its, n, e, lT, oT, rT⟩
  · exact nomatch e
  subst e
  intro A outer s H us vs Q E hr e0 r hsp
  obtain ⟨a, rfl, ha⟩ := hsp
  have hu : us.length = ps.length := by rw [← Vals.length r]; exact hl a
  have KX : K.In s.heap := e0.mod.kin.keeps fun b o e => (e0.bs b o e).1
  refine StX.run_bnd lk hcd S hr.toRoom e0 (G := fun xs H2 => xs = args a ∧ H2 = H) (fun A2 Ex Q2 hq => ?_) fun s2 H2 xs hx hr2 => ?_
  · obtain ⟨kk, e1, e2⟩ := hb T kV doc pm an cdv ct us hu
    have L : PySem.W.Looks (model P w) s.heap (bindArgs (PySem.W.fnOf x qual (defArgs st) (defBody st) (defScope st) (.ref T) kV doc pm an cdv ct) ⟨us, []⟩) (ps.zip us) := by
      rw [e1]
      exact looks_items KX lT oT (by rw [e2 _ (by rw [List.size_toArray, ← rT.length]; rfl)]; exact .now)
    exact L.here (hq s H _ us e0 Un.refl rfl (fun _ _ z => z) r (hl a) ⟨rfl, rfl⟩)
  · obtain ⟨rfl, rfl⟩ := hx
    obtain ⟨t, q1, q2⟩ := body cdv A outer s2 H2 Q E a ⟨hr2, hr.gs⟩ ha
    exact ⟨t, q1.nox, q2⟩
end
end Rd
namespace Rd
open PySem PySem.Spec PyProof.Rows L2
section
variable {M : Model} {A : Around} {Ex : Value → Shared → Prop} {s : Shared}
theorem ks_callK {f : Value} {first : List Value} {pos : Pos} {Q : Value → Shared → Prop} {Pr : Heap → Prop} {args : List (Bool × Sem Value)} {kws : List (Option Str × Sem Value)} (hst : args.any (·.1) = true)
    (hk : ∀ h, Pr h → ∃ k, (k = Keeper.frame ∨ k = Keeper.machine ∨ k = Keeper.boundFrame) ∧ PySem.W.Looks M h (keeperOf f) k)
    (h : wpAny M A (evalArgs f true args kws) (fun a s1 => Pr s1.heap ∧ wpAny M A (call f (first ++ a.pos) a.kw) Q Ex s1) Ex s) : wpAny M A (callWith pos f first args kws) Q Ex s := by
  unfold callWith
  refine wpAny_bind (wpAny_holding (wpAny_mono h (fun a s1 q => wpAny_bind (wpAny_standAt ?_)) fun _ _ z => z))
  obtain ⟨k, hk2, L⟩ := hk _ q.1
  simp only [hst, Bool.true_or]
  refine wpAny_bind (L.here ?_)
  have tail : ∀ {t : Sem Value}, wpAny M A t Q Ex s1 → wpAny M A (t >>= fun r => holding [r] point >>= fun _ => pure r) Q Ex s1 := fun ht => wpAny_bind (wpAny_mono ht (fun r s2 hr => wpAny_bind (wpAny_holding (wpAny_point (wpAny_pure hr)))) fun _ _ z => z)
  have marked (mk : Value) : wpAny M A (callMarked mk f (first ++ a.pos) a.kw) Q Ex s1 := by
    unfold callMarked
    exact Calls.wpAny_keep q.2
  rcases hk2 with rfl | rfl | rfl <;> dsimp only <;> first | exact tail (marked _) | exact tail (wpAny_operating q.2)
end
end Rd
namespace Rd
open PySem PySem.Spec PyProof.Rows L2
def oneV (R : V → Hp → Prop) : List V → Hp → Prop
  | [v], H => R v H
  | _, _ => False
theorem oneV_inv {R : V → Hp → Prop} : ∀ {zs : List V} {H : Hp}, oneV R zs H → ∃ v, zs = [v] ∧ R v H
  | [v], _, h => ⟨v, rfl, h⟩
  | [], _, h => h.elim
  | _ :: _ :: _, _, h => h.elim
def rMkSK (K : PySem.W.Frag) (C : Addr) (sp : Sp) (E : XK) (tk : TE) (σ : L2.St) (Q : VK) (vs : List V) (H : Hp) : Prop := tk σ H fun v H1 => ∀ x dx, H1 x = none → H1 dx = none → dx ≠ x → sp (v :: V.ref x :: vs) (upd (upd H1 dx (.own x)) x (.ins C dx [])) (fun v H2 => v = .non ∧ Q (.ref x) H2) E
def tMkSK (K : PySem.W.Frag) (i : Nat) (C : Addr) (sp : Sp) (E : XK) (t : TA) (tk : TE) : TE := fun σ H Q => σ[i]? = some (some (.ref C)) ∧ t σ H fun vs H1 => rMkSK K C sp E tk σ Q vs H1
section
variable {X : Cx} {CX : CXT} {k i : Nat} {f C : Addr} {sp : Sp} {E : XK} {x kw : Str} {e e2 e3 : Expr} {es : List Expr} {te tk : TE} {t : TA} {p pos sp_ kpos : Pos}
theorem run_makeSK {pins : List (Addr × Obj)} {σ : L2.St} {H : Hp} {s : Shared} {Q : VK} {us : List Value} {vs : List V} {u : Value} {v : V} (M : Mk X.K C f) (F : FnK X.prog X.w X.K X.mg X.base CX k f kw sp) (hr : Room (k + 1) X.A) (hx : Passes CX X E) (I : L2.Inv X pins σ H s) (r : Vals vs us) (rv : RelV v u)
    (h : ∀ x dx, H x = none → H dx = none → dx ≠ x → sp (v :: V.ref x :: vs) (upd (upd H dx (.own x)) x (.ins C dx [])) (fun v H2 => v = .non ∧ Q (.ref x) H2) E) :
    wpAny (model X.prog X.w) X.A (call (.ref C) us [(kw, u)]) (EP X pins σ Q) X.xe s := by
  have hq := h (s.heap.objs.size + 1) s.heap.objs.size (I.hok.fresh (Nat.le_succ _)) (I.hok.fresh (Nat.le_refl _)) (Nat.ne_of_lt (Nat.lt_succ_self _))
  have I2 := Inv.made (C := C) I
  have r2 : Vals (V.ref (s.heap.objs.size + 1) :: vs) (Value.ref (s.heap.objs.size + 1) :: us) := .cons rfl r
  refine wpAny_call (make_map (f := f) I.kIn M.makes M.init (beq_iff_eq.mp M.fn) (codeAny_mono (F _ X.stack _ _ (Value.ref (s.heap.objs.size + 1) :: us) _ _ E u v (hr.make C us [(kw, u)]) (I2.env0.make C us [(kw, u)]) r2 rv hq) fun r s2 hq2 => ?_))
  match r, hq2 with
  | .error e, hq2 => exact hx pins σ _ _ e s2 I2 hq2
  | .ok .next, hq2 => exact False.elim hq2
  | .ok .brk, hq2 => exact False.elim hq2
  | .ok .cont, hq2 => exact False.elim hq2
  | .ok (.ret z), hq2 =>
    obtain ⟨v3, H3, I3, rv3, ev, q3⟩ := I2.after hq2
    subst ev
    exact ⟨rv3, ⟨V.ref (s.heap.objs.size + 1), H3, I3, rfl, q3⟩⟩
theorem rd_mkSK {K : PySem.W.Frag} {σ : L2.St} {H : Hp} {Q : VK} (h : σ[i]? = some (some (.ref C))) (q : t σ H fun vs H1 => rMkSK K C sp E tk σ Q vs H1) : tMkSK K i C sp E t tk σ H Q := ⟨h, q⟩
theorem pe_mkSK (M : Mk X.K C f) (F : FnK X.prog X.w X.K X.mg X.base CX k f kw sp) (hr : Room (k + 1) X.A) (hx : Passes CX X E) (hN : X.N[i]? = some x) (hv : Vis X.env.scope x) (ha : PA X [e, .Starred e2 sp_] t) (hk : PE X e3 tk) (hd : (x == ("__debug__" : Str)) = false := by decide) (hcd : (x == ("__classdict__" : Str)) = false := by decide)
    (he : starEach [e, .Starred e2 sp_] X.env = (false, eval e X.env) :: starEach [.Starred e2 sp_] X.env := by rfl) (hst : (backTo pos (starEach [e, .Starred e2 sp_] X.env)).any (·.1) = true := by rfl) (hall : (backToKw pos (keywordEach [⟨some kw, e3, kpos⟩] X.env)).all (·.1.isSome) = true := by rfl)
    (hks : (backToKw pos (keywordEach [⟨some kw, e3, kpos⟩] X.env)).filterMap (·.1) = [kw] := by rfl) : PE X (.Call (.Name x p) [e, .Starred e2 sp_] [⟨some kw, e3, kpos⟩] pos) (tMkSK X.K i C sp E t tk) := by
  refine ⟨fun pins s σ H Q I h => ?_⟩
  obtain ⟨hs, h⟩ := h
  refine wpAny_Call_Name_kw (thn ((pe_var (pos := p) (i := i) hN hv hd hcd).run pins s σ H (fun v H1 => v = .ref C ∧ H1 = H) I ⟨.ref C, hs, rfl, rfl⟩) fun u s1 ⟨v, H1, I1, r1, ev, eH⟩ => ?_)
  subst ev
  rw [eH] at I1
  cases r1
  refine ks_callK hst (PySem.W.keeps_K M.kp) (evalArgs_kw2 hall (thn (ha.run pos pins s1 σ H _ I1 h) fun us s2 ⟨vs, H2, I2, r, q⟩ => ?_) he)
  have q' : tCons tk tNil σ H2 (oneV fun v H3 => ∀ x dx, H3 x = none → H3 dx = none → dx ≠ x → sp (v :: V.ref x :: vs) (upd (upd H3 dx (.own x)) x (.ins C dx [])) (fun v H2 => v = .non ∧ Q (.ref x) H2) E) := q
  refine thn ((pk_cons hk pk_nil).run pos pins s2 σ H2 _ I2 q') fun ws s3 ⟨zs, H3, I3, rz, q3⟩ => ⟨I3.kIn, ?_⟩
  obtain ⟨v, rfl, q3⟩ := oneV_inv q3
  obtain ⟨u, rfl, ru⟩ := vals1 rz
  rw [hks]
  exact run_makeSK M F hr hx I3 r ru q3
end
end Rd
set_option Elab.async false
set_option linter.all false
set_option maxRecDepth 100000
set_option maxHeartbeats 4000000
namespace Rd
open PySem PySem.Spec PyProof.Rows L2
section
variable {X : Cx}
theorem sw_trueD {kx vx : Expr} {gs : List Comprehension} {scope : Scope} {pos py : Pos} {y : Str} {l : Nat} {env : Env} (hk : env.scope.kind = .function) (hy : env.scope.names.lookup y = some .local) (hl : (py.line == pos.line) = true)
    (ha : (scope.names.any fun (n, k) => n == y && (k == .local || k == .cell)) = false) : swapsWith (.DictComp kx vx gs scope pos) (some (.Name y py)) l env = pure true := by
  have ky : env.kindOf y = some .local := hy
  have hb : env.blockKind = .function := by unfold Env.blockKind; rw [hk]; rfl
  unfold swapsWith
  simp only [hb, ky, ha]
  have e : (py.line == (Expr.DictComp kx vx gs scope pos).pos.line) = true := hl
  rw [e]
  rfl
/-- y = {k: v for ..} -/
theorem ps_setDc {i : Nat} {y : Str} {py : Pos} {kx vx tg iter : Expr} {ifs : List Expr} {scope : Scope} {own : List (Str × Nat)} {pos spos : Pos} {wi : TI} {g : TG} {tt : TT} {tk tv : TE} (hc : X.calm = true) (hN : X.N.Nodup) (hy : X.N[i]? = some y) (hyl : X.env.scope.names.lookup y = some .local)
    (hsw : swapsWith (.DictComp kx vx [⟨tg, iter, ifs, 0⟩] scope pos) (some (.Name y py)) spos.line X.env = pure true) (hi : PI X tg iter wi) (ok : BlkOk X.N X.env.scope scope own)
    (hg : ∀ (s : Shared) (H : Hp) (C : Addr) (cl : List (Str × Addr)) (fp : List Addr), PG (X.blk s H scope (compEnvC scope cl C X.env) fp) tg g) (ht : ∀ (s : Shared) (H : Hp) (C : Addr) (cl : List (Str × Addr)) (fp : List Addr), PTs (X.blk s H scope (compEnvC scope cl C X.env) fp) ifs tt)
    (hk : ∀ (s : Shared) (H : Hp) (C : Addr) (cl : List (Str × Addr)) (fp : List Addr), PE (X.blk s H scope (compEnvC scope cl C X.env) fp) kx tk)
    (he : ∀ (s : Shared) (H : Hp) (C : Addr) (cl : List (Str × Addr)) (fp : List Addr), PE (X.blk s H scope (compEnvC scope cl C X.env) fp) vx tv) (hs : ∀ x, foldedSetIterable iter X.env x = pure x := by intro _; rfl) :
    PS X (.Assign [.Name y py] (.DictComp kx vx [⟨tg, iter, ifs, 0⟩] scope pos) spos) (tAsg (tDc wi g tt tk tv (own.map (·.2))) (gName i)) := by
  refine ⟨fun pins s σ H D I h => ?_⟩
  rw [exec_Assign_Name_used _ _ _ _ hsw]
  refine wpAny_bind (wpAny_standAt (wpAny_bind ?_))
  show wpAny _ X.A (do let _ ← comprehension (.DictComp kx vx [⟨tg, iter, ifs, 0⟩] scope pos) scope X.env (firstIterPos [⟨tg, iter, ifs, 0⟩] pos) newDict false (eval iter X.env) (some (assign (.Name y py) X.env))) _ _ s
  have h : tDc wi g tt tk tv (own.map (·.2)) σ H (fun x H1 => gName i x σ H1 D.nx) := h
  refine wpAny_bind (thn (dc_core (Qf := fun _ s2 => SP X pins D .next s2) hc hN I hi ok hg ht hk he hs h fun L C s2 m H2 I2 q hn f => ?_) fun _ s2 hq => wpAny_pure (wpAny_pure hq))
  show wpAny _ _ (assign (.Name y py) X.env (.ref L)) _ _ _
  refine wpAny_assign_Name (store_ok2 (v := V.ref L) I2 hN hy (.inl hyl) rfl (fun s3 I3 ⟨a, sb, ha⟩ => ?_) (.inr hyl))
  obtain ⟨f0, f1, f2, f3, f4, f5⟩ := f
  have haC : C ≠ a := by
    rcases ha with z | z
    · rw [z]; exact f1
    · exact fun e => f4 y a z e.symm
  exact ⟨m, hn.sameBut sb haC, fun h3 sb3 => ⟨_, H2, I3.turned (t' := s3.toks) (fun b o hb e => (sb3.2 b hb).trans e) f0 f1 f3 f4 f5, q⟩⟩
end
section
variable {K : PySem.W.Frag} {σ : L2.St} {H : Hp} {Q : VK} {g : TG} {tt : TT} {tk tv te : TE} {vs : List Nat} {a : Addr} {xs : List V} {wi : TI}
def rDc (g : TG) (tt : TT) (tk tv : TE) (vs : List Nat) (σ : L2.St) (Q : VK) (J : It) (H1 : Hp) : Prop := ∀ D, H1 D = none → ∃ W : Nat → Nat → Hp → Prop, (∃ m, W 0 m (upd H1 D (.dK []))) ∧ ∀ i m H, W i m H →
  (J.stop i H ∧ Q (.ref D) H) ∨ (J.go i H ∧ ∃ Nx : Hp → Prop, (∀ H', Nx H' → ∃ m', m' < m ∧ W (i + 1) m' H') ∧ ∀ x H', J.yld i H x H' → g x (wipe σ vs) H' fun σ2 H2 => wipe σ2 vs = wipe σ vs ∧ tt σ2 H2 fun b H3 =>
    if b = true then tk σ2 H3 fun y H4 => tv σ2 H4 fun z H5 => ∃ kvs k, y = kV k ∧ H5 D = some (.dK kvs) ∧ kvs.length < sizeLine ∧ Nx (upd H5 D (.dK (putK kvs k z))) else Nx H3)
theorem rd_dc (q : wi σ H fun J H1 => rDc g tt tk tv vs σ Q J H1) : tDc wi g tt tk tv vs σ H Q := q
theorem putK_new' {kvs : List (Key × V)} {k : Key} {v : V} (h : k ∉ kvs.map (·.1)) : putK kvs k v = kvs ++ [(k, v)] := by
  refine putK_new v ?_
  cases e : valV kvs k with
  | none => rfl
  | some w =>
    have : (kvs.any fun kv => decide (kv.1 = k)) = true := by rw [valV_any, e]; rfl
    obtain ⟨kv, hm, hk⟩ := List.any_eq_true.mp this
    exact absurd (List.mem_map.mpr ⟨kv, hm, of_decide_eq_true hk⟩) h
/-- {k: v for x in a tuple}: kf x is the key, vf x the value -/
theorem dc_tup' (kf : V → Key) (vf : V → V) (hz : xs.length ≤ 100000) (hS : SqT K H a xs)
    (step : ∀ x H1 (N : V → V → Hp → Prop), x ∈ xs → Same H H1 → (∀ H2, Same H1 H2 → N (kV (kf x)) (vf x) H2) → g x (wipe σ vs) H1 fun σ2 H2 => wipe σ2 vs = wipe σ vs ∧ tk σ2 H2 fun y H4 => tv σ2 H4 fun z H5 => N y z H5)
    (done : ∀ D H', H D = none → Same H H' → H' D = some (.dK (mergeK [] (xs.map fun x => (kf x, vf x)))) → Q (.ref D) H') : rDc g tYes tk tv vs σ Q (Itt K a) H := by
  intro D hD
  let m : Nat → List (Key × V) := fun i => mergeK [] ((xs.take i).map fun x => (kf x, vf x))
  let Pv : Nat → Hp → Prop := fun i H1 => Same H H1 ∧ H1 D = some (.dK (m i))
  refine ⟨fun i n H1 => n = xs.length - i ∧ i ≤ xs.length ∧ Pv i H1, ⟨xs.length, by simp, Nat.zero_le _, same_new hD, by rw [upd_same]; rfl⟩, ?_⟩
  rintro i n H1 ⟨rfl, hi, s1, hd1⟩
  have hq : SqT K H1 a xs := Same.sqT s1 hS
  by_cases hlt : i < xs.length
  · refine .inr ⟨⟨xs, xs[i], hq, by simp [hlt]⟩, Pv (i + 1), fun H' p' => ⟨xs.length - (i + 1), by omega, rfl, hlt, p'⟩, fun x H' y => ?_⟩
    obtain ⟨rfl, hy⟩ := y
    have ex := hy xs hq
    refine step x H' _ (List.mem_of_getElem? ex) s1 fun H2 s2 => ?_
    have hl : (m i).length < sizeLine := by
      refine Nat.lt_of_le_of_lt (length_mergeK _ _) ?_
      rw [List.length_nil, Nat.zero_add, List.length_map, List.length_take]
      exact Nat.lt_of_le_of_lt (Nat.le_trans (Nat.min_le_right _ _) hz) (by decide)
    refine ⟨m i, kf x, rfl, s2 _ _ hd1, hl, fun b o e => ?_, ?_⟩
    · rw [upd_ne (ne_of_none e hD)]
      exact s2 _ _ (s1 _ _ e)
    · rw [upd_same]
      show some (HO.dK (putK (mergeK [] ((xs.take i).map fun x => (kf x, vf x))) (kf x) (vf x))) = some (HO.dK (mergeK [] ((xs.take (i + 1)).map fun x => (kf x, vf x))))
      rw [List.take_add_one, ex, List.map_append]
      unfold mergeK
      rw [List.foldl_append]
      rfl
  · obtain rfl : i = xs.length := by omega
    refine .inl ⟨⟨xs, hq, Nat.le_refl _⟩, done D H1 hD s1 ?_⟩
    rw [hd1]
    show some (HO.dK (mergeK [] ((xs.take xs.length).map fun x => (kf x, vf x)))) = _
    rw [List.take_length]
/-- different keys: the pairs themselves -/
theorem merge_nodup : ∀ (ps acc : List (Key × V)), ((acc ++ ps).map (·.1)).Nodup → mergeK acc ps = acc ++ ps
  | [], acc, _ => by simp [mergeK]
  | p :: ps, acc, h => by
    have hk : p.1 ∉ acc.map (·.1) := fun q => by
      rw [List.map_append, List.map_cons] at h
      exact (List.nodup_append.mp h).2.2 _ q _ List.mem_cons_self rfl
    have e : mergeK acc (p :: ps) = mergeK (acc ++ [p]) ps := by
      show mergeK (putK acc p.1 p.2) ps = _
      rw [putK_new' hk]
    rw [e, merge_nodup ps _ (by rw [List.append_assoc]; exact h), List.append_assoc]
    rfl
def rLtS : R2 := fun x y H Q => ∃ i j, x = .str i ∧ y = .str j ∧ Q (.bl (decide (i.cps.toList < j.cps.toList))) H
theorem op_ltS {X : Cx} : OpR X (compareOp .Lt) rLtS := op_lt_str
theorem rd_ltS {x y : Str} (q : Q (.bl (lts x y)) H) : rLtS (.str x) (.str y) H Q := ⟨x, y, rfl, rfl, q⟩
def rInSg : R2 := fun x y H Q => ∃ (c : Nat) (z : Str), x = .str ⟨#[c]⟩ ∧ y = .str z ∧ Q (.bl (decide (c ∈ z.cps.toList))) H
theorem op_inSg {X : Cx} : OpR X (compareOp .In) rInSg := op_in_sign
theorem rd_inSg {c : Nat} {z : Str} (q : Q (.bl (decide (c ∈ z.cps.toList))) H) : rInSg (.str ⟨#[c]⟩) (.str z) H Q := ⟨c, z, rfl, rfl, q⟩
theorem c_any {X : Cx} (hc : X.calm = true) : CallR X (.builtin "any") (rAny X.K) := cr_any hc
theorem rd_any {bs : List Bool} (h : SqL K H a (bs.map V.bl)) (q : Q (.bl (bs.any id)) H) : rAny K [.ref a] H Q := ⟨a, bs, rfl, h, q⟩
theorem rd_iStr {R : It → Hp → Prop} {te : TE} (q : te σ H fun v H1 => ∃ x, v = .str x ∧ R (Its x) H1) : iStr te σ H R := q
theorem rd_IS {x : Str} {R : It → Hp → Prop} (q : R (Its x) H) : ∃ y, V.str x = .str y ∧ R (Its y) H := ⟨x, rfl, q⟩
/-- [.. for c in a text] -/
theorem lc_str {x : Str} (f : Nat → V) (hz : x.cps.size ≤ 100000)
    (step : ∀ c H1 (N : V → Hp → Prop), c ∈ x.cps.toList → Same H H1 → (∀ H2, Same H1 H2 → N (f c) H2) → g (.str ⟨#[c]⟩) (wipe σ vs) H1 fun σ2 H2 => wipe σ2 vs = wipe σ vs ∧ te σ2 H2 N)
    (done : ∀ D H', H D = none → Same H H' → H' D = some (.lst (x.cps.toList.map f)) → Q (.ref D) H') : rLc g tYes te vs σ Q (Its x) H := by
  refine lc_gen x.cps.toList (fun c v _ => v = .str ⟨#[c]⟩) (fun _ => true) f (by simpa using hz) (fun i H1 hi s1 => ?_) (fun H1 s1 => ?_) (fun i H1 v H2 c ec s1 y => ?_) (fun c v H1 N M hc s1 hv hN hM => ?_) (fun D H' h1 h2 h3 => ?_)
  · exact by simpa [Its] using hi
  · exact by simp [Its]
  · have y' := y
    simp only [Its] at y'
    obtain ⟨e, c', h1, h2⟩ := y'
    have : x.cps.toList[i]? = some c' := by simpa using h1
    rw [this] at ec
    cases ec
    exact ⟨by rw [e]; exact Same.refl _, h2⟩
  · subst hv
    exact step c H1 M hc s1 (hM rfl)
  · refine done D H' h1 h2 ?_
    rw [h3, List.filter_eq_self.mpr fun _ _ => rfl]
/-- [.. for x, y in zip(..)] of two tuples, as long as the shorter one goes -/
theorem lc_zipM {b : Addr} {ys : List V} (f : V × V → V) (hz : xs.length ≤ 100000) (h1 : SqT K H a xs) (h2 : SqT K H b ys)
    (step : ∀ (z : V × V) T H1 (M : V → Hp → Prop), z ∈ xs.zip ys → Same H H1 → H1 T = some (.tup [z.1, z.2]) → (∀ H2, Same H1 H2 → M (f z) H2) → g (.ref T) (wipe σ vs) H1 fun σ2 H2 => wipe σ2 vs = wipe σ vs ∧ te σ2 H2 M)
    (done : ∀ D H', H D = none → Same H H' → H' D = some (.lst ((xs.zip ys).map f)) → Q (.ref D) H') : rLc g tYes te vs σ Q (RZ.ItzT K a b) H := by
  have lz : (xs.zip ys).length = min xs.length ys.length := List.length_zip
  refine lc_gen (xs.zip ys) (fun z v H2 => ∃ T, v = .ref T ∧ H2 T = some (.tup [z.1, z.2])) (fun _ => true) f (by omega) (fun i H1 hi s1 => ?_) (fun H1 s1 => ?_) (fun i H1 x H2 z ez s1 y => ?_) (fun z x H1 N M hz' s1 hx hN hM => ?_) (fun D H' q1 q2 q3 => ?_)
  · exact ⟨xs, ys, xs[i]'(by omega), ys[i]'(by omega), Same.sqT s1 h1, Same.sqT s1 h2, List.getElem?_eq_getElem _, List.getElem?_eq_getElem _⟩
  · exact ⟨xs, ys, Same.sqT s1 h1, Same.sqT s1 h2, by rw [lz]; omega⟩
  · obtain ⟨T, u, v, rfl, hT, rfl, hu, hv⟩ := y
    have e1 := hu xs (Same.sqT s1 h1)
    have e2 := hv ys (Same.sqT s1 h2)
    have e3 : (xs.zip ys)[i]? = some (u, v) := by rw [List.getElem?_zip_eq_some]; exact ⟨e1, e2⟩
    rw [e3] at ez
    injection ez with ez
    subst ez
    exact ⟨same_new hT, T, rfl, upd_same⟩
  · obtain ⟨T, rfl, hT⟩ := hx
    exact step z T H1 M hz' s1 hT (hM rfl)
  · refine done D H' q1 q2 ?_
    rw [q3, List.filter_eq_self.mpr fun _ _ => rfl]
theorem op_inK {X : Cx} (hK : X.K = K) : OpR X (compareOp .In) (rIn K false) := by subst hK; exact op_in_seq
theorem pi_tupK {X : Cx} {tg e : Expr} {tl : TE} (hK : X.K = K) (he : PE X e tl) : PI X tg e (iTup K tl) := by subst hK; exact pi_tup he
theorem inV_strs (x : Str) : ∀ ys : List Str, inV (.str x) (ys.map V.str) = decide (x ∈ ys)
  | [] => rfl
  | y :: ys => by
    have e : inV (.str x) ((y :: ys).map V.str) = (eqV (.str y) (.str x) || inV (.str x) (ys.map V.str)) := rfl
    rw [e, inV_strs x ys]
    have e2 : eqV (.str y) (.str x) = decide (y = x) := rfl
    rw [e2, Bool.eq_iff_iff]
    simp only [Bool.or_eq_true, decide_eq_true_eq, List.mem_cons]
    exact or_congr_left eq_comm
theorem rd_inTx {neg : Bool} {x : Str} {ys : List Str} (h : SqT K H a (ys.map V.str) ∨ SqL K H a (ys.map V.str)) (q : Q (.bl (if neg then !decide (x ∈ ys) else decide (x ∈ ys))) H) : rIn K neg (.str x) (.ref a) H Q := by
  rw [← inV_strs x ys] at q
  exact ⟨a, _, rfl, h.symm, rfl, by rw [List.all_map]; exact List.all_eq_true.mpr fun _ _ => rfl, q⟩
def rLc2 (g : TG) (tt : TT) (wi1 : TI) (g1 : TG) (tt1 : TT) (te : TE) (vs vs1 : List Nat) (σ : L2.St) (Q : VK) (J : It) (H1 : Hp) : Prop := ∀ D, H1 D = none → ∃ W : Nat → Nat → Hp → Prop, (∃ m, W 0 m (upd H1 D (.lst []))) ∧ ∀ i m H, W i m H →
  (J.stop i H ∧ Q (.ref D) H) ∨ (J.go i H ∧ ∃ Nx : Hp → Prop, (∀ H', Nx H' → ∃ m', m' < m ∧ W (i + 1) m' H') ∧ ∀ x H', J.yld i H x H' → g x (wipe σ vs) H' fun σ2 H2 => wipe σ2 vs = wipe σ vs ∧ tt σ2 H2 fun b H3 =>
    if b = true then wi1 σ2 H3 fun J1 H4 => ∃ W1 : Nat → Nat → Hp → Prop, (∃ m, W1 0 m H4) ∧ ∀ j k H, W1 j k H →
      (J1.stop j H ∧ Nx H) ∨ (J1.go j H ∧ ∃ Nx1 : Hp → Prop, (∀ H', Nx1 H' → ∃ k', k' < k ∧ W1 (j + 1) k' H') ∧ ∀ x H', J1.yld j H x H' → g1 x (wipe σ2 vs1) H' fun σ3 H5 => wipe σ3 vs1 = wipe σ2 vs1 ∧ tt1 σ3 H5 fun b H6 =>
        if b = true then te σ3 H6 fun y H7 => ∃ acc, H7 D = some (.lst acc) ∧ acc.length < sizeLine ∧ Nx1 (upd H7 D (.lst (acc ++ [y]))) else Nx1 H6)
    else Nx H3)
theorem rd_lc2 {wi1 : TI} {g1 : TG} {tt1 : TT} {vs1 : List Nat} (q : wi σ H fun J H1 => rLc2 g tt wi1 g1 tt1 te vs vs1 σ Q J H1) : tLc2 wi g tt wi1 g1 tt1 te vs vs1 σ H Q := q
/-- [.. for x in a tuple for y in a tuple], all of it True -/
theorem lc2_true {wi1 : TI} {g1 : TG} {vs1 : List Nat} (hz : xs.length ≤ 1000) (hS : SqT K H a xs)
    (step : ∀ x H1 (M : L2.St → It → Hp → Prop), x ∈ xs → Same H H1 → (∀ σ2 c ys, SqT K H c ys → ys.length ≤ 100 → (∀ y H5 (N : V → Hp → Prop), y ∈ ys → Same H H5 → (∀ H6, Same H5 H6 → N (.bl true) H6) → g1 y (wipe σ2 vs1) H5 fun σ3 H6 => wipe σ3 vs1 = wipe σ2 vs1 ∧ te σ3 H6 N) → M σ2 (Itt K c) H1) →
      g x (wipe σ vs) H1 fun σ2 H2 => wipe σ2 vs = wipe σ vs ∧ wi1 σ2 H2 fun J H3 => M σ2 J H3)
    (done : ∀ (D : Addr) (H' : Hp) (bs : List Bool), H D = none → Same H H' → H' D = some (.lst (bs.map V.bl)) → bs.all id = true → Q (.ref D) H') : rLc2 g tYes wi1 g1 tYes te vs vs1 σ Q (Itt K a) H := by
  intro D hD
  let Pv : Nat → Nat → Hp → Prop := fun i j H1 => Same H H1 ∧ ∃ bs : List Bool, H1 D = some (.lst (bs.map V.bl)) ∧ bs.all id = true ∧ bs.length ≤ i * 100 + j
  refine ⟨fun i m H1 => m = xs.length - i ∧ i ≤ xs.length ∧ Pv i 0 H1, ⟨xs.length, rfl, Nat.zero_le _, same_new hD, [], upd_same, rfl, Nat.zero_le _⟩, ?_⟩
  rintro i m H1 ⟨rfl, hi, s1, bs, hb1, hb2, hb3⟩
  have hq : SqT K H1 a xs := Same.sqT s1 hS
  by_cases hlt : i < xs.length
  · refine .inr ⟨⟨xs, xs[i], hq, by simp [hlt]⟩, Pv (i + 1) 0, fun H' p' => ⟨xs.length - (i + 1), by omega, rfl, hlt, p'⟩, fun x H' y => ?_⟩
    obtain ⟨rfl, hy⟩ := y
    refine step x H' _ (List.mem_of_getElem? (hy xs hq)) s1 fun σ2 c ys hc hn inn => ?_
    refine ⟨fun j k H2 => k = ys.length - j ∧ j ≤ ys.length ∧ Pv i j H2, ⟨ys.length, rfl, Nat.zero_le _, s1, bs, hb1, hb2, hb3⟩, ?_⟩
    rintro j k H2 ⟨rfl, hj, s2, cs, hc1, hc2, hc3⟩
    have hq2 : SqT K H2 c ys := Same.sqT s2 hc
    by_cases hjt : j < ys.length
    · refine .inr ⟨⟨ys, ys[j], hq2, by simp [hjt]⟩, Pv i (j + 1), fun H3 p3 => ⟨ys.length - (j + 1), by omega, rfl, hjt, p3⟩, fun z H3 y2 => ?_⟩
      obtain ⟨rfl, hy2⟩ := y2
      refine inn z H3 _ (List.mem_of_getElem? (hy2 ys hq2)) s2 fun H4 s4 => ?_
      refine ⟨_, s4 _ _ hc1, ?_, fun b o e => ?_, cs ++ [true], ?_, ?_, ?_⟩
      · rw [List.length_map]
        have e := sizeLine_eq
        omega
      · rw [upd_ne (ne_of_none e hD)]
        exact s4 _ _ (s2 _ _ e)
      · rw [upd_same, List.map_append]
        rfl
      · rw [List.all_append, hc2]
        rfl
      · rw [List.length_append]
        show cs.length + 1 ≤ _
        omega
    · obtain rfl : j = ys.length := by omega
      exact .inl ⟨⟨ys, hq2, Nat.le_refl _⟩, s2, cs, hc1, hc2, by omega⟩
  · obtain rfl : i = xs.length := by omega
    exact .inl ⟨⟨xs, hq, Nat.le_refl _⟩, done D H1 bs hD s1 hb1 hb2⟩
/-- [.. for x in a tuple, a list] by an invariant -/
theorem lc_invI {J : It} {n : Nat} (val : Nat → V → Prop) (P : Nat → Addr → List V → Hp → Prop) (go : ∀ i D acc H1, i < n → P i D acc H1 → J.go i H1) (stop : ∀ D acc H1, P n D acc H1 → J.stop n H1) (yld : ∀ i D acc H1 x H2, P i D acc H1 → J.yld i H1 x H2 → H2 = H1 ∧ val i x) (h0 : ∀ D, H D = none → P 0 D [] (upd H D (.lst [])))
    (step : ∀ (i : Nat) x D acc H1 (N : VK), i < n → val i x → H D = none → P i D acc H1 → (∀ y H3, H3 D = some (.lst acc) → acc.length < sizeLine → P (i + 1) D (acc ++ [y]) (upd H3 D (.lst (acc ++ [y]))) → N y H3) →
      g x (wipe σ vs) H1 fun σ2 H2 => wipe σ2 vs = wipe σ vs ∧ te σ2 H2 N)
    (done : ∀ D acc H1, H D = none → P n D acc H1 → Q (.ref D) H1) : rLc g tYes te vs σ Q J H := by
  intro D hD
  refine ⟨fun i m H1 => m = n - i ∧ i ≤ n ∧ ∃ acc, P i D acc H1, ⟨n, rfl, Nat.zero_le _, [], h0 D hD⟩, ?_⟩
  rintro i m H1 ⟨rfl, hi, acc, p⟩
  by_cases hlt : i < n
  · refine .inr ⟨go i D acc H1 hlt p, fun H2 => ∃ acc, P (i + 1) D acc H2, fun H' p' => ⟨n - (i + 1), by omega, rfl, hlt, p'⟩, fun x H' y => ?_⟩
    obtain ⟨rfl, hx⟩ := yld i D acc H1 x H' p y
    exact step i x D acc H' _ hlt hx hD p fun y H3 h1 h2 h3 => ⟨acc, h1, h2, _, h3⟩
  · obtain rfl : i = n := by omega
    exact .inl ⟨stop D acc H1 p, done D acc H1 hD p⟩
theorem lc_tupI (P : Nat → Addr → List V → Hp → Prop) (hl : ∀ i D acc H1, P i D acc H1 → SqT K H1 a xs) (h0 : ∀ D, H D = none → P 0 D [] (upd H D (.lst [])))
    (step : ∀ (i : Nat) x D acc H1 (N : VK), xs[i]? = some x → H D = none → P i D acc H1 → (∀ y H3, H3 D = some (.lst acc) → acc.length < sizeLine → P (i + 1) D (acc ++ [y]) (upd H3 D (.lst (acc ++ [y]))) → N y H3) →
      g x (wipe σ vs) H1 fun σ2 H2 => wipe σ2 vs = wipe σ vs ∧ te σ2 H2 N)
    (done : ∀ D acc H1, H D = none → P xs.length D acc H1 → Q (.ref D) H1) : rLc g tYes te vs σ Q (Itt K a) H := by
  refine lc_invI (n := xs.length) (fun i x => xs[i]? = some x) P (fun i D acc H1 hi p => ⟨xs, xs[i], hl i D acc H1 p, by simp [hi]⟩) (fun D acc H1 p => ⟨xs, hl _ D acc H1 p, Nat.le_refl _⟩) (fun i D acc H1 x H2 p y => ?_) h0 (fun i x D acc H1 N _ => step i x D acc H1 N) done
  exact ⟨y.1, y.2 xs (hl i D acc H1 p)⟩
theorem lc_lstI (P : Nat → Addr → List V → Hp → Prop) (hl : ∀ i D acc H1, P i D acc H1 → SqL K H1 a xs) (h0 : ∀ D, H D = none → P 0 D [] (upd H D (.lst [])))
    (step : ∀ (i : Nat) x D acc H1 (N : VK), xs[i]? = some x → H D = none → P i D acc H1 → (∀ y H3, H3 D = some (.lst acc) → acc.length < sizeLine → P (i + 1) D (acc ++ [y]) (upd H3 D (.lst (acc ++ [y]))) → N y H3) →
      g x (wipe σ vs) H1 fun σ2 H2 => wipe σ2 vs = wipe σ vs ∧ te σ2 H2 N)
    (done : ∀ D acc H1, H D = none → P xs.length D acc H1 → Q (.ref D) H1) : rLc g tYes te vs σ Q (Itl K a) H := by
  refine lc_invI (n := xs.length) (fun i x => xs[i]? = some x) P (fun i D acc H1 hi p => ⟨xs, xs[i], hl i D acc H1 p, by simp [hi]⟩) (fun D acc H1 p => ⟨xs, hl _ D acc H1 p, Nat.le_refl _⟩) (fun i D acc H1 x H2 p y => ?_) h0 (fun i x D acc H1 N _ => step i x D acc H1 N) done
  exact ⟨y.1, y.2 xs (hl i D acc H1 p)⟩
/-- a dict display -/
theorem rd_disp {trs : List (TE × TE)} (q : ∀ p, H p = none → tPairs trs σ (upd H p (.dK [])) fun ps H2 => H2 p = some (.dK []) ∧ ∃ kvs : List (Key × V), ps = kvs.map (fun kv => (kV kv.1, kv.2)) ∧ kvs.length ≤ 15 ∧ Q (.ref p) (upd H2 p (.dK (mergeK [] kvs)))) : tDisp trs σ H Q := q
theorem rd_prC {trs : List (TE × TE)} {QP : List (V × V) → Hp → Prop} (q : tk σ H fun x H1 => tv σ H1 fun y H2 => tPairs trs σ H2 fun ps H3 => QP ((x, y) :: ps) H3) : tPairs ((tk, tv) :: trs) σ H QP := q
theorem rd_prN {QP : List (V × V) → Hp → Prop} (q : QP [] H) : tPairs [] σ H QP := q
end
end Rd
set_option Elab.async false
set_option linter.all false
set_option maxRecDepth 100000
set_option maxHeartbeats 4000000
namespace M
open PySem L2
local macro_rules | `(tactic| walk_at "rdc") => `(tactic| first | exact Or.inl ⟨by decide, by decide⟩ | exact Or.inr ⟨by decide, by decide⟩ | exact ⟨by decide, by decide, by decide⟩ | exact ⟨by decide, by decide⟩ | decide | omega | assumption | (refine Or.inl ⟨?_, ?_⟩ <;> omega) | (refine Or.inr ⟨?_, ?_⟩ <;> omega) | (refine ⟨?_, ?_⟩ <;> omega))
local macro_rules | `(tactic| walk_at "rd1") => `(tactic| with_reducible first
  | refine Rd.rd_seq ?_ | refine Rd.rd_asg ?_ | refine Rd.rd_op ?_ | (refine' Rd.rd_var ?vh ?_; (case vh => with_unfolding_all rfl)) | refine Rd.rd_c ?_ | refine Rd.rd_I0 ?_ | refine Rd.rd_name0 ?_ | refine Rd.rd_nameS ?_ | refine Rd.rd_fn ?_
  | refine Rd.rd_cb ?_ | refine Rd.rd_cons ?_ | refine Rd.rd_nil ?_ | refine Rd.rd_int ?_ | refine Rd.rd_intB ?_ | refine Rd.rd_abs ?_ | refine Rd.rd_max2 ?_ | refine Rd.rd_min2 ?_
  | refine Rd.rd_call ?_ | refine Rd.rd_ifE ?_ | refine Rd.rd_test ?_ | refine Rd.rd_tB ?_ | refine Rd.rd_blV ?_ | refine Rd.rd_and ?_ | refine Rd.rd_or ?_ | refine Rd.rd_not ?_
  | refine Rd.rd_andV ?_ | refine Rd.rd_orV ?_ | refine Rd.rd_notV ?_ | refine Rd.rd_next ?_ | refine Rd.rd_ret ?_ | refine Rd.rd_drop ?_ | refine Rd.rd_ifS ?_ | refine Rd.rd_nx ?_ | refine Rd.rd_rt ?_ | refine Rd.rd_tMatch ?_ | refine Rd.rd_tCO ?_ | refine Rd.rd_tRevL ?_ | refine Rd.rd_tStar ?_ | refine Rd.rd_joined ?_ | refine Rd.rd_js1 ?_ | refine Rd.rd_js0 ?_ | refine Rd.rd_fmt ?_ | refine Rd.rd_propR ?_ | refine Rd.rd_iZipA ?_ | refine Rd.rd_iEnumT ?_ | refine Rd.rd_iOwn ?_ | (refine' Rd.rd_IET ?ln ?_; (case ln => with_unfolding_all walk_at "at")) | refine Rd.rd_chain ?_ | refine Rd.rd_tPar ?_ | refine Rd.rd_par ?_ | refine Rd.rd_sl ?_ | refine Rd.rd_noPart ?_ | refine Rd.rd_part ?_ | refine Rd.rd_intV ?_ | refine Rd.rd_lc ?_ | (refine' Rd.rd_aug ?vh ?_; (case vh => with_unfolding_all rfl)) | refine Rd.rd_ipI ?_ | refine Rd.rd_for ?_ | (refine' Rd.rd_IT ?ln ?_; (case ln => with_unfolding_all walk_at "at")) | (refine' Rd.rd_IL ?ln ?_; (case ln => with_unfolding_all walk_at "at")) | refine Rd.rd_iTup ?_ | refine Rd.rd_iList ?_ | refine Rd.rd_iRng1 ?_ | refine Rd.rd_iRng2 ?_ | refine Rd.rd_isi (Rd.isi_int Rd.kk_int_int) ?_ | refine Rd.rd_isi (Rd.isi_int Rd.kk_int_bool) ?_ | refine Rd.rd_dget ?_ | refine Rd.rd_din ?_ | refine Rd.rd_dnotin ?_ | refine Rd.rd_dput ?_ | refine Rd.rd_dc ?_ | refine Rd.rd_lc2 ?_ | refine Rd.rd_ltS ?_ | refine Rd.rd_inSg ?_ | refine Rd.rd_iStr ?_ | refine Rd.rd_IS ?_ | refine Rd.rd_prC ?_ | refine Rd.rd_prN ?_ | refine Rd.rd_methR ?_ | refine Rd.rd_cmeth ?_ | refine Rd.rd_fldS ?_ | refine Rd.rd_fld ?_ | (refine' Rd.rd_mkVS ?vh ?_; (case vh => with_unfolding_all rfl)) | (refine' Rd.rd_starT ?ln ?_; (case ln => with_unfolding_all walk_at "at")) | refine Rd.rd_iEnum ?_ | refine Rd.rd_iZip ?_ | (refine' Rd.rd_IE ?ln ?_; (case ln => with_unfolding_all walk_at "at")) | (refine' Rd.rd_IZ ?ln ?lm ?_; (case ln => with_unfolding_all walk_at "at"); (case lm => with_unfolding_all walk_at "at")) | (refine' Rd.rd_gTup ?ln ?lk ?_; (case ln => with_unfolding_all walk_at "at"); (case lk => with_unfolding_all rfl)) | refine Rd.rd_gCons ?_ | refine Rd.rd_gNil ?_ | refine Rd.rd_m1 ?_ | refine Rd.rd_strV ?_ | refine Rd.rd_tXiM ?_ | refine Rd.rd_tXiB ?_ | refine Rd.rd_tXiS ?_ | refine Rd.rd_bm ?_ | refine Rd.rd_bm0 ?_ | refine Rd.rd_isN ?_ | refine Rd.rd_notN ?_ | refine Rd.rd_sub ?_ | refine Rd.rd_un ?_ | refine Rd.rd_U ?_
  | (refine' Rd.rd_eq ?sc ?_; (case sc => with_unfolding_all rfl)) | (refine' Rd.rd_ne ?sc ?_; (case sc => with_unfolding_all rfl))
  | (refine' Rd.rd_I ?cc ?_; (case cc => with_unfolding_all walk_at "rdc"))
  | (refine' Rd.rd_lenL ?ln ?_; (case ln => with_unfolding_all walk_at "at")) | (refine' Rd.rd_lenT ?ln ?_; (case ln => with_unfolding_all walk_at "at"))
  | (refine' Rd.rd_ixL ?ln ?ia ?_; (case ln => with_unfolding_all walk_at "at"); (case ia => with_unfolding_all first | exact Rd.at0 | exact Rd.at1 | exact Rd.at2 | exact Rd.at3 | exact Rd.at4 | rfl)) | (refine' Rd.rd_ixT ?ln ?ia ?_; (case ln => with_unfolding_all walk_at "at"); (case ia => with_unfolding_all first | exact Rd.at0 | exact Rd.at1 | exact Rd.at2 | exact Rd.at3 | exact Rd.at4 | rfl)))
local macro_rules | `(tactic| walk_at "at") => `(tactic| first | assumption | (apply SqL.of; assumption) | (apply SqT.of; assumption) | (apply SqL.of; exact upd_same) | (apply SqT.of; exact upd_same))
local macro_rules | `(tactic| walk_at "rd") => `(tactic| repeat walk_at "rd1")
def top (i : Nat) : Stmt := PySem.Challenge.pw_loopgrowth_k15_machines_step_by_step.main.body.getD i (.Pass ⟨0, 0, 0, 0⟩)
structure Glob (mg : Str → Option Value) : Prop where
  len : mg "len" = none
  int : mg "int" = none
  abs : mg "abs" = none
  max : mg "max" = none
  min : mg "min" = none
  range : mg "range" = none
  isinstance : mg "isinstance" = none
  all : mg "all" = none
  any : mg "any" = none
  tuple : mg "tuple" = none
  list : mg "list" = none
  str : mg "str" = none
  zip : mg "zip" = none
  bool : mg "bool" = none
  repr : mg "repr" = none
  iter : mg "iter" = none
  enumerate : mg "enumerate" = none
  set : mg "set" = none
  sorted : mg "sorted" = none
  dict : mg "dict" = none
  sum : mg "sum" = none
abbrev s__law_dice : Stmt := top 43
theorem sc__law_dice : FnScope ["_law_script", "_law_at", "_law_cell", "_law_great", "_law_mixed_here"] ["_law_script", "_law_at"] (defScope s__law_dice) := ⟨rfl, rfl, rfl, by decide +kernel, rfl, by decide +kernel, by decide +kernel⟩
abbrev s__law_roll : Stmt := top 44
theorem sc__law_roll : FnScope ["_law_dice_here", "_law_total", "_law_found", "_law_one", "_law_two"] ["_law_dice_here", "_law_total"] (defScope s__law_roll) := ⟨rfl, rfl, rfl, by decide +kernel, rfl, by decide +kernel, by decide +kernel⟩
abbrev s__law_one_of : Stmt := top 45
theorem sc__law_one_of : FnScope ["_law_dice_here", "_law_items"] ["_law_dice_here", "_law_items"] (defScope s__law_one_of) := ⟨rfl, rfl, rfl, by decide +kernel, rfl, by decide +kernel, by decide +kernel⟩
/-- dice at p -/
def Dice (H : Hp) (p : Addr) : Prop := ∃ x y z : Int, H p = some (.lst [.int x, .int y, .int z])
/-- but for the dice at p all is as it was -/
structure Rolled (p : Addr) (H H' : Hp) : Prop where
  keep : ∀ b o, b ≠ p → H b = some o → H' b = some o
  dice : Dice H' p
theorem rolled_upd {p : Addr} {H : Hp} {x y z : Int} : Rolled p H (upd H p (.lst [.int x, .int y, .int z])) := ⟨fun b o hb e => by rw [upd_ne hb]; exact e, x, y, z, upd_same⟩
theorem Rolled.sqL {K : PySem.W.Frag} {p a : Addr} {H H' : Hp} {xs : List V} (r : Rolled p H H') (hne : a ≠ p) (h : SqL K H a xs) : SqL K H' a xs := by
  rcases h with (h | ⟨o', h⟩) | h
  · exact .inl (.inl (r.keep _ _ hne h))
  · exact .inl (.inr ⟨o', r.keep _ _ hne h⟩)
  · exact .inr h
theorem Dice.same {H H' : Hp} {p : Addr} (h : Dice H p) (s : Same H H') : Dice H' p := by
  obtain ⟨x, y, z, e⟩ := h
  exact ⟨x, y, z, s _ _ e⟩
theorem Dice.ne {H : Hp} {p l : Addr} (h : Dice H p) (hl : H l = none) : l ≠ p := by
  obtain ⟨x, y, z, e⟩ := h
  exact (ne_of_none e hl).symm
theorem Rolled.refl {p : Addr} {H : Hp} (h : Dice H p) : Rolled p H H := ⟨fun _ _ _ e => e, h⟩
theorem Rolled.trans {p : Addr} {H H1 H2 : Hp} (a : Rolled p H H1) (b : Rolled p H1 H2) : Rolled p H H2 := ⟨fun c o hc e => b.keep c o hc (a.keep c o hc e), b.dice⟩
theorem Rolled.same {p : Addr} {H H1 H2 : Hp} (a : Rolled p H H1) (b : Same H1 H2) : Rolled p H H2 := ⟨fun c o hc e => b c o (a.keep c o hc e), a.dice.same b⟩
theorem Rolled.pre {p : Addr} {H H1 H2 : Hp} (a : Same H H1) (b : Rolled p H1 H2) : Rolled p H H2 := ⟨fun c o hc e => b.keep c o hc (a c o e), b.dice⟩
/-- a thing of one's own changes -/
theorem Rolled.mut {p l : Addr} {H H1 : Hp} {o : HO} (a : Rolled p H H1) (hl : H l = none) (hp : l ≠ p) : Rolled p H (upd H1 l o) := by
  obtain ⟨x, y, z, e⟩ := a.dice
  exact ⟨fun c u hc q => by rw [upd_ne (ne_of_none q hl)]; exact a.keep c u hc q, x, y, z, by rw [upd_ne hp.symm]; exact e⟩
theorem Rolled.sqT {K : PySem.W.Frag} {p a : Addr} {H H' : Hp} {xs : List V} (r : Rolled p H H') (hD : Dice H p) (h : SqT K H a xs) : SqT K H' a xs := by
  obtain ⟨x, y, z, e⟩ := hD
  rcases h with (h | ⟨o', h⟩) | h
  · exact .inl (.inl (r.keep _ _ (ne_of h e (by intro q; cases q)) h))
  · exact .inl (.inr ⟨o', r.keep _ _ (ne_of h e (by intro q; cases q)) h⟩)
  · exact .inr h
def spDice (K : PySem.W.Frag) : Sp := Rd.mkSp (fun (a : Addr × List Int × Nat) => [.ref a.1, .int a.2.2]) fun a H Q _ => SqL K H a.1 (a.2.1.map V.int) ∧ ∀ p H', H p = none → Same H H' → Dice H' p → Q (.ref p) H'
def spRoll : Sp := Rd.mkSp (fun (a : Addr × Int) => [.ref a.1, .int a.2]) fun a H Q _ => Dice H a.1 ∧ 0 < a.2 ∧ a.2 < 1073741824 ∧ ∀ r H', 0 ≤ r → r < a.2 → Rolled a.1 H H' → Q (.int r) H'
def spOneOf (K : PySem.W.Frag) : Sp := Rd.mkSp (fun (a : Addr × Addr × List V) => [.ref a.1, .ref a.2.1]) fun a H Q _ => Dice H a.1 ∧ a.2.1 ≠ a.1 ∧ SqL K H a.2.1 a.2.2 ∧ 0 < a.2.2.length ∧ a.2.2.length < 1000 ∧
  ∀ v H', v ∈ a.2.2 → Rolled a.1 H H' → Q v H'
theorem rd_roll {H : Hp} {Q : VK} {E : XK} {d : Addr} {n : Int} (hD : Dice H d) (h0 : 0 < n) (h1 : n < 1073741824) (q : ∀ r H', 0 ≤ r → r < n → Rolled d H H' → Q (.int r) H') : spRoll [.ref d, .int n] H Q E := Rd.rd_sp (d, n) rfl ⟨hD, h0, h1, q⟩
/-- one of the items of a list that is none of the dice -/
theorem rd_one {K : PySem.W.Frag} {H : Hp} {Q : VK} {E : XK} {d m : Addr} {xs : List V} (hD : Dice H d) (hm : m ≠ d) (h : SqL K H m xs) (h0 : 0 < xs.length) (h1 : xs.length < 1000) (q : ∀ v H', v ∈ xs → Rolled d H H' → Q v H') : spOneOf K [.ref d, .ref m] H Q E :=
  Rd.rd_sp (d, m, xs) rfl ⟨hD, hm, h, h0, h1, q⟩
section
variable {gd : Bool} {P : Program} {w : World} {K : PySem.W.Frag} {mg : Str → Option Value} {base : Heap}
theorem ok_dice (F : Rd.Has K mg "_law_dice" s__law_dice) (g : Glob mg) : Rd.Fn gd P w K mg base CX0 1 "_law_dice" (spDice K) := by
  refine F.fn sc__law_dice (fun _ => rfl) (fun _ _ _ _ _ _ us hl => match us, hl with | [_, _], _ => rfl) fun f cdv A outer s H Q E a hr h => ?_
  obtain ⟨a, ns, i⟩ := a
  obtain ⟨hS, k⟩ := h
  refine ⟨_, (pss_cons (ps_set (i := 2) sc__law_dice.nd rfl (Or.inl rfl) (pe_op op_add (pe_op op_mul pe_int (pv 1)) pe_int))
      (C8.pss_cut (ps_if (pt_cmpR op_lt (pv 1) (pe_callB Rd.c_len (by rfl) g.len (by decide +kernel) (pa_cons (pv 0) pa_nil)) (nomark _)) (pss_one (ps_set (i := 2) sc__law_dice.nd rfl (Or.inl rfl) (pe_ix ix_list (pv 0) (pv 1) (fun _ _ => rfl)))) pss_nil)
      (pss_cons (ps_set (i := 3) sc__law_dice.nd rfl (Or.inl rfl) (pe_op op_mod (pe_callTy Rd.c_int (by rfl) g.int (by decide +kernel) (pa_cons (pe_callB Rd.c_abs (by rfl) g.abs (by decide +kernel) (pa_cons (pv 2) pa_nil)) pa_nil)) (pe_op Rd.op_powW (pe_op op_pow pe_int pe_int) pe_int)))
      (pss_cons (ps_set (i := 4) sc__law_dice.nd rfl (Or.inl rfl) (pe_op op_add (pe_op op_add (pe_op op_add (pe_op op_mul (pe_op op_mod (pe_callTy Rd.c_int (by rfl) g.int (by decide +kernel) (pa_cons (pv 3) pa_nil)) pe_int) pe_int) (pe_op op_mul pe_int (pv 1))) (pe_op op_mul pe_int (pe_callTy Rd.c_int (by rfl) g.int (by decide +kernel) (pa_cons (pe_cmpR op_lt (pv 2) pe_int (nomark _)) pa_nil)))) pe_int))
      (pss_one (ps_ret (Rd.pe_lst (pa_cons (pe_callB (Rd.c_max2 rfl) (by rfl) g.max (by decide +kernel) (pa_cons pe_int (pa_cons (pe_op op_sub (pv 3) (pe_op op_pow pe_int pe_int)) pa_nil))) (pa_cons (pe_op op_mod (pe_callTy Rd.c_int (by rfl) g.int (by decide +kernel) (pa_cons (pv 4) pa_nil)) pe_int) (pa_cons pe_int pa_nil)))))))))), ?_⟩
  try simp only [Rd.noxK, Rd.cxK]
  refine Rd.rd_start [some (V.ref a), some (V.int i), none, none, none] rfl ?_
  walk_at "rd"
  refine ⟨fun σ' H' => H' = H ∧ ∃ c : Int, σ' = [some (.ref a), some (.int i), some (.int c), none, none], ?_, ?_⟩
  · walk_at "rd"
    refine ite2 (fun hc => ?_) (fun _ => ?_)
    · have hl : i < ns.length := by simpa using hc
      walk_at "rd"
      refine Rd.rd_ixL hS (atI_nat (v := V.int (ns[i]'hl)) (by rw [List.getElem?_map, List.getElem?_eq_getElem hl]; rfl)) ?_
      walk_at "rd"
      exact ⟨rfl, _, rfl⟩
    · walk_at "rd"
      exact ⟨rfl, _, rfl⟩
  · rintro σ' H' ⟨rfl, c, rfl⟩
    walk_at "rd"
    exact Rd.rd_mkLst (by show 3 ≤ sizeLine; decide) fun p H' hp s' h' => k p H' hp s' ⟨_, _, _, h'⟩
theorem ok_roll (F : Rd.Has K mg "_law_roll" s__law_roll) (g : Glob mg) : Rd.Fn gd P w K mg base CX0 1 "_law_roll" spRoll := by
  refine F.fn sc__law_roll (fun _ => rfl) (fun _ _ _ _ _ _ us hl => match us, hl with | [_, _], _ => rfl) fun f cdv A outer s H Q E a hr h => ?_
  obtain ⟨a, n⟩ := a
  obtain ⟨⟨x, y, z, hD⟩, h0, h1, k⟩ := h
  dsimp only at hD h0 h1 k
  refine ⟨_, (pss_cons (ps_if (pt_cmpR op_gt (pe_ix ix_list (pv 0) pe_int (fun _ _ => rfl)) pe_int (nomark _)) (pss_cons (ps_set (i := 2) sc__law_roll.nd rfl (Or.inl rfl) (pe_op op_mod (pe_callTy Rd.c_int (by rfl) g.int (by decide +kernel) (pa_cons (pe_ix ix_list (pv 0) pe_int (fun _ _ => rfl)) pa_nil)) (pv 1)))
      (pss_cons (ps_asg (pe_op op_fdiv (pe_ix ix_list (pv 0) pe_int (fun _ _ => rfl)) (pv 1)) (pg_sub (pv 0) pe_int set_list))
      (pss_one (ps_ret (pv 2))))) pss_nil)
      (pss_cons (ps_asg (pe_op op_add (pe_ix ix_list (pv 0) pe_int (fun _ _ => rfl)) pe_int) (pg_sub (pv 0) pe_int set_list))
      (pss_cons (ps_set (i := 3) sc__law_roll.nd rfl (Or.inl rfl) (pe_op op_mod (pe_callTy Rd.c_int (by rfl) g.int (by decide +kernel) (pa_cons (pe_op op_add (pe_ix ix_list (pv 0) pe_int (fun _ _ => rfl)) (pe_op op_mul pe_int (pe_ix ix_list (pv 0) pe_int (fun _ _ => rfl)))) pa_nil)) pe_int))
      (pss_cons (ps_set (i := 4) sc__law_roll.nd rfl (Or.inl rfl) (pe_op op_add (pe_op op_mul (pe_op op_mod (pe_callTy Rd.c_int (by rfl) g.int (by decide +kernel) (pa_cons (pe_op op_mul (pv 3) (pv 3)) pa_nil)) pe_int) (pv 3)) (pe_op op_mul pe_int (pe_ix ix_list (pv 0) pe_int (fun _ _ => rfl)))))
      (pss_cons (ps_set (i := 4) sc__law_roll.nd rfl (Or.inl rfl) (pe_op op_mod (pe_callTy Rd.c_int (by rfl) g.int (by decide +kernel) (pa_cons (pv 4) pa_nil)) pe_int))
      (pss_one (ps_ret (pe_op op_mod (pe_callTy Rd.c_int (by rfl) g.int (by decide +kernel) (pa_cons (pe_op op_fdiv (pv 4) pe_int) pa_nil)) (pv 1))))))))), ?_⟩
  try simp only [Rd.noxK, Rd.cxK]
  refine Rd.rd_start [some (V.ref a), some (V.int n), none, none, none] rfl ?_
  walk_at "rd"
  refine ite2 (fun hc => ?_) (fun _ => ?_)
  · walk_at "rd"
    refine Rd.rd_setL (k := 0) hD (by simp) ?_
    walk_at "rd"
    exact k _ _ (Int.emod_nonneg _ (by omega)) (Int.emod_lt_of_pos _ h0) rolled_upd
  · walk_at "rd"
    refine Rd.rd_setL (k := 2) hD (by simp) ?_
    walk_at "rd"
    exact k _ _ (Int.emod_nonneg _ (by omega)) (Int.emod_lt_of_pos _ h0) rolled_upd
end
structure Tr where
  (nm src tgt : Str)
  chg : List (Str × Int)
structure Gr where
  (cs ns : List Str)
  ts : List Tr
/-- tuples and what is known of them stay -/
def Imm : HO → Bool
  | .tup _ => true
  | .frz _ (.tup _) => true
  | _ => false
def Kp (H H' : Hp) : Prop := ∀ b o, H b = some o → Imm o = true → H' b = some o
theorem Kp.refl (H : Hp) : Kp H H := fun _ _ e _ => e
theorem Kp.trans {H H1 H2 : Hp} (a : Kp H H1) (b : Kp H1 H2) : Kp H H2 := fun c o e i => b c o (a c o e i) i
theorem kpS {H H' : Hp} (s : Same H H') : Kp H H' := fun b o e _ => s b o e
theorem kp_upd {H : Hp} {l : Addr} {u o : HO} (h : H l = some u) (hu : Imm u = false) : Kp H (upd H l o) := fun b v e i => by
  rw [upd_ne fun z => ?_]
  · exact e
  · rw [z, h] at e
    rw [← Option.some.inj e, hu] at i
    cases i
theorem Rolled.kp {d : Addr} {H H' : Hp} (r : Rolled d H H') (hD : Dice H d) : Kp H H' := fun b o e i => by
  obtain ⟨x, y, z, q⟩ := hD
  refine r.keep b o (fun w => ?_) e
  rw [w, q] at e
  rw [← Option.some.inj e] at i
  cases i
section
variable {K : PySem.W.Frag} {H H' : Hp}
theorem Kp.sqT (k : Kp H H') {a : Addr} {xs : List V} (h : SqT K H a xs) : SqT K H' a xs := by
  rcases h with (h | ⟨o, h⟩) | h
  · exact .inl (.inl (k _ _ h rfl))
  · exact .inl (.inr ⟨o, k _ _ h rfl⟩)
  · exact .inr h
theorem Kp.sqF (k : Kp H H') {a : Addr} {xs : List V} (h : Rd.SqF H a xs) : Rd.SqF H' a xs := let ⟨o, d, e⟩ := h; ⟨o, d, k _ _ e rfl⟩
/-- a tuple of texts -/
def TxT (K : PySem.W.Frag) (H : Hp) (p : Addr) (xs : List Str) : Prop := SqT K H p (xs.map V.str)
def PairAt (K : PySem.W.Frag) (H : Hp) (p : Addr) (kv : Str × Int) : Prop := SqT K H p [.str kv.1, .int kv.2]
def ChgAt (K : PySem.W.Frag) (H : Hp) (c : Addr) (chg : List (Str × Int)) : Prop := ∃ ps : List Addr, Rd.SqF H c (ps.map V.ref) ∧ Paired (PairAt K H) ps chg
def RowAt (K : PySem.W.Frag) (H : Hp) (p : Addr) (t : Tr) : Prop := ∃ c, SqT K H p [.str t.nm, .str t.src, .str t.tgt, .ref c] ∧ ChgAt K H c t.chg
theorem ChgAt.kp (k : Kp H H') {c : Addr} {chg : List (Str × Int)} (h : ChgAt K H c chg) : ChgAt K H' c chg := let ⟨ps, h1, h2⟩ := h; ⟨ps, k.sqF h1, L2.Paired.mapP h2 fun _ _ q => k.sqT q⟩
theorem RowAt.kp (k : Kp H H') {p : Addr} {t : Tr} (h : RowAt K H p t) : RowAt K H' p t := let ⟨c, h1, h2⟩ := h; ⟨c, k.sqT h1, h2.kp k⟩
def RowsAt (K : PySem.W.Frag) (H : Hp) (p : Addr) (ts : List Tr) : Prop := ∃ ps : List Addr, SqT K H p (ps.map V.ref) ∧ Paired (RowAt K H) ps ts
theorem RowsAt.kp (k : Kp H H') {p : Addr} {ts : List Tr} (h : RowsAt K H p ts) : RowsAt K H' p ts := let ⟨ps, h1, h2⟩ := h; ⟨ps, k.sqT h1, L2.Paired.mapP h2 fun _ _ q => q.kp k⟩
theorem TxT.kp (k : Kp H H') {p : Addr} {xs : List Str} (h : TxT K H p xs) : TxT K H' p xs := k.sqT h
def PlainAt (K : PySem.W.Frag) (H : Hp) (p : Addr) (G : Gr) : Prop := ∃ c n t, SqT K H p [.ref c, .ref n, .ref t] ∧ TxT K H c G.cs ∧ TxT K H n G.ns ∧ RowsAt K H t G.ts
theorem PlainAt.kp (k : Kp H H') {p : Addr} {G : Gr} (h : PlainAt K H p G) : PlainAt K H' p G := let ⟨c, n, t, h1, h2, h3, h4⟩ := h; ⟨c, n, t, k.sqT h1, h2.kp k, h3.kp k, h4.kp k⟩
theorem paired_mem {α β : Type} {F : α → β → Prop} : ∀ {l : List α} {m : List β}, Paired F l m → ∀ a ∈ l, ∃ b ∈ m, F a b
  | _, _, .nil, a, h => nomatch h
  | _, _, .cons r t, a, h => by
    rcases List.mem_cons.mp h with e | e
    · exact ⟨_, List.mem_cons_self, e ▸ r⟩
    · obtain ⟨b, hb, q⟩ := paired_mem t a e
      exact ⟨b, List.mem_cons_of_mem _ hb, q⟩
theorem paired_get {α β : Type} {F : α → β → Prop} : ∀ {l : List α} {m : List β} {i : Nat} {a : α}, Paired F l m → l[i]? = some a → ∃ b, m[i]? = some b ∧ F a b
  | _, _, 0, a, .cons r t, h => ⟨_, rfl, Option.some.inj h ▸ r⟩
  | _, _, i + 1, a, .cons r t, h => by
    obtain ⟨b, q1, q2⟩ := paired_get (i := i) (a := a) t h
    exact ⟨b, q1, q2⟩
  | _, _, i, a, .nil, h => by simp at h
end
def isName (x : Str) : Bool := decide (1 ≤ x.length) && decide (x.length ≤ 8) && x.cps.toList.all fun c => decide (c ∈ letters.cps.toList)
structure GInts (mg : Str → Option Value) : Prop where
  MAX_COUNTERS : ∃ t, mg "MAX_COUNTERS" = some (.int 5 t)
  MAX_STATES : ∃ t, mg "MAX_STATES" = some (.int 8 t)
  MAX_TRANSITIONS : ∃ t, mg "MAX_TRANSITIONS" = some (.int 16 t)
  MAX_CHANGE : ∃ t, mg "MAX_CHANGE" = some (.int 9 t)
  MAX_NAME : ∃ t, mg "MAX_NAME" = some (.int 8 t)
  LETTERS : ∃ t, mg "LETTERS" = some (.str letters t)
/-- a change is a right one -/
def ChgOk (chg : List (Str × Int)) : Prop := Rd.Asc (chg.map (·.1)) ∧ ∀ kv ∈ chg, isName kv.1 = true ∧ -9 ≤ kv.2 ∧ kv.2 ≤ 9 ∧ kv.2 ≠ 0
def TrOk (t : Tr) : Prop := isName t.nm = true ∧ isName t.src = true ∧ isName t.tgt = true ∧ ChgOk t.chg ∧ t.chg.length ≤ 5
abbrev s_is_name : Stmt := top 16
theorem sc_is_name : FnScope ["value", "sign"] ["value"] (defScope s_is_name) := ⟨rfl, rfl, rfl, by decide +kernel, rfl, by decide +kernel, by decide +kernel⟩
abbrev s_is_small : Stmt := top 17
theorem sc_is_small : FnScope ["value"] ["value"] (defScope s_is_small) := ⟨rfl, rfl, rfl, by decide +kernel, rfl, by decide +kernel, by decide +kernel⟩
abbrev s_is_pair : Stmt := top 18
theorem sc_is_pair : FnScope ["value"] ["value"] (defScope s_is_pair) := ⟨rfl, rfl, rfl, by decide +kernel, rfl, by decide +kernel, by decide +kernel⟩
abbrev s_is_change : Stmt := top 19
theorem sc_is_change : FnScope ["value", "pair", "one", "other"] ["value"] (defScope s_is_change) := ⟨rfl, rfl, rfl, by decide +kernel, rfl, by decide +kernel, by decide +kernel⟩
abbrev s_is_transition : Stmt := top 20
theorem sc_is_transition : FnScope ["value", "part"] ["value"] (defScope s_is_transition) := ⟨rfl, rfl, rfl, by decide +kernel, rfl, by decide +kernel, by decide +kernel⟩
abbrev s_are_names : Stmt := top 21
theorem sc_are_names : FnScope ["value", "name"] ["value"] (defScope s_are_names) := ⟨rfl, rfl, rfl, by decide +kernel, rfl, by decide +kernel, by decide +kernel⟩
def spName : Sp := Rd.mkSp (fun (x : Str) => [.str x]) fun x H Q _ => x.length ≤ 1000 ∧ ∀ H', Same H H' → Q (.bl (isName x)) H'
def spSmall : Sp := Rd.mkSp (fun (i : Int) => [.int i]) fun i H Q _ => Q (.bl (decide (-9 ≤ i) && decide (i ≤ 9))) H
def spPair (K : PySem.W.Frag) : Sp := Rd.mkSp (fun (a : Addr × Str × Int) => [.ref a.1]) fun a H Q _ => PairAt K H a.1 a.2 ∧ isName a.2.1 = true ∧ (-9 ≤ a.2.2 ∧ a.2.2 ≤ 9 ∧ a.2.2 ≠ 0) ∧ ∀ H', Same H H' → Q (.bl true) H'
def spChange (K : PySem.W.Frag) : Sp := Rd.mkSp (fun (a : Addr × List (Str × Int)) => [.ref a.1]) fun a H Q _ => ChgAt K H a.1 a.2 ∧ ChgOk a.2 ∧ a.2.length ≤ 5 ∧ ∀ H', Same H H' → Q (.bl true) H'
def spTrans (K : PySem.W.Frag) : Sp := Rd.mkSp (fun (a : Addr × Tr) => [.ref a.1]) fun a H Q _ => RowAt K H a.1 a.2 ∧ TrOk a.2 ∧ ∀ H', Same H H' → Q (.bl true) H'
def spNames (K : PySem.W.Frag) : Sp := Rd.mkSp (fun (a : Addr × List Str) => [.ref a.1]) fun a H Q _ => TxT K H a.1 a.2 ∧ (∀ x ∈ a.2, isName x = true) ∧ a.2.length ≤ 100 ∧ ∀ H', Same H H' → Q (.bl true) H'
theorem name_len {x : Str} (h : isName x = true) : 1 ≤ x.length ∧ x.length ≤ 8 := by
  unfold isName at h
  rw [Bool.and_eq_true, Bool.and_eq_true, decide_eq_true_eq, decide_eq_true_eq] at h
  exact h.1
section
variable {gd : Bool} {P : Program} {w : World} {K : PySem.W.Frag} {mg : Str → Option Value} {base : Heap}
theorem rd_lenS {H : Hp} {Q : VK} {x : Str} (h : x.length ≤ sizeLine) (q : Q (.int (x.length : Nat)) H) : Rd.rLen K [.str x] H Q := ⟨_, _, rfl, ⟨h, rfl⟩, q⟩
theorem ok_is_name (F : Rd.Has K mg "is_name" s_is_name) (g : Glob mg) (ws : GInts mg) : Rd.Fn gd P w K mg base CX0 1 "is_name" spName := by
  refine F.fn sc_is_name (fun _ => rfl) (fun _ _ _ _ _ _ us hl => match us, hl with | [_], _ => rfl) fun f cdv A outer s H Q E x hr h => ?_
  obtain ⟨hx, k⟩ := h
  refine ⟨_, (pss_cons (ps_if (PW.pt (pw_or (pt_not (pt_val (pe_callB Rd.c_isi (by rfl) g.isinstance (by decide +kernel) (pa_cons (pv 0) (pa_cons (pe_bltn (v := .ty "str") (by rfl) g.str (by decide +kernel) rfl) pa_nil))))) (pw_or1 (pt_not (pt_chain op_le op_le pe_int (pe_callB Rd.c_len (by rfl) g.len (by decide +kernel) (pa_cons (pv 0) pa_nil)) (Rd.pe_gli (by rfl) ws.MAX_NAME)))))) (pss_one (ps_ret pe_bl)) pss_nil)
      (pss_one (ps_ret (pe_callB (Rd.c_all rfl) (by rfl) g.all (by decide +kernel) (pa_cons (pe_lc (own := [("sign", 1)]) (by rfl) sc_is_name.nd (pi_str (pv 0)) (blkOk_by (own := [("sign", 1)]) (N := ["value", "sign"]) (sc := defScope s_is_name) (by decide +kernel)) (fun _ _ _ _ _ => (pg_name (i := 1) sc_is_name.nd rfl (Or.inl rfl))) (fun _ _ _ _ _ => pts_nil) (fun _ _ _ _ _ => (pe_cmpR Rd.op_inSg (pv 1) (Rd.pe_gls (by rfl) ws.LETTERS) (by rfl)))) pa_nil))))), ?_⟩
  try simp only [Rd.noxK, Rd.cxK]
  refine Rd.rd_start [some (V.str x), none] rfl ?_
  walk_at "rd"
  refine Rd.rd_isi (Rd.isi_str (b := true) (by decide +kernel)) ?_
  walk_at "rd"
  refine Rd.if_f rfl ?_
  walk_at "rd"
  refine rd_lenS (Rd.small64 (by omega)) ?_
  walk_at "rd"
  have fin : ∀ (b : Bool) H', Same H H' → b = isName x → Q (.bl b) H' := fun b H' s' e => e ▸ k H' s'
  refine ite2 (fun h1 => ?_) (fun h1 => ?_)
  · have h1 : (1 : Int) ≤ (x.length : Int) := of_decide_eq_true h1
    walk_at "rd"
    refine ite2 (fun h2 => ?_) (fun h2 => ?_)
    · have h2 : ¬ (x.length : Int) ≤ 8 := by simpa using h2
      walk_at "rd"
      refine fin _ _ (Same.refl H) ?_
      unfold isName
      rw [decide_eq_false (show ¬ x.length ≤ 8 by omega), Bool.and_false, Bool.false_and]
    · have h2 : (x.length : Int) ≤ 8 := by simpa using h2
      walk_at "rd"
      refine Rd.lc_str (fun c => V.bl (decide (c ∈ letters.cps.toList))) (show x.length ≤ 100000 by omega) (fun c H1 N hc s1 hN => ?_) (fun D H1 hD s1 h1 => ?_)
      · refine Rd.rd_start' [some (V.str x), none] rfl ?_
        walk_at "rd"
        refine ⟨rfl, ?_⟩
        walk_at "rd"
        exact hN _ (Same.refl _)
      · refine Rd.rd_all (bs := x.cps.toList.map fun c => decide (c ∈ letters.cps.toList)) (SqL.of (by rw [h1, List.map_map]; rfl)) ?_
        refine fin _ _ s1 ?_
        unfold isName
        rw [decide_eq_true (show 1 ≤ x.length by omega), decide_eq_true (show x.length ≤ 8 by omega), List.all_map]
        rfl
  · have h1 : ¬ (1 : Int) ≤ (x.length : Int) := fun z => h1 (decide_eq_true z)
    walk_at "rd"
    refine fin _ _ (Same.refl H) ?_
    unfold isName
    rw [decide_eq_false (show ¬ 1 ≤ x.length by omega), Bool.false_and, Bool.false_and]
end
end M
set_option Elab.async false
set_option linter.all false
set_option maxRecDepth 100000
set_option maxHeartbeats 4000000
namespace M
open PySem L2
local macro_rules | `(tactic| walk_at "rdc") => `(tactic| first | exact Or.inl ⟨by decide, by decide⟩ | exact Or.inr ⟨by decide, by decide⟩ | exact ⟨by decide, by decide, by decide⟩ | exact ⟨by decide, by decide⟩ | decide | omega | assumption | (refine Or.inl ⟨?_, ?_⟩ <;> omega) | (refine Or.inr ⟨?_, ?_⟩ <;> omega) | (refine ⟨?_, ?_⟩ <;> omega))
local macro_rules | `(tactic| walk_at "rd1") => `(tactic| with_reducible first
  | refine Rd.rd_seq ?_ | refine Rd.rd_asg ?_ | refine Rd.rd_op ?_ | (refine' Rd.rd_var ?vh ?_; (case vh => with_unfolding_all rfl)) | refine Rd.rd_c ?_ | refine Rd.rd_I0 ?_ | refine Rd.rd_name0 ?_ | refine Rd.rd_nameS ?_ | refine Rd.rd_fn ?_
  | refine Rd.rd_cb ?_ | refine Rd.rd_cons ?_ | refine Rd.rd_nil ?_ | refine Rd.rd_int ?_ | refine Rd.rd_intB ?_ | refine Rd.rd_abs ?_ | refine Rd.rd_max2 ?_ | refine Rd.rd_min2 ?_
  | refine Rd.rd_call ?_ | refine Rd.rd_ifE ?_ | refine Rd.rd_test ?_ | refine Rd.rd_tB ?_ | refine Rd.rd_blV ?_ | refine Rd.rd_and ?_ | refine Rd.rd_or ?_ | refine Rd.rd_not ?_
  | refine Rd.rd_andV ?_ | refine Rd.rd_orV ?_ | refine Rd.rd_notV ?_ | refine Rd.rd_next ?_ | refine Rd.rd_ret ?_ | refine Rd.rd_drop ?_ | refine Rd.rd_ifS ?_ | refine Rd.rd_nx ?_ | refine Rd.rd_rt ?_ | refine Rd.rd_tMatch ?_ | refine Rd.rd_tCO ?_ | refine Rd.rd_tRevL ?_ | refine Rd.rd_tStar ?_ | refine Rd.rd_joined ?_ | refine Rd.rd_js1 ?_ | refine Rd.rd_js0 ?_ | refine Rd.rd_fmt ?_ | refine Rd.rd_propR ?_ | refine Rd.rd_iZipA ?_ | refine Rd.rd_iEnumT ?_ | refine Rd.rd_iOwn ?_ | (refine' Rd.rd_IET ?ln ?_; (case ln => with_unfolding_all walk_at "at")) | refine Rd.rd_chain ?_ | refine Rd.rd_tPar ?_ | refine Rd.rd_par ?_ | refine Rd.rd_sl ?_ | refine Rd.rd_noPart ?_ | refine Rd.rd_part ?_ | refine Rd.rd_intV ?_ | refine Rd.rd_lc ?_ | (refine' Rd.rd_aug ?vh ?_; (case vh => with_unfolding_all rfl)) | refine Rd.rd_ipI ?_ | refine Rd.rd_for ?_ | (refine' Rd.rd_IT ?ln ?_; (case ln => with_unfolding_all walk_at "at")) | (refine' Rd.rd_IL ?ln ?_; (case ln => with_unfolding_all walk_at "at")) | refine Rd.rd_iTup ?_ | refine Rd.rd_iList ?_ | refine Rd.rd_iRng1 ?_ | refine Rd.rd_iRng2 ?_ | refine Rd.rd_isi (Rd.isi_int Rd.kk_int_int) ?_ | refine Rd.rd_isi (Rd.isi_int Rd.kk_int_bool) ?_ | refine Rd.rd_dget ?_ | refine Rd.rd_din ?_ | refine Rd.rd_dnotin ?_ | refine Rd.rd_dput ?_ | refine Rd.rd_dc ?_ | refine Rd.rd_lc2 ?_ | refine Rd.rd_ltS ?_ | refine Rd.rd_inSg ?_ | refine Rd.rd_iStr ?_ | refine Rd.rd_IS ?_ | refine Rd.rd_prC ?_ | refine Rd.rd_prN ?_ | refine Rd.rd_methR ?_ | refine Rd.rd_cmeth ?_ | refine Rd.rd_fldS ?_ | refine Rd.rd_fld ?_ | (refine' Rd.rd_mkVS ?vh ?_; (case vh => with_unfolding_all rfl)) | (refine' Rd.rd_starT ?ln ?_; (case ln => with_unfolding_all walk_at "at")) | refine Rd.rd_iEnum ?_ | refine Rd.rd_iZip ?_ | (refine' Rd.rd_IE ?ln ?_; (case ln => with_unfolding_all walk_at "at")) | (refine' Rd.rd_IZ ?ln ?lm ?_; (case ln => with_unfolding_all walk_at "at"); (case lm => with_unfolding_all walk_at "at")) | (refine' Rd.rd_gTup ?ln ?lk ?_; (case ln => with_unfolding_all walk_at "at"); (case lk => with_unfolding_all rfl)) | refine Rd.rd_gCons ?_ | refine Rd.rd_gNil ?_ | refine Rd.rd_m1 ?_ | refine Rd.rd_strV ?_ | refine Rd.rd_tXiM ?_ | refine Rd.rd_tXiB ?_ | refine Rd.rd_tXiS ?_ | refine Rd.rd_bm ?_ | refine Rd.rd_bm0 ?_ | refine Rd.rd_isN ?_ | refine Rd.rd_notN ?_ | refine Rd.rd_sub ?_ | refine Rd.rd_un ?_ | refine Rd.rd_U ?_
  | (refine' Rd.rd_eq ?sc ?_; (case sc => with_unfolding_all rfl)) | (refine' Rd.rd_ne ?sc ?_; (case sc => with_unfolding_all rfl))
  | (refine' Rd.rd_I ?cc ?_; (case cc => with_unfolding_all walk_at "rdc"))
  | (refine' Rd.rd_lenL ?ln ?_; (case ln => with_unfolding_all walk_at "at")) | (refine' Rd.rd_lenT ?ln ?_; (case ln => with_unfolding_all walk_at "at"))
  | (refine' Rd.rd_ixL ?ln ?ia ?_; (case ln => with_unfolding_all walk_at "at"); (case ia => with_unfolding_all first | exact Rd.at0 | exact Rd.at1 | exact Rd.at2 | exact Rd.at3 | exact Rd.at4 | rfl)) | (refine' Rd.rd_ixT ?ln ?ia ?_; (case ln => with_unfolding_all walk_at "at"); (case ia => with_unfolding_all first | exact Rd.at0 | exact Rd.at1 | exact Rd.at2 | exact Rd.at3 | exact Rd.at4 | rfl)))
local macro_rules | `(tactic| walk_at "at") => `(tactic| first | assumption | (apply SqL.of; assumption) | (apply SqT.of; assumption) | (apply SqL.of; exact upd_same) | (apply SqT.of; exact upd_same))
local macro_rules | `(tactic| walk_at "rd") => `(tactic| repeat walk_at "rd1")
section
variable {gd : Bool} {P : Program} {w : World} {K : PySem.W.Frag} {mg : Str → Option Value} {base : Heap}
theorem map_true {α : Type} : ∀ l : List α, l.map (fun _ => V.bl true) = (List.replicate l.length true).map V.bl
  | [] => rfl
  | _ :: r => by rw [List.map_cons, map_true r]; rfl
theorem all_true (n : Nat) : (List.replicate n true).all id = true := by simp [List.all_replicate]
/-- all(..) of a list of Trues -/
theorem rd_allT {α : Type} {H : Hp} {Q : VK} {D : Addr} {l : List α} (h : H D = some (.lst (l.map fun _ => V.bl true))) (q : Q (.bl true) H) : rAll K [.ref D] H Q := by
  rw [map_true] at h
  exact Rd.rd_all (SqL.of h) (by rw [all_true]; exact q)
theorem rd_name {H : Hp} {Q : VK} {E : XK} {x : Str} (h : isName x = true) (q : ∀ H', Same H H' → Q (.bl true) H') : spName [.str x] H Q E := Rd.rd_sp x rfl ⟨by have := name_len h; show x.length ≤ 1000; omega, fun H' s' => by rw [h]; exact q H' s'⟩
theorem ok_is_small (F : Rd.Has K mg "is_small" s_is_small) (g : Glob mg) (ws : GInts mg) : Rd.Fn gd P w K mg base CX0 1 "is_small" spSmall := by
  refine F.fn sc_is_small (fun _ => rfl) (fun _ _ _ _ _ _ us hl => match us, hl with | [_], _ => rfl) fun f cdv A outer s H Q E i hr h => ?_
  refine ⟨_, (pss_one (ps_ret (pe_and (pe_callB Rd.c_isi (by rfl) g.isinstance (by decide +kernel) (pa_cons (pv 0) (pa_cons (pe_bltn (v := .ty "int") (by rfl) g.int (by decide +kernel) rfl) pa_nil))) (pe_and (pe_not (pe_callB Rd.c_isi (by rfl) g.isinstance (by decide +kernel) (pa_cons (pv 0) (pa_cons (pe_bltn (v := .ty "bool") (by rfl) g.bool (by decide +kernel) rfl) pa_nil)))) (pe_one (pe_chain op_le op_le (pe_un un_neg (Rd.pe_gli (by rfl) ws.MAX_CHANGE)) (pv 0) (Rd.pe_gli (by rfl) ws.MAX_CHANGE))))))), ?_⟩
  try simp only [Rd.noxK, Rd.cxK]
  refine Rd.rd_start [some (V.int i)] rfl ?_
  walk_at "rd"
  refine Rd.if_t rfl ?_
  walk_at "rd"
  refine Rd.if_t rfl ?_
  walk_at "rd"
  refine ite2 (fun h1 => ?_) (fun h1 => ?_)
  · have h1 : (-9 : Int) ≤ i := of_decide_eq_true h1
    rw [decide_eq_true h1, Bool.true_and] at h
    walk_at "rd"
    exact h
  · have h1 : ¬ (-9 : Int) ≤ i := fun z => h1 (decide_eq_true z)
    rw [decide_eq_false h1, Bool.false_and] at h
    exact h
theorem ok_is_pair (F : Rd.Has K mg "is_pair" s_is_pair) (g : Glob mg) (c_is_name : Rd.Fn gd P w K mg base CX0 1 "is_name" spName) (c_is_small : Rd.Fn gd P w K mg base CX0 1 "is_small" spSmall) : Rd.Fn gd P w K mg base CX0 2 "is_pair" (spPair K) := by
  refine F.fn sc_is_pair (fun _ => rfl) (fun _ _ _ _ _ _ us hl => match us, hl with | [_], _ => rfl) fun f cdv A outer s H Q E a hr h => ?_
  obtain ⟨p, x, i⟩ := a
  obtain ⟨hp, hx, ⟨h1, h2, h3⟩, k⟩ := h
  dsimp only at hp hx h1 h2 h3 k
  have hp' : SqT K H p [.str x, .int i] := hp
  refine ⟨_, (pss_one (ps_ret (pe_and (pe_callB Rd.c_isi (by rfl) g.isinstance (by decide +kernel) (pa_cons (pv 0) (pa_cons (pe_bltn (v := .ty "tuple") (by rfl) g.tuple (by decide +kernel) rfl) pa_nil))) (pe_and (pe_cmpR op_eq (pe_callB Rd.c_len (by rfl) g.len (by decide +kernel) (pa_cons (pv 0) pa_nil)) pe_int (nomark _)) (pe_and (Rd.pe_fn c_is_name (hr.mono (by decide)) (by rfl) (pa_cons (pe_ix ix_tup (pv 0) pe_int (fun _ _ => rfl)) pa_nil)) (pe_and (Rd.pe_fn c_is_small (hr.mono (by decide)) (by rfl) (pa_cons (pe_ix ix_tup (pv 0) pe_int (fun _ _ => rfl)) pa_nil)) (pe_one (pe_cmpR op_ne (pe_ix ix_tup (pv 0) pe_int (fun _ _ => rfl)) pe_int (nomark _))))))))), ?_⟩
  try simp only [Rd.noxK, Rd.cxK]
  refine Rd.rd_start [some (V.ref p)] rfl ?_
  walk_at "rd"
  refine Rd.rd_isi (Rd.isi_tup hp' Rd.kk_tup_tup) ?_
  walk_at "rd"
  refine Rd.if_t rfl ?_
  walk_at "rd"
  refine Rd.if_t rfl ?_
  walk_at "rd"
  refine rd_name hx fun H1 s1 => ?_
  have hp1 : SqT K H1 p [.str x, .int i] := Rd.Same.sqT s1 hp'
  walk_at "rd"
  refine Rd.if_t rfl ?_
  walk_at "rd"
  refine Rd.rd_sp i rfl ?_
  dsimp only
  rw [decide_eq_true h1, decide_eq_true h2]
  walk_at "rd"
  refine Rd.if_t rfl ?_
  walk_at "rd"
  have e : (!decide (V.int i = V.int 0)) = true := by simp [h3]
  rw [e]
  exact k H1 s1
theorem kvs_zip : ∀ (l : List (Str × Int)), Rd.Asc (l.map (·.1)) → ∀ z ∈ l.zip (l.drop 1), Rd.lts z.1.1 z.2.1 = true
  | [], _, z, h => by simp at h
  | [_], _, z, h => by simp at h
  | a :: b :: l, hA, z, h => by
    have hA' : ((a :: b :: l).map (·.1)).Pairwise fun x y => Rd.lts x y = true := hA
    simp only [List.map_cons] at hA'
    obtain ⟨h1, h2⟩ := List.pairwise_cons.mp hA'
    rw [List.drop_succ_cons, List.drop_zero, List.zip_cons_cons] at h
    rcases List.mem_cons.mp h with e | e
    · rw [e]
      exact h1 _ List.mem_cons_self
    · exact kvs_zip (b :: l) (by simpa [Rd.Asc] using h2) z (by simpa using e)
theorem ok_is_change (F : Rd.Has K mg "is_change" s_is_change) (g : Glob mg) (c_is_pair : Rd.Fn gd P w K mg base CX0 2 "is_pair" (spPair K)) : Rd.Fn gd P w K mg base CX0 3 "is_change" (spChange K) := by
  refine F.fn sc_is_change (fun _ => rfl) (fun _ _ _ _ _ _ us hl => match us, hl with | [_], _ => rfl) fun f cdv A outer s H Q E a hr h => ?_
  obtain ⟨p, chg⟩ := a
  obtain ⟨⟨ps, hF, hp⟩, ⟨hA, hO⟩, hl, k⟩ := h
  dsimp only at hF hp hA hO hl k
  have hS : SqT K H p (ps.map V.ref) := hF.sq
  have lp : ps.length = chg.length := hp.length
  refine ⟨_, (pss_cons (ps_if (PW.pt (pw_or (pt_not (pt_val (pe_callB Rd.c_isi (by rfl) g.isinstance (by decide +kernel) (pa_cons (pv 0) (pa_cons (pe_bltn (v := .ty "tuple") (by rfl) g.tuple (by decide +kernel) rfl) pa_nil))))) (pw_or1 (pt_not (pt_val (pe_callB (Rd.c_all rfl) (by rfl) g.all (by decide +kernel) (pa_cons (pe_lc (own := [("pair", 1)]) (by rfl) sc_is_change.nd (pi_tup (pv 0)) (blkOk_by (own := [("pair", 1)]) (N := ["value", "pair", "one", "other"]) (sc := defScope s_is_change) (by decide +kernel)) (fun _ _ _ _ _ => (pg_name (i := 1) sc_is_change.nd rfl (Or.inl rfl))) (fun _ _ _ _ _ => pts_nil) (fun _ _ _ _ _ => (Rd.pe_fn c_is_pair (hr.mono (by decide)) (by rfl) (pa_cons (pv 1) pa_nil)))) pa_nil))))))) (pss_one (ps_ret pe_bl)) pss_nil)
      (pss_one (ps_ret (pe_callB (Rd.c_all rfl) (by rfl) g.all (by decide +kernel) (pa_cons (pe_lc (own := [("one", 2), ("other", 3)]) (by rfl) sc_is_change.nd (RZ.pi_zipA (by rfl) g.zip (pa_cons (pv 0) (pa_cons (pe_slice sl_tupA (pv 0) (po_some pe_int) po_none) pa_nil))) (blkOk_by (own := [("one", 2), ("other", 3)]) (N := ["value", "pair", "one", "other"]) (sc := defScope s_is_change) (by decide +kernel)) (fun _ _ _ _ _ => (Rd.pg_tupK (K := K) (n := 2) (by rfl) rfl (pgs_cons (pg_name (i := 2) sc_is_change.nd rfl (Or.inl rfl)) (pgs_cons (pg_name (i := 3) sc_is_change.nd rfl (Or.inl rfl)) pgs_nil)))) (fun _ _ _ _ _ => pts_nil) (fun _ _ _ _ _ => (pe_cmpR Rd.op_ltS (pe_ix (Rd.ix_tupK (K := K) (by rfl)) (pv 2) pe_int (fun _ _ => rfl)) (pe_ix (Rd.ix_tupK (K := K) (by rfl)) (pv 3) pe_int (fun _ _ => rfl)) (nomark _)))) pa_nil))))), ?_⟩
  try simp only [Rd.noxK, Rd.cxK]
  refine Rd.rd_start [some (V.ref p), none, none, none] rfl ?_
  walk_at "rd"
  refine Rd.rd_isi (Rd.isi_tup hS Rd.kk_tup_tup) ?_
  walk_at "rd"
  refine Rd.if_f rfl ?_
  walk_at "rd"
  refine Rd.lc_tup (fun _ => V.bl true) (by rw [List.length_map]; omega) hS (fun v H1 N hv s1 hN => ?_) (fun D H1 hD s1 h1 => ?_)
  · obtain ⟨b, hb, rfl⟩ := List.mem_map.mp hv
    obtain ⟨kv, hkv, hq⟩ := paired_mem hp b hb
    obtain ⟨o1, o2, o3, o4⟩ := hO kv hkv
    refine Rd.rd_start' [some (V.ref p), none, none, none] rfl ?_
    walk_at "rd"
    refine ⟨rfl, ?_⟩
    walk_at "rd"
    exact Rd.rd_sp (b, kv) rfl ⟨Rd.Same.sqT s1 hq, o1, ⟨o2, o3, o4⟩, hN⟩
  walk_at "rd"
  refine rd_allT h1 ?_
  walk_at "rd"
  refine Rd.if_f rfl ?_
  have hS1 : SqT K H1 p (ps.map V.ref) := Rd.Same.sqT s1 hS
  walk_at "rd"
  refine Rd.rd_cut hS1 fun q H2 s2 h2 => ?_
  have e3 : cutV (ps.map V.ref) (some 1) none = (ps.drop 1).map V.ref := by
    unfold cutV HT.sIx
    dsimp only
    rw [if_neg (by omega)]
    cases ps with
    | nil => rfl
    | cons x r =>
      simp only [List.length_map, List.length_cons, List.map_cons]
      rw [show min (Int.toNat 1) (r.length + 1) = 1 by simp]
      simp
      exact List.take_of_length_le (by rw [List.length_map]; exact Nat.le_refl _)
  rw [e3] at h2
  walk_at "rd"
  refine Rd.rd_IZT (Rd.Same.sqT s2 hS1) h2 ?_
  refine Rd.lc_zipM (fun _ => V.bl true) (by rw [List.length_map]; omega) (Rd.Same.sqT s2 hS1) h2 (fun z T H3 M hz s3 hT hM => ?_) (fun D3 H3 hD3 s3 h3 => ?_)
  · obtain ⟨i, hz'⟩ := List.mem_iff_getElem?.mp hz
    obtain ⟨z1, z2⟩ := z
    obtain ⟨g1, g2⟩ := List.getElem?_zip_eq_some.mp hz'
    rw [List.getElem?_map] at g1 g2
    obtain ⟨b1, f1, rfl⟩ := Option.map_eq_some_iff.mp g1
    obtain ⟨b2, f2, rfl⟩ := Option.map_eq_some_iff.mp g2
    rw [List.getElem?_drop] at f2
    obtain ⟨kv1, k1, q1⟩ := paired_get hp f1
    obtain ⟨kv2, k2, q2⟩ := paired_get hp f2
    have hlt : Rd.lts kv1.1 kv2.1 = true := kvs_zip chg hA (kv1, kv2) (List.mem_of_getElem? (i := i) (List.getElem?_zip_eq_some.mpr ⟨k1, by rw [List.getElem?_drop]; exact k2⟩))
    have t3 := (s1.trans s2).trans s3
    have q1' : SqT K H3 b1 [.str kv1.1, .int kv1.2] := Rd.Same.sqT t3 q1
    have q2' : SqT K H3 b2 [.str kv2.1, .int kv2.2] := Rd.Same.sqT t3 q2
    refine Rd.rd_start' [some (V.ref p), none, none, none] rfl ?_
    walk_at "rd"
    refine ⟨rfl, ?_⟩
    walk_at "rd"
    rw [hlt]
    exact hM _ (Same.refl _)
  · walk_at "rd"
    refine rd_allT h3 ?_
    exact k H3 ((s1.trans s2).trans s3)
theorem ok_is_transition (F : Rd.Has K mg "is_transition" s_is_transition) (g : Glob mg) (c_is_name : Rd.Fn gd P w K mg base CX0 1 "is_name" spName) (c_is_change : Rd.Fn gd P w K mg base CX0 3 "is_change" (spChange K)) : Rd.Fn gd P w K mg base CX0 4 "is_transition" (spTrans K) := by
  refine F.fn sc_is_transition (fun _ => rfl) (fun _ _ _ _ _ _ us hl => match us, hl with | [_], _ => rfl) fun f cdv A outer s H Q E a hr h => ?_
  obtain ⟨p, t⟩ := a
  obtain ⟨⟨c, hp, hc⟩, ⟨n1, n2, n3, n4, n5⟩, k⟩ := h
  dsimp only at hp hc n1 n2 n3 n4 n5 k
  refine ⟨_, (pss_cons (ps_if (PW.pt (pw_or (pt_not (pt_val (pe_callB Rd.c_isi (by rfl) g.isinstance (by decide +kernel) (pa_cons (pv 0) (pa_cons (pe_bltn (v := .ty "tuple") (by rfl) g.tuple (by decide +kernel) rfl) pa_nil))))) (pw_or (pt_cmpR op_ne (pe_callB Rd.c_len (by rfl) g.len (by decide +kernel) (pa_cons (pv 0) pa_nil)) pe_int (nomark _)) (pw_or1 (pt_not (pt_val (pe_callB (Rd.c_all rfl) (by rfl) g.all (by decide +kernel) (pa_cons (pe_lc (own := [("part", 1)]) (by rfl) sc_is_transition.nd (pi_tup (pe_slice sl_tupA (pv 0) po_none (po_some pe_int))) (blkOk_by (own := [("part", 1)]) (N := ["value", "part"]) (sc := defScope s_is_transition) (by decide +kernel)) (fun _ _ _ _ _ => (pg_name (i := 1) sc_is_transition.nd rfl (Or.inl rfl))) (fun _ _ _ _ _ => pts_nil) (fun _ _ _ _ _ => (Rd.pe_fn c_is_name (hr.mono (by decide)) (by rfl) (pa_cons (pv 1) pa_nil)))) pa_nil)))))))) (pss_one (ps_ret pe_bl)) pss_nil)
      (pss_one (ps_ret (Rd.pe_fn c_is_change (hr.mono (by decide)) (by rfl) (pa_cons (pe_ix ix_tup (pv 0) pe_int (fun _ _ => rfl)) pa_nil))))), ?_⟩
  try simp only [Rd.noxK, Rd.cxK]
  refine Rd.rd_start [some (V.ref p), none] rfl ?_
  walk_at "rd"
  refine Rd.rd_isi (Rd.isi_tup hp Rd.kk_tup_tup) ?_
  walk_at "rd"
  refine Rd.if_f rfl ?_
  walk_at "rd"
  refine Rd.if_f rfl ?_
  walk_at "rd"
  refine Rd.rd_cut hp fun q H1 s1 h1 => ?_
  have e1 : cutV [V.str t.nm, V.str t.src, V.str t.tgt, V.ref c] none (some 3) = [V.str t.nm, V.str t.src, V.str t.tgt] := rfl
  rw [e1] at h1
  walk_at "rd"
  refine Rd.lc_tup (fun _ => V.bl true) (by show 3 ≤ 100000; decide) h1 (fun v H2 N hv s2 hN => ?_) (fun D H2 hD s2 h2 => ?_)
  · refine Rd.rd_start' [some (V.ref p), none] rfl ?_
    walk_at "rd"
    refine ⟨rfl, ?_⟩
    walk_at "rd"
    simp only [List.mem_cons, List.not_mem_nil, or_false] at hv
    rcases hv with rfl | rfl | rfl
    · exact rd_name n1 hN
    · exact rd_name n2 hN
    · exact rd_name n3 hN
  walk_at "rd"
  refine rd_allT h2 ?_
  walk_at "rd"
  refine Rd.if_f rfl ?_
  have hp2 := Rd.Same.sqT (s1.trans s2) hp
  walk_at "rd"
  exact Rd.rd_sp (c, t.chg) rfl ⟨hc.kp (kpS (s1.trans s2)), n4, n5, fun H3 s3 => k H3 ((s1.trans s2).trans s3)⟩
theorem ok_are_names (F : Rd.Has K mg "are_names" s_are_names) (g : Glob mg) (c_is_name : Rd.Fn gd P w K mg base CX0 1 "is_name" spName) : Rd.Fn gd P w K mg base CX0 2 "are_names" (spNames K) := by
  refine F.fn sc_are_names (fun _ => rfl) (fun _ _ _ _ _ _ us hl => match us, hl with | [_], _ => rfl) fun f cdv A outer s H Q E a hr h => ?_
  obtain ⟨p, xs⟩ := a
  obtain ⟨hp, hx, hl, k⟩ := h
  dsimp only at hp hx hl k
  have hp' : SqT K H p (xs.map V.str) := hp
  refine ⟨_, (pss_one (ps_ret (pe_and (pe_callB Rd.c_isi (by rfl) g.isinstance (by decide +kernel) (pa_cons (pv 0) (pa_cons (pe_bltn (v := .ty "tuple") (by rfl) g.tuple (by decide +kernel) rfl) pa_nil))) (pe_one (pe_callB (Rd.c_all rfl) (by rfl) g.all (by decide +kernel) (pa_cons (pe_lc (own := [("name", 1)]) (by rfl) sc_are_names.nd (pi_tup (pv 0)) (blkOk_by (own := [("name", 1)]) (N := ["value", "name"]) (sc := defScope s_are_names) (by decide +kernel)) (fun _ _ _ _ _ => (pg_name (i := 1) sc_are_names.nd rfl (Or.inl rfl))) (fun _ _ _ _ _ => pts_nil) (fun _ _ _ _ _ => (Rd.pe_fn c_is_name (hr.mono (by decide)) (by rfl) (pa_cons (pv 1) pa_nil)))) pa_nil)))))), ?_⟩
  try simp only [Rd.noxK, Rd.cxK]
  refine Rd.rd_start [some (V.ref p), none] rfl ?_
  walk_at "rd"
  refine Rd.rd_isi (Rd.isi_tup hp' Rd.kk_tup_tup) ?_
  walk_at "rd"
  refine Rd.if_t rfl ?_
  walk_at "rd"
  refine Rd.lc_tup (fun _ => V.bl true) (by rw [List.length_map]; omega) hp' (fun v H2 N hv s2 hN => ?_) (fun D H2 hD s2 h2 => ?_)
  · obtain ⟨x, hxm, rfl⟩ := List.mem_map.mp hv
    refine Rd.rd_start' [some (V.ref p), none] rfl ?_
    walk_at "rd"
    refine ⟨rfl, ?_⟩
    walk_at "rd"
    exact rd_name (hx x hxm) hN
  walk_at "rd"
  refine rd_allT h2 ?_
  exact k H2 s2
end
end M
set_option Elab.async false
set_option linter.all false
set_option maxRecDepth 100000
set_option maxHeartbeats 4000000
namespace M
open PySem L2
local macro_rules | `(tactic| walk_at "rdc") => `(tactic| first | exact Or.inl ⟨by decide, by decide⟩ | exact Or.inr ⟨by decide, by decide⟩ | exact ⟨by decide, by decide, by decide⟩ | exact ⟨by decide, by decide⟩ | decide | omega | assumption | (refine Or.inl ⟨?_, ?_⟩ <;> omega) | (refine Or.inr ⟨?_, ?_⟩ <;> omega) | (refine ⟨?_, ?_⟩ <;> omega))
local macro_rules | `(tactic| walk_at "rd1") => `(tactic| with_reducible first
  | refine Rd.rd_seq ?_ | refine Rd.rd_asg ?_ | refine Rd.rd_op ?_ | (refine' Rd.rd_var ?vh ?_; (case vh => with_unfolding_all rfl)) | refine Rd.rd_c ?_ | refine Rd.rd_I0 ?_ | refine Rd.rd_name0 ?_ | refine Rd.rd_nameS ?_ | refine Rd.rd_fn ?_
  | refine Rd.rd_cb ?_ | refine Rd.rd_cons ?_ | refine Rd.rd_nil ?_ | refine Rd.rd_int ?_ | refine Rd.rd_intB ?_ | refine Rd.rd_abs ?_ | refine Rd.rd_max2 ?_ | refine Rd.rd_min2 ?_
  | refine Rd.rd_call ?_ | refine Rd.rd_ifE ?_ | refine Rd.rd_test ?_ | refine Rd.rd_tB ?_ | refine Rd.rd_blV ?_ | refine Rd.rd_and ?_ | refine Rd.rd_or ?_ | refine Rd.rd_not ?_
  | refine Rd.rd_andV ?_ | refine Rd.rd_orV ?_ | refine Rd.rd_notV ?_ | refine Rd.rd_next ?_ | refine Rd.rd_ret ?_ | refine Rd.rd_drop ?_ | refine Rd.rd_ifS ?_ | refine Rd.rd_nx ?_ | refine Rd.rd_rt ?_ | refine Rd.rd_tMatch ?_ | refine Rd.rd_tCO ?_ | refine Rd.rd_tRevL ?_ | refine Rd.rd_tStar ?_ | refine Rd.rd_joined ?_ | refine Rd.rd_js1 ?_ | refine Rd.rd_js0 ?_ | refine Rd.rd_fmt ?_ | refine Rd.rd_propR ?_ | refine Rd.rd_iZipA ?_ | refine Rd.rd_iEnumT ?_ | refine Rd.rd_iOwn ?_ | (refine' Rd.rd_IET ?ln ?_; (case ln => with_unfolding_all walk_at "at")) | refine Rd.rd_chain ?_ | refine Rd.rd_tPar ?_ | refine Rd.rd_par ?_ | refine Rd.rd_sl ?_ | refine Rd.rd_noPart ?_ | refine Rd.rd_part ?_ | refine Rd.rd_intV ?_ | refine Rd.rd_lc ?_ | (refine' Rd.rd_aug ?vh ?_; (case vh => with_unfolding_all rfl)) | refine Rd.rd_ipI ?_ | refine Rd.rd_for ?_ | (refine' Rd.rd_IT ?ln ?_; (case ln => with_unfolding_all walk_at "at")) | (refine' Rd.rd_IL ?ln ?_; (case ln => with_unfolding_all walk_at "at")) | refine Rd.rd_iTup ?_ | refine Rd.rd_iList ?_ | refine Rd.rd_iRng1 ?_ | refine Rd.rd_iRng2 ?_ | refine Rd.rd_isi (Rd.isi_int Rd.kk_int_int) ?_ | refine Rd.rd_isi (Rd.isi_int Rd.kk_int_bool) ?_ | refine Rd.rd_dget ?_ | refine Rd.rd_din ?_ | refine Rd.rd_dnotin ?_ | refine Rd.rd_dput ?_ | refine Rd.rd_dc ?_ | refine Rd.rd_lc2 ?_ | refine Rd.rd_ltS ?_ | refine Rd.rd_inSg ?_ | refine Rd.rd_iStr ?_ | refine Rd.rd_IS ?_ | refine Rd.rd_prC ?_ | refine Rd.rd_prN ?_ | refine Rd.rd_methR ?_ | refine Rd.rd_cmeth ?_ | refine Rd.rd_fldS ?_ | refine Rd.rd_fld ?_ | (refine' Rd.rd_mkVS ?vh ?_; (case vh => with_unfolding_all rfl)) | (refine' Rd.rd_starT ?ln ?_; (case ln => with_unfolding_all walk_at "at")) | refine Rd.rd_iEnum ?_ | refine Rd.rd_iZip ?_ | (refine' Rd.rd_IE ?ln ?_; (case ln => with_unfolding_all walk_at "at")) | (refine' Rd.rd_IZ ?ln ?lm ?_; (case ln => with_unfolding_all walk_at "at"); (case lm => with_unfolding_all walk_at "at")) | (refine' Rd.rd_gTup ?ln ?lk ?_; (case ln => with_unfolding_all walk_at "at"); (case lk => with_unfolding_all rfl)) | refine Rd.rd_gCons ?_ | refine Rd.rd_gNil ?_ | refine Rd.rd_m1 ?_ | refine Rd.rd_strV ?_ | refine Rd.rd_tXiM ?_ | refine Rd.rd_tXiB ?_ | refine Rd.rd_tXiS ?_ | refine Rd.rd_bm ?_ | refine Rd.rd_bm0 ?_ | refine Rd.rd_isN ?_ | refine Rd.rd_notN ?_ | refine Rd.rd_sub ?_ | refine Rd.rd_un ?_ | refine Rd.rd_U ?_
  | (refine' Rd.rd_eq ?sc ?_; (case sc => with_unfolding_all rfl)) | (refine' Rd.rd_ne ?sc ?_; (case sc => with_unfolding_all rfl))
  | (refine' Rd.rd_I ?cc ?_; (case cc => with_unfolding_all walk_at "rdc"))
  | (refine' Rd.rd_lenL ?ln ?_; (case ln => with_unfolding_all walk_at "at")) | (refine' Rd.rd_lenT ?ln ?_; (case ln => with_unfolding_all walk_at "at"))
  | (refine' Rd.rd_ixL ?ln ?ia ?_; (case ln => with_unfolding_all walk_at "at"); (case ia => with_unfolding_all first | exact Rd.at0 | exact Rd.at1 | exact Rd.at2 | exact Rd.at3 | exact Rd.at4 | rfl)) | (refine' Rd.rd_ixT ?ln ?ia ?_; (case ln => with_unfolding_all walk_at "at"); (case ia => with_unfolding_all first | exact Rd.at0 | exact Rd.at1 | exact Rd.at2 | exact Rd.at3 | exact Rd.at4 | rfl)))
local macro_rules | `(tactic| walk_at "at") => `(tactic| first | assumption | (apply SqL.of; assumption) | (apply SqT.of; assumption) | (apply SqL.of; exact upd_same) | (apply SqT.of; exact upd_same))
local macro_rules | `(tactic| walk_at "rd") => `(tactic| repeat walk_at "rd1")
theorem len_nodup_sub {α : Type} [DecidableEq α] : ∀ (l m : List α), l.Nodup → (∀ x ∈ l, x ∈ m) → l.length ≤ m.length
  | [], _, _, _ => Nat.zero_le _
  | x :: l, m, nd, h => by
    obtain ⟨n1, n2⟩ := List.nodup_cons.mp nd
    have hx := h x List.mem_cons_self
    have ih := len_nodup_sub l (m.erase x) n2 fun y hy => by
      have hne : y ≠ x := fun e => n1 (e ▸ hy)
      exact (List.mem_erase_of_ne hne).mpr (h y (List.mem_cons_of_mem _ hy))
    rw [List.length_erase_of_mem hx] at ih
    have := List.length_pos_of_mem hx
    rw [List.length_cons]
    omega
theorem name_ok {x : Str} (h : isName x = true) : PyData.strOk x = true := by
  unfold isName at h
  rw [Bool.and_eq_true] at h
  have h2 := List.all_eq_true.mp h.2
  unfold PyData.strOk
  rw [Array.all_eq_true']
  intro c hc
  have hm : c ∈ letters.cps.toList := of_decide_eq_true (h2 c (Array.mem_toList_iff.mpr hc))
  have hall : ∀ d ∈ letters.cps.toList, decide (d < 0x110000) = true := by decide +kernel
  exact hall c hm
theorem shaped_strs {l : List Str} (h : ∀ x ∈ l, PyData.strOk x = true) : SeqAt.shaped (.list (l.map PyData.str)) = true := by
  have c : ∀ l : List Str, (∀ x ∈ l, PyData.strOk x = true) → PyData.canLayAll0 (l.map PyData.str) = true ∧ PyData.depthAll (l.map PyData.str) = 0 := by
    intro l
    induction l with
    | nil => exact fun _ => ⟨rfl, rfl⟩
    | cons x r ih =>
      intro h
      obtain ⟨i1, i2⟩ := ih fun y hy => h y (List.mem_cons_of_mem _ hy)
      refine ⟨?_, ?_⟩
      · show (PyData.strOk x && PyData.canLayAll0 (r.map PyData.str)) = true
        rw [h x List.mem_cons_self, i1]; rfl
      · show max 0 (PyData.depthAll (r.map PyData.str)) = 0
        rw [i2]; rfl
  obtain ⟨c1, c2⟩ := c l h
  unfold SeqAt.shaped
  rw [show PyData.canLay0 (.list (l.map PyData.str)) = true from c1, show PyData.depth (.list (l.map PyData.str)) = 1 by show PyData.depthAll (l.map PyData.str) + 1 = 1; rw [c2]]
  rfl
theorem dp_strs {K : PySem.W.Frag} (H : Hp) : ∀ l : List Str, DpAll K H (l.map V.str) (l.map PyData.str)
  | [] => .nil
  | x :: l => .cons (.str x) (dp_strs H l)
theorem eqv_nilS (l : List Str) : PyData.eqv (.list (l.map PyData.str)) (.list []) = decide (l = []) := by
  cases l with
  | nil => rfl
  | cons x l =>
    rw [decide_eq_false (List.cons_ne_nil x l)]
    rfl
/-- the dict of the texts ks, each with True -/
def tab (ks : List Str) : List (Key × V) := ks.map fun k => (Sum.inr k, V.bl true)
theorem tab_keys (ks : List Str) : (tab ks).map (·.1) = ks.map Sum.inr := by unfold tab; rw [List.map_map]; rfl
theorem tab_val (ks : List Str) (k : Str) : (valV (tab ks) (Sum.inr k)).isSome = decide (k ∈ ks) := by
  rw [← valV_any]
  unfold tab
  rw [List.any_map, Bool.eq_iff_iff, List.any_eq_true, decide_eq_true_eq]
  constructor
  · rintro ⟨x, hx, q⟩
    have e : (Sum.inr x : Key) = Sum.inr k := of_decide_eq_true q
    injection e with e
    exact e ▸ hx
  · exact fun h => ⟨k, h, decide_eq_true rfl⟩
theorem tab_put {ks : List Str} {k : Str} (h : k ∉ ks) : putK (tab ks) (Sum.inr k) (V.bl true) = tab (ks ++ [k]) := by
  rw [Rd.putK_new']
  · unfold tab; rw [List.map_append]; rfl
  · rw [tab_keys]
    intro q
    obtain ⟨x, hx, e⟩ := List.mem_map.mp q
    injection e with e
    exact h (e ▸ hx)
theorem tab_put_old {ks : List Str} {k : Str} (h : k ∈ ks) : putK (tab ks) (Sum.inr k) (V.bl true) = tab ks := by
  have hs : ((tab ks).any fun kv => decide (kv.1 = (Sum.inr k : Key))) = true := by rw [valV_any, tab_val, decide_eq_true h]
  unfold putK
  rw [if_pos hs]
  unfold tab
  rw [List.map_map]
  refine List.map_congr_left fun x hx => ?_
  show (if (Sum.inr x : Key) = Sum.inr k then (Sum.inr x, V.bl true) else (Sum.inr x, V.bl true)) = _
  split <;> rfl
def StepAt (K : PySem.W.Frag) (H : Hp) (p : Addr) (st : Str × Str) : Prop := SqT K H p [.str st.1, .str st.2]
/-- what is reached from x: with x, closed, and no more -/
structure Reach (sts : List (Str × Str)) (x : Str) (ks : List Str) : Prop where
  nd : ks.Nodup
  hx : x ∈ ks
  cl : ∀ st ∈ sts, st.1 ∈ ks → st.2 ∈ ks
  mn : ∀ S : Str → Prop, S x → (∀ st ∈ sts, S st.1 → S st.2) → ∀ k ∈ ks, S k
abbrev s_reached_from : Stmt := top 22
theorem sc_reached_from : FnScope ["steps", "state", "found", "waiting", "here", "source", "target"] ["steps", "state"] (defScope s_reached_from) := ⟨rfl, rfl, rfl, by decide +kernel, rfl, by decide +kernel, by decide +kernel⟩
def spReach (K : PySem.W.Frag) : Sp := Rd.mkSp (fun (a : Addr × List (Str × Str) × Str) => [.ref a.1, .str a.2.2]) fun a H Q _ => (∃ ps : List Addr, SqL K H a.1 (ps.map V.ref) ∧ Paired (StepAt K H) ps a.2.1) ∧ a.2.1.length ≤ 100 ∧ isName a.2.2 = true ∧ (∀ st ∈ a.2.1, isName st.2 = true) ∧
  ∀ D H' ks, H D = none → Same H H' → H' D = some (.dK (tab ks)) → Reach a.2.1 a.2.2 ks → ks.length ≤ a.2.1.length + 1 → Q (.ref D) H'
theorem sq_some {K : PySem.W.Frag} {H H' : Hp} {a : Addr} {xs : List V} (s : Same H H') (h : SqL K H a xs) : SqL K H' a xs := L2.Same.seq s h
theorem same_mut {H H1 : Hp} {l : Addr} {o : HO} (s : Same H H1) (hl : H l = none) : Same H (upd H1 l o) := fun b u e => by
  rw [upd_ne (ne_of_none e hl)]
  exact s b u e
/-- the def x, which stands under the name y -/
def HasA (K : PySem.W.Frag) (mg : Str → Option Value) (y x : Str) (st : Stmt) : Prop := ∃ f, Rd.HasAt K f x x st ∧ mg y = some (.ref f) ∧ PySem.W.keepIn K (.ref f) = true
theorem has_a {K : PySem.W.Frag} {mg : Str → Option Value} {x : Str} {st : Stmt} (h : Rd.Has K mg x st) : HasA K mg x x st := h
theorem HasA.fn {gd : Bool} {P : Program} {w : World} {K : PySem.W.Frag} {mg : Str → Option Value} {base : Heap} {k : Nat} {y x : Str} {st : Stmt} {N ps : List Str} {α : Type} {args : α → List V} {pre : α → Hp → VK → XK → Prop} (h : HasA K mg y x st) (S : FnScope N ps (defScope st)) (hl : ∀ a, (args a).length = ps.length)
    (hb : ∀ (kV doc pm : Value) (an : Option Addr) (cdv ct : Value) (us : List Value), us.length = ps.length → bindArgs (PySem.W.fnOf x x (defArgs st) (defBody st) (defScope st) .none kV doc pm an cdv ct) ⟨us, []⟩ = pure (ps.zip us))
    (body : ∀ (f : Addr) (cdv : Value) (A : Around) (outer : List Env) (s : Shared) (H : Hp) (Q : VK) (E : XK) (a : α), Rd.RoomG gd k (A.deeper (PyProof.Rows.envOfC x (defScope st) s.heap.objs.size f cdv)) → pre a H Q E →
      ∃ t, PSs (cxOf CX0 P w K mg base N x (defScope st) f cdv A outer s H E).nox (defBody st) t ∧ t { nx := fun _ H' => Q .non H', rt := Q } (start N (args a)) H) :
    Rd.Fn gd P w K mg base CX0 (k + 1) y (Rd.mkSp args pre) := by
  obtain ⟨f, F, hm, hk⟩ := h
  exact ⟨f, F.fn S hl hb (body f), hm, hk⟩
section
variable {gd : Bool} {P : Program} {w : World} {K : PySem.W.Frag} {mg : Str → Option Value} {base : Heap}
theorem ok_reachedA {y : Str} (F : HasA K mg y "reached_from" s_reached_from) (g : Glob mg) : Rd.Fn gd P w K mg base CX0 1 y (spReach K) := by
  refine F.fn sc_reached_from (fun _ => rfl) (fun _ _ _ _ _ _ us hl => match us, hl with | [_, _], _ => rfl) fun f cdv A outer s H Q E b hr h => ?_
  obtain ⟨a, sts, x⟩ := b
  obtain ⟨⟨ps, hS, hP⟩, hl, hx, hn, k⟩ := h
  dsimp only at hS hP hl hx hn k
  have lps : ps.length = sts.length := hP.length
  refine ⟨_, (pss_cons (ps_set (i := 2) sc_reached_from.nd rfl (Or.inl rfl) pe_dnewK)
      (pss_cons (ps_dput (hu_of hr.toRoom) (pv 2) (pv 1) pe_bl (by rfl))
      (pss_cons (ps_set (i := 3) sc_reached_from.nd rfl (Or.inl rfl) (Rd.pe_lst pa_nil))
      (pss_cons (ps_expr (pe_bm PySem.F.plainAttrs_list PySem.F.slot_list_append PySem.F.type_list_append mt_append (pv 3) (pa_cons (pv 1) pa_nil)))
      (pss_cons (ps_while PassesOwn.never (pt_cmpR (op_neD hr.units) (pv 3) (Rd.pe_lst pa_nil) (nomark _)) (pss_cons (ps_set (i := 4) sc_reached_from.nd rfl (Or.inl rfl) (pe_bm0 PySem.F.plainAttrs_list PySem.F.slot_list_pop PySem.F.type_list_pop mt_pop (pv 3)))
      (pss_one (ps_for PassesOwn.never rfl (pi_list (pv 0)) (pg_tup rfl (pgs_cons (pg_name (i := 5) sc_reached_from.nd rfl (Or.inl rfl)) (pgs_cons (pg_name (i := 6) sc_reached_from.nd rfl (Or.inl rfl)) pgs_nil))) (pss_one (ps_if (PW.pt (pw_and (pt_cmpR op_eq (pv 5) (pv 4) (nomark _)) (pw_and1 (pt_cmp (pc_dnotin (hu_of hr.toRoom) (pv 6) (pv 2)))))) (pss_cons (ps_dput (hu_of hr.toRoom) (pv 2) (pv 6) pe_bl (by rfl))
      (pss_one (ps_expr (pe_bm PySem.F.plainAttrs_list PySem.F.slot_list_append PySem.F.type_list_append mt_append (pv 3) (pa_cons (pv 6) pa_nil))))) pss_nil))))))
      (pss_one (ps_ret (pv 2)))))))), ?_⟩
  try simp only [Rd.noxK, Rd.cxK]
  refine Rd.rd_start [some (V.ref a), some (V.str x), none, none, none, none, none] rfl ?_
  walk_at "rd"
  refine Rd.rd_dnew fun D H1 hD s1 h1 => ?_
  walk_at "rd"
  refine ⟨D, _, rfl, Rd.dp_s h1 (by show 0 < sizeLine; decide), ?_⟩
  have e0 : putK ([] : List (Key × V)) (Sum.inr x) (V.bl true) = tab [x] := rfl
  rw [e0]
  walk_at "rd"
  have s2 : Same H (upd H1 D (.dK (tab [x]))) := same_mut s1 hD
  refine Rd.rd_mkLst (by decide) fun W H3 hW s3 h3 => ?_
  have hW0 : H W = none := by
    cases e : H W with
    | none => rfl
    | some o => rw [s2 _ _ e] at hW; cases hW
  have hDW : D ≠ W := fun e => by rw [← e, upd_same] at hW; cases hW
  have h3D : H3 D = some (.dK (tab [x])) := s3 _ _ upd_same
  have s3' : Same H H3 := s2.trans s3
  walk_at "rd"
  refine ⟨Rd.tyL (SqL.of h3), ?_⟩
  walk_at "rd"
  refine Rd.rd_append h3 (by decide) ?_
  walk_at "rd"
  let U := sts.length + 1
  let cand := x :: sts.map (·.2)
  have lc : cand.length = U := by show (x :: sts.map (·.2)).length = _; rw [List.length_cons, List.length_map]
  have ok_c : ∀ z ∈ cand, isName z = true := fun z hz => by
    rcases List.mem_cons.mp hz with e | e
    · rw [e]; exact hx
    · obtain ⟨st, hst, rfl⟩ := List.mem_map.mp e
      exact hn st hst
  refine Rd.rd_while (fun m σ H' => Same H H' ∧ ∃ (ks ws : List Str) (o1 o2 o3 : Option V), σ = [some (V.ref a), some (V.str x), some (V.ref D), some (V.ref W), o1, o2, o3] ∧ H' D = some (.dK (tab ks)) ∧ H' W = some (.lst (ws.map V.str)) ∧
      ks.Nodup ∧ ws.Nodup ∧ x ∈ ks ∧ (∀ z ∈ ks, z ∈ cand) ∧ (∀ z ∈ ws, z ∈ ks) ∧ (∀ S : Str → Prop, S x → (∀ st ∈ sts, S st.1 → S st.2) → ∀ z ∈ ks, S z) ∧ (∀ st ∈ sts, st.1 ∈ ks → st.1 ∈ ws ∨ st.2 ∈ ks) ∧ m = 2 * (U - ks.length) + ws.length) (2 * (U - 1) + 1)
    ⟨same_mut s3' hW0, [x], [x], none, none, none, rfl, by rw [upd_ne hDW]; exact h3D, upd_same, by simp, by simp, by simp, fun z hz => by rw [List.mem_singleton.mp hz]; exact List.mem_cons_self, fun z hz => hz, fun S h1 _ z hz => by rw [List.mem_singleton.mp hz]; exact h1, fun st hst h1 => .inl h1, rfl⟩ ?_
  rintro m σ H4 ⟨s4, ks, ws, o1, o2, o3, rfl, hD4, hW4, nd, ndw, hxk, hsub, hws, hmn, hcl, rfl⟩
  have lks : ks.length ≤ U := by rw [← lc]; exact len_nodup_sub ks cand nd hsub
  walk_at "rd"
  refine Rd.rd_mkLst (by decide) fun p5 H5 hp5 s5 h5 => ?_
  have s45 := s4.trans s5
  refine Rd.rd_neD (.lst (SqL.of (s5 _ _ hW4)) (dp_strs _ ws)) (.lst (SqL.of h5) .nil) (shaped_strs fun z hz => name_ok (ok_c z (hsub z (hws z hz)))) (shaped_strs (l := []) fun _ z => nomatch z) ?_
  rw [eqv_nilS]
  walk_at "rd"
  by_cases hw : ws = []
  · subst hw
    refine Rd.if_f rfl ?_
    walk_at "rd"
    refine k D H5 ks hD s45 (s5 _ _ hD4) ⟨nd, hxk, fun st hst h1 => ?_, hmn⟩ lks
    rcases hcl st hst h1 with q | q
    · exact nomatch q
    · exact q
  obtain ⟨wr, hd, rfl⟩ : ∃ wr hd, ws = wr ++ [hd] := ⟨ws.dropLast, ws.getLast hw, (List.dropLast_concat_getLast hw).symm⟩
  refine Rd.if_t (by rw [decide_eq_false hw]; rfl) ?_
  refine Rd.rd_turn ?_
  walk_at "rd"
  refine ⟨Rd.tyL (SqL.of (s5 _ _ hW4)), ?_⟩
  refine Rd.rd_pop (y := V.str hd) (s5 _ _ hW4) (by simp) ?_
  have e6 : ((wr ++ [hd]).map V.str).dropLast = wr.map V.str := by rw [List.map_append]; simp
  rw [e6]
  have hDW5 : H5 D = some (.dK (tab ks)) := s5 _ _ hD4
  have s6 : Same H (upd H5 W (.lst (wr.map V.str))) := same_mut s45 hW0
  have hhd : hd ∈ ks := hws hd (by simp)
  have ndr : wr.Nodup := (List.nodup_append.mp ndw).1
  walk_at "rd"
  refine Rd.rd_IL (sq_some s6 hS) ?_
  refine Rd.for_list (fun i σ H' => Same H H' ∧ ∃ (ks2 ws2 : List Str) (o2 o3 : Option V), σ = [some (V.ref a), some (V.str x), some (V.ref D), some (V.ref W), some (V.str hd), o2, o3] ∧ H' D = some (.dK (tab ks2)) ∧ H' W = some (.lst (ws2.map V.str)) ∧
      ks2.Nodup ∧ ws2.Nodup ∧ x ∈ ks2 ∧ hd ∈ ks2 ∧ (∀ z ∈ ks2, z ∈ cand) ∧ (∀ z ∈ ws2, z ∈ ks2) ∧ (∀ S : Str → Prop, S x → (∀ st ∈ sts, S st.1 → S st.2) → ∀ z ∈ ks2, S z) ∧ (∀ st ∈ sts, st.1 ∈ ks2 → st.1 ∈ ws2 ∨ st.2 ∈ ks2 ∨ st.1 = hd) ∧ (∀ st ∈ sts.take i, st.1 = hd → st.2 ∈ ks2) ∧ 2 * (U - ks2.length) + ws2.length < 2 * (U - ks.length) + (wr ++ [hd]).length)
    ⟨s6, ks, wr, _, _, rfl, by rw [upd_ne hDW]; exact hDW5, upd_same, nd, ndr, hxk, hhd, hsub, fun z hz => hws z (List.mem_append_left _ hz), hmn, fun st hst h1 => ?_, fun st hst => by simp at hst, by rw [List.length_append]; simp⟩ (fun i σ H' _ ⟨s', _⟩ => sq_some s' hS) ?_ ?_
  · rcases hcl st hst h1 with q | q
    · rcases List.mem_append.mp q with q | q
      · exact .inl q
      · exact .inr (.inr (List.mem_singleton.mp q))
    · exact .inr (.inl q)
  · rintro i v σ H7 hi ⟨s7, ks2, ws2, o2, o3, rfl, hD7, hW7, nd2, ndw2, hx2, hh2, hsub2, hws2, hmn2, hcl2, hdone, hm⟩
    rw [List.getElem?_map] at hi
    obtain ⟨b, hb, rfl⟩ := Option.map_eq_some_iff.mp hi
    obtain ⟨st, hst, hq⟩ := paired_get hP hb
    have hmem : st ∈ sts := List.mem_of_getElem? hst
    have hq7 : SqT K H7 b [.str st.1, .str st.2] := Rd.Same.sqT s7 hq
    have et : sts.take (i + 1) = sts.take i ++ [st] := by rw [List.take_add_one, hst]; rfl
    walk_at "rd"
    refine ite2 (fun h1 => ?_) (fun h1 => ?_)
    · have h1 : st.1 = hd := by
        have := of_decide_eq_true h1
        injection this
      walk_at "rd"
      refine ⟨D, _, rfl, Rd.dg_s hD7, ?_⟩
      rw [tab_val]
      walk_at "rd"
      by_cases h2 : st.2 ∈ ks2
      · refine Rd.if_f (by rw [decide_eq_true h2]; rfl) ?_
        walk_at "rd"
        refine ⟨s7, ks2, ws2, _, _, rfl, hD7, hW7, nd2, ndw2, hx2, hh2, hsub2, hws2, hmn2, hcl2, fun t ht e => ?_, hm⟩
        rw [et] at ht
        rcases List.mem_append.mp ht with q | q
        · exact hdone t q e
        · rw [List.mem_singleton.mp q]; exact h2
      · refine Rd.if_t (by rw [decide_eq_false h2]; rfl) ?_
        have lks2 : ks2.length < U := by
          have hc : st.2 ∈ cand := List.mem_cons_of_mem _ (List.mem_map.mpr ⟨st, hmem, rfl⟩)
          have := len_nodup_sub (st.2 :: ks2) cand (List.nodup_cons.mpr ⟨h2, nd2⟩) fun z hz => by
            rcases List.mem_cons.mp hz with e | e
            · rw [e]; exact hc
            · exact hsub2 z e
          rw [lc, List.length_cons] at this
          omega
        walk_at "rd"
        refine ⟨D, _, rfl, Rd.dp_s hD7 ?_, ?_⟩
        · unfold tab
          rw [List.length_map]
          exact Nat.lt_of_lt_of_le (show ks2.length < 101 + 1 by omega) (by decide)
        rw [tab_put h2]
        have hW8 : upd H7 D (.dK (tab (ks2 ++ [st.2]))) W = some (.lst (ws2.map V.str)) := by rw [upd_ne hDW.symm]; exact hW7
        walk_at "rd"
        refine ⟨Rd.tyL (SqL.of hW8), ?_⟩
        walk_at "rd"
        refine Rd.rd_append hW8 ?_ ?_
        · rw [List.length_map]
          have hwl := len_nodup_sub ws2 cand ndw2 fun z hz => hsub2 z (hws2 z hz)
          rw [lc] at hwl
          exact Nat.lt_of_le_of_lt (show ws2.length ≤ 1000 by omega) (by decide)
        walk_at "rd"
        have n2 : st.2 ∉ ws2 := fun q => h2 (hws2 _ q)
        refine ⟨same_mut (same_mut s7 hD) hW0, ks2 ++ [st.2], ws2 ++ [st.2], _, _, rfl, by rw [upd_ne hDW, upd_same], by rw [upd_same, List.map_append]; rfl, ?_, ?_, List.mem_append_left _ hx2, List.mem_append_left _ hh2, fun z hz => ?_, fun z hz => ?_, fun S q1 q2 z hz => ?_, fun t ht q => ?_, fun t ht e => ?_, ?_⟩
        · exact (List.perm_append_singleton _ _).nodup_iff.mpr (List.nodup_cons.mpr ⟨h2, nd2⟩)
        · exact (List.perm_append_singleton _ _).nodup_iff.mpr (List.nodup_cons.mpr ⟨n2, ndw2⟩)
        · rcases List.mem_append.mp hz with q | q
          · exact hsub2 z q
          · rw [List.mem_singleton.mp q]; exact List.mem_cons_of_mem _ (List.mem_map.mpr ⟨st, hmem, rfl⟩)
        · rcases List.mem_append.mp hz with q | q
          · exact List.mem_append_left _ (hws2 z q)
          · exact List.mem_append_right _ q
        · rcases List.mem_append.mp hz with q | q
          · exact hmn2 S q1 q2 z q
          · rw [List.mem_singleton.mp q]
            exact q2 st hmem (by rw [h1]; exact hmn2 S q1 q2 hd hh2)
        · rcases List.mem_append.mp q with q | q
          · rcases hcl2 t ht q with z | z | z
            · exact .inl (List.mem_append_left _ z)
            · exact .inr (.inl (List.mem_append_left _ z))
            · exact .inr (.inr z)
          · exact .inl (List.mem_append_right _ q)
        · rw [et] at ht
          rcases List.mem_append.mp ht with q | q
          · exact List.mem_append_left _ (hdone t q e)
          · rw [List.mem_singleton.mp q]; exact List.mem_append_right _ (List.mem_singleton.mpr rfl)
        · rw [List.length_append, List.length_append]
          show 2 * (U - (ks2.length + 1)) + (ws2.length + 1) < _
          omega
    · have h1 : ¬ st.1 = hd := fun e => h1 (decide_eq_true (by rw [e]))
      walk_at "rd"
      refine ⟨s7, ks2, ws2, _, _, rfl, hD7, hW7, nd2, ndw2, hx2, hh2, hsub2, hws2, hmn2, hcl2, fun t ht e => ?_, hm⟩
      rw [et] at ht
      rcases List.mem_append.mp ht with q | q
      · exact hdone t q e
      · exact absurd (List.mem_singleton.mp q ▸ e) h1
  · rintro σ H7 ⟨s7, ks2, ws2, o2, o3, rfl, hD7, hW7, nd2, ndw2, hx2, hh2, hsub2, hws2, hmn2, hcl2, hdone, hm⟩
    walk_at "rd"
    refine ⟨_, hm, s7, ks2, ws2, _, _, _, rfl, hD7, hW7, nd2, ndw2, hx2, hsub2, hws2, hmn2, fun st hst h1 => ?_, rfl⟩
    rcases hcl2 st hst h1 with z | z | z
    · exact .inl z
    · exact .inr z
    · refine .inr (hdone st ?_ z)
      rw [List.length_map, lps, List.take_length]
      exact hst
end
end M
set_option Elab.async false
set_option linter.all false
set_option maxRecDepth 100000
set_option maxHeartbeats 4000000
namespace M
open PySem L2
local macro_rules | `(tactic| walk_at "rdc") => `(tactic| first | exact Or.inl ⟨by decide, by decide⟩ | exact Or.inr ⟨by decide, by decide⟩ | exact ⟨by decide, by decide, by decide⟩ | exact ⟨by decide, by decide⟩ | decide | omega | assumption | (refine Or.inl ⟨?_, ?_⟩ <;> omega) | (refine Or.inr ⟨?_, ?_⟩ <;> omega) | (refine ⟨?_, ?_⟩ <;> omega))
local macro_rules | `(tactic| walk_at "rd1") => `(tactic| with_reducible first
  | refine Rd.rd_seq ?_ | refine Rd.rd_asg ?_ | refine Rd.rd_op ?_ | (refine' Rd.rd_var ?vh ?_; (case vh => with_unfolding_all rfl)) | refine Rd.rd_c ?_ | refine Rd.rd_I0 ?_ | refine Rd.rd_name0 ?_ | refine Rd.rd_nameS ?_ | refine Rd.rd_fn ?_
  | refine Rd.rd_cb ?_ | refine Rd.rd_cons ?_ | refine Rd.rd_nil ?_ | refine Rd.rd_int ?_ | refine Rd.rd_intB ?_ | refine Rd.rd_abs ?_ | refine Rd.rd_max2 ?_ | refine Rd.rd_min2 ?_
  | refine Rd.rd_call ?_ | refine Rd.rd_ifE ?_ | refine Rd.rd_test ?_ | refine Rd.rd_tB ?_ | refine Rd.rd_blV ?_ | refine Rd.rd_and ?_ | refine Rd.rd_or ?_ | refine Rd.rd_not ?_
  | refine Rd.rd_andV ?_ | refine Rd.rd_orV ?_ | refine Rd.rd_notV ?_ | refine Rd.rd_next ?_ | refine Rd.rd_ret ?_ | refine Rd.rd_drop ?_ | refine Rd.rd_ifS ?_ | refine Rd.rd_nx ?_ | refine Rd.rd_rt ?_ | refine Rd.rd_tMatch ?_ | refine Rd.rd_tCO ?_ | refine Rd.rd_tRevL ?_ | refine Rd.rd_tStar ?_ | refine Rd.rd_joined ?_ | refine Rd.rd_js1 ?_ | refine Rd.rd_js0 ?_ | refine Rd.rd_fmt ?_ | refine Rd.rd_propR ?_ | refine Rd.rd_iZipA ?_ | refine Rd.rd_iEnumT ?_ | refine Rd.rd_iOwn ?_ | (refine' Rd.rd_IET ?ln ?_; (case ln => with_unfolding_all walk_at "at")) | refine Rd.rd_chain ?_ | refine Rd.rd_tPar ?_ | refine Rd.rd_par ?_ | refine Rd.rd_sl ?_ | refine Rd.rd_noPart ?_ | refine Rd.rd_part ?_ | refine Rd.rd_intV ?_ | refine Rd.rd_lc ?_ | (refine' Rd.rd_aug ?vh ?_; (case vh => with_unfolding_all rfl)) | refine Rd.rd_ipI ?_ | refine Rd.rd_for ?_ | (refine' Rd.rd_IT ?ln ?_; (case ln => with_unfolding_all walk_at "at")) | (refine' Rd.rd_IL ?ln ?_; (case ln => with_unfolding_all walk_at "at")) | refine Rd.rd_iTup ?_ | refine Rd.rd_iList ?_ | refine Rd.rd_iRng1 ?_ | refine Rd.rd_iRng2 ?_ | refine Rd.rd_isi (Rd.isi_int Rd.kk_int_int) ?_ | refine Rd.rd_isi (Rd.isi_int Rd.kk_int_bool) ?_ | refine Rd.rd_dget ?_ | refine Rd.rd_din ?_ | refine Rd.rd_dnotin ?_ | refine Rd.rd_dput ?_ | refine Rd.rd_dc ?_ | refine Rd.rd_lc2 ?_ | refine Rd.rd_ltS ?_ | refine Rd.rd_inSg ?_ | refine Rd.rd_iStr ?_ | refine Rd.rd_IS ?_ | refine Rd.rd_prC ?_ | refine Rd.rd_prN ?_ | refine Rd.rd_methR ?_ | refine Rd.rd_cmeth ?_ | refine Rd.rd_fldS ?_ | refine Rd.rd_fld ?_ | (refine' Rd.rd_mkVS ?vh ?_; (case vh => with_unfolding_all rfl)) | (refine' Rd.rd_starT ?ln ?_; (case ln => with_unfolding_all walk_at "at")) | refine Rd.rd_iEnum ?_ | refine Rd.rd_iZip ?_ | (refine' Rd.rd_IE ?ln ?_; (case ln => with_unfolding_all walk_at "at")) | (refine' Rd.rd_IZ ?ln ?lm ?_; (case ln => with_unfolding_all walk_at "at"); (case lm => with_unfolding_all walk_at "at")) | (refine' Rd.rd_gTup ?ln ?lk ?_; (case ln => with_unfolding_all walk_at "at"); (case lk => with_unfolding_all rfl)) | refine Rd.rd_gCons ?_ | refine Rd.rd_gNil ?_ | refine Rd.rd_m1 ?_ | refine Rd.rd_strV ?_ | refine Rd.rd_tXiM ?_ | refine Rd.rd_tXiB ?_ | refine Rd.rd_tXiS ?_ | refine Rd.rd_bm ?_ | refine Rd.rd_bm0 ?_ | refine Rd.rd_isN ?_ | refine Rd.rd_notN ?_ | refine Rd.rd_sub ?_ | refine Rd.rd_un ?_ | refine Rd.rd_U ?_
  | (refine' Rd.rd_eq ?sc ?_; (case sc => with_unfolding_all rfl)) | (refine' Rd.rd_ne ?sc ?_; (case sc => with_unfolding_all rfl))
  | (refine' Rd.rd_I ?cc ?_; (case cc => with_unfolding_all walk_at "rdc"))
  | (refine' Rd.rd_lenL ?ln ?_; (case ln => with_unfolding_all walk_at "at")) | (refine' Rd.rd_lenT ?ln ?_; (case ln => with_unfolding_all walk_at "at"))
  | (refine' Rd.rd_ixL ?ln ?ia ?_; (case ln => with_unfolding_all walk_at "at"); (case ia => with_unfolding_all first | exact Rd.at0 | exact Rd.at1 | exact Rd.at2 | exact Rd.at3 | exact Rd.at4 | rfl)) | (refine' Rd.rd_ixT ?ln ?ia ?_; (case ln => with_unfolding_all walk_at "at"); (case ia => with_unfolding_all first | exact Rd.at0 | exact Rd.at1 | exact Rd.at2 | exact Rd.at3 | exact Rd.at4 | rfl)))
local macro_rules | `(tactic| walk_at "at") => `(tactic| first | assumption | (apply SqL.of; assumption) | (apply SqT.of; assumption) | (apply SqL.of; exact upd_same) | (apply SqT.of; exact upd_same))
local macro_rules | `(tactic| walk_at "rd") => `(tactic| repeat walk_at "rd1")
abbrev s_are_one_loop : Stmt := top 23
theorem sc_are_one_loop : FnScope ["transitions", "states", "steps", "back", "name", "source", "target", "change", "pairs"] ["transitions", "states"] (defScope s_are_one_loop) := ⟨rfl, rfl, rfl, by decide +kernel, rfl, by decide +kernel, by decide +kernel⟩
abbrev s_states_of : Stmt := top 24
theorem sc_states_of : FnScope ["transitions", "states", "found", "name", "source", "target", "change", "state"] ["transitions", "states"] (defScope s_states_of) := ⟨rfl, rfl, rfl, by decide +kernel, rfl, by decide +kernel, by decide +kernel⟩
abbrev s_fit_counters : Stmt := top 25
theorem sc_fit_counters : FnScope ["transitions", "counters", "names", "transition", "name", "counter", "number"] ["transitions", "counters"] (defScope s_fit_counters) := ⟨rfl, rfl, rfl, by decide +kernel, rfl, by decide +kernel, by decide +kernel⟩
abbrev s_require_parts : Stmt := top 26
theorem sc_require_parts : FnScope ["counters", "transitions", "states", "found", "transition"] ["counters", "transitions", "states"] (defScope s_require_parts) := ⟨rfl, rfl, rfl, by decide +kernel, rfl, by decide +kernel, by decide +kernel⟩
def stepOf (t : Tr) : Str × Str := (t.src, t.tgt)
def backOf (t : Tr) : Str × Str := (t.tgt, t.src)
/-- the states lead to one another -/
structure Loop1 (ts : List Tr) (ns : List Str) : Prop where
  ne : ns ≠ []
  nd : ns.Nodup
  ends : ∀ t ∈ ts, t.src ∈ ns ∧ t.tgt ∈ ns
  fwd : ∀ (h : 0 < ns.length) (S : Str → Prop), S ns[0] → (∀ t ∈ ts, S t.src → S t.tgt) → ∀ x ∈ ns, S x
  bwd : ∀ (h : 0 < ns.length) (S : Str → Prop), S ns[0] → (∀ t ∈ ts, S t.tgt → S t.src) → ∀ x ∈ ns, S x
theorem reach_len {ts : List Tr} {ns : List Str} {f : Tr → Str × Str} {ks : List Str} (nd : ns.Nodup) (h0 : 0 < ns.length) (R : Reach (ts.map f) ns[0] ks) (hin : ∀ t ∈ ts, (f t).2 ∈ ns) (hall : ∀ S : Str → Prop, S ns[0] → (∀ t ∈ ts, S (f t).1 → S (f t).2) → ∀ x ∈ ns, S x) : ks.length = ns.length := by
  refine Nat.le_antisymm (len_nodup_sub ks ns R.nd fun z hz => ?_) (len_nodup_sub ns ks nd fun z hz => ?_)
  · exact R.mn (· ∈ ns) (List.getElem_mem h0) (fun st hst _ => by
      obtain ⟨t, ht, rfl⟩ := List.mem_map.mp hst
      exact hin t ht) z hz
  · exact hall (· ∈ ks) R.hx (fun t ht q => R.cl (f t) (List.mem_map.mpr ⟨t, ht, rfl⟩) q) z hz
theorem paired_app {α β : Type} {F : α → β → Prop} : ∀ {l : List α} {m : List β} {l' : List α} {m' : List β}, Paired F l m → Paired F l' m' → Paired F (l ++ l') (m ++ m')
  | _, _, _, _, .nil, h => h
  | _, _, _, _, .cons r t, h => .cons r (paired_app t h)
def spLoop1 (K : PySem.W.Frag) : Sp := Rd.mkSp (fun (a : Addr × Addr × List Tr × List Str) => [.ref a.1, .ref a.2.1]) fun a H Q _ => RowsAt K H a.1 a.2.2.1 ∧ TxT K H a.2.1 a.2.2.2 ∧ a.2.2.1.length ≤ 100 ∧ Loop1 a.2.2.1 a.2.2.2 ∧ (∀ x ∈ a.2.2.2, isName x = true) ∧ ∀ H', Same H H' → Q (.bl true) H'
theorem map_putT (ls : List Str) : ∀ ks : List Str, mergeK (tab ks) (tab ls) = tab (ls.foldl Rd.putT ks) := by
  induction ls with
  | nil => intro ks; rfl
  | cons l ls ih =>
    intro ks
    have e : putK (tab ks) (Sum.inr l) (V.bl true) = tab (Rd.putT ks l) := by
      unfold Rd.putT
      split
      · rename_i h; exact tab_put_old h
      · rename_i h; exact tab_put h
    show mergeK (putK (tab ks) (Sum.inr l) (V.bl true)) (tab ls) = _
    rw [e, ih]
    rfl
def spStates (K : PySem.W.Frag) : Sp := Rd.mkSp (fun (a : Addr × Addr × List Tr × List Str) => [.ref a.1, .ref a.2.1]) fun a H Q _ => RowsAt K H a.1 a.2.2.1 ∧ TxT K H a.2.1 a.2.2.2 ∧ a.2.2.1.length ≤ 16 ∧ a.2.2.2.length ≤ 30 ∧
  ∀ p H' ys, Same H H' → TxT K H' p ys → Rd.Asc ys → (∀ z, z ∈ ys ↔ z ∈ a.2.2.2 ∨ ∃ t ∈ a.2.2.1, z = t.src ∨ z = t.tgt) → Q (.ref p) H'
section
variable {gd : Bool} {P : Program} {w : World} {K : PySem.W.Frag} {mg : Str → Option Value} {base : Heap}
theorem ok_one_loop (F : Rd.Has K mg "are_one_loop" s_are_one_loop) (g : Glob mg) (c_reached_from : Rd.Fn gd P w K mg base CX0 1 "reached_from" (spReach K)) : Rd.Fn gd P w K mg base CX0 2 "are_one_loop" (spLoop1 K) := by
  refine F.fn sc_are_one_loop (fun _ => rfl) (fun _ _ _ _ _ _ us hl => match us, hl with | [_, _], _ => rfl) fun f cdv A outer s H Q E b hr h => ?_
  obtain ⟨a, b, ts, ns⟩ := b
  obtain ⟨⟨ps, hS, hP⟩, hN, hl, L, hn, k⟩ := h
  dsimp only at hS hP hN hl L hn k
  have lp : ps.length = ts.length := hP.length
  have h0 : 0 < ns.length := List.length_pos_iff.mpr L.ne
  have hN' : SqT K H b (ns.map V.str) := hN
  refine ⟨_, (pss_cons (ps_setLc (i := 2) (own := [("name", 4), ("source", 5), ("target", 6), ("change", 7)]) (by rfl) sc_are_one_loop.nd rfl rfl (sw_true rfl rfl rfl (by decide +kernel)) (pi_tup (pv 0)) (blkOk_by (own := [("name", 4), ("source", 5), ("target", 6), ("change", 7)]) (N := ["transitions", "states", "steps", "back", "name", "source", "target", "change", "pairs"]) (sc := defScope s_are_one_loop) (by decide +kernel)) (fun _ _ _ _ _ => (Rd.pg_tupK (K := K) (n := 4) (by rfl) rfl (pgs_cons (pg_name (i := 4) sc_are_one_loop.nd rfl (Or.inl rfl)) (pgs_cons (pg_name (i := 5) sc_are_one_loop.nd rfl (Or.inl rfl)) (pgs_cons (pg_name (i := 6) sc_are_one_loop.nd rfl (Or.inl rfl)) (pgs_cons (pg_name (i := 7) sc_are_one_loop.nd rfl (Or.inl rfl)) pgs_nil)))))) (fun _ _ _ _ _ => pts_nil) (fun _ _ _ _ _ => (Rd.pe_tup (pa_cons (pv 5) (pa_cons (pv 6) pa_nil)))))
      (pss_cons (ps_setLc (i := 3) (own := [("source", 5), ("target", 6)]) (by rfl) sc_are_one_loop.nd rfl rfl (sw_true rfl rfl rfl (by decide +kernel)) (pi_list (pv 2)) (blkOk_by (own := [("source", 5), ("target", 6)]) (N := ["transitions", "states", "steps", "back", "name", "source", "target", "change", "pairs"]) (sc := defScope s_are_one_loop) (by decide +kernel)) (fun _ _ _ _ _ => (Rd.pg_tupK (K := K) (n := 2) (by rfl) rfl (pgs_cons (pg_name (i := 5) sc_are_one_loop.nd rfl (Or.inl rfl)) (pgs_cons (pg_name (i := 6) sc_are_one_loop.nd rfl (Or.inl rfl)) pgs_nil)))) (fun _ _ _ _ _ => pts_nil) (fun _ _ _ _ _ => (Rd.pe_tup (pa_cons (pv 6) (pa_cons (pv 5) pa_nil)))))
      (pss_one (ps_ret (pe_callB (Rd.c_all rfl) (by rfl) g.all (by decide +kernel) (pa_cons (pe_lc (own := [("pairs", 8)]) (by rfl) sc_are_one_loop.nd (pi_tup (Rd.pe_tup (pa_cons (pv 2) (pa_cons (pv 3) pa_nil)))) (blkOk_by (own := [("pairs", 8)]) (N := ["transitions", "states", "steps", "back", "name", "source", "target", "change", "pairs"]) (sc := defScope s_are_one_loop) (by decide +kernel)) (fun _ _ _ _ _ => (pg_name (i := 8) sc_are_one_loop.nd rfl (Or.inl rfl))) (fun _ _ _ _ _ => pts_nil) (fun _ _ _ _ _ => (pe_cmpR op_eq (pe_callB Rd.c_lenD (by rfl) g.len (by decide +kernel) (pa_cons (Rd.pe_fn c_reached_from (hr.mono (by decide)) (by rfl) (pa_cons (pv 8) (pa_cons (pe_ix (Rd.ix_tupK (K := K) (by rfl)) (pv 1) pe_int (fun _ _ => rfl)) pa_nil))) pa_nil)) (pe_callB (Rd.c_lenK (K := K) (by rfl)) (by rfl) g.len (by decide +kernel) (pa_cons (pv 1) pa_nil)) (nomark _)))) pa_nil)))))), ?_⟩
  try simp only [Rd.noxK, Rd.cxK]
  refine Rd.rd_start [some (V.ref a), some (V.ref b), none, none, none, none, none, none, none] rfl ?_
  walk_at "rd"
  -- a list of new pairs
  let Pl : (Tr → Str × Str) → Nat → Addr → List V → Hp → Prop := fun f i D acc H1 => Same H H1 ∧ H1 D = some (.lst acc) ∧ ∃ qs : List Addr, acc = qs.map V.ref ∧ Paired (StepAt K H1) qs ((ts.take i).map f)
  have grow : ∀ (f : Tr → Str × Str) (i : Nat) (D : Addr) (acc : List V) (H1 : Hp) (t : Tr) (T : Addr) (H2 : Hp), H D = none → Pl f i D acc H1 → ts[i]? = some t → Same H1 H2 → SqT K H2 T [.str (f t).1, .str (f t).2] → H2 D = some (.lst acc) ∧ acc.length < sizeLine ∧ Pl f (i + 1) D (acc ++ [V.ref T]) (upd H2 D (.lst (acc ++ [V.ref T]))) := by
    intro f i D acc H1 t T H2 hD ⟨s1, hd, qs, e, hq⟩ ht s2 hT
    have hd2 := s2 _ _ hd
    refine ⟨hd2, ?_, same_mut (s1.trans s2) hD, upd_same, qs ++ [T], by rw [e, List.map_append]; rfl, ?_⟩
    · rw [e, List.length_map, hq.length, List.length_map, List.length_take]
      exact Nat.lt_of_le_of_lt (show min i ts.length ≤ 100 by omega) (by decide)
    · have kp : Kp H2 (upd H2 D (.lst (acc ++ [V.ref T]))) := kp_upd hd2 rfl
      rw [List.take_add_one, ht, List.map_append]
      exact paired_app (L2.Paired.mapP hq fun _ _ q => kp.sqT (Rd.Same.sqT s2 q)) (.cons (kp.sqT hT) .nil)
  refine Rd.lc_tupI (K := K) (a := a) (xs := ps.map V.ref) (Pl stepOf) (fun i D acc H1 p => Rd.Same.sqT p.1 hS) (fun D hD => ⟨Rd.same_new hD, upd_same, [], rfl, .nil⟩) (fun i v D acc H1 N hv hD p hN1 => ?_) (fun D acc H1 hD p => ?_)
  · rw [List.getElem?_map] at hv
    obtain ⟨r, hr1, rfl⟩ := Option.map_eq_some_iff.mp hv
    obtain ⟨t, ht, ⟨c, hrow, _⟩⟩ := paired_get hP hr1
    have hrow1 := Rd.Same.sqT p.1 hrow
    refine Rd.rd_start' [some (V.ref a), some (V.ref b), none, none, none, none, none, none, none] rfl ?_
    walk_at "rd"
    refine ⟨rfl, ?_⟩
    walk_at "rd"
    refine Rd.rd_mkTup (by show 2 ≤ sizeLine; decide) fun T H2 hT s2 h2 => ?_
    obtain ⟨g1, g2, g3⟩ := grow stepOf i D acc H1 t T H2 hD p ht s2 (SqT.of h2)
    exact hN1 _ H2 g1 g2 g3
  obtain ⟨s1, hd1, qs, rfl, hq⟩ := p
  rw [List.length_map, lp, List.take_length] at hq
  have lq : qs.length = ts.length := by rw [hq.length, List.length_map]
  have hd1' : SqL K H1 D (qs.map V.ref) := SqL.of hd1
  walk_at "rd"
  refine Rd.lc_lstI (K := K) (a := D) (xs := qs.map V.ref) (fun i D2 acc H2 => Same H1 H2 ∧ Pl backOf i D2 acc H2) (fun i D2 acc H2 p => sq_some p.1 hd1') (fun D2 hD2 => ⟨Rd.same_new hD2, (s1.trans (Rd.same_new hD2)), upd_same, [], rfl, .nil⟩) (fun i v D2 acc H2 N hv hD2 p hN1 => ?_) (fun D2 acc H2 hD2 p => ?_)
  · rw [List.getElem?_map] at hv
    obtain ⟨r, hr1, rfl⟩ := Option.map_eq_some_iff.mp hv
    obtain ⟨st, hst, hstep⟩ := paired_get hq hr1
    rw [List.getElem?_map] at hst
    obtain ⟨t, ht, rfl⟩ := Option.map_eq_some_iff.mp hst
    have hD2' : H D2 = none := by
      cases e : H D2 with
      | none => rfl
      | some o => rw [s1 _ _ e] at hD2; cases hD2
    have hstep2 : SqT K H2 r [.str t.src, .str t.tgt] := Rd.Same.sqT p.1 hstep
    refine Rd.rd_start' [some (V.ref a), some (V.ref b), some (V.ref D), none, none, none, none, none, none] rfl ?_
    walk_at "rd"
    refine ⟨rfl, ?_⟩
    walk_at "rd"
    refine Rd.rd_mkTup (by show 2 ≤ sizeLine; decide) fun T H3 hT s3 h3 => ?_
    obtain ⟨g1, g2, g3⟩ := grow backOf i D2 acc H2 t T H3 hD2' p.2 ht s3 (SqT.of h3)
    exact hN1 _ H3 g1 g2 ⟨same_mut (p.1.trans s3) hD2, g3⟩
  obtain ⟨s2, s2', hd2, qs2, rfl, hq2⟩ := p
  rw [List.length_map, lq, List.take_length] at hq2
  walk_at "rd"
  refine Rd.rd_mkTup (by show 2 ≤ sizeLine; decide) fun T H3 hT s3 h3 => ?_
  have hT3 : SqT K H3 T [V.ref D, V.ref D2] := SqT.of h3
  walk_at "rd"
  have s03 := s2'.trans s3
  refine Rd.lc_tup (K := K) (xs := [V.ref D, V.ref D2]) (fun _ => V.bl true) (by show 2 ≤ 100000; decide) hT3 (fun v H4 N hv s4 hN4 => ?_) (fun D5 H5 hD5 s5 h5 => ?_)
  · have s04 := s03.trans s4
    have hN4' : SqT K H4 b (ns.map V.str) := Rd.Same.sqT s04 hN'
    refine Rd.rd_start' [some (V.ref a), some (V.ref b), some (V.ref D), some (V.ref D2), none, none, none, none, none] rfl ?_
    walk_at "rd"
    refine ⟨rfl, ?_⟩
    walk_at "rd"
    refine Rd.rd_ixT hN4' (atI_nat (j := 0) (v := V.str ns[0]) (by rw [List.getElem?_map, List.getElem?_eq_getElem h0]; rfl)) ?_
    walk_at "rd"
    have eqlen : ∀ ks : List Str, ks.length = ns.length → decide (V.int ((tab ks).length : Nat) = V.int ((ns.map V.str).length : Nat)) = true := fun ks hl6 => by
      unfold tab
      rw [List.length_map, List.length_map, hl6]
      simp
    simp only [List.mem_cons, List.not_mem_nil, or_false] at hv
    rcases hv with rfl | rfl
    · refine Rd.rd_sp (D, ts.map stepOf, ns[0]) rfl ⟨⟨qs, sq_some ((s2.trans s3).trans s4) hd1', L2.Paired.mapP hq fun _ _ q => Rd.Same.sqT ((s2.trans s3).trans s4) q⟩, by show (ts.map stepOf).length ≤ 100; rw [List.length_map]; exact hl, hn _ (List.getElem_mem h0), fun st hst => ?_, fun D6 H6 ks hD6 s6 h6 R _ => ?_⟩
      · obtain ⟨t, ht, rfl⟩ := List.mem_map.mp hst
        exact hn _ (L.ends t ht).2
      · have hl6 := reach_len L.nd h0 R (fun t ht => (L.ends t ht).2) (L.fwd h0)
        have hb6 := Rd.Same.sqT s6 hN4'
        walk_at "rd"
        refine Rd.rd_lenD h6 ?_
        walk_at "rd"
        rw [eqlen ks hl6]
        exact hN4 H6 s6
    · refine Rd.rd_sp (D2, ts.map backOf, ns[0]) rfl ⟨⟨qs2, sq_some (s3.trans s4) (SqL.of hd2), L2.Paired.mapP hq2 fun _ _ q => Rd.Same.sqT (s3.trans s4) q⟩, by show (ts.map backOf).length ≤ 100; rw [List.length_map]; exact hl, hn _ (List.getElem_mem h0), fun st hst => ?_, fun D6 H6 ks hD6 s6 h6 R _ => ?_⟩
      · obtain ⟨t, ht, rfl⟩ := List.mem_map.mp hst
        exact hn _ (L.ends t ht).1
      · have hl6 := reach_len L.nd h0 R (fun t ht => (L.ends t ht).1) (L.bwd h0)
        have hb6 := Rd.Same.sqT s6 hN4'
        walk_at "rd"
        refine Rd.rd_lenD h6 ?_
        walk_at "rd"
        rw [eqlen ks hl6]
        exact hN4 H6 s6
  walk_at "rd"
  refine rd_allT (l := [V.ref D, V.ref D2]) h5 ?_
  exact k H5 (s03.trans s5)
theorem ok_states_of (F : Rd.Has K mg "states_of" s_states_of) (g : Glob mg) : Rd.Fn gd P w K mg base CX0 1 "states_of" (spStates K) := by
  refine F.fn sc_states_of (fun _ => rfl) (fun _ _ _ _ _ _ us hl => match us, hl with | [_, _], _ => rfl) fun f cdv A outer s H Q E b hr h => ?_
  obtain ⟨a, b, ts, ns⟩ := b
  obtain ⟨⟨ps, hS, hP⟩, hN, hl, hl2, k⟩ := h
  dsimp only at hS hP hN hl hl2 k
  have lp : ps.length = ts.length := hP.length
  have hN' : SqT K H b (ns.map V.str) := hN
  refine ⟨_, (pss_cons (Rd.ps_setDc (i := 2) (own := [("state", 7)]) (by rfl) sc_states_of.nd rfl rfl (Rd.sw_trueD rfl rfl rfl (by decide +kernel)) (pi_tup (pv 1)) (blkOk_by (own := [("state", 7)]) (N := ["transitions", "states", "found", "name", "source", "target", "change", "state"]) (sc := defScope s_states_of) (by decide +kernel)) (fun _ _ _ _ _ => (pg_name (i := 7) sc_states_of.nd rfl (Or.inl rfl))) (fun _ _ _ _ _ => pts_nil) (fun _ _ _ _ _ => (pv 7)) (fun _ _ _ _ _ => pe_bl))
      (pss_cons (ps_for PassesOwn.never rfl (pi_tup (pv 0)) (pg_tup rfl (pgs_cons (pg_name (i := 3) sc_states_of.nd rfl (Or.inl rfl)) (pgs_cons (pg_name (i := 4) sc_states_of.nd rfl (Or.inl rfl)) (pgs_cons (pg_name (i := 5) sc_states_of.nd rfl (Or.inl rfl)) (pgs_cons (pg_name (i := 6) sc_states_of.nd rfl (Or.inl rfl)) pgs_nil))))) (pss_one (ps_expr (pe_bm PySem.F.plainAttrs_dict PySem.F.slot_dict_update PySem.F.type_dict_update Rd.mt_upd (pv 2) (pa_cons (pe_disp (pps_cons (pv 4) pe_bl (pps_cons (pv 5) pe_bl pps_nil)) (by rfl) (by rfl) (fun z => by cases z) (by decide)) pa_nil)))))
      (pss_one (ps_ret (pe_callTy Rd.c_tuple (by rfl) g.tuple (by decide +kernel) (pa_cons (pe_callB (Rd.c_sortD rfl) (by rfl) g.sorted (by decide +kernel) (pa_cons (pv 2) pa_nil)) pa_nil)))))), ?_⟩
  try simp only [Rd.noxK, Rd.cxK]
  refine Rd.rd_start [some (V.ref a), some (V.ref b), none, none, none, none, none, none] rfl ?_
  walk_at "rd"
  refine Rd.dc_tup' (K := K) (xs := ns.map V.str) (fun v => match v with | .str x => Sum.inr x | _ => Sum.inl 0) (fun _ => V.bl true) (by rw [List.length_map]; omega) hN' (fun v H1 N hv s1 hN1 => ?_) (fun D H1 hD s1 h1 => ?_)
  · obtain ⟨x, hx, rfl⟩ := List.mem_map.mp hv
    refine Rd.rd_start' [some (V.ref a), some (V.ref b), none, none, none, none, none, none] rfl ?_
    walk_at "rd"
    refine ⟨rfl, ?_⟩
    walk_at "rd"
    exact hN1 H1 (Same.refl H1)
  have e1 : mergeK [] ((ns.map V.str).map fun x => ((match x with | .str x => Sum.inr x | _ => Sum.inl 0 : Key), V.bl true)) = tab (Rd.dedT ns) := by
    rw [List.map_map]
    exact map_putT ns []
  rw [e1] at h1
  walk_at "rd"
  refine Rd.rd_IT (Rd.Same.sqT s1 hS) ?_
  refine Rd.for_tup (xs := ps.map V.ref) (fun i σ H' => Same H H' ∧ ∃ (ks : List Str) (o1 o2 o3 o4 : Option V), σ = [some (V.ref a), some (V.ref b), some (V.ref D), o1, o2, o3, o4, none] ∧ H' D = some (.dK (tab ks)) ∧ ks.Nodup ∧ ks.length ≤ ns.length + 2 * i ∧ ∀ z, z ∈ ks ↔ z ∈ ns ∨ ∃ t ∈ ts.take i, z = t.src ∨ z = t.tgt)
    ⟨s1, Rd.dedT ns, _, _, _, _, rfl, h1, Rd.nodup_dedT ns, Nat.le_trans (Rd.len_dedT ns) (Nat.le_add_right _ _), fun z => by rw [Rd.mem_dedT]; simp⟩ (fun i σ H' _ p => Rd.Same.sqT p.1 hS) ?_ ?_
  · rintro i v σ H2 hi ⟨s2, ks, o1, o2, o3, o4, rfl, hd, nd, hkl, hmem⟩
    rw [List.getElem?_map] at hi
    obtain ⟨r, hr1, rfl⟩ := Option.map_eq_some_iff.mp hi
    obtain ⟨t, ht, ⟨c, hrow, _⟩⟩ := paired_get hP hr1
    have hrow2 := Rd.Same.sqT s2 hrow
    have hil : i < 16 := by
      have := (List.getElem?_eq_some_iff.mp ht).1
      omega
    walk_at "rd"
    refine ⟨Rd.tyD hd, ?_⟩
    walk_at "rd"
    refine Rd.rd_disp fun p hp => ?_
    walk_at "rd"
    refine ⟨upd_same, [(Sum.inr t.src, V.bl true), (Sum.inr t.tgt, V.bl true)], rfl, by show 2 ≤ 15; decide, ?_⟩
    rw [show upd (upd H2 p (.dK [])) p (.dK (mergeK [] [(Sum.inr t.src, V.bl true), (Sum.inr t.tgt, V.bl true)])) = upd H2 p (.dK (mergeK [] [(Sum.inr t.src, V.bl true), (Sum.inr t.tgt, V.bl true)])) from upd_upd]
    have e2 : mergeK [] [((Sum.inr t.src : Key), V.bl true), (Sum.inr t.tgt, V.bl true)] = tab ([t.src, t.tgt].foldl Rd.putT []) := map_putT [t.src, t.tgt] []
    rw [e2]
    have hpD : D ≠ p := ne_of_none hd hp
    have hd2 : upd H2 p (.dK (tab ([t.src, t.tgt].foldl Rd.putT []))) D = some (.dK (tab ks)) := by rw [upd_ne hpD]; exact hd
    have ll : ([t.src, t.tgt].foldl Rd.putT []).length ≤ 2 := Rd.len_dedT [t.src, t.tgt]
    walk_at "rd"
    refine Rd.rd_upd hpD hd2 upd_same ?_ ?_
    · unfold tab
      rw [List.length_map, List.length_map]
      exact Rd.small64 (by omega)
    rw [map_putT]
    walk_at "rd"
    have hmem2 : ∀ z, z ∈ ([t.src, t.tgt].foldl Rd.putT []).foldl Rd.putT ks ↔ z ∈ ks ∨ z = t.src ∨ z = t.tgt := fun z => by
      rw [Rd.mem_fold, Rd.mem_fold]
      simp
    refine ⟨same_mut (s2.trans (Rd.same_new hp)) hD, _, _, _, _, _, rfl, upd_same, Rd.nodup_fold _ _ nd, ?_, fun z => ?_⟩
    · have := Rd.len_fold ([t.src, t.tgt].foldl Rd.putT []) ks
      omega
    · rw [hmem2, hmem, List.take_add_one, ht]
      simp only [Option.toList_some, List.mem_append, List.mem_singleton, or_and_right, exists_or, exists_eq_left, or_assoc]
  · rintro σ H2 ⟨s2, ks, o1, o2, o3, o4, rfl, hd, nd, hkl, hmem⟩
    rw [List.length_map, lp] at hkl
    walk_at "rd"
    refine Rd.rd_sortD hd (tab_keys ks) (by omega) nd fun ys p H3 py ay hp s3 h3 => ?_
    walk_at "rd"
    refine Rd.rd_tupleL (SqL.of h3) fun q H4 hq s4 h4 => ?_
    refine k q H4 ys ((s2.trans s3).trans s4) (SqT.of h4) ay fun z => ?_
    rw [py.mem_iff, hmem, List.length_map, lp, List.take_length]
end
end M
set_option Elab.async false
set_option linter.all false
set_option maxRecDepth 100000
set_option maxHeartbeats 4000000
namespace M
open PySem L2
local macro_rules | `(tactic| walk_at "rdc") => `(tactic| first | exact Or.inl ⟨by decide, by decide⟩ | exact Or.inr ⟨by decide, by decide⟩ | exact ⟨by decide, by decide, by decide⟩ | exact ⟨by decide, by decide⟩ | decide | omega | assumption | (refine Or.inl ⟨?_, ?_⟩ <;> omega) | (refine Or.inr ⟨?_, ?_⟩ <;> omega) | (refine ⟨?_, ?_⟩ <;> omega))
local macro_rules | `(tactic| walk_at "rd1") => `(tactic| with_reducible first
  | refine Rd.rd_seq ?_ | refine Rd.rd_asg ?_ | refine Rd.rd_op ?_ | (refine' Rd.rd_var ?vh ?_; (case vh => with_unfolding_all rfl)) | refine Rd.rd_c ?_ | refine Rd.rd_I0 ?_ | refine Rd.rd_name0 ?_ | refine Rd.rd_nameS ?_ | refine Rd.rd_fn ?_
  | refine Rd.rd_cb ?_ | refine Rd.rd_cons ?_ | refine Rd.rd_nil ?_ | refine Rd.rd_int ?_ | refine Rd.rd_intB ?_ | refine Rd.rd_abs ?_ | refine Rd.rd_max2 ?_ | refine Rd.rd_min2 ?_
  | refine Rd.rd_call ?_ | refine Rd.rd_ifE ?_ | refine Rd.rd_test ?_ | refine Rd.rd_tB ?_ | refine Rd.rd_blV ?_ | refine Rd.rd_and ?_ | refine Rd.rd_or ?_ | refine Rd.rd_not ?_
  | refine Rd.rd_andV ?_ | refine Rd.rd_orV ?_ | refine Rd.rd_notV ?_ | refine Rd.rd_next ?_ | refine Rd.rd_ret ?_ | refine Rd.rd_drop ?_ | refine Rd.rd_ifS ?_ | refine Rd.rd_nx ?_ | refine Rd.rd_rt ?_ | refine Rd.rd_tMatch ?_ | refine Rd.rd_tCO ?_ | refine Rd.rd_tRevL ?_ | refine Rd.rd_tStar ?_ | refine Rd.rd_joined ?_ | refine Rd.rd_js1 ?_ | refine Rd.rd_js0 ?_ | refine Rd.rd_fmt ?_ | refine Rd.rd_propR ?_ | refine Rd.rd_iZipA ?_ | refine Rd.rd_iEnumT ?_ | refine Rd.rd_iOwn ?_ | (refine' Rd.rd_IET ?ln ?_; (case ln => with_unfolding_all walk_at "at")) | refine Rd.rd_chain ?_ | refine Rd.rd_tPar ?_ | refine Rd.rd_par ?_ | refine Rd.rd_sl ?_ | refine Rd.rd_noPart ?_ | refine Rd.rd_part ?_ | refine Rd.rd_intV ?_ | refine Rd.rd_lc ?_ | (refine' Rd.rd_aug ?vh ?_; (case vh => with_unfolding_all rfl)) | refine Rd.rd_ipI ?_ | refine Rd.rd_for ?_ | (refine' Rd.rd_IT ?ln ?_; (case ln => with_unfolding_all walk_at "at")) | (refine' Rd.rd_IL ?ln ?_; (case ln => with_unfolding_all walk_at "at")) | refine Rd.rd_iTup ?_ | refine Rd.rd_iList ?_ | refine Rd.rd_iRng1 ?_ | refine Rd.rd_iRng2 ?_ | refine Rd.rd_isi (Rd.isi_int Rd.kk_int_int) ?_ | refine Rd.rd_isi (Rd.isi_int Rd.kk_int_bool) ?_ | refine Rd.rd_dget ?_ | refine Rd.rd_din ?_ | refine Rd.rd_dnotin ?_ | refine Rd.rd_dput ?_ | refine Rd.rd_dc ?_ | refine Rd.rd_lc2 ?_ | refine Rd.rd_ltS ?_ | refine Rd.rd_inSg ?_ | refine Rd.rd_iStr ?_ | refine Rd.rd_IS ?_ | refine Rd.rd_prC ?_ | refine Rd.rd_prN ?_ | refine Rd.rd_methR ?_ | refine Rd.rd_cmeth ?_ | refine Rd.rd_fldS ?_ | refine Rd.rd_fld ?_ | (refine' Rd.rd_mkVS ?vh ?_; (case vh => with_unfolding_all rfl)) | (refine' Rd.rd_starT ?ln ?_; (case ln => with_unfolding_all walk_at "at")) | refine Rd.rd_iEnum ?_ | refine Rd.rd_iZip ?_ | (refine' Rd.rd_IE ?ln ?_; (case ln => with_unfolding_all walk_at "at")) | (refine' Rd.rd_IZ ?ln ?lm ?_; (case ln => with_unfolding_all walk_at "at"); (case lm => with_unfolding_all walk_at "at")) | (refine' Rd.rd_gTup ?ln ?lk ?_; (case ln => with_unfolding_all walk_at "at"); (case lk => with_unfolding_all rfl)) | refine Rd.rd_gCons ?_ | refine Rd.rd_gNil ?_ | refine Rd.rd_m1 ?_ | refine Rd.rd_strV ?_ | refine Rd.rd_tXiM ?_ | refine Rd.rd_tXiB ?_ | refine Rd.rd_tXiS ?_ | refine Rd.rd_bm ?_ | refine Rd.rd_bm0 ?_ | refine Rd.rd_isN ?_ | refine Rd.rd_notN ?_ | refine Rd.rd_sub ?_ | refine Rd.rd_un ?_ | refine Rd.rd_U ?_
  | (refine' Rd.rd_eq ?sc ?_; (case sc => with_unfolding_all rfl)) | (refine' Rd.rd_ne ?sc ?_; (case sc => with_unfolding_all rfl))
  | (refine' Rd.rd_I ?cc ?_; (case cc => with_unfolding_all walk_at "rdc"))
  | (refine' Rd.rd_lenL ?ln ?_; (case ln => with_unfolding_all walk_at "at")) | (refine' Rd.rd_lenT ?ln ?_; (case ln => with_unfolding_all walk_at "at"))
  | (refine' Rd.rd_ixL ?ln ?ia ?_; (case ln => with_unfolding_all walk_at "at"); (case ia => with_unfolding_all first | exact Rd.at0 | exact Rd.at1 | exact Rd.at2 | exact Rd.at3 | exact Rd.at4 | rfl)) | (refine' Rd.rd_ixT ?ln ?ia ?_; (case ln => with_unfolding_all walk_at "at"); (case ia => with_unfolding_all first | exact Rd.at0 | exact Rd.at1 | exact Rd.at2 | exact Rd.at3 | exact Rd.at4 | rfl)))
local macro_rules | `(tactic| walk_at "at") => `(tactic| first | assumption | (apply SqL.of; assumption) | (apply SqT.of; assumption) | (apply SqL.of; exact upd_same) | (apply SqT.of; exact upd_same))
local macro_rules | `(tactic| walk_at "rd") => `(tactic| repeat walk_at "rd1")
structure GOk (G : Gr) : Prop where
  c1 : G.cs ≠ []
  c5 : G.cs.length ≤ 5
  cA : Rd.Asc G.cs
  cN : ∀ x ∈ G.cs, isName x = true
  n8 : G.ns.length ≤ 8
  nA : Rd.Asc G.ns
  nN : ∀ x ∈ G.ns, isName x = true
  t16 : G.ts.length ≤ 16
  tA : Rd.Asc (G.ts.map (·.nm))
  tO : ∀ t ∈ G.ts, TrOk t
  tK : ∀ t ∈ G.ts, ∀ kv ∈ t.chg, kv.1 ∈ G.cs
  tC : ∀ t ∈ G.ts, t.nm ∉ G.cs
  lp : Loop1 G.ts G.ns
/-- what is passed gives the graph G -/
structure Norm (cs0 ns0 : List Str) (ts0 : List Tr) (G : Gr) : Prop where
  cm : ∀ z, z ∈ G.cs ↔ z ∈ cs0
  cl : cs0.length ≤ 50
  nm : ∀ z, z ∈ G.ns ↔ z ∈ ns0 ∨ ∃ t ∈ ts0, z = t.src ∨ z = t.tgt
  nl : ns0.length ≤ 30
  tp : G.ts.Perm ts0
theorem Loop1.perm {ts ts' : List Tr} {ns : List Str} (h : Loop1 ts ns) (p : ts.Perm ts') : Loop1 ts' ns :=
  ⟨h.ne, h.nd, fun t ht => h.ends t (p.mem_iff.mpr ht), fun q S h1 h2 => h.fwd q S h1 fun t ht => h2 t (p.mem_iff.mp ht), fun q S h1 h2 => h.bwd q S h1 fun t ht => h2 t (p.mem_iff.mp ht)⟩
theorem GOk.norm {G : Gr} (h : GOk G) (hn : ∀ x ∈ G.ns, True) : Norm G.cs G.ns G.ts G := ⟨fun _ => Iff.rfl, by have := h.c5; omega, fun z => ⟨.inl, fun q => by
    rcases q with q | ⟨t, ht, e | e⟩
    · exact q
    · rw [e]; exact (h.lp.ends t ht).1
    · rw [e]; exact (h.lp.ends t ht).2⟩, by have := h.n8; omega, List.Perm.refl _⟩
theorem ded_len {l m : List Str} (hA : Rd.Asc l) (h : ∀ z, z ∈ l ↔ z ∈ m) : (Rd.dedT m).length = l.length :=
  Nat.le_antisymm (len_nodup_sub _ _ (Rd.nodup_dedT m) fun z hz => (h z).mpr (Rd.mem_dedT.mp hz)) (len_nodup_sub _ _ hA.nodup fun z hz => Rd.mem_dedT.mpr ((h z).mp hz))
def spFit (K : PySem.W.Frag) : Sp := Rd.mkSp (fun (a : Addr × Addr × List Tr × List Str) => [.ref a.1, .ref a.2.1]) fun a H Q _ => RowsAt K H a.1 a.2.2.1 ∧ TxT K H a.2.1 a.2.2.2 ∧ a.2.2.1.length ≤ 16 ∧ (a.2.2.1.map (·.nm)).Nodup ∧ (∀ t ∈ a.2.2.1, t.nm ∉ a.2.2.2) ∧ (∀ t ∈ a.2.2.1, (∀ kv ∈ t.chg, kv.1 ∈ a.2.2.2) ∧ t.chg.length ≤ 5) ∧ ∀ H', Same H H' → Q (.bl true) H'
def spReq (K : PySem.W.Frag) : Sp := Rd.mkSp (fun (a : (Addr × Addr × Addr) × (List Str × List Str × List Tr) × Gr) => [.ref a.1.1, .ref a.1.2.1, .ref a.1.2.2]) fun a H Q _ => TxT K H a.1.1 a.2.1.1 ∧ RowsAt K H a.1.2.1 a.2.1.2.2 ∧ TxT K H a.1.2.2 a.2.1.2.1 ∧ Norm a.2.1.1 a.2.1.2.1 a.2.1.2.2 a.2.2 ∧ GOk a.2.2 ∧ ∀ H', Same H H' → Q .non H'
section
variable {K : PySem.W.Frag} {σ : L2.St} {H : Hp} {Q : VK} {g : TG} {te : TE} {tt : TT} {vs : List Nat} {a : Addr}
/-- [.. for t in rows if ..] -/
theorem lc_rowsP {ps : List Addr} {ts : List Tr} (pr : Tr → Bool) (f : Tr → V) (hz : ts.length ≤ 100000) (hS : SqT K H a (ps.map V.ref)) (hP : Paired (RowAt K H) ps ts)
    (step : ∀ t r H1 (N : Hp → Prop) (M : V → Hp → Prop), t ∈ ts → Same H H1 → RowAt K H1 r t → (pr t = false → ∀ H2, Same H1 H2 → N H2) → (pr t = true → ∀ H2, Same H1 H2 → M (f t) H2) → g (.ref r) (wipe σ vs) H1 fun σ2 H2 => wipe σ2 vs = wipe σ vs ∧ tt σ2 H2 fun b H3 => if b = true then te σ2 H3 M else N H3)
    (done : ∀ D H', H D = none → Same H H' → H' D = some (.lst ((ts.filter pr).map f)) → Q (.ref D) H') : Rd.rLc g tt te vs σ Q (Itt K a) H := by
  have lp : ps.length = ts.length := hP.length
  refine Rd.lc_gen ts (fun t v H1 => ∃ r, v = .ref r ∧ RowAt K H1 r t) pr f hz (fun i H1 hi s1 => ?_) (fun H1 s1 => ?_) (fun i H1 x H2 t et s1 y => ?_) (fun t x H1 N M ht s1 hx hN hM => ?_) done
  · exact ⟨_, V.ref (ps[i]'(by omega)), Rd.Same.sqT s1 hS, by rw [List.getElem?_map, List.getElem?_eq_getElem (by omega)]; rfl⟩
  · exact ⟨_, Rd.Same.sqT s1 hS, by rw [List.length_map]; omega⟩
  · obtain ⟨rfl, y⟩ := y
    have e := y _ (Rd.Same.sqT s1 hS)
    rw [List.getElem?_map] at e
    obtain ⟨r, hr, rfl⟩ := Option.map_eq_some_iff.mp e
    obtain ⟨t', ht', q⟩ := paired_get hP hr
    rw [ht'] at et
    cases et
    exact ⟨Same.refl _, r, rfl, q.kp (kpS s1)⟩
  · obtain ⟨r, rfl, hr⟩ := hx
    exact step t r H1 N M ht s1 hr hN hM
theorem lc_rows {ps : List Addr} {ts : List Tr} (f : Tr → V) (hz : ts.length ≤ 100000) (hS : SqT K H a (ps.map V.ref)) (hP : Paired (RowAt K H) ps ts)
    (step : ∀ t r H1 (M : V → Hp → Prop), t ∈ ts → Same H H1 → RowAt K H1 r t → (∀ H2, Same H1 H2 → M (f t) H2) → g (.ref r) (wipe σ vs) H1 fun σ2 H2 => wipe σ2 vs = wipe σ vs ∧ te σ2 H2 M)
    (done : ∀ D H', H D = none → Same H H' → H' D = some (.lst (ts.map f)) → Q (.ref D) H') : Rd.rLc g tYes te vs σ Q (Itt K a) H := by
  refine lc_rowsP (fun _ => true) f hz hS hP (fun t r H1 N M ht s1 hr hN hM => step t r H1 M ht s1 hr (hM rfl)) fun D H' h1 h2 h3 => done D H' h1 h2 ?_
  rw [h3, List.filter_eq_self.mpr fun _ _ => rfl]
end
section
variable {gd : Bool} {P : Program} {w : World} {K : PySem.W.Frag} {mg : Str → Option Value} {base : Heap}
theorem ok_fit (F : Rd.Has K mg "fit_counters" s_fit_counters) (g : Glob mg) : Rd.Fn gd P w K mg base CX0 1 "fit_counters" (spFit K) := by
  refine F.fn sc_fit_counters (fun _ => rfl) (fun _ _ _ _ _ _ us hl => match us, hl with | [_, _], _ => rfl) fun f cdv A outer s H Q E b hr h => ?_
  obtain ⟨a, b, ts, cs⟩ := b
  obtain ⟨⟨ps, hS, hP⟩, hC, hl, nd, hnc, hk, k⟩ := h
  dsimp only at hS hP hC hl nd hnc hk k
  have hC' : SqT K H b (cs.map V.str) := hC
  refine ⟨_, (pss_cons (ps_setLc (i := 2) (own := [("transition", 3)]) (by rfl) sc_fit_counters.nd rfl rfl (sw_true rfl rfl rfl (by decide +kernel)) (pi_tup (pv 0)) (blkOk_by (own := [("transition", 3)]) (N := ["transitions", "counters", "names", "transition", "name", "counter", "number"]) (sc := defScope s_fit_counters) (by decide +kernel)) (fun _ _ _ _ _ => (pg_name (i := 3) sc_fit_counters.nd rfl (Or.inl rfl))) (fun _ _ _ _ _ => pts_nil) (fun _ _ _ _ _ => (pe_ix (Rd.ix_tupK (K := K) (by rfl)) (pv 3) pe_int (fun _ _ => rfl))))
      (pss_cons (ps_if (PW.pt (pw_or (pt_cmpR op_lt (pe_callB Rd.c_lenSt (by rfl) g.len (by decide +kernel) (pa_cons (pe_callTy (Rd.c_setT rfl) (by rfl) g.set (by decide +kernel) (pa_cons (pv 2) pa_nil)) pa_nil)) (pe_callB Rd.c_len (by rfl) g.len (by decide +kernel) (pa_cons (pv 2) pa_nil)) (nomark _)) (pw_or1 (pt_val (pe_callB (Rd.c_any rfl) (by rfl) g.any (by decide +kernel) (pa_cons (pe_lc (own := [("name", 4)]) (by rfl) sc_fit_counters.nd (pi_list (pv 2)) (blkOk_by (own := [("name", 4)]) (N := ["transitions", "counters", "names", "transition", "name", "counter", "number"]) (sc := defScope s_fit_counters) (by decide +kernel)) (fun _ _ _ _ _ => (pg_name (i := 4) sc_fit_counters.nd rfl (Or.inl rfl))) (fun _ _ _ _ _ => pts_nil) (fun _ _ _ _ _ => (pe_cmpR (Rd.op_inK (K := K) (by rfl)) (pv 4) (pv 1) (by rfl)))) pa_nil)))))) (pss_one (ps_ret pe_bl)) pss_nil)
      (pss_one (ps_ret (pe_callB (Rd.c_all rfl) (by rfl) g.all (by decide +kernel) (pa_cons (pe_lc2 (own := [("transition", 3), ("counter", 5), ("number", 6)]) (vs1 := [5, 6]) (by rfl) sc_fit_counters.nd (pi_tup (pv 0)) (blkOk_by (own := [("transition", 3), ("counter", 5), ("number", 6)]) (N := ["transitions", "counters", "names", "transition", "name", "counter", "number"]) (sc := defScope s_fit_counters) (by decide +kernel)) (by decide) (fun _ _ _ _ _ => (pg_name (i := 3) sc_fit_counters.nd rfl (Or.inl rfl))) (fun _ _ _ _ _ => pts_nil) (fun _ _ _ _ _ => (Rd.pi_tupK (K := K) (by rfl) (pe_ix (Rd.ix_tupK (K := K) (by rfl)) (pv 3) pe_int (fun _ _ => rfl)))) (fun _ _ _ _ _ => (Rd.pg_tupK (K := K) (n := 2) (by rfl) rfl (pgs_cons (pg_name (i := 5) sc_fit_counters.nd rfl (Or.inl rfl)) (pgs_cons (pg_name (i := 6) sc_fit_counters.nd rfl (Or.inl rfl)) pgs_nil)))) (fun _ _ _ _ _ => pts_nil) (fun _ _ _ _ _ => (pe_cmpR (Rd.op_inK (K := K) (by rfl)) (pv 5) (pv 1) (by rfl)))) pa_nil)))))), ?_⟩
  try simp only [Rd.noxK, Rd.cxK]
  refine Rd.rd_start [some (V.ref a), some (V.ref b), none, none, none, none, none] rfl ?_
  walk_at "rd"
  refine lc_rows (fun t => V.str t.nm) (by omega) hS hP (fun t r H1 M ht s1 hr1 hM => ?_) (fun D H1 hD s1 h1 => ?_)
  · obtain ⟨c, hrow, _⟩ := hr1
    refine Rd.rd_start' [some (V.ref a), some (V.ref b), none, none, none, none, none] rfl ?_
    walk_at "rd"
    refine ⟨rfl, ?_⟩
    walk_at "rd"
    exact hM _ (Same.refl _)
  have e1 : ts.map (fun t => V.str t.nm) = (ts.map (·.nm)).map V.str := by rw [List.map_map]; rfl
  rw [e1] at h1
  have hL1 : SqL K H1 D ((ts.map (·.nm)).map V.str) := SqL.of h1
  walk_at "rd"
  refine Rd.rd_setT (.inr hL1) (by rw [List.length_map]; omega) fun z H2 hz s2 h2 => ?_
  rw [Rd.dedT_nodup nd] at h2
  walk_at "rd"
  refine Rd.rd_lenSt h2 (by rw [List.length_map]; omega) ?_
  have hL2 := sq_some s2 hL1
  walk_at "rd"
  refine Rd.if_f (by rw [List.length_map]; simp) ?_
  walk_at "rd"
  have hC2 : SqT K H2 b (cs.map V.str) := Rd.Same.sqT (s1.trans s2) hC'
  refine Rd.lc_lst (K := K) (xs := (ts.map (·.nm)).map V.str) (fun _ => V.bl false) (by rw [List.length_map, List.length_map]; omega) hL2 (fun v H3 N hv s3 hN => ?_) (fun D3 H3 hD3 s3 h3 => ?_)
  · obtain ⟨x, hx, rfl⟩ := List.mem_map.mp hv
    obtain ⟨t, ht, rfl⟩ := List.mem_map.mp hx
    refine Rd.rd_start' [some (V.ref a), some (V.ref b), some (V.ref D), none, none, none, none] rfl ?_
    walk_at "rd"
    refine ⟨rfl, ?_⟩
    walk_at "rd"
    refine Rd.rd_inTx (.inl (Rd.Same.sqT s3 hC2)) ?_
    rw [decide_eq_false (hnc t ht)]
    exact hN _ (Same.refl _)
  walk_at "rd"
  have e3 : ∀ l : List V, l.map (fun _ => V.bl false) = (List.replicate l.length false).map V.bl := fun l => by
    induction l with
    | nil => rfl
    | cons x r ih => rw [List.map_cons, ih]; rfl
  rw [e3] at h3
  refine Rd.rd_any (SqL.of h3) ?_
  have e4 : ∀ n, (List.replicate n false).any id = false := fun n => by simp [List.any_replicate]
  rw [e4]
  walk_at "rd"
  refine Rd.if_f rfl ?_
  have s03 := (s1.trans s2).trans s3
  walk_at "rd"
  refine Rd.rd_IT (Rd.Same.sqT s03 hS) ?_
  have hS3 := Rd.Same.sqT s03 hS
  refine Rd.lc2_true (K := K) (by rw [List.length_map]; have := hP.length; omega) hS3 (fun v H4 M hv s4 hM => ?_) (fun D5 H5 bs hD5 s5 h5 hall => ?_)
  · obtain ⟨r, hr1, rfl⟩ := List.mem_map.mp hv
    obtain ⟨t, ht, ⟨c, hrow, qs, hcF, hcP⟩⟩ := paired_mem hP r hr1
    have hrow4 := Rd.Same.sqT (s03.trans s4) hrow
    refine Rd.rd_start' [some (V.ref a), some (V.ref b), some (V.ref D), none, none, none, none] rfl ?_
    walk_at "rd"
    refine ⟨rfl, ?_⟩
    walk_at "rd"
    refine Rd.rd_IT (hcF.same (s03.trans s4)).sq ?_
    refine hM _ c (qs.map V.ref) (Rd.Same.sqT s03 hcF.sq) (by rw [List.length_map, hcP.length]; have := (hk t ht).2; omega) fun y H5 N hy s5 hN => ?_
    obtain ⟨q, hq, rfl⟩ := List.mem_map.mp hy
    obtain ⟨kv, hkv, hpair⟩ := paired_mem hcP q hq
    have hp5 : SqT K H5 q [.str kv.1, .int kv.2] := Rd.Same.sqT (s03.trans s5) hpair
    refine Rd.rd_start' [some (V.ref a), some (V.ref b), some (V.ref D), some (V.ref r), none, none, none] rfl ?_
    walk_at "rd"
    refine ⟨rfl, ?_⟩
    walk_at "rd"
    refine Rd.rd_inTx (.inl (Rd.Same.sqT (s03.trans s5) hC')) ?_
    rw [decide_eq_true ((hk t ht).1 kv hkv)]
    exact hN _ (Same.refl _)
  walk_at "rd"
  refine Rd.rd_all (SqL.of h5) ?_
  rw [hall]
  exact k H5 (s03.trans s5)
theorem ok_require (F : Rd.Has K mg "require_parts" s_require_parts) (g : Glob mg) (ws : GInts mg) (c_are_names : Rd.Fn gd P w K mg base CX0 2 "are_names" (spNames K)) (c_is_transition : Rd.Fn gd P w K mg base CX0 4 "is_transition" (spTrans K)) (c_fit_counters : Rd.Fn gd P w K mg base CX0 1 "fit_counters" (spFit K)) (c_states_of : Rd.Fn gd P w K mg base CX0 1 "states_of" (spStates K)) (c_are_one_loop : Rd.Fn gd P w K mg base CX0 2 "are_one_loop" (spLoop1 K)) :
    Rd.Fn gd P w K mg base CX0 5 "require_parts" (spReq K) := by
  refine F.fn sc_require_parts (fun _ => rfl) (fun _ _ _ _ _ _ us hl => match us, hl with | [_, _, _], _ => rfl) fun f cdv A outer s H Q E b hr h => ?_
  obtain ⟨⟨pc, pt, ps⟩, ⟨cs0, ns0, ts0⟩, G⟩ := b
  obtain ⟨hC, hT, hN, NM, GO, k⟩ := h
  dsimp only at hC hT hN NM GO k
  have hC' : SqT K H pc (cs0.map V.str) := hC
  have lt : ts0.length ≤ 16 := by rw [← NM.tp.length_eq]; exact GO.t16
  have memt : ∀ t ∈ ts0, t ∈ G.ts := fun t ht => NM.tp.mem_iff.mpr ht
  refine ⟨_, (pss_cons (ps_if (PW.pt (pw_or (pt_not (pt_val (Rd.pe_fn c_are_names (hr.mono (by decide)) (by rfl) (pa_cons (pv 0) pa_nil)))) (pw_or1 (pt_not (pt_chain op_le op_le pe_int (pe_callB Rd.c_lenSt (by rfl) g.len (by decide +kernel) (pa_cons (pe_callTy (Rd.c_setT rfl) (by rfl) g.set (by decide +kernel) (pa_cons (pv 0) pa_nil)) pa_nil)) (Rd.pe_gli (by rfl) ws.MAX_COUNTERS)))))) (pss_one ps_never) pss_nil)
      (pss_cons (ps_if (PW.pt (pw_or (pt_not (pt_val (pe_callB Rd.c_isi (by rfl) g.isinstance (by decide +kernel) (pa_cons (pv 1) (pa_cons (pe_bltn (v := .ty "tuple") (by rfl) g.tuple (by decide +kernel) rfl) pa_nil))))) (pw_or1 (pt_not (pt_val (pe_callB (Rd.c_all rfl) (by rfl) g.all (by decide +kernel) (pa_cons (pe_lc (own := [("transition", 4)]) (by rfl) sc_require_parts.nd (pi_tup (pv 1)) (blkOk_by (own := [("transition", 4)]) (N := ["counters", "transitions", "states", "found", "transition"]) (sc := defScope s_require_parts) (by decide +kernel)) (fun _ _ _ _ _ => (pg_name (i := 4) sc_require_parts.nd rfl (Or.inl rfl))) (fun _ _ _ _ _ => pts_nil) (fun _ _ _ _ _ => (Rd.pe_fn c_is_transition (hr.mono (by decide)) (by rfl) (pa_cons (pv 4) pa_nil)))) pa_nil))))))) (pss_one ps_never) pss_nil)
      (pss_cons (ps_if (PW.pt (pw_or (pt_cmpR op_gt (pe_callB Rd.c_len (by rfl) g.len (by decide +kernel) (pa_cons (pv 1) pa_nil)) (Rd.pe_gli (by rfl) ws.MAX_TRANSITIONS) (nomark _)) (pw_or1 (pt_not (pt_val (Rd.pe_fn c_fit_counters (hr.mono (by decide)) (by rfl) (pa_cons (pv 1) (pa_cons (pv 0) pa_nil)))))))) (pss_one ps_never) pss_nil)
      (pss_cons (ps_if (pt_not (pt_val (Rd.pe_fn c_are_names (hr.mono (by decide)) (by rfl) (pa_cons (pv 2) pa_nil)))) (pss_one ps_never) pss_nil)
      (pss_cons (ps_set (i := 3) sc_require_parts.nd rfl (Or.inl rfl) (Rd.pe_fn c_states_of (hr.mono (by decide)) (by rfl) (pa_cons (pv 1) (pa_cons (pv 2) pa_nil))))
      (pss_one (ps_if (PW.pt (pw_or (pt_not (pt_chain op_le op_le pe_int (pe_callB Rd.c_len (by rfl) g.len (by decide +kernel) (pa_cons (pv 3) pa_nil)) (Rd.pe_gli (by rfl) ws.MAX_STATES))) (pw_or1 (pt_not (pt_val (Rd.pe_fn c_are_one_loop (hr.mono (by decide)) (by rfl) (pa_cons (pv 1) (pa_cons (pv 3) pa_nil)))))))) (pss_one ps_never) pss_nil))))))), ?_⟩
  try simp only [Rd.noxK, Rd.cxK]
  refine Rd.rd_start [some (V.ref pc), some (V.ref pt), some (V.ref ps), none, none] rfl ?_
  walk_at "rd"
  refine Rd.rd_sp (pc, cs0) rfl ⟨hC, fun x hx => GO.cN x ((NM.cm x).mpr hx), by have := NM.cl; show cs0.length ≤ 100; omega, fun H1 s1 => ?_⟩
  walk_at "rd"
  refine Rd.if_f rfl ?_
  have hC1 := Rd.Same.sqT s1 hC'
  walk_at "rd"
  refine Rd.rd_setT (.inl hC1) (by have := NM.cl; omega) fun z H2 hz s2 h2 => ?_
  have dl := ded_len GO.cA NM.cm
  have c1 : 0 < G.cs.length := List.length_pos_iff.mpr GO.c1
  have c5 := GO.c5
  walk_at "rd"
  refine Rd.rd_lenSt h2 (by omega) ?_
  rw [dl]
  walk_at "rd"
  refine Rd.if_t (decide_eq_true (by omega)) ?_
  walk_at "rd"
  refine Rd.if_f (by rw [decide_eq_true (show (G.cs.length : Int) ≤ 5 by omega)]; rfl) ?_
  have s02 := s1.trans s2
  obtain ⟨rs, hT0, hTP⟩ := hT
  have hT2 : SqT K H2 pt (rs.map V.ref) := Rd.Same.sqT s02 hT0
  walk_at "rd"
  refine Rd.rd_isi (Rd.isi_tup hT2 Rd.kk_tup_tup) ?_
  walk_at "rd"
  refine Rd.if_f rfl ?_
  walk_at "rd"
  refine lc_rows (fun _ => V.bl true) (by omega) hT2 (L2.Paired.mapP hTP fun _ _ q => q.kp (kpS s02)) (fun t r H3 M ht s3 hr3 hM => ?_) (fun D H3 hD s3 h3 => ?_)
  · refine Rd.rd_start' [some (V.ref pc), some (V.ref pt), some (V.ref ps), none, none] rfl ?_
    walk_at "rd"
    refine ⟨rfl, ?_⟩
    walk_at "rd"
    exact Rd.rd_sp (r, t) rfl ⟨hr3, GO.tO t (memt t ht), hM⟩
  walk_at "rd"
  refine rd_allT h3 ?_
  walk_at "rd"
  refine Rd.if_f rfl ?_
  have s03 := s02.trans s3
  have hT3 := Rd.Same.sqT s03 hT0
  walk_at "rd"
  have lr : rs.length = ts0.length := hTP.length
  refine Rd.if_f (decide_eq_false (by rw [List.length_map, lr]; omega)) ?_
  walk_at "rd"
  have rows3 : RowsAt K H3 pt ts0 := ⟨rs, hT3, L2.Paired.mapP hTP fun _ _ q => q.kp (kpS s03)⟩
  refine Rd.rd_sp (pt, pc, ts0, cs0) rfl ⟨rows3, Rd.Same.sqT s03 hC', lt, (NM.tp.map (·.nm)).nodup_iff.mp GO.tA.nodup, fun t ht q => GO.tC t (memt t ht) ((NM.cm _).mpr q), fun t ht => ⟨fun kv hkv => (NM.cm _).mp (GO.tK t (memt t ht) kv hkv), (GO.tO t (memt t ht)).2.2.2.2⟩, fun H4 s4 => ?_⟩
  walk_at "rd"
  refine Rd.if_f rfl ?_
  have s04 := s03.trans s4
  walk_at "rd"
  refine Rd.rd_sp (ps, ns0) rfl ⟨hN.kp (kpS s04), fun x hx => GO.nN x ((NM.nm x).mpr (.inl hx)), by have := NM.nl; show ns0.length ≤ 100; omega, fun H5 s5 => ?_⟩
  walk_at "rd"
  refine Rd.if_f rfl ?_
  have s05 := s04.trans s5
  walk_at "rd"
  refine Rd.rd_sp (pt, ps, ts0, ns0) rfl ⟨rows3.kp (kpS (s4.trans s5)), hN.kp (kpS s05), lt, NM.nl, fun q H6 ys s6 h6 ya ym => ?_⟩
  dsimp only at ym
  have ey : ys = G.ns := ya.eq GO.nA fun z => (ym z).trans (NM.nm z).symm
  subst ey
  have s06 := s05.trans s6
  have h6' : SqT K H6 q (G.ns.map V.str) := h6
  have n1 : 0 < G.ns.length := List.length_pos_iff.mpr GO.lp.ne
  have n8 := GO.n8
  walk_at "rd"
  rw [List.length_map]
  refine Rd.if_t (decide_eq_true (by omega)) ?_
  walk_at "rd"
  refine Rd.if_f (by rw [decide_eq_true (show (G.ns.length : Int) ≤ 8 by omega)]; rfl) ?_
  walk_at "rd"
  refine Rd.rd_sp (pt, q, ts0, G.ns) rfl ⟨rows3.kp (kpS ((s4.trans s5).trans s6)), h6, by show ts0.length ≤ 100; omega, GO.lp.perm NM.tp, GO.nN, fun H7 s7 => ?_⟩
  walk_at "rd"
  refine Rd.if_f rfl ?_
  walk_at "rd"
  exact k H7 (s06.trans s7)
end
end M
set_option Elab.async false
set_option linter.all false
set_option maxRecDepth 100000
set_option maxHeartbeats 4000000
namespace M
open PySem L2
local macro_rules | `(tactic| walk_at "rdc") => `(tactic| first | exact Or.inl ⟨by decide, by decide⟩ | exact Or.inr ⟨by decide, by decide⟩ | exact ⟨by decide, by decide, by decide⟩ | exact ⟨by decide, by decide⟩ | decide | omega | assumption | (refine Or.inl ⟨?_, ?_⟩ <;> omega) | (refine Or.inr ⟨?_, ?_⟩ <;> omega) | (refine ⟨?_, ?_⟩ <;> omega))
local macro_rules | `(tactic| walk_at "rd1") => `(tactic| with_reducible first
  | refine Rd.rd_seq ?_ | refine Rd.rd_asg ?_ | refine Rd.rd_op ?_ | (refine' Rd.rd_var ?vh ?_; (case vh => with_unfolding_all rfl)) | refine Rd.rd_c ?_ | refine Rd.rd_I0 ?_ | refine Rd.rd_name0 ?_ | refine Rd.rd_nameS ?_ | refine Rd.rd_fn ?_
  | refine Rd.rd_cb ?_ | refine Rd.rd_cons ?_ | refine Rd.rd_nil ?_ | refine Rd.rd_int ?_ | refine Rd.rd_intB ?_ | refine Rd.rd_abs ?_ | refine Rd.rd_max2 ?_ | refine Rd.rd_min2 ?_
  | refine Rd.rd_call ?_ | refine Rd.rd_ifE ?_ | refine Rd.rd_test ?_ | refine Rd.rd_tB ?_ | refine Rd.rd_blV ?_ | refine Rd.rd_and ?_ | refine Rd.rd_or ?_ | refine Rd.rd_not ?_
  | refine Rd.rd_andV ?_ | refine Rd.rd_orV ?_ | refine Rd.rd_notV ?_ | refine Rd.rd_next ?_ | refine Rd.rd_ret ?_ | refine Rd.rd_drop ?_ | refine Rd.rd_ifS ?_ | refine Rd.rd_nx ?_ | refine Rd.rd_rt ?_ | refine Rd.rd_tMatch ?_ | refine Rd.rd_tCO ?_ | refine Rd.rd_tRevL ?_ | refine Rd.rd_tStar ?_ | refine Rd.rd_joined ?_ | refine Rd.rd_js1 ?_ | refine Rd.rd_js0 ?_ | refine Rd.rd_fmt ?_ | refine Rd.rd_propR ?_ | refine Rd.rd_iZipA ?_ | refine Rd.rd_iEnumT ?_ | refine Rd.rd_iOwn ?_ | (refine' Rd.rd_IET ?ln ?_; (case ln => with_unfolding_all walk_at "at")) | refine Rd.rd_chain ?_ | refine Rd.rd_tPar ?_ | refine Rd.rd_par ?_ | refine Rd.rd_sl ?_ | refine Rd.rd_noPart ?_ | refine Rd.rd_part ?_ | refine Rd.rd_intV ?_ | refine Rd.rd_lc ?_ | (refine' Rd.rd_aug ?vh ?_; (case vh => with_unfolding_all rfl)) | refine Rd.rd_ipI ?_ | refine Rd.rd_for ?_ | (refine' Rd.rd_IT ?ln ?_; (case ln => with_unfolding_all walk_at "at")) | (refine' Rd.rd_IL ?ln ?_; (case ln => with_unfolding_all walk_at "at")) | refine Rd.rd_iTup ?_ | refine Rd.rd_iList ?_ | refine Rd.rd_iRng1 ?_ | refine Rd.rd_iRng2 ?_ | refine Rd.rd_isi (Rd.isi_int Rd.kk_int_int) ?_ | refine Rd.rd_isi (Rd.isi_int Rd.kk_int_bool) ?_ | refine Rd.rd_dget ?_ | refine Rd.rd_din ?_ | refine Rd.rd_dnotin ?_ | refine Rd.rd_dput ?_ | refine Rd.rd_dc ?_ | refine Rd.rd_lc2 ?_ | refine Rd.rd_ltS ?_ | refine Rd.rd_inSg ?_ | refine Rd.rd_iStr ?_ | refine Rd.rd_IS ?_ | refine Rd.rd_prC ?_ | refine Rd.rd_prN ?_ | refine Rd.rd_methR ?_ | refine Rd.rd_cmeth ?_ | refine Rd.rd_fldS ?_ | refine Rd.rd_fld ?_ | (refine' Rd.rd_mkVS ?vh ?_; (case vh => with_unfolding_all rfl)) | (refine' Rd.rd_starT ?ln ?_; (case ln => with_unfolding_all walk_at "at")) | refine Rd.rd_iEnum ?_ | refine Rd.rd_iZip ?_ | (refine' Rd.rd_IE ?ln ?_; (case ln => with_unfolding_all walk_at "at")) | (refine' Rd.rd_IZ ?ln ?lm ?_; (case ln => with_unfolding_all walk_at "at"); (case lm => with_unfolding_all walk_at "at")) | (refine' Rd.rd_gTup ?ln ?lk ?_; (case ln => with_unfolding_all walk_at "at"); (case lk => with_unfolding_all rfl)) | refine Rd.rd_gCons ?_ | refine Rd.rd_gNil ?_ | refine Rd.rd_m1 ?_ | refine Rd.rd_strV ?_ | refine Rd.rd_tXiM ?_ | refine Rd.rd_tXiB ?_ | refine Rd.rd_tXiS ?_ | refine Rd.rd_bm ?_ | refine Rd.rd_bm0 ?_ | refine Rd.rd_isN ?_ | refine Rd.rd_notN ?_ | refine Rd.rd_sub ?_ | refine Rd.rd_un ?_ | refine Rd.rd_U ?_
  | (refine' Rd.rd_eq ?sc ?_; (case sc => with_unfolding_all rfl)) | (refine' Rd.rd_ne ?sc ?_; (case sc => with_unfolding_all rfl))
  | (refine' Rd.rd_I ?cc ?_; (case cc => with_unfolding_all walk_at "rdc"))
  | (refine' Rd.rd_lenL ?ln ?_; (case ln => with_unfolding_all walk_at "at")) | (refine' Rd.rd_lenT ?ln ?_; (case ln => with_unfolding_all walk_at "at"))
  | (refine' Rd.rd_ixL ?ln ?ia ?_; (case ln => with_unfolding_all walk_at "at"); (case ia => with_unfolding_all first | exact Rd.at0 | exact Rd.at1 | exact Rd.at2 | exact Rd.at3 | exact Rd.at4 | rfl)) | (refine' Rd.rd_ixT ?ln ?ia ?_; (case ln => with_unfolding_all walk_at "at"); (case ia => with_unfolding_all first | exact Rd.at0 | exact Rd.at1 | exact Rd.at2 | exact Rd.at3 | exact Rd.at4 | rfl)))
local macro_rules | `(tactic| walk_at "at") => `(tactic| first | assumption | (apply SqL.of; assumption) | (apply SqT.of; assumption) | (apply SqL.of; exact upd_same) | (apply SqT.of; exact upd_same))
local macro_rules | `(tactic| walk_at "rd") => `(tactic| repeat walk_at "rd1")
abbrev s_Graph___init__ : Stmt := inClass (top 27) 0
theorem sc_Graph___init__ : FnScope ["self", "counters", "states", "transitions", "transition"] ["self", "counters", "states", "transitions"] (defScope s_Graph___init__) := ⟨rfl, rfl, rfl, by decide +kernel, rfl, by decide +kernel, by decide +kernel⟩
abbrev s_Graph_of : Stmt := inClass (top 27) 1
theorem sc_Graph_of : FnScope ["cls", "counters", "transitions", "states"] ["cls", "counters", "transitions", "states"] (defScope s_Graph_of) := ⟨rfl, rfl, rfl, by decide +kernel, rfl, by decide +kernel, by decide +kernel⟩
abbrev s_Graph___eq__ : Stmt := inClass (top 27) 18
theorem sc_Graph___eq__ : FnScope ["self", "other"] ["self", "other"] (defScope s_Graph___eq__) := ⟨rfl, rfl, rfl, by decide +kernel, rfl, by decide +kernel, by decide +kernel⟩
structure GraphC (K : PySem.W.Frag) (mg : Str → Option Value) (a : AdsG) : Prop where
  mgC : mg "Graph" = some (.ref a.C)
  cl : Cls K a.C
  nC : NoAttr K a.C "own_counters"
  nS : NoAttr K a.C "own_states"
  nT : NoAttr K a.C "own_transitions"
  nN : NoAttr K a.C "own_names"
  nR : NoAttr K a.C "own_rows"
  mk_ : Mk K a.C a.fi
  cr : ClX.CRead K a.C (.type "type")
  cm_of : ClX.CMet K a.C (.type "type") "of" a.po a.fo
  m_change : Meth K a.C "change" a.ch
  m_leaving : Meth K a.C "leaving" a.lv
  m_entering : Meth K a.C "entering" a.en
  pr_n : PropOf K a.C "names" a.pn a.gn
  pr_t : PropOf K a.C "transitions" a.pt a.gt
  pr_c : PropOf K a.C "counters" a.pc a.gc
  pr_s : PropOf K a.C "states" a.ps a.gs
  gi : PySem.W.findIn K (.ref a.C) "__getitem__" = some (some (.ref a.gi))
  gif : PySem.W.isFn K (.ref a.gi) = true
  gin : PySem.W.fnIn K a.gi = true
  eq : Rd.OwnEq K a.C a.eq
  c1 : PySem.W.findIn K (.ref a.C) "__class__" = some (some (.builtin "object.__class__"))
  c2 : PySem.W.specialIn K (.builtin "object.__class__") "__get__" = some (some (.builtin "getset_descriptor.__get__"))
  c3 : PySem.W.takesIn K (.builtin "object.__class__") = some true
  c4 : PySem.W.mroIn K a.C (.type "object") = some true
  i1 : PySem.W.kitOne K (.ref a.C) (.ref a.C) = some true
def rowsD (ts : List Tr) (rs : List Addr) : List (Key × V) := (ts.zip rs).map fun z => (Sum.inr z.1.nm, V.ref z.2)
structure GrFields (K : PySem.W.Frag) (H : Hp) (pc ps pt pn pr : Addr) (rs : List Addr) (G : Gr) : Prop where
  c : TxT K H pc G.cs
  s : TxT K H ps G.ns
  t : SqT K H pt (rs.map V.ref)
  tP : Paired (RowAt K H) rs G.ts
  n : TxT K H pn (G.ts.map (·.nm))
  r : H pr = some (.dK (rowsD G.ts rs))
def flds (pc ps pt pn pr : Addr) : List (Str × V) := [("own_counters", .ref pc), ("own_states", .ref ps), ("own_transitions", .ref pt), ("own_names", .ref pn), ("own_rows", .ref pr)]
/-- a graph at x -/
def GraphAt (K : PySem.W.Frag) (C : Addr) (H : Hp) (x : Addr) (G : Gr) : Prop := ∃ dx pc ps pt pn pr rs, H x = some (.ins C dx (flds pc ps pt pn pr)) ∧ GrFields K H pc ps pt pn pr rs G
theorem GraphAt.same {K : PySem.W.Frag} {C : Addr} {H H' : Hp} {x : Addr} {G : Gr} (h : GraphAt K C H x G) (s : Same H H') : GraphAt K C H' x G := by
  obtain ⟨dx, pc, ps, pt, pn, pr, rs, h1, h2⟩ := h
  exact ⟨dx, pc, ps, pt, pn, pr, rs, s _ _ h1, ⟨h2.c.kp (kpS s), h2.s.kp (kpS s), Rd.Same.sqT s h2.t, L2.Paired.mapP h2.tP fun _ _ q => q.kp (kpS s), h2.n.kp (kpS s), s _ _ h2.r⟩⟩
theorem GraphC.ty {K : PySem.W.Frag} {mg : Str → Option Value} {a : AdsG} {H : Hp} {x : Addr} {G : Gr} (T : GraphC K mg a) (h : GraphAt K a.C H x G) : TyX K H (.ref x) (.ref a.C) := by
  obtain ⟨dx, pc, ps, pt, pn, pr, rs, h1, h2⟩ := h
  exact .base (.ins h1 T.cl T.c1 T.c2 T.c3 T.c4)
def SameBut (x : Addr) (H H' : Hp) : Prop := ∀ b o, b ≠ x → H b = some o → H' b = some o
theorem SameBut.of {x : Addr} {H H' : Hp} (s : Same H H') : SameBut x H H' := fun b o _ e => s b o e
theorem SameBut.trans {x : Addr} {H H1 H2 : Hp} (a : SameBut x H H1) (b : SameBut x H1 H2) : SameBut x H H2 := fun c o h e => b c o h (a c o h e)
theorem SameBut.upd {x : Addr} {H : Hp} {o : HO} : SameBut x H (upd H x o) := fun b u h e => by rw [upd_ne h]; exact e
theorem SameBut.kp {x : Addr} {H H' : Hp} {o : HO} (s : SameBut x H H') (h : H x = some o) (ho : Imm o = false) : Kp H H' := fun b u e i => s b u (fun z => by rw [z, h] at e; rw [← Option.some.inj e, ho] at i; cases i) e
theorem perm_map_inv {α β : Type} (f : α → β) : ∀ {a b : List β}, a.Perm b → ∀ zs : List α, b = zs.map f → ∃ ys : List α, ys.Perm zs ∧ a = ys.map f := by
  intro a b p
  induction p with
  | nil => exact fun zs e => ⟨zs, List.Perm.refl _, e⟩
  | cons x p ih =>
    intro zs e
    match zs, e with
    | z :: zs, e =>
      obtain ⟨rfl, e2⟩ := List.cons.inj e
      obtain ⟨ys, p1, e1⟩ := ih zs e2
      exact ⟨z :: ys, p1.cons z, by rw [e1]; rfl⟩
  | swap x y l =>
    intro zs e
    match zs, e with
    | z :: z2 :: zs, e =>
      obtain ⟨rfl, e2⟩ := List.cons.inj e
      obtain ⟨rfl, rfl⟩ := List.cons.inj e2
      exact ⟨z2 :: z :: zs, List.Perm.swap _ _ _, rfl⟩
    | [], e => nomatch e
    | [z], e => exact absurd (congrArg List.length e) (by simp)
  | trans p q ih1 ih2 =>
    intro zs e
    obtain ⟨ys, p1, e1⟩ := ih2 zs e
    obtain ⟨xs, p2, e2⟩ := ih1 ys e1
    exact ⟨xs, p2.trans p1, e2⟩
theorem map_inj_nodup {α β : Type} (f : α → β) : ∀ {l : List α}, (l.map f).Nodup → ∀ x ∈ l, ∀ y ∈ l, f x = f y → x = y
  | [], _, x, hx, _, _, _ => nomatch hx
  | a :: l, h, x, hx, y, hy, e => by
    obtain ⟨h1, h2⟩ := List.nodup_cons.mp h
    rcases List.mem_cons.mp hx with q | q <;> rcases List.mem_cons.mp hy with r | r
    · rw [q, r]
    · exact absurd (List.mem_map.mpr ⟨y, r, by rw [← e, q]⟩) h1
    · exact absurd (List.mem_map.mpr ⟨x, q, by rw [e, r]⟩) h1
    · exact map_inj_nodup f h2 x q y r e
theorem eq_of_map {α β : Type} (f : α → β) : ∀ {l m : List α}, (∀ x ∈ l, ∀ y ∈ m, f x = f y → x = y) → l.map f = m.map f → l = m
  | [], [], _, _ => rfl
  | [], _ :: _, _, e => nomatch e
  | _ :: _, [], _, e => nomatch e
  | x :: l, y :: m, h, e => by
    obtain ⟨e1, e2⟩ := List.cons.inj e
    rw [h x List.mem_cons_self y List.mem_cons_self e1, eq_of_map f (fun x hx y hy => h x (List.mem_cons_of_mem _ hx) y (List.mem_cons_of_mem _ hy)) e2]
theorem paired_zip {α β : Type} {F : α → β → Prop} : ∀ {l : List α} {m : List β}, Paired F l m → ∀ z ∈ m.zip l, F z.2 z.1
  | _, _, .nil, z, h => nomatch h
  | _, _, .cons r t, z, h => by
    rcases List.mem_cons.mp h with e | e
    · rw [e]; exact r
    · exact paired_zip t z e
theorem paired_map2 {α β γ : Type} {F : α → β → Prop} (f : γ → α) (g : γ → β) : ∀ {l : List γ}, (∀ z ∈ l, F (f z) (g z)) → Paired F (l.map f) (l.map g)
  | [], _ => .nil
  | z :: l, h => .cons (h z List.mem_cons_self) (paired_map2 f g fun y hy => h y (List.mem_cons_of_mem _ hy))
theorem zip_fst {α β : Type} : ∀ {l : List α} {m : List β}, l.length = m.length → (l.zip m).map (·.1) = l
  | [], [], _ => rfl
  | x :: l, y :: m, h => by rw [List.zip_cons_cons, List.map_cons, zip_fst (by simpa using h)]
theorem zip_snd {α β : Type} : ∀ {l : List α} {m : List β}, l.length = m.length → (l.zip m).map (·.2) = m
  | [], [], _ => rfl
  | x :: l, y :: m, h => by rw [List.zip_cons_cons, List.map_cons, zip_snd (by simpa using h)]
/-- rows sorted by name -/
theorem rows_sorted {K : PySem.W.Frag} {H : Hp} {rs : List Addr} {ts0 : List Tr} {ts : List Tr} (hP : Paired (RowAt K H) rs ts0) (p : ts.Perm ts0) (hA : Rd.Asc (ts.map (·.nm))) {ys : List (Str × Addr)} (hp : ys.Perm ((ts0.zip rs).map fun z => (z.1.nm, z.2))) (ha : Rd.Asc (ys.map (·.1))) :
    Paired (RowAt K H) (ys.map (·.2)) ts := by
  obtain ⟨zs, p1, e1⟩ := perm_map_inv (fun z : Tr × Addr => (z.1.nm, z.2)) hp _ rfl
  have hl : ts0.length = rs.length := hP.length.symm
  have p2 : (zs.map (·.1)).Perm ts0 := by
    have := p1.map (·.1)
    rw [zip_fst hl] at this
    exact this
  have e2 : ys.map (·.1) = (zs.map (·.1)).map (·.nm) := by rw [e1, List.map_map, List.map_map]; rfl
  have e3 : zs.map (·.1) = ts := by
    refine eq_of_map (·.nm) (fun x hx y hy e => ?_) ?_
    · exact map_inj_nodup (·.nm) hA.nodup x (p.mem_iff.mpr (p2.mem_iff.mp hx)) y hy e
    · rw [← e2]
      exact ha.perm_eq hA (by rw [e2]; exact (p2.trans p.symm).map _)
  have e4 : ys.map (·.2) = zs.map (·.2) := by rw [e1, List.map_map]; rfl
  rw [e4, ← e3]
  exact paired_map2 _ _ fun z hz => paired_zip hP z (p1.mem_iff.mp hz)
/-- {row[0]: row for row in rows} -/
theorem dc_rows {K : PySem.W.Frag} {H : Hp} {a : Addr} {g : TG} {tk tv : TE} {vs : List Nat} {σ : L2.St} {Q : VK} {ps : List Addr} {ts : List Tr} (nd : (ts.map (·.nm)).Nodup) (hz : ts.length ≤ 100000) (hS : SqT K H a (ps.map V.ref)) (hP : Paired (RowAt K H) ps ts)
    (step : ∀ t r H1 (N : V → V → Hp → Prop), t ∈ ts → Same H H1 → RowAt K H1 r t → (∀ H2, Same H1 H2 → N (.str t.nm) (.ref r) H2) → g (.ref r) (wipe σ vs) H1 fun σ2 H2 => wipe σ2 vs = wipe σ vs ∧ tk σ2 H2 fun y H4 => tv σ2 H4 fun z H5 => N y z H5)
    (done : ∀ D H', H D = none → Same H H' → H' D = some (.dK (rowsD ts ps)) → Q (.ref D) H') : Rd.rDc g tYes tk tv vs σ Q (Itt K a) H := by
  have lp : ps.length = ts.length := hP.length
  intro D hD
  let m : Nat → List (Key × V) := fun i => (rowsD ts ps).take i
  have hm : (rowsD ts ps).length = ts.length := by unfold rowsD; rw [List.length_map, List.length_zip]; omega
  have hnd : ((rowsD ts ps).map (·.1)).Nodup := by
    have e : (rowsD ts ps).map (·.1) = (ts.map (·.nm)).map Sum.inr := by
      unfold rowsD
      rw [List.map_map, ← zip_fst (l := ts) (m := ps) lp.symm, List.map_map, List.map_map]
      simp only [Function.comp_def, zip_fst lp.symm]
    rw [e]
    exact nd.map _ fun a b h q => h (Sum.inr.inj q)
  let Pv : Nat → Hp → Prop := fun i H1 => Same H H1 ∧ H1 D = some (.dK (m i))
  refine ⟨fun i n H1 => n = ts.length - i ∧ i ≤ ts.length ∧ Pv i H1, ⟨ts.length, by simp, Nat.zero_le _, Rd.same_new hD, by rw [upd_same]; rfl⟩, ?_⟩
  rintro i n H1 ⟨rfl, hi, s1, hd1⟩
  have hq : SqT K H1 a (ps.map V.ref) := Rd.Same.sqT s1 hS
  by_cases hlt : i < ts.length
  · refine .inr ⟨⟨_, V.ref (ps[i]'(by omega)), hq, by rw [List.getElem?_map, List.getElem?_eq_getElem (by omega)]; rfl⟩, Pv (i + 1), fun H' p' => ⟨ts.length - (i + 1), by omega, rfl, hlt, p'⟩, fun x H' y => ?_⟩
    obtain ⟨rfl, hy⟩ := y
    have ex := hy _ hq
    rw [List.getElem?_map] at ex
    obtain ⟨r, hr, rfl⟩ := Option.map_eq_some_iff.mp ex
    obtain ⟨t, ht, q⟩ := paired_get hP hr
    refine step t r H' _ (List.mem_of_getElem? ht) s1 (q.kp (kpS s1)) fun H2 s2 => ?_
    have hl : (m i).length < sizeLine := by
      show ((rowsD ts ps).take i).length < _
      rw [List.length_take, hm]
      exact Nat.lt_of_le_of_lt (Nat.le_trans (Nat.min_le_right _ _) hz) (by decide)
    have eN : (rowsD ts ps)[i]? = some (Sum.inr t.nm, V.ref r) := by
      unfold rowsD
      rw [List.getElem?_map, List.getElem?_zip_eq_some (z := (t, r)) |>.mpr ⟨ht, hr⟩]
      rfl
    have eT : (rowsD ts ps).take (i + 1) = (rowsD ts ps).take i ++ [(Sum.inr t.nm, V.ref r)] := by rw [List.take_add_one, eN]; rfl
    refine ⟨m i, Sum.inr t.nm, rfl, s2 _ _ hd1, hl, fun b o e => ?_, ?_⟩
    · rw [upd_ne (ne_of_none e hD)]
      exact s2 _ _ (s1 _ _ e)
    · rw [upd_same]
      show some (HO.dK (putK ((rowsD ts ps).take i) (Sum.inr t.nm) (V.ref r))) = some (HO.dK ((rowsD ts ps).take (i + 1)))
      rw [eT, Rd.putK_new' fun z => ?_]
      have hnd2 : (((rowsD ts ps).take (i + 1)).map (·.1)).Nodup := by
        rw [List.map_take]
        exact hnd.sublist (List.take_sublist _ _)
      rw [eT, List.map_append] at hnd2
      exact (List.nodup_append.mp hnd2).2.2 _ z _ (List.mem_singleton.mpr rfl) rfl
  · obtain rfl : i = ts.length := by omega
    refine .inl ⟨⟨_, hq, by rw [List.length_map, lp]; exact Nat.le_refl _⟩, done D H1 hD s1 ?_⟩
    rw [hd1]
    show some (HO.dK ((rowsD ts ps).take ts.length)) = _
    rw [← hm, List.take_length]
def spGInit (K : PySem.W.Frag) (C : Addr) : Sp := Rd.mkSp (fun (a : (Addr × Addr × Addr × Addr × Addr) × (List Str × List Str × List Tr) × Gr) => [.ref a.1.1, .ref a.1.2.2.1, .ref a.1.2.2.2.1, .ref a.1.2.2.2.2]) fun a H Q _ =>
  H a.1.1 = some (.ins C a.1.2.1 []) ∧ TxT K H a.1.2.2.1 a.2.1.1 ∧ TxT K H a.1.2.2.2.1 a.2.1.2.1 ∧ RowsAt K H a.1.2.2.2.2 a.2.1.2.2 ∧ Norm a.2.1.1 a.2.1.2.1 a.2.1.2.2 a.2.2 ∧ GOk a.2.2 ∧ ∀ H', SameBut a.1.1 H H' → GraphAt K C H' a.1.1 a.2.2 → Q .non H'
def spGOf (K : PySem.W.Frag) (C : Addr) : Sp := Rd.mkSp (fun (a : (Addr × Addr × Addr) × (List Str × List Str × List Tr) × Gr) => [.ref C, .ref a.1.1, .ref a.1.2.1, .ref a.1.2.2]) fun a H Q _ => TxT K H a.1.1 a.2.1.1 ∧ RowsAt K H a.1.2.1 a.2.1.2.2 ∧ TxT K H a.1.2.2 a.2.1.2.1 ∧ Norm a.2.1.1 a.2.1.2.1 a.2.1.2.2 a.2.2 ∧ GOk a.2.2 ∧ ∀ x H', Same H H' → GraphAt K C H' x a.2.2 → Q (.ref x) H'
section
variable {gd : Bool} {P : Program} {w : World} {K : PySem.W.Frag} {mg : Str → Option Value} {base : Heap} {a : AdsG}
theorem ginit_body (T : GraphC K mg a) (g : Glob mg) (c_require_parts : Rd.Fn false P w K mg base CX0 5 "require_parts" (spReq K)) (c_states_of : Rd.Fn false P w K mg base CX0 1 "states_of" (spStates K)) (cdv : Value) (A : Around) (outer : List Env) (s : Shared) (H : Hp) (Q : VK) (E : XK) (vs : List V) (hr0 : Room 6 (A.deeper (PyProof.Rows.envOfC "Graph.__init__" (defScope s_Graph___init__) s.heap.objs.size a.fi cdv))) (h : spGInit K a.C vs H Q E) :
    ∃ t, PSs (cxOf CX0 P w K mg base ["self", "counters", "states", "transitions", "transition"] "Graph.__init__" (defScope s_Graph___init__) a.fi cdv A outer s H E) (defBody s_Graph___init__) t ∧ t { nx := fun _ H' => Q .non H', rt := Q } (start ["self", "counters", "states", "transitions", "transition"] vs) H := by
  obtain ⟨⟨⟨x, dx, pc, ps, pt⟩, ⟨cs0, ns0, ts0⟩, G⟩, rfl, h⟩ := h
  obtain ⟨hx, hC, hN, hT, NM, GO, k⟩ := h
  dsimp only at hx hC hN hT NM GO k
  have hr : Rd.RoomG false 6 _ := ⟨hr0, nofun⟩
  refine ⟨_, ((pss_cons (ps_expr (Rd.pe_fn c_require_parts (hr.mono (by decide)) (by rfl) (pa_cons (pv 1) (pa_cons (pv 3) (pa_cons (pv 2) pa_nil)))))
      (pss_cons (ps_fld (pv 0) (pe_callTy Rd.c_tuple (by rfl) g.tuple (by decide +kernel) (pa_cons (pe_callB (Rd.c_sortT rfl) (by rfl) g.sorted (by decide +kernel) (pa_cons (pe_callTy (Rd.c_setT rfl) (by rfl) g.set (by decide +kernel) (pa_cons (pv 1) pa_nil)) pa_nil)) pa_nil)) rfl)
      (pss_cons (ps_fld (pv 0) (Rd.pe_fn c_states_of (hr.mono (by decide)) (by rfl) (pa_cons (pv 3) (pa_cons (pv 2) pa_nil))) rfl)
      (pss_cons (ps_fld (pv 0) (pe_callTy Rd.c_tuple (by rfl) g.tuple (by decide +kernel) (pa_cons (pe_callB Rd.c_sortK (by rfl) g.sorted (by decide +kernel) (pa_cons (pv 3) pa_nil)) pa_nil)) rfl)
      (pss_cons (ps_fld (pv 0) (pe_callTy Rd.c_tuple (by rfl) g.tuple (by decide +kernel) (pa_cons (pe_lc (own := [("transition", 4)]) (by rfl) sc_Graph___init__.nd (pi_tup (pe_fld (pv 0) rfl)) (blkOk_by (own := [("transition", 4)]) (N := ["self", "counters", "states", "transitions", "transition"]) (sc := defScope s_Graph___init__) (by decide +kernel)) (fun _ _ _ _ _ => (pg_name (i := 4) sc_Graph___init__.nd rfl (Or.inl rfl))) (fun _ _ _ _ _ => pts_nil) (fun _ _ _ _ _ => (pe_ix (Rd.ix_tupK (K := K) (by rfl)) (pv 4) pe_int (fun _ _ => rfl)))) pa_nil)) rfl)
      (pss_one (ps_fld (pv 0) (pe_dc (own := [("transition", 4)]) (by rfl) sc_Graph___init__.nd (pi_tup (pe_fld (pv 0) rfl)) (blkOk_by (own := [("transition", 4)]) (N := ["self", "counters", "states", "transitions", "transition"]) (sc := defScope s_Graph___init__) (by decide +kernel)) (fun _ _ _ _ _ => (pg_name (i := 4) sc_Graph___init__.nd rfl (Or.inl rfl))) (fun _ _ _ _ _ => pts_nil) (fun _ _ _ _ _ => (pe_ix (Rd.ix_tupK (K := K) (by rfl)) (pv 4) pe_int (fun _ _ => rfl))) (fun _ _ _ _ _ => (pv 4))) rfl)))))))).nox, ?_⟩
  try simp only [Rd.noxK, Rd.cxK]
  refine Rd.rd_start [some (V.ref x), some (V.ref pc), some (V.ref ps), some (V.ref pt), none] rfl ?_
  walk_at "rd"
  refine Rd.rd_sp ((pc, pt, ps), (cs0, ns0, ts0), G) rfl ⟨hC, hT, hN, NM, GO, fun H1 s1 => ?_⟩
  have hC1 : SqT K H1 pc (cs0.map V.str) := Rd.Same.sqT s1 hC
  have lt : ts0.length ≤ 16 := by rw [← NM.tp.length_eq]; exact GO.t16
  walk_at "rd"
  refine Rd.rd_setT (.inl hC1) (by have := NM.cl; omega) fun z H2 hz s2 h2 => ?_
  have dl := ded_len GO.cA NM.cm
  have c5 := GO.c5
  walk_at "rd"
  refine Rd.rd_sortT (.inr h2) (by omega) fun ys p3 H3 py py2 hn3 s3 h3 => ?_
  have ey : ys = G.cs := (Rd.asc_of py2 (py.nodup_iff.mpr (Rd.nodup_dedT cs0))).eq GO.cA fun z => (py.mem_iff.trans Rd.mem_dedT).trans (NM.cm z).symm
  subst ey
  walk_at "rd"
  refine Rd.rd_tupleL (SqL.of h3) fun q1 H4 hn4 s4 h4 => ?_
  have s04 := ((s1.trans s2).trans s3).trans s4
  walk_at "rd"
  refine ⟨x, a.C, dx, [], rfl, s04 _ _ hx, T.cl, T.nC, by decide, ?_⟩
  generalize e5 : upd H4 x _ = H5
  have b5 : SameBut x H4 H5 := e5 ▸ SameBut.upd
  have hx5 : H5 x = some (.ins a.C dx [("own_counters", .ref q1)]) := by rw [← e5]; exact upd_same
  clear e5
  have b05 := (SameBut.of s04).trans b5
  have k05 : Kp H H5 := b05.kp hx rfl
  have hq1 : TxT K H5 q1 G.cs := TxT.kp (b5.kp (s04 _ _ hx) rfl) (SqT.of h4)
  walk_at "rd"
  refine Rd.rd_sp (pt, ps, ts0, ns0) rfl ⟨hT.kp k05, hN.kp k05, lt, NM.nl, fun q2 H6 ys s6 h6 ya ym => ?_⟩
  dsimp only at ym
  have ey : ys = G.ns := ya.eq GO.nA fun z => (ym z).trans (NM.nm z).symm
  subst ey
  walk_at "rd"
  refine ⟨x, a.C, dx, _, rfl, s6 _ _ hx5, T.cl, T.nS, by simp only [List.length_cons, List.length_nil]; decide, ?_⟩
  generalize e7 : upd H6 x _ = H7
  have b7 : SameBut x H6 H7 := e7 ▸ SameBut.upd
  have hx7 : H7 x = some (.ins a.C dx [("own_counters", .ref q1), ("own_states", .ref q2)]) := by rw [← e7]; exact upd_same
  clear e7
  have b57 := (SameBut.of s6).trans b7
  have k57 : Kp H5 H7 := b57.kp hx5 rfl
  have hq2 : TxT K H7 q2 G.ns := TxT.kp (b7.kp (s6 _ _ hx5) rfl) h6
  have hT7 := (hT.kp k05).kp k57
  obtain ⟨rs, hT7, hTP7⟩ := hT7
  have lr : ts0.length = rs.length := hTP7.length.symm
  walk_at "rd"
  have en : ((ts0.zip rs).map fun z => (z.1.nm, z.2)).map (fun z => V.ref z.2) = rs.map V.ref := by
    rw [List.map_map, ← zip_snd lr, List.map_map]
    simp only [Function.comp_def, zip_snd lr]
  have en1 : ((ts0.zip rs).map fun z => (z.1.nm, z.2)).map (fun z => z.1) = ts0.map (·.nm) := by
    rw [List.map_map, ← zip_fst lr, List.map_map]
    simp only [Function.comp_def, zip_fst lr]
  refine Rd.rd_sortK (zs := (ts0.zip rs).map fun z => (z.1.nm, z.2)) (.inl (by rw [en]; exact hT7)) (by rw [List.length_map, List.length_zip]; omega) (fun z hz => ?_) (by rw [en1]; exact (NM.tp.map (·.nm)).nodup_iff.mp GO.tA.nodup) fun ys p8 H8 py ya hn8 s8 h8 => ?_
  · obtain ⟨y, hy, rfl⟩ := List.mem_map.mp hz
    obtain ⟨c, hrow, _⟩ := paired_zip hTP7 y hy
    exact ⟨_, hrow⟩
  have hP7 := rows_sorted hTP7 NM.tp GO.tA py ya
  have e8 : (ys.map fun z => V.ref z.2) = (ys.map (·.2)).map V.ref := by rw [List.map_map]; rfl
  rw [e8] at h8
  generalize ys.map (·.2) = rs2 at h8 hP7
  walk_at "rd"
  refine Rd.rd_tupleL (SqL.of h8) fun q3 H9 hn9 s9 h9 => ?_
  walk_at "rd"
  have s79 := s8.trans s9
  refine ⟨x, a.C, dx, _, rfl, s79 _ _ hx7, T.cl, T.nT, by simp only [List.length_cons, List.length_nil]; decide, ?_⟩
  generalize e10 : upd H9 x _ = H10
  have b10 : SameBut x H9 H10 := e10 ▸ SameBut.upd
  have hx10 : H10 x = some (.ins a.C dx [("own_counters", .ref q1), ("own_states", .ref q2), ("own_transitions", .ref q3)]) := by rw [← e10]; exact upd_same
  clear e10
  have b710 := (SameBut.of s79).trans b10
  have k710 : Kp H7 H10 := b710.kp hx7 rfl
  have hq3 : SqT K H10 q3 (rs2.map V.ref) := (b10.kp (s79 _ _ hx7) rfl).sqT (SqT.of h9)
  have hP10 : Paired (RowAt K H10) rs2 G.ts := L2.Paired.mapP hP7 fun _ _ q => q.kp k710
  walk_at "rd"
  refine ⟨x, a.C, dx, _, V.ref q3, rfl, hx10, T.cl, T.nT, rfl, ?_⟩
  walk_at "rd"
  have t16 := GO.t16
  refine lc_rows (fun t => V.str t.nm) (by omega) hq3 hP10 (fun t r H11 M ht s11 hr11 hM => ?_) (fun D H11 hD s11 h11 => ?_)
  · obtain ⟨c, hrow, _⟩ := hr11
    refine Rd.rd_start' [some (V.ref x), some (V.ref pc), some (V.ref ps), some (V.ref pt), none] rfl ?_
    walk_at "rd"
    refine ⟨rfl, ?_⟩
    walk_at "rd"
    exact hM _ (Same.refl _)
  walk_at "rd"
  refine Rd.rd_tupleL (SqL.of h11) fun q4 H12 hn12 s12 h12 => ?_
  have e1 : G.ts.map (fun t => V.str t.nm) = (G.ts.map (·.nm)).map V.str := by rw [List.map_map]; rfl
  rw [e1] at h12
  have s1012 := s11.trans s12
  walk_at "rd"
  refine ⟨x, a.C, dx, _, rfl, s1012 _ _ hx10, T.cl, T.nN, by simp only [List.length_cons, List.length_nil]; decide, ?_⟩
  generalize e13 : upd H12 x _ = H13
  have b13 : SameBut x H12 H13 := e13 ▸ SameBut.upd
  have hx13 : H13 x = some (.ins a.C dx [("own_counters", .ref q1), ("own_states", .ref q2), ("own_transitions", .ref q3), ("own_names", .ref q4)]) := by rw [← e13]; exact upd_same
  clear e13
  have b1013 := (SameBut.of s1012).trans b13
  have k1013 : Kp H10 H13 := b1013.kp hx10 rfl
  have hq4 : TxT K H13 q4 (G.ts.map (·.nm)) := TxT.kp (b13.kp (s1012 _ _ hx10) rfl) (SqT.of h12)
  have hP13 : Paired (RowAt K H13) rs2 G.ts := L2.Paired.mapP hP10 fun _ _ q => q.kp k1013
  have hq3' : SqT K H13 q3 (rs2.map V.ref) := k1013.sqT hq3
  walk_at "rd"
  refine ⟨x, a.C, dx, _, V.ref q3, rfl, hx13, T.cl, T.nT, rfl, ?_⟩
  walk_at "rd"
  refine dc_rows GO.tA.nodup (by omega) hq3' hP13 (fun t r H14 N ht s14 hr14 hN => ?_) (fun D H14 hD s14 h14 => ?_)
  · obtain ⟨c, hrow, _⟩ := hr14
    refine Rd.rd_start' [some (V.ref x), some (V.ref pc), some (V.ref ps), some (V.ref pt), none] rfl ?_
    walk_at "rd"
    refine ⟨rfl, ?_⟩
    walk_at "rd"
    exact hN _ (Same.refl _)
  walk_at "rd"
  refine ⟨x, a.C, dx, _, rfl, s14 _ _ hx13, T.cl, T.nR, by simp only [List.length_cons, List.length_nil]; decide, ?_⟩
  generalize e15 : upd H14 x _ = H15
  have b15 : SameBut x H14 H15 := e15 ▸ SameBut.upd
  have hx15 : H15 x = some (.ins a.C dx (flds q1 q2 q3 q4 D)) := by rw [← e15]; exact upd_same
  clear e15
  have b1315 := (SameBut.of s14).trans b15
  have k1315 : Kp H13 H15 := b1315.kp hx13 rfl
  have hDx : D ≠ x := fun z => by rw [z, hx13] at hD; cases hD
  walk_at "rd"
  refine k H15 ((((b05.trans b57).trans b710).trans b1013).trans b1315) ⟨dx, q1, q2, q3, q4, D, rs2, hx15, ?_⟩
  exact ⟨hq1.kp (k57.trans (k710.trans (k1013.trans k1315))), hq2.kp (k710.trans (k1013.trans k1315)), k1315.sqT hq3', L2.Paired.mapP hP13 fun _ _ q => q.kp k1315, hq4.kp k1315, b15 _ _ hDx h14⟩
theorem ok_ginit (T : GraphC K mg a) (hi : Rd.HasAt K a.fi "__init__" "Graph.__init__" s_Graph___init__) (g : Glob mg) (c_require_parts : Rd.Fn false P w K mg base CX0 5 "require_parts" (spReq K)) (c_states_of : Rd.Fn false P w K mg base CX0 1 "states_of" (spStates K)) : Rd.FnK P w K mg base CX0 7 a.fi "states" (Rd.spStarK (spGInit K a.C)) :=
  hi.starK sc_Graph___init__ StX.cxUp_none (fun _ _ _ _ _ _ _ _ _ rest => match rest with | [] => rfl | _ :: _ => rfl) (ginit_body T g c_require_parts c_states_of)
/-- Graph(cs, *rows, states = ns) -/
theorem make_graph {C pc ps : Addr} {H : Hp} {Q : VK} {rs : List Addr} {cs0 ns0 : List Str} {ts0 : List Tr} {G : Gr} {NM : Norm cs0 ns0 ts0 G} {GO : GOk G} (hC : TxT K H pc cs0) (hN : TxT K H ps ns0) (hP : Paired (RowAt K H) rs ts0) (q : ∀ x H', Same H H' → GraphAt K C H' x G → Q (.ref x) H') (x dx : Addr) (hx : H x = none) (hdx : H dx = none) (hne : dx ≠ x) :
    Rd.spStarK (spGInit K C) (.ref ps :: .ref x :: .ref pc :: rs.map V.ref) (upd (upd H dx (.own x)) x (.ins C dx [])) (fun v H2 => v = .non ∧ Q (.ref x) H2) E0 := by
  have s0 : Same H (upd (upd H dx (.own x)) x (.ins C dx [])) := fun b o e => by
    rw [upd_ne (ne_of_none e hx), upd_ne (ne_of_none e hdx)]
    exact e
  have lt : rs.length ≤ 16 := by rw [hP.length, ← NM.tp.length_eq]; exact GO.t16
  refine ⟨.ref ps, .ref x, .ref pc, rs.map V.ref, rfl, by rw [List.length_map]; exact Rd.small64 (by omega), fun p H1 hp s1 h1 => ?_⟩
  have s01 := s0.trans s1
  refine Rd.rd_sp ((x, dx, pc, ps, p), (cs0, ns0, ts0), G) rfl ⟨s1 _ _ upd_same, hC.kp (kpS s01), hN.kp (kpS s01), ⟨rs, SqT.of h1, L2.Paired.mapP hP fun _ _ q => q.kp (kpS s01)⟩, NM, GO, fun H2 b2 h2 => ⟨rfl, ?_⟩⟩
  exact q x H2 (fun b o e => b2 b o (ne_of_none e hx) (s01 _ _ e)) h2
theorem ok_gof (T : GraphC K mg a) (ho : Rd.HasAtD K a.fo "of" "Graph.of" s_Graph_of) (g : Glob mg) (c_require_parts : Rd.Fn false P w K mg base CX0 5 "require_parts" (spReq K)) (c_Graph : Rd.FnK P w K mg base CX0 7 a.fi "states" (Rd.spStarK (spGInit K a.C))) : FnR P w K mg base CX0 9 a.fo (spGOf K a.C) := by
  refine Rd.FnG.toR (ho.fn (gd := false) sc_Graph_of (fun _ => rfl) (fun _ _ _ _ _ _ _ us hl => match us, hl with | [_, _, _, _], _ => ⟨_, rfl, fun its h => ?_⟩) fun cdv A outer s H Q E b hr h => ?_)
  · match its, h with | ⟨[_]⟩, _ => rfl
  obtain ⟨⟨pc, pt, ps⟩, ⟨cs0, ns0, ts0⟩, G⟩ := b
  obtain ⟨hC, hT, hN, NM, GO, k⟩ := h
  dsimp only at hC hT hN NM GO k
  refine ⟨_, (pss_cons (ps_expr (Rd.pe_fn c_require_parts (hr.mono (by decide)) (by rfl) (pa_cons (pv 1) (pa_cons (pv 2) (pa_cons (pv 3) pa_nil)))))
      (pss_one (ps_ret (Rd.pe_mkSK (i := 0) T.mk_ c_Graph (hr.mono (by decide)).toRoom pass0 (by rfl) (Or.inl rfl) (pa_cons (pv 1) (StX.pa_star (pv 2) pa_nil)) (pv 3))))), ?_⟩
  try simp only [Rd.noxK, Rd.cxK]
  refine Rd.rd_start [some (V.ref a.C), some (V.ref pc), some (V.ref pt), some (V.ref ps)] rfl ?_
  walk_at "rd"
  refine Rd.rd_sp ((pc, pt, ps), (cs0, ns0, ts0), G) rfl ⟨hC, hT, hN, NM, GO, fun H1 s1 => ?_⟩
  have hT1 := hT.kp (kpS s1)
  obtain ⟨rs, hT1, hTP1⟩ := hT1
  walk_at "rd"
  refine Rd.rd_mkSK rfl ?_
  walk_at "rd"
  refine ⟨pt, _, rfl, .inl hT1, ?_⟩
  walk_at "rd"
  rw [List.append_nil]
  refine ⟨_, rfl, ?_⟩
  exact make_graph (NM := NM) (GO := GO) (hC.kp (kpS s1)) (hN.kp (kpS s1)) hTP1 fun x H2 s2 h2 => k x H2 (s1.trans s2) h2
end
end M
set_option Elab.async false
set_option linter.all false
set_option maxRecDepth 100000
set_option maxHeartbeats 4000000
namespace M
open PySem L2
local macro_rules | `(tactic| walk_at "rdc") => `(tactic| first | exact Or.inl ⟨by decide, by decide⟩ | exact Or.inr ⟨by decide, by decide⟩ | exact ⟨by decide, by decide, by decide⟩ | exact ⟨by decide, by decide⟩ | decide | omega | assumption | (refine Or.inl ⟨?_, ?_⟩ <;> omega) | (refine Or.inr ⟨?_, ?_⟩ <;> omega) | (refine ⟨?_, ?_⟩ <;> omega))
local macro_rules | `(tactic| walk_at "rd1") => `(tactic| with_reducible first
  | refine Rd.rd_seq ?_ | refine Rd.rd_asg ?_ | refine Rd.rd_op ?_ | (refine' Rd.rd_var ?vh ?_; (case vh => with_unfolding_all rfl)) | refine Rd.rd_c ?_ | refine Rd.rd_I0 ?_ | refine Rd.rd_name0 ?_ | refine Rd.rd_nameS ?_ | refine Rd.rd_fn ?_
  | refine Rd.rd_cb ?_ | refine Rd.rd_cons ?_ | refine Rd.rd_nil ?_ | refine Rd.rd_int ?_ | refine Rd.rd_intB ?_ | refine Rd.rd_abs ?_ | refine Rd.rd_max2 ?_ | refine Rd.rd_min2 ?_
  | refine Rd.rd_call ?_ | refine Rd.rd_ifE ?_ | refine Rd.rd_test ?_ | refine Rd.rd_tB ?_ | refine Rd.rd_blV ?_ | refine Rd.rd_and ?_ | refine Rd.rd_or ?_ | refine Rd.rd_not ?_
  | refine Rd.rd_andV ?_ | refine Rd.rd_orV ?_ | refine Rd.rd_notV ?_ | refine Rd.rd_next ?_ | refine Rd.rd_ret ?_ | refine Rd.rd_drop ?_ | refine Rd.rd_ifS ?_ | refine Rd.rd_nx ?_ | refine Rd.rd_rt ?_ | refine Rd.rd_tMatch ?_ | refine Rd.rd_tCO ?_ | refine Rd.rd_tRevL ?_ | refine Rd.rd_tStar ?_ | refine Rd.rd_joined ?_ | refine Rd.rd_js1 ?_ | refine Rd.rd_js0 ?_ | refine Rd.rd_fmt ?_ | refine Rd.rd_propR ?_ | refine Rd.rd_iZipA ?_ | refine Rd.rd_iEnumT ?_ | refine Rd.rd_iOwn ?_ | (refine' Rd.rd_IET ?ln ?_; (case ln => with_unfolding_all walk_at "at")) | refine Rd.rd_chain ?_ | refine Rd.rd_tPar ?_ | refine Rd.rd_par ?_ | refine Rd.rd_sl ?_ | refine Rd.rd_noPart ?_ | refine Rd.rd_part ?_ | refine Rd.rd_intV ?_ | refine Rd.rd_lc ?_ | (refine' Rd.rd_aug ?vh ?_; (case vh => with_unfolding_all rfl)) | refine Rd.rd_ipI ?_ | refine Rd.rd_for ?_ | (refine' Rd.rd_IT ?ln ?_; (case ln => with_unfolding_all walk_at "at")) | (refine' Rd.rd_IL ?ln ?_; (case ln => with_unfolding_all walk_at "at")) | refine Rd.rd_iTup ?_ | refine Rd.rd_iList ?_ | refine Rd.rd_iRng1 ?_ | refine Rd.rd_iRng2 ?_ | refine Rd.rd_isi (Rd.isi_int Rd.kk_int_int) ?_ | refine Rd.rd_isi (Rd.isi_int Rd.kk_int_bool) ?_ | refine Rd.rd_dget ?_ | refine Rd.rd_din ?_ | refine Rd.rd_dnotin ?_ | refine Rd.rd_dput ?_ | refine Rd.rd_dc ?_ | refine Rd.rd_lc2 ?_ | refine Rd.rd_ltS ?_ | refine Rd.rd_inSg ?_ | refine Rd.rd_iStr ?_ | refine Rd.rd_IS ?_ | refine Rd.rd_prC ?_ | refine Rd.rd_prN ?_ | refine Rd.rd_methR ?_ | refine Rd.rd_cmeth ?_ | refine Rd.rd_fldS ?_ | refine Rd.rd_fld ?_ | (refine' Rd.rd_mkVS ?vh ?_; (case vh => with_unfolding_all rfl)) | (refine' Rd.rd_starT ?ln ?_; (case ln => with_unfolding_all walk_at "at")) | refine Rd.rd_iEnum ?_ | refine Rd.rd_iZip ?_ | (refine' Rd.rd_IE ?ln ?_; (case ln => with_unfolding_all walk_at "at")) | (refine' Rd.rd_IZ ?ln ?lm ?_; (case ln => with_unfolding_all walk_at "at"); (case lm => with_unfolding_all walk_at "at")) | (refine' Rd.rd_gTup ?ln ?lk ?_; (case ln => with_unfolding_all walk_at "at"); (case lk => with_unfolding_all rfl)) | refine Rd.rd_gCons ?_ | refine Rd.rd_gNil ?_ | refine Rd.rd_m1 ?_ | refine Rd.rd_strV ?_ | refine Rd.rd_tXiM ?_ | refine Rd.rd_tXiB ?_ | refine Rd.rd_tXiS ?_ | refine Rd.rd_bm ?_ | refine Rd.rd_bm0 ?_ | refine Rd.rd_isN ?_ | refine Rd.rd_notN ?_ | refine Rd.rd_sub ?_ | refine Rd.rd_un ?_ | refine Rd.rd_U ?_
  | (refine' Rd.rd_eq ?sc ?_; (case sc => with_unfolding_all rfl)) | (refine' Rd.rd_ne ?sc ?_; (case sc => with_unfolding_all rfl))
  | (refine' Rd.rd_I ?cc ?_; (case cc => with_unfolding_all walk_at "rdc"))
  | (refine' Rd.rd_lenL ?ln ?_; (case ln => with_unfolding_all walk_at "at")) | (refine' Rd.rd_lenT ?ln ?_; (case ln => with_unfolding_all walk_at "at"))
  | (refine' Rd.rd_ixL ?ln ?ia ?_; (case ln => with_unfolding_all walk_at "at"); (case ia => with_unfolding_all first | exact Rd.at0 | exact Rd.at1 | exact Rd.at2 | exact Rd.at3 | exact Rd.at4 | rfl)) | (refine' Rd.rd_ixT ?ln ?ia ?_; (case ln => with_unfolding_all walk_at "at"); (case ia => with_unfolding_all first | exact Rd.at0 | exact Rd.at1 | exact Rd.at2 | exact Rd.at3 | exact Rd.at4 | rfl)))
local macro_rules | `(tactic| walk_at "at") => `(tactic| first | assumption | (apply SqL.of; assumption) | (apply SqT.of; assumption) | (apply SqL.of; exact upd_same) | (apply SqT.of; exact upd_same))
local macro_rules | `(tactic| walk_at "rd") => `(tactic| repeat walk_at "rd1")
def chgP (kv : Str × Int) : PyData := .tuple [.str kv.1, .int kv.2]
def trP (t : Tr) : PyData := .tuple [.str t.nm, .str t.src, .str t.tgt, .tuple (t.chg.map chgP)]
section
variable {K : PySem.W.Frag} {H : Hp}
theorem dt_paired {β : Type} {F : Addr → β → Prop} {f : β → PyData} (h : ∀ a b, F a b → Rd.Dt K H (.ref a) (f b)) : ∀ {l : List Addr} {m : List β}, Paired F l m → Rd.DtAll K H (l.map V.ref) (m.map f)
  | _, _, .nil => .nil
  | _, _, .cons r t => .cons (h _ _ r) (dt_paired h t)
theorem dt_strs : ∀ l : List Str, Rd.DtAll K H (l.map V.str) (l.map PyData.str)
  | [] => .nil
  | x :: l => .cons (.str x) (dt_strs l)
theorem TxT.dt {p : Addr} {xs : List Str} (h : TxT K H p xs) : Rd.Dt K H (.ref p) (.tuple (xs.map PyData.str)) := .tup h (dt_strs xs)
theorem ChgAt.dt {c : Addr} {chg : List (Str × Int)} (h : ChgAt K H c chg) : Rd.Dt K H (.ref c) (.tuple (chg.map chgP)) := by
  obtain ⟨ps, h1, h2⟩ := h
  exact .tup h1.sq (dt_paired (fun a b q => show Rd.Dt K H (.ref a) (.tuple [.str b.1, .int b.2]) from .tup q (.cons (.str _) (.cons (.int _) .nil))) h2)
theorem RowAt.dt {p : Addr} {t : Tr} (h : RowAt K H p t) : Rd.Dt K H (.ref p) (trP t) := by
  obtain ⟨c, h1, h2⟩ := h
  exact .tup h1 (.cons (.str _) (.cons (.str _) (.cons (.str _) (.cons h2.dt .nil))))
theorem RowsAt.dt {p : Addr} {ts : List Tr} (h : RowsAt K H p ts) : Rd.Dt K H (.ref p) (.tuple (ts.map trP)) := by
  obtain ⟨ps, h1, h2⟩ := h
  exact .tup h1 (dt_paired (fun a b q => q.dt) h2)
end
theorem can_all {β : Type} (f : β → PyData) (n : Nat) : ∀ l : List β, (∀ b ∈ l, PyData.canLay0 (f b) = true ∧ (f b).depth ≤ n) → PyData.canLayAll0 (l.map f) = true ∧ PyData.depthAll (l.map f) ≤ n
  | [], _ => ⟨rfl, Nat.zero_le _⟩
  | b :: l, h => by
    obtain ⟨i1, i2⟩ := can_all f n l fun y hy => h y (List.mem_cons_of_mem _ hy)
    obtain ⟨j1, j2⟩ := h b List.mem_cons_self
    refine ⟨?_, ?_⟩
    · show (PyData.canLay0 (f b) && PyData.canLayAll0 (l.map f)) = true
      rw [j1, i1]; rfl
    · exact Nat.max_le.mpr ⟨j2, i2⟩
theorem can_tup {β : Type} (f : β → PyData) (n : Nat) {l : List β} (h : ∀ b ∈ l, PyData.canLay0 (f b) = true ∧ (f b).depth ≤ n) : PyData.canLay0 (.tuple (l.map f)) = true ∧ PyData.depth (.tuple (l.map f)) ≤ n + 1 :=
  let ⟨h1, h2⟩ := can_all f n l h
  ⟨h1, Nat.succ_le_succ h2⟩
theorem can_strs {l : List Str} (h : ∀ x ∈ l, isName x = true) : PyData.canLay0 (.tuple (l.map PyData.str)) = true ∧ PyData.depth (.tuple (l.map PyData.str)) ≤ 1 := can_tup PyData.str 0 fun x hx => ⟨name_ok (h x hx), Nat.le_refl _⟩
theorem can_chg {chg : List (Str × Int)} (h : ChgOk chg) : PyData.canLay0 (.tuple (chg.map chgP)) = true ∧ PyData.depth (.tuple (chg.map chgP)) ≤ 2 := can_tup chgP 1 fun kv hkv => ⟨by
  show (PyData.strOk kv.1 && (true && true)) = true
  rw [name_ok (h.2 kv hkv).1]; rfl, Nat.le_refl _⟩
theorem can_tr {t : Tr} (h : TrOk t) : PyData.canLay0 (trP t) = true ∧ (trP t).depth ≤ 3 := by
  obtain ⟨h1, h2, h3, h4, _⟩ := h
  obtain ⟨c1, c2⟩ := can_chg h4
  refine ⟨?_, ?_⟩
  · show (PyData.strOk t.nm && (PyData.strOk t.src && (PyData.strOk t.tgt && (PyData.canLay0 (.tuple (t.chg.map chgP)) && true)))) = true
    rw [name_ok h1, name_ok h2, name_ok h3, c1]; rfl
  · show max 0 (max 0 (max 0 (max (PyData.depth (.tuple (t.chg.map chgP))) 0))) + 1 ≤ 3
    omega
theorem can_rows {ts : List Tr} (h : ∀ t ∈ ts, TrOk t) : PyData.canLay0 (.tuple (ts.map trP)) = true ∧ PyData.depth (.tuple (ts.map trP)) ≤ 4 := can_tup trP 3 fun t ht => can_tr (h t ht)
theorem shaped_of {d : PyData} {n : Nat} (h : d.canLay0 = true ∧ d.depth ≤ n) (hn : n ≤ 64) : SeqAt.shaped d = true := by
  unfold SeqAt.shaped
  rw [h.1, decide_eq_true (Nat.le_trans h.2 hn)]; rfl
theorem val_rows {K : PySem.W.Frag} {H : Hp} : ∀ {rs : List Addr} {ts : List Tr}, Paired (RowAt K H) rs ts → (ts.map (·.nm)).Nodup → ∀ t ∈ ts, ∃ r, valV (rowsD ts rs) (Sum.inr t.nm : Key) = some (V.ref r) ∧ RowAt K H r t
  | _, _, .nil, _, t, h => nomatch h
  | r :: rs, t0 :: ts, .cons q p, nd, t, h => by
    obtain ⟨n1, n2⟩ := List.nodup_cons.mp nd
    by_cases e : t0.nm = t.nm
    · rcases List.mem_cons.mp h with z | z
      · subst z
        exact ⟨r, by unfold valV rowsD; rw [List.zip_cons_cons, List.map_cons, List.find?_cons_of_pos (by simp)]; rfl, q⟩
      · exact absurd (List.mem_map.mpr ⟨t, z, e.symm⟩) n1
    · rcases List.mem_cons.mp h with z | z
      · exact absurd (congrArg Tr.nm z).symm e
      · obtain ⟨r', h1, h2⟩ := val_rows p n2 t z
        refine ⟨r', ?_, h2⟩
        unfold valV rowsD
        rw [List.zip_cons_cons, List.map_cons, List.find?_cons_of_neg (by simpa using e)]
        exact h1
/-- what change answers -/
def chgK (chg : List (Str × Int)) : List (Key × V) := chg.map fun kv => (Sum.inr kv.1, V.int kv.2)
def keyS (v : V) : Key := match v with | .str c => Sum.inr c | _ => Sum.inl 0
def spGEq (K : PySem.W.Frag) (C : Addr) : Sp := Rd.mkSp (fun (a : Addr × Addr × Gr) => [.ref a.1, .ref a.2.1]) fun a H Q _ => GraphAt K C H a.1 a.2.2 ∧ GraphAt K C H a.2.1 a.2.2 ∧ GOk a.2.2 ∧ Q (.bl true) H
section
variable {gd : Bool} {P : Program} {w : World} {K : PySem.W.Frag} {mg : Str → Option Value} {base : Heap} {a : AdsG}
theorem ok_geq (T : GraphC K mg a) (g : Glob mg) (F : Rd.HasAt K a.eq "__eq__" "Graph.__eq__" s_Graph___eq__) : FnR P w K mg base CX0 1 a.eq (spGEq K a.C) := by
  refine Rd.FnG.toR (F.fn sc_Graph___eq__ (fun _ => rfl) (fun _ _ _ _ _ _ us hl => match us, hl with | [_, _], _ => rfl) fun cdv A outer s H Q E b hr h => ?_)
  obtain ⟨x, y, G⟩ := b
  obtain ⟨hA, hB, GO, k⟩ := h
  have ty := T.ty hB
  obtain ⟨dx, pc, ps, pt, pn, pr, rs, hx, hG⟩ := hA
  obtain ⟨dy, qc, qs, qt, qn, qr, us, hy, hJ⟩ := hB
  dsimp only at hx hG hy hJ k GO ty
  refine ⟨_, (pss_cons (ps_if (PW.pt (pw_or (pt_not (pt_val (pe_callB Rd.c_isi (by rfl) g.isinstance (by decide +kernel) (pa_cons (pv 1) (pa_cons (Rd.pe_glr (by rfl) T.mgC) pa_nil))))) (pw_or1 (pt_cmpR (op_neD hr.units) (pe_fld (pv 0) rfl) (pe_fld (pv 1) rfl) (nomark _))))) (pss_one (ps_ret pe_bl)) pss_nil)
      (pss_one (ps_ret (pe_and (pe_cmpR (op_eqD hr.units) (pe_fld (pv 0) rfl) (pe_fld (pv 1) rfl) (nomark _)) (pe_one (pe_cmpR (op_eqD hr.units) (pe_fld (pv 0) rfl) (pe_fld (pv 1) rfl) (nomark _))))))), ?_⟩
  try simp only [Rd.noxK, Rd.cxK]
  refine Rd.rd_start [some (V.ref x), some (V.ref y)] rfl ?_
  walk_at "rd"
  refine Rd.rd_isiC ty T.i1 ?_
  walk_at "rd"
  refine Rd.if_f rfl ?_
  walk_at "rd"
  refine ⟨x, a.C, dx, _, V.ref pc, rfl, hx, T.cl, T.nC, rfl, ?_⟩
  walk_at "rd"
  refine ⟨y, a.C, dy, _, V.ref qc, rfl, hy, T.cl, T.nC, rfl, ?_⟩
  have sc := can_strs GO.cN
  have sn := can_strs GO.nN
  have st := can_rows GO.tO
  walk_at "rd"
  refine Rd.rd_neD (Rd.Dt.dp _ _ hG.c.dt) (Rd.Dt.dp _ _ hJ.c.dt) (shaped_of sc (by decide)) (shaped_of sc (by decide)) ?_
  rw [SeqAt.eqv_refl _ sc.1]
  walk_at "rd"
  refine Rd.if_f rfl ?_
  walk_at "rd"
  refine ⟨x, a.C, dx, _, V.ref ps, rfl, hx, T.cl, T.nS, rfl, ?_⟩
  walk_at "rd"
  refine ⟨y, a.C, dy, _, V.ref qs, rfl, hy, T.cl, T.nS, rfl, ?_⟩
  walk_at "rd"
  refine Rd.rd_eqD (Rd.Dt.dp _ _ hG.s.dt) (Rd.Dt.dp _ _ hJ.s.dt) (shaped_of sn (by decide)) (shaped_of sn (by decide)) ?_
  rw [SeqAt.eqv_refl _ sn.1]
  walk_at "rd"
  refine Rd.if_t rfl ?_
  walk_at "rd"
  refine ⟨x, a.C, dx, _, V.ref pt, rfl, hx, T.cl, T.nT, rfl, ?_⟩
  walk_at "rd"
  refine ⟨y, a.C, dy, _, V.ref qt, rfl, hy, T.cl, T.nT, rfl, ?_⟩
  walk_at "rd"
  refine Rd.rd_eqD (Rd.Dt.dp _ _ (RowsAt.dt ⟨rs, hG.t, hG.tP⟩)) (Rd.Dt.dp _ _ (RowsAt.dt ⟨us, hJ.t, hJ.tP⟩)) (shaped_of st (by decide)) (shaped_of st (by decide)) ?_
  rw [SeqAt.eqv_refl _ st.1]
  exact k
end
end M
set_option Elab.async false
set_option linter.all false
set_option maxRecDepth 100000
set_option maxHeartbeats 4000000
namespace M
open PySem L2
local macro_rules | `(tactic| walk_at "rdc") => `(tactic| first | exact Or.inl ⟨by decide, by decide⟩ | exact Or.inr ⟨by decide, by decide⟩ | exact ⟨by decide, by decide, by decide⟩ | exact ⟨by decide, by decide⟩ | decide | omega | assumption | (refine Or.inl ⟨?_, ?_⟩ <;> omega) | (refine Or.inr ⟨?_, ?_⟩ <;> omega) | (refine ⟨?_, ?_⟩ <;> omega))
local macro_rules | `(tactic| walk_at "rd1") => `(tactic| with_reducible first
  | refine Rd.rd_seq ?_ | refine Rd.rd_asg ?_ | refine Rd.rd_op ?_ | (refine' Rd.rd_var ?vh ?_; (case vh => with_unfolding_all rfl)) | refine Rd.rd_c ?_ | refine Rd.rd_I0 ?_ | refine Rd.rd_name0 ?_ | refine Rd.rd_nameS ?_ | refine Rd.rd_fn ?_
  | refine Rd.rd_cb ?_ | refine Rd.rd_cons ?_ | refine Rd.rd_nil ?_ | refine Rd.rd_int ?_ | refine Rd.rd_intB ?_ | refine Rd.rd_abs ?_ | refine Rd.rd_max2 ?_ | refine Rd.rd_min2 ?_
  | refine Rd.rd_call ?_ | refine Rd.rd_ifE ?_ | refine Rd.rd_test ?_ | refine Rd.rd_tB ?_ | refine Rd.rd_blV ?_ | refine Rd.rd_and ?_ | refine Rd.rd_or ?_ | refine Rd.rd_not ?_
  | refine Rd.rd_andV ?_ | refine Rd.rd_orV ?_ | refine Rd.rd_notV ?_ | refine Rd.rd_next ?_ | refine Rd.rd_ret ?_ | refine Rd.rd_drop ?_ | refine Rd.rd_ifS ?_ | refine Rd.rd_nx ?_ | refine Rd.rd_rt ?_ | refine Rd.rd_tMatch ?_ | refine Rd.rd_tCO ?_ | refine Rd.rd_tRevL ?_ | refine Rd.rd_tStar ?_ | refine Rd.rd_joined ?_ | refine Rd.rd_js1 ?_ | refine Rd.rd_js0 ?_ | refine Rd.rd_fmt ?_ | refine Rd.rd_propR ?_ | refine Rd.rd_iZipA ?_ | refine Rd.rd_iEnumT ?_ | refine Rd.rd_iOwn ?_ | (refine' Rd.rd_IET ?ln ?_; (case ln => with_unfolding_all walk_at "at")) | refine Rd.rd_chain ?_ | refine Rd.rd_tPar ?_ | refine Rd.rd_par ?_ | refine Rd.rd_sl ?_ | refine Rd.rd_noPart ?_ | refine Rd.rd_part ?_ | refine Rd.rd_intV ?_ | refine Rd.rd_lc ?_ | (refine' Rd.rd_aug ?vh ?_; (case vh => with_unfolding_all rfl)) | refine Rd.rd_ipI ?_ | refine Rd.rd_for ?_ | (refine' Rd.rd_IT ?ln ?_; (case ln => with_unfolding_all walk_at "at")) | (refine' Rd.rd_IL ?ln ?_; (case ln => with_unfolding_all walk_at "at")) | refine Rd.rd_iTup ?_ | refine Rd.rd_iList ?_ | refine Rd.rd_iRng1 ?_ | refine Rd.rd_iRng2 ?_ | refine Rd.rd_isi (Rd.isi_int Rd.kk_int_int) ?_ | refine Rd.rd_isi (Rd.isi_int Rd.kk_int_bool) ?_ | refine Rd.rd_dget ?_ | refine Rd.rd_din ?_ | refine Rd.rd_dnotin ?_ | refine Rd.rd_dput ?_ | refine Rd.rd_dc ?_ | refine Rd.rd_lc2 ?_ | refine Rd.rd_ltS ?_ | refine Rd.rd_inSg ?_ | refine Rd.rd_iStr ?_ | refine Rd.rd_IS ?_ | refine Rd.rd_prC ?_ | refine Rd.rd_prN ?_ | refine Rd.rd_methR ?_ | refine Rd.rd_cmeth ?_ | refine Rd.rd_fldS ?_ | refine Rd.rd_fld ?_ | (refine' Rd.rd_mkVS ?vh ?_; (case vh => with_unfolding_all rfl)) | (refine' Rd.rd_starT ?ln ?_; (case ln => with_unfolding_all walk_at "at")) | refine Rd.rd_iEnum ?_ | refine Rd.rd_iZip ?_ | (refine' Rd.rd_IE ?ln ?_; (case ln => with_unfolding_all walk_at "at")) | (refine' Rd.rd_IZ ?ln ?lm ?_; (case ln => with_unfolding_all walk_at "at"); (case lm => with_unfolding_all walk_at "at")) | (refine' Rd.rd_gTup ?ln ?lk ?_; (case ln => with_unfolding_all walk_at "at"); (case lk => with_unfolding_all rfl)) | refine Rd.rd_gCons ?_ | refine Rd.rd_gNil ?_ | refine Rd.rd_m1 ?_ | refine Rd.rd_strV ?_ | refine Rd.rd_tXiM ?_ | refine Rd.rd_tXiB ?_ | refine Rd.rd_tXiS ?_ | refine Rd.rd_bm ?_ | refine Rd.rd_bm0 ?_ | refine Rd.rd_isN ?_ | refine Rd.rd_notN ?_ | refine Rd.rd_sub ?_ | refine Rd.rd_un ?_ | refine Rd.rd_U ?_
  | (refine' Rd.rd_eq ?sc ?_; (case sc => with_unfolding_all rfl)) | (refine' Rd.rd_ne ?sc ?_; (case sc => with_unfolding_all rfl))
  | (refine' Rd.rd_I ?cc ?_; (case cc => with_unfolding_all walk_at "rdc"))
  | (refine' Rd.rd_lenL ?ln ?_; (case ln => with_unfolding_all walk_at "at")) | (refine' Rd.rd_lenT ?ln ?_; (case ln => with_unfolding_all walk_at "at"))
  | (refine' Rd.rd_ixL ?ln ?ia ?_; (case ln => with_unfolding_all walk_at "at"); (case ia => with_unfolding_all first | exact Rd.at0 | exact Rd.at1 | exact Rd.at2 | exact Rd.at3 | exact Rd.at4 | rfl)) | (refine' Rd.rd_ixT ?ln ?ia ?_; (case ln => with_unfolding_all walk_at "at"); (case ia => with_unfolding_all first | exact Rd.at0 | exact Rd.at1 | exact Rd.at2 | exact Rd.at3 | exact Rd.at4 | rfl)))
local macro_rules | `(tactic| walk_at "at") => `(tactic| first | assumption | (apply SqL.of; assumption) | (apply SqT.of; assumption) | (apply SqL.of; exact upd_same) | (apply SqT.of; exact upd_same))
local macro_rules | `(tactic| walk_at "rd") => `(tactic| repeat walk_at "rd1")
abbrev s__law_mixed : Stmt := top 46
theorem sc__law_mixed : FnScope ["_law_dice_here", "_law_items", "_law_left", "_law_turn"] ["_law_dice_here", "_law_items"] (defScope s__law_mixed) := ⟨rfl, rfl, rfl, by decide +kernel, rfl, by decide +kernel, by decide +kernel⟩
abbrev s__law_change : Stmt := top 47
theorem sc__law_change : FnScope ["_law_dice_here", "_law_counters", "_law_found", "_law_turn", "_law_counter"] ["_law_dice_here", "_law_counters"] (defScope s__law_change) := ⟨rfl, rfl, rfl, by decide +kernel, rfl, by decide +kernel, by decide +kernel⟩
theorem none_pre {H H1 : Hp} {D : Addr} (s : Same H H1) (h : H1 D = none) : H D = none := by
  cases e : H D with
  | none => rfl
  | some o => rw [s _ _ e] at h; cases h
theorem none_rol {H H1 : Hp} {d D : Addr} (r : Rolled d H H1) (hD : Dice H d) (h : H1 D = none) : H D = none := by
  cases e : H D with
  | none => rfl
  | some o =>
    by_cases q : D = d
    · obtain ⟨x, y, z, w⟩ := r.dice
      rw [q, w] at h; cases h
    · rw [r.keep _ _ q e] at h; cases h
theorem erase_perm {α : Type} : ∀ (l : List α) (j : Nat) (h : j < l.length), (l[j] :: l.eraseIdx j).Perm l
  | x :: l, 0, _ => List.Perm.refl _
  | x :: l, j + 1, h => by
    have ih := erase_perm l j (by simpa using h)
    exact (List.Perm.swap _ _ _).trans (ih.cons x)
theorem ints_of {ns : List Int} {v : V} {p : Int → Bool} (hp : ns.all p = true) (h : v ∈ ns.map V.int) : ∃ i : Int, v = .int i ∧ p i = true := by
  obtain ⟨i, hi, rfl⟩ := List.mem_map.mp h
  exact ⟨i, rfl, List.all_eq_true.mp hp i hi⟩
theorem strs_of {ns : List Str} {v : V} (h : v ∈ ns.map V.str) : ∃ x, v = .str x ∧ x ∈ ns := by
  obtain ⟨i, hi, rfl⟩ := List.mem_map.mp h
  exact ⟨i, rfl, hi⟩
/-- pairs sorted by their text -/
theorem pairs_sorted {K : PySem.W.Frag} {H : Hp} {ps : List Addr} {chg : List (Str × Int)} (hP : Paired (PairAt K H) ps chg) {ys : List (Str × Addr)} (hp : ys.Perm ((chg.zip ps).map fun z => (z.1.1, z.2))) (ha : Rd.Asc (ys.map (·.1))) :
    ∃ chg', chg'.Perm chg ∧ Rd.Asc (chg'.map (·.1)) ∧ Paired (PairAt K H) (ys.map (·.2)) chg' := by
  obtain ⟨zs, p1, e1⟩ := perm_map_inv (fun z : (Str × Int) × Addr => (z.1.1, z.2)) hp _ rfl
  have hl : chg.length = ps.length := hP.length.symm
  refine ⟨zs.map (·.1), ?_, ?_, ?_⟩
  · have := p1.map (·.1)
    rw [zip_fst hl] at this
    exact this
  · have e2 : ys.map (·.1) = (zs.map (·.1)).map (·.1) := by rw [e1, List.map_map, List.map_map]; rfl
    rw [← e2]; exact ha
  · have e4 : ys.map (·.2) = zs.map (·.2) := by rw [e1, List.map_map]; rfl
    rw [e4]
    exact paired_map2 _ _ fun z hz => paired_zip hP z (p1.mem_iff.mp hz)
/-- the items in some order -/
def spMixP (K : PySem.W.Frag) : Sp := Rd.mkSp (fun (a : Addr × Addr × List V) => [.ref a.1, .ref a.2.1]) fun a H Q _ => Dice H a.1 ∧ a.2.1 ≠ a.1 ∧ SqL K H a.2.1 a.2.2 ∧ a.2.2.length < 1000 ∧
  ∀ D ys H', H D = none → ys.Perm a.2.2 → Rolled a.1 H H' → H' D = some (.lst ys) → Q (.ref D) H'
def spDrawChg (K : PySem.W.Frag) : Sp := Rd.mkSp (fun (a : Addr × Addr × List Str) => [.ref a.1, .ref a.2.1]) fun a H Q _ => Dice H a.1 ∧ a.2.1 ≠ a.1 ∧ SqL K H a.2.1 (a.2.2.map V.str) ∧ (a.2.2 ≠ [] ∧ a.2.2.length ≤ 5 ∧ ∀ c ∈ a.2.2, isName c = true) ∧
  ∀ p H' chg, Rolled a.1 H H' → ChgAt K H' p chg → ChgOk chg → (∀ kv ∈ chg, kv.1 ∈ a.2.2) → chg.length ≤ 5 → Q (.ref p) H'
theorem rd_keys {td : TE} {σ : L2.St} {H : Hp} {R : It → Hp → Prop} (h : td σ H fun x H1 => ∃ d o, x = .ref d ∧ ((∃ kvs, H1 d = some (.frz o (.dK kvs)) ∧ R (Itk d o kvs) H1) ∨ ∃ kvs, H1 d = some (.frz o (.dT kvs)) ∧ R (Itkt d o kvs) H1)) : iKeys td σ H R := h
theorem val_chgK : ∀ {chg : List (Str × Int)}, (chg.map (·.1)).Nodup → ∀ kv ∈ chg, valV (chgK chg) (Sum.inr kv.1 : Key) = some (V.int kv.2)
  | [], _, kv, h => nomatch h
  | x :: chg, nd, kv, h => by
    obtain ⟨n1, n2⟩ := List.nodup_cons.mp nd
    by_cases e : x.1 = kv.1
    · rcases List.mem_cons.mp h with z | z
      · subst z
        unfold valV chgK
        rw [List.map_cons, List.find?_cons_of_pos (by simp)]; rfl
      · exact absurd (List.mem_map.mpr ⟨kv, z, e.symm⟩) n1
    · rcases List.mem_cons.mp h with z | z
      · exact absurd (congrArg Prod.fst z).symm e
      · have ih := val_chgK n2 kv z
        unfold valV chgK at ih ⊢
        rw [List.map_cons, List.find?_cons_of_neg (by simpa using e)]
        exact ih
/-- one more entry -/
theorem put_chgK {chg : List (Str × Int)} (nd : (chg.map (·.1)).Nodup) (c : Str) (i : Int) : ∃ chg', putK (chgK chg) (Sum.inr c) (V.int i) = chgK chg' ∧ (chg'.map (·.1)).Nodup ∧ (∀ kv ∈ chg', kv ∈ chg ∨ kv = (c, i)) ∧ chg'.length ≤ chg.length + 1 := by
  unfold putK
  by_cases h : ((chgK chg).any fun kv => decide (kv.1 = (Sum.inr c : Key))) = true
  · rw [if_pos h]
    refine ⟨chg.map fun kv => if kv.1 = c then (kv.1, i) else kv, ?_, ?_, ?_, ?_⟩
    · unfold chgK
      rw [List.map_map, List.map_map]
      refine List.map_congr_left fun kv _ => ?_
      by_cases e : kv.1 = c
      · simp [e]
      · simp [e]
    · rw [List.map_map]
      have e : chg.map ((fun x : Str × Int => x.1) ∘ fun kv => if kv.1 = c then (kv.1, i) else kv) = chg.map (·.1) := List.map_congr_left fun kv _ => by
        by_cases e : kv.1 = c <;> simp [e]
      rw [e]; exact nd
    · intro kv hkv
      obtain ⟨x, hx, rfl⟩ := List.mem_map.mp hkv
      by_cases e : x.1 = c
      · exact .inr (by simp [e])
      · exact .inl (by simpa [e] using hx)
    · rw [List.length_map]; omega
  · rw [if_neg h]
    refine ⟨chg ++ [(c, i)], ?_, ?_, ?_, ?_⟩
    · unfold chgK; rw [List.map_append]; rfl
    · rw [List.map_append]
      refine List.nodup_append.mpr ⟨nd, by simp, fun a ha b hb e => h ?_⟩
      obtain ⟨x, hx, rfl⟩ := List.mem_map.mp ha
      rw [List.mem_singleton.mp hb] at e
      exact List.any_eq_true.mpr ⟨(Sum.inr x.1, V.int x.2), List.mem_map.mpr ⟨x, hx, rfl⟩, decide_eq_true (by rw [e])⟩
    · intro kv hkv
      rcases List.mem_append.mp hkv with q | q
      · exact .inl q
      · exact .inr (List.mem_singleton.mp q)
    · rw [List.length_append]; exact Nat.le_refl _
section
variable {gd : Bool} {P : Program} {w : World} {K : PySem.W.Frag} {mg : Str → Option Value} {base : Heap}
theorem ok_mixP (F : Rd.Has K mg "_law_mixed" s__law_mixed) (g : Glob mg) (c__law_roll : Rd.Fn gd P w K mg base CX0 1 "_law_roll" spRoll) : Rd.Fn gd P w K mg base CX0 2 "_law_mixed" (spMixP K) := by
  refine F.fn sc__law_mixed (fun _ => rfl) (fun _ _ _ _ _ _ us hl => match us, hl with | [_, _], _ => rfl) fun f cdv A outer s H Q E a hr h => ?_
  obtain ⟨d, a, xs⟩ := a
  obtain ⟨hD, hne, hS, hz, k⟩ := h
  dsimp only at hD hne hS hz k
  refine ⟨_, (pss_cons (ps_set (i := 2) sc__law_mixed.nd rfl (Or.inr rfl) (pe_callTy Rd.c_list (by rfl) g.list (by decide +kernel) (pa_cons (pv 1) pa_nil)))
      (pss_one (ps_ret (pe_lc (own := [("_law_turn", 3)]) (by rfl) sc__law_mixed.nd (pi_range1 (by rfl) g.range (pa_cons (pe_callB Rd.c_len (by rfl) g.len (by decide +kernel) (pa_cons (pv 1) pa_nil)) pa_nil)) (blkOk_by (own := [("_law_turn", 3)]) (N := ["_law_dice_here", "_law_items", "_law_left", "_law_turn"]) (sc := defScope s__law_mixed) (by decide +kernel)) (fun _ _ _ _ _ => (pg_name (i := 3) sc__law_mixed.nd rfl (Or.inl rfl))) (fun _ _ _ _ _ => pts_nil) (fun _ _ _ _ _ => (Rd.pe_bmK (K := K) (by rfl) PySem.F.plainAttrs_list PySem.F.slot_list_pop PySem.F.type_list_pop mt_popAt (pv 2) (pa_cons (Rd.pe_fn c__law_roll (hr.mono (by decide)) (by rfl) (pa_cons (pv 0) (pa_cons (pe_callB (Rd.c_lenK (K := K) (by rfl)) (by rfl) g.len (by decide +kernel) (pa_cons (pv 2) pa_nil)) pa_nil))) pa_nil))))))), ?_⟩
  try simp only [Rd.noxK, Rd.cxK]
  refine Rd.rd_start [some (V.ref d), some (V.ref a), none, none] rfl ?_
  walk_at "rd"
  refine Rd.rd_listL hS fun l H1 hl s1 h1 => ?_
  have hS1 : SqL K H1 a xs := L2.Same.seq s1 hS
  have hld : l ≠ d := hD.ne hl
  walk_at "rd"
  refine Rd.rd_IR1 (by omega) (by omega) ?_
  rw [show ((xs.length : Nat) : Int).toNat = xs.length from Int.toNat_natCast _]
  refine Rd.lc_rngI (lo := 0) (fun i D acc H2 => ∃ zs : List V, acc.length = i ∧ (acc ++ zs).Perm xs ∧ Rolled d H H2 ∧ H2 l = some (.lst zs) ∧ H2 D = some (.lst acc) ∧ D ≠ l ∧ D ≠ d) (fun D hD1 => ?_) (fun i D acc H2 N hi hD1 p hN => ?_) (fun D acc H2 hD1 p => ?_)
  · have n1 : D ≠ l := (ne_of_none h1 hD1).symm
    have n2 : D ≠ d := (hD.same s1).ne hD1
    exact ⟨xs, rfl, List.Perm.refl _, ((Rolled.refl hD).same s1).same (Rd.same_new hD1), by rw [upd_ne n1.symm]; exact h1, upd_same, n1, n2⟩
  · obtain ⟨zs, e2, pm, R, hl2, hD2, n1, n2⟩ := p
    have e1 : zs.length + i = xs.length := by have := pm.length_eq; rw [List.length_append] at this; omega
    have hL : SqL K H2 l zs := SqL.of hl2
    refine Rd.rd_start' [some (V.ref d), some (V.ref a), some (V.ref l), none] rfl ?_
    walk_at "rd"
    refine ⟨rfl, ?_⟩
    walk_at "rd"
    refine ⟨Rd.tyL hL, ?_⟩
    walk_at "rd"
    refine rd_roll R.dice (by omega) (by omega) fun r H3 r0 r1 R3 => ?_
    walk_at "rd"
    obtain ⟨j, rfl⟩ : ∃ j : Nat, r = (j : Int) := ⟨r.toNat, by omega⟩
    have hj : j < zs.length := by omega
    have h3 : H3 l = some (.lst zs) := R3.keep _ _ hld hl2
    refine Rd.rd_popAt h3 hj (by omega) ?_
    have hDa : H3 D = some (.lst acc) := R3.keep _ _ n2 hD2
    have R4 : Rolled d H (upd H3 l (.lst (zs.eraseIdx j))) := (R.trans R3).mut hl hld
    refine hN _ _ (by rw [upd_ne n1]; exact hDa) (by rw [e2]; exact Rd.small64 (by omega)) ⟨zs.eraseIdx j, ?_, ?_, R4.mut (none_pre s1 hD1) n2, ?_, upd_same, n1, n2⟩
    · rw [List.length_append, e2]; rfl
    · rw [List.append_assoc]
      exact ((erase_perm zs j hj).append_left acc).trans pm
    · rw [upd_ne n1.symm, upd_same]
  · obtain ⟨zs, e2, pm, R, hl2, hD2, n1, n2⟩ := p
    have e1 : zs.length = 0 := by have := pm.length_eq; rw [List.length_append] at this; omega
    rw [List.eq_nil_of_length_eq_zero e1, List.append_nil] at pm
    exact k D acc H2 (none_pre s1 hD1) pm R hD2
theorem ok_drawChg (F : Rd.Has K mg "_law_change" s__law_change) (g : Glob mg) (c__law_one_of : Rd.Fn gd P w K mg base CX0 2 "_law_one_of" (spOneOf K)) : Rd.Fn gd P w K mg base CX0 3 "_law_change" (spDrawChg K) := by
  refine F.fn sc__law_change (fun _ => rfl) (fun _ _ _ _ _ _ us hl => match us, hl with | [_, _], _ => rfl) fun f cdv A outer s H Q E a hr h => ?_
  obtain ⟨d, c, cs⟩ := a
  obtain ⟨hD, hne, hS, ⟨hc0, hc5, hcn⟩, k⟩ := h
  dsimp only at hD hne hS hc0 hc5 hcn k
  refine ⟨_, (pss_cons (ps_set (i := 2) sc__law_change.nd rfl (Or.inr rfl) pe_dnewK)
      (pss_cons (ps_for PassesOwn.never rfl (pi_range1 (by rfl) g.range (pa_cons (Rd.pe_fn c__law_one_of (hr.mono (by decide)) (by rfl) (pa_cons (pv 0) (pa_cons (Rd.pe_lst (pa_cons pe_int (pa_cons pe_int (pa_cons pe_int (pa_cons pe_int (pa_cons pe_int (pa_cons pe_int pa_nil))))))) pa_nil))) pa_nil)) (pg_name (i := 3) sc__law_change.nd rfl (Or.inl rfl)) (pss_one (ps_dput (hu_of hr.toRoom) (pv 2) (Rd.pe_fn c__law_one_of (hr.mono (by decide)) (by rfl) (pa_cons (pv 0) (pa_cons (pv 1) pa_nil))) (Rd.pe_fn c__law_one_of (hr.mono (by decide)) (by rfl) (pa_cons (pv 0) (pa_cons (Rd.pe_lst (pa_cons (pe_un un_neg pe_int) (pa_cons (pe_un un_neg pe_int) (pa_cons pe_int (pa_cons pe_int (pa_cons (pe_un un_neg pe_int) (pa_cons pe_int (pa_cons (pe_un un_neg pe_int) (pa_cons pe_int (pa_cons (pe_un un_neg pe_int) pa_nil)))))))))) pa_nil))) (by rfl))))
      (pss_one (ps_ret (pe_callTy Rd.c_tupleF (by rfl) g.tuple (by decide +kernel) (pa_cons (pe_callB Rd.c_sortK (by rfl) g.sorted (by decide +kernel) (pa_cons (pe_lock (pe_lc (own := [("_law_counter", 4)]) (by rfl) sc__law_change.nd (pi_keys (pv 2)) (blkOk_by (own := [("_law_counter", 4)]) (N := ["_law_dice_here", "_law_counters", "_law_found", "_law_turn", "_law_counter"]) (sc := defScope s__law_change) (by decide +kernel)) (fun _ _ _ _ _ => (pg_name (i := 4) sc__law_change.nd rfl (Or.inl rfl))) (fun _ _ _ _ _ => pts_nil) (fun _ _ _ _ _ => (Rd.pe_tup (pa_cons (pv 4) (pa_cons (pe_dget (hu_of hr.toRoom) (pv 2) (pv 4) (fun _ _ => rfl)) pa_nil)))))) pa_nil)) pa_nil)))))), ?_⟩
  try simp only [Rd.noxK, Rd.cxK]
  refine Rd.rd_start [some (V.ref d), some (V.ref c), none, none, none] rfl ?_
  walk_at "rd"
  intro F hF
  have hFd : F ≠ d := hD.ne hF
  have s1 : Same H (upd H F (.dK [])) := Rd.same_new hF
  have h1 : upd H F (.dK []) F = some (.dK (chgK [])) := upd_same
  generalize upd H F (.dK []) = H1 at s1 h1
  walk_at "rd"
  refine Rd.rd_mkLst (by show 6 ≤ sizeLine; decide) fun l H2 hl s2 h2 => ?_
  walk_at "rd"
  have D2 : Dice H2 d := (hD.same s1).same s2
  refine rd_one D2 ((hD.same s1).ne hl) (SqL.of h2) (by show 0 < 6; decide) (by show 6 < 1000; decide) fun v H3 hv R3 => ?_
  obtain ⟨n, rfl, hn⟩ := ints_of (ns := [0, 1, 1, 2, 2, 3]) (p := fun i => decide (0 ≤ i ∧ i ≤ 3)) (by decide) hv
  have hn : 0 ≤ n ∧ n ≤ 3 := of_decide_eq_true hn
  walk_at "rd"
  refine Rd.rd_IR1 (by omega) (by omega) ?_
  have R03 : Rolled d H H3 := Rolled.pre (s1.trans s2) R3
  refine Rd.for_range (fun i σ' H' => ∃ (chg : List (Str × Int)) (t : Option V), σ' = [some (V.ref d), some (V.ref c), some (V.ref F), t, none] ∧ Rolled d H H' ∧ H' F = some (.dK (chgK chg)) ∧ (chg.map (·.1)).Nodup ∧ (∀ kv ∈ chg, kv.1 ∈ cs ∧ -9 ≤ kv.2 ∧ kv.2 ≤ 9 ∧ kv.2 ≠ 0) ∧ chg.length ≤ i) ?_ (fun i σ' H4 hi p => ?_) (fun σ' H4 p => ?_)
  · exact ⟨[], none, rfl, R03, R3.keep _ _ hFd (s2 _ _ h1), List.nodup_nil, fun kv z => (List.not_mem_nil z).elim, Nat.le_refl _⟩
  · obtain ⟨chg, t, rfl, R4, h4, nd, hok, hlen⟩ := p
    refine Rd.rd_start' [some (V.ref d), some (V.ref c), some (V.ref F), t, none] rfl ?_
    walk_at "rd"
    refine Rd.rd_mkLst (by show 9 ≤ sizeLine; decide) fun l5 H5 hl5 s5 h5 => ?_
    walk_at "rd"
    have R5 := R4.same s5
    refine rd_one R5.dice (R4.dice.ne hl5) (SqL.of h5) (by show 0 < 9; decide) (by show 9 < 1000; decide) fun v H6 hv R6 => ?_
    obtain ⟨m, rfl, hm⟩ := ints_of (ns := [-1, -1, 1, 1, -2, 2, -3, 9, -9]) (p := fun i => decide (-9 ≤ i ∧ i ≤ 9 ∧ i ≠ 0)) (by decide) hv
    have hm : -9 ≤ m ∧ m ≤ 9 ∧ m ≠ 0 := of_decide_eq_true hm
    have R06 := R5.trans R6
    walk_at "rd"
    refine rd_one R06.dice hne (R06.sqL hne hS) (by rw [List.length_map]; exact List.length_pos_iff.mpr hc0) (by rw [List.length_map]; omega) fun v H7 hv R7 => ?_
    obtain ⟨x, rfl, hx⟩ := strs_of hv
    have R07 := R06.trans R7
    have h7 : H7 F = some (.dK (chgK chg)) := R7.keep _ _ hFd (R6.keep _ _ hFd (s5 _ _ h4))
    obtain ⟨chg', e', nd', hm', hl'⟩ := put_chgK nd x m
    refine ⟨F, _, rfl, Rd.dp_s h7 (by unfold chgK; rw [List.length_map]; exact Nat.lt_of_le_of_lt (show chg.length ≤ 3 by omega) (by decide)), ?_⟩
    rw [e']
    refine ⟨chg', _, rfl, R07.mut hF hFd, upd_same, nd', fun kv hkv => ?_, by omega⟩
    rcases hm' kv hkv with q | q
    · exact hok kv q
    · rw [q]; exact ⟨hx, hm⟩
  · obtain ⟨chg, t, rfl, R4, h4, nd, hok, hlen⟩ := p
    have hlen : chg.length ≤ 3 := by omega
    walk_at "rd"
    refine ⟨F, _, h4, trivial, fun od => ?_⟩
    walk_at "rd"
    have b5 : SameBut F H4 (upd H4 F (.frz od (.dK (chgK chg)))) := SameBut.upd
    have h5 : upd H4 F (.frz od (.dK (chgK chg))) F = some (.frz od (.dK (chgK chg))) := upd_same
    generalize upd H4 F (.frz od (.dK (chgK chg))) = H5 at b5 h5
    refine rd_keys ?_
    walk_at "rd"
    refine ⟨F, od, rfl, .inl ⟨chgK chg, h5, ?_⟩⟩
    have lk : (chgK chg).length = chg.length := by unfold chgK; rw [List.length_map]
    refine Rd.lc_invI (n := chg.length) (fun i x => ∃ kv, chg[i]? = some kv ∧ x = .str kv.1) (fun i D acc H' => ∃ ps : List Addr, acc = ps.map V.ref ∧ Paired (PairAt K H') ps (chg.take i) ∧ Same H5 H' ∧ H' D = some (.lst acc)) (fun i D acc H' hi p => ?_) (fun D acc H' p => ?_) (fun i D acc H' x H2 p y => ?_) (fun D hD5 => ?_) (fun i x D acc H6 N hi hx hD5 p hN => ?_) (fun D acc H6 hD5 p => ?_)
    · obtain ⟨ps, e1, e2, s6, e3⟩ := p
      exact ⟨s6 _ _ h5, by rw [lk]; exact hi⟩
    · obtain ⟨ps, e1, e2, s6, e3⟩ := p
      exact ⟨s6 _ _ h5, by rw [lk]; exact Nat.le_refl _⟩
    · obtain ⟨rfl, kk, vv, hk, rfl⟩ := y
      refine ⟨rfl, ?_⟩
      unfold chgK at hk
      rw [List.getElem?_map] at hk
      obtain ⟨kv, hkv, e⟩ := Option.map_eq_some_iff.mp hk
      exact ⟨kv, hkv, by rw [← (Prod.mk.inj e).1]; rfl⟩
    · exact ⟨[], rfl, .nil, Rd.same_new hD5, upd_same⟩
    · obtain ⟨ps, e1, e2, s6, e3⟩ := p
      obtain ⟨kv, hkv, rfl⟩ := hx
      refine Rd.rd_start' [some (V.ref d), some (V.ref c), some (V.ref F), t, none] rfl ?_
      walk_at "rd"
      refine ⟨rfl, ?_⟩
      walk_at "rd"
      refine ⟨F, V.int kv.2, rfl, .inl ⟨chgK chg, Sum.inr kv.1, .inr ⟨od, s6 _ _ h5⟩, rfl, (val_chgK nd kv (List.mem_of_getElem? hkv)).symm⟩, ?_⟩
      walk_at "rd"
      refine Rd.rd_mkTup (by show 2 ≤ sizeLine; decide) fun q H7 hq s7 h7 => ?_
      have le : acc.length ≤ 3 := by rw [e1, List.length_map, e2.length, List.length_take]; omega
      refine hN _ _ (s7 _ _ e3) (Nat.lt_of_le_of_lt le (by decide)) ⟨ps ++ [q], by rw [e1, List.map_append]; rfl, ?_, fun b o e => ?_, upd_same⟩
      · have kp8 : Kp H7 (upd H7 D (.lst (acc ++ [V.ref q]))) := kp_upd (s7 _ _ e3) rfl
        rw [List.take_add_one, hkv]
        refine paired_app (L2.Paired.mapP e2 fun _ _ z => kp8.sqT ((kpS s7).sqT z)) (.cons ?_ .nil)
        exact kp8.sqT (SqT.of h7)
      · rw [upd_ne (ne_of_none e hD5)]
        exact s7 _ _ (s6 _ _ e)
    · obtain ⟨ps, e1, e2, s6, e3⟩ := p
      rw [List.take_length] at e2
      have h6 := s6 _ _ h5
      refine ⟨h6, ?_⟩
      have hDF : D ≠ F := (ne_of_none h5 hD5).symm
      have kp7 : Kp H6 (upd H6 F (.dK (chgK chg))) := kp_upd h6 rfl
      have h7D : upd H6 F (.dK (chgK chg)) D = some (.lst acc) := by rw [upd_ne hDF]; exact e3
      have R7 : Rolled d H (upd H6 F (.dK (chgK chg))) := ⟨fun b o hb e => by
        have hbF : b ≠ F := ne_of_none e hF
        rw [upd_ne hbF]
        exact s6 _ _ (b5 _ _ hbF (R4.keep b o hb e)), by
        obtain ⟨x, y, z, q⟩ := R4.dice
        exact ⟨x, y, z, by rw [upd_ne hFd.symm]; exact s6 _ _ (b5 _ _ hFd.symm q)⟩⟩
      have hP7 : Paired (PairAt K (upd H6 F (.dK (chgK chg)))) ps chg := L2.Paired.mapP e2 fun _ _ z => kp7.sqT z
      generalize upd H6 F (.dK (chgK chg)) = H7 at kp7 h7D R7 hP7
      rw [e1] at h7D
      have lp : chg.length = ps.length := hP7.length.symm
      have en : ((chg.zip ps).map fun z => (z.1.1, z.2)).map (fun z => V.ref z.2) = ps.map V.ref := by
        rw [List.map_map, ← zip_snd lp, List.map_map]
        simp only [Function.comp_def, zip_snd lp]
      have en1 : ((chg.zip ps).map fun z => (z.1.1, z.2)).map (fun z => z.1) = chg.map (·.1) := by
        rw [List.map_map, ← zip_fst lp, List.map_map]
        simp only [Function.comp_def, zip_fst lp]
      walk_at "rd"
      refine Rd.rd_sortK (zs := (chg.zip ps).map fun z => (z.1.1, z.2)) (.inr (by rw [en]; exact SqL.of h7D)) (by rw [List.length_map, List.length_zip]; omega) (fun z hz => ?_) (by rw [en1]; exact nd) fun ys p8 H8 py ya hn8 s8 h8 => ?_
      · obtain ⟨y, hy, rfl⟩ := List.mem_map.mp hz
        exact ⟨_, paired_zip hP7 y hy⟩
      obtain ⟨chg', pm, asc, hP'⟩ := pairs_sorted hP7 py ya
      have e8 : (ys.map fun z => V.ref z.2) = (ys.map (·.2)).map V.ref := by rw [List.map_map]; rfl
      rw [e8] at h8
      walk_at "rd"
      refine Rd.rd_tupleF (SqL.of h8) fun q H9 hq s9 h9 => ?_
      refine k q H9 chg' ((R7.same s8).same s9) ⟨_, h9, L2.Paired.mapP hP' fun _ _ z => (kpS (s8.trans s9)).sqT z⟩ ⟨asc, fun kv hkv => ?_⟩ (fun kv hkv => (hok kv (pm.mem_iff.mp hkv)).1) (by rw [pm.length_eq]; omega)
      have := hok kv (pm.mem_iff.mp hkv)
      exact ⟨hcn _ this.1, this.2⟩
end
end M
set_option Elab.async false
set_option linter.all false
set_option maxRecDepth 100000
set_option maxHeartbeats 4000000
namespace M
open PySem L2
local macro_rules | `(tactic| walk_at "rdc") => `(tactic| first | exact Or.inl ⟨by decide, by decide⟩ | exact Or.inr ⟨by decide, by decide⟩ | exact ⟨by decide, by decide, by decide⟩ | exact ⟨by decide, by decide⟩ | decide | omega | assumption | (refine Or.inl ⟨?_, ?_⟩ <;> omega) | (refine Or.inr ⟨?_, ?_⟩ <;> omega) | (refine ⟨?_, ?_⟩ <;> omega))
local macro_rules | `(tactic| walk_at "rd1") => `(tactic| with_reducible first
  | refine Rd.rd_seq ?_ | refine Rd.rd_asg ?_ | refine Rd.rd_op ?_ | (refine' Rd.rd_var ?vh ?_; (case vh => with_unfolding_all rfl)) | refine Rd.rd_c ?_ | refine Rd.rd_I0 ?_ | refine Rd.rd_name0 ?_ | refine Rd.rd_nameS ?_ | refine Rd.rd_fn ?_
  | refine Rd.rd_cb ?_ | refine Rd.rd_cons ?_ | refine Rd.rd_nil ?_ | refine Rd.rd_int ?_ | refine Rd.rd_intB ?_ | refine Rd.rd_abs ?_ | refine Rd.rd_max2 ?_ | refine Rd.rd_min2 ?_
  | refine Rd.rd_call ?_ | refine Rd.rd_ifE ?_ | refine Rd.rd_test ?_ | refine Rd.rd_tB ?_ | refine Rd.rd_blV ?_ | refine Rd.rd_and ?_ | refine Rd.rd_or ?_ | refine Rd.rd_not ?_
  | refine Rd.rd_andV ?_ | refine Rd.rd_orV ?_ | refine Rd.rd_notV ?_ | refine Rd.rd_next ?_ | refine Rd.rd_ret ?_ | refine Rd.rd_drop ?_ | refine Rd.rd_ifS ?_ | refine Rd.rd_nx ?_ | refine Rd.rd_rt ?_ | refine Rd.rd_tMatch ?_ | refine Rd.rd_tCO ?_ | refine Rd.rd_tRevL ?_ | refine Rd.rd_tStar ?_ | refine Rd.rd_joined ?_ | refine Rd.rd_js1 ?_ | refine Rd.rd_js0 ?_ | refine Rd.rd_fmt ?_ | refine Rd.rd_propR ?_ | refine Rd.rd_iZipA ?_ | refine Rd.rd_iEnumT ?_ | refine Rd.rd_iOwn ?_ | (refine' Rd.rd_IET ?ln ?_; (case ln => with_unfolding_all walk_at "at")) | refine Rd.rd_chain ?_ | refine Rd.rd_tPar ?_ | refine Rd.rd_par ?_ | refine Rd.rd_sl ?_ | refine Rd.rd_noPart ?_ | refine Rd.rd_part ?_ | refine Rd.rd_intV ?_ | refine Rd.rd_lc ?_ | (refine' Rd.rd_aug ?vh ?_; (case vh => with_unfolding_all rfl)) | refine Rd.rd_ipI ?_ | refine Rd.rd_for ?_ | (refine' Rd.rd_IT ?ln ?_; (case ln => with_unfolding_all walk_at "at")) | (refine' Rd.rd_IL ?ln ?_; (case ln => with_unfolding_all walk_at "at")) | refine Rd.rd_iTup ?_ | refine Rd.rd_iList ?_ | refine Rd.rd_iRng1 ?_ | refine Rd.rd_iRng2 ?_ | refine Rd.rd_isi (Rd.isi_int Rd.kk_int_int) ?_ | refine Rd.rd_isi (Rd.isi_int Rd.kk_int_bool) ?_ | refine Rd.rd_dget ?_ | refine Rd.rd_din ?_ | refine Rd.rd_dnotin ?_ | refine Rd.rd_dput ?_ | refine Rd.rd_dc ?_ | refine Rd.rd_lc2 ?_ | refine Rd.rd_ltS ?_ | refine Rd.rd_inSg ?_ | refine Rd.rd_iStr ?_ | refine Rd.rd_IS ?_ | refine Rd.rd_prC ?_ | refine Rd.rd_prN ?_ | refine Rd.rd_methR ?_ | refine Rd.rd_cmeth ?_ | refine Rd.rd_fldS ?_ | refine Rd.rd_fld ?_ | (refine' Rd.rd_mkVS ?vh ?_; (case vh => with_unfolding_all rfl)) | (refine' Rd.rd_starT ?ln ?_; (case ln => with_unfolding_all walk_at "at")) | refine Rd.rd_iEnum ?_ | refine Rd.rd_iZip ?_ | (refine' Rd.rd_IE ?ln ?_; (case ln => with_unfolding_all walk_at "at")) | (refine' Rd.rd_IZ ?ln ?lm ?_; (case ln => with_unfolding_all walk_at "at"); (case lm => with_unfolding_all walk_at "at")) | (refine' Rd.rd_gTup ?ln ?lk ?_; (case ln => with_unfolding_all walk_at "at"); (case lk => with_unfolding_all rfl)) | refine Rd.rd_gCons ?_ | refine Rd.rd_gNil ?_ | refine Rd.rd_m1 ?_ | refine Rd.rd_strV ?_ | refine Rd.rd_tXiM ?_ | refine Rd.rd_tXiB ?_ | refine Rd.rd_tXiS ?_ | refine Rd.rd_bm ?_ | refine Rd.rd_bm0 ?_ | refine Rd.rd_isN ?_ | refine Rd.rd_notN ?_ | refine Rd.rd_sub ?_ | refine Rd.rd_un ?_ | refine Rd.rd_U ?_
  | (refine' Rd.rd_eq ?sc ?_; (case sc => with_unfolding_all rfl)) | (refine' Rd.rd_ne ?sc ?_; (case sc => with_unfolding_all rfl))
  | (refine' Rd.rd_I ?cc ?_; (case cc => with_unfolding_all walk_at "rdc"))
  | (refine' Rd.rd_lenL ?ln ?_; (case ln => with_unfolding_all walk_at "at")) | (refine' Rd.rd_lenT ?ln ?_; (case ln => with_unfolding_all walk_at "at"))
  | (refine' Rd.rd_ixL ?ln ?ia ?_; (case ln => with_unfolding_all walk_at "at"); (case ia => with_unfolding_all first | exact Rd.at0 | exact Rd.at1 | exact Rd.at2 | exact Rd.at3 | exact Rd.at4 | rfl)) | (refine' Rd.rd_ixT ?ln ?ia ?_; (case ln => with_unfolding_all walk_at "at"); (case ia => with_unfolding_all first | exact Rd.at0 | exact Rd.at1 | exact Rd.at2 | exact Rd.at3 | exact Rd.at4 | rfl)))
local macro_rules | `(tactic| walk_at "at") => `(tactic| first | assumption | (apply SqL.of; assumption) | (apply SqT.of; assumption) | (apply SqL.of; exact upd_same) | (apply SqT.of; exact upd_same))
local macro_rules | `(tactic| walk_at "rd") => `(tactic| repeat walk_at "rd1")
abbrev s__law_kind : Stmt := top 48
theorem sc__law_kind : FnScope ["_law_dice_here", "_law_counters", "_law_one", "_law_other", "_law_choice"] ["_law_dice_here", "_law_counters"] (defScope s__law_kind) := ⟨rfl, rfl, rfl, by decide +kernel, rfl, by decide +kernel, by decide +kernel⟩
abbrev s__law_words : Stmt := top 49
theorem sc__law_words : FnScope ["_law_dice_here", "_law_much", "_law_some"] ["_law_dice_here", "_law_much"] (defScope s__law_words) := ⟨rfl, rfl, rfl, by decide +kernel, rfl, by decide +kernel, by decide +kernel⟩
/-- tuple(sorted(l)), l a list of pairs -/
theorem fin_sorted {K : PySem.W.Frag} {H : Hp} {Q : VK} {σ : L2.St} {L : Addr} {ps : List Addr} {chg : List (Str × Int)} (hL : SqL K H L (ps.map V.ref)) (hP : Paired (PairAt K H) ps chg) (nd : (chg.map (·.1)).Nodup) (hl : chg.length < 1000)
    (q : ∀ p H' chg', Same H H' → ChgAt K H' p chg' → chg'.Perm chg → Rd.Asc (chg'.map (·.1)) → Q (.ref p) H') : Rd.rSortK K [.ref L] H fun x H1 => tNil σ H1 fun xs H2 => Rd.rTupleF K (x :: xs) H2 Q := by
  have lp : chg.length = ps.length := hP.length.symm
  have en : ((chg.zip ps).map fun z => (z.1.1, z.2)).map (fun z => V.ref z.2) = ps.map V.ref := by
    rw [List.map_map, ← zip_snd lp, List.map_map]
    simp only [Function.comp_def, zip_snd lp]
  have en1 : ((chg.zip ps).map fun z => (z.1.1, z.2)).map (fun z => z.1) = chg.map (·.1) := by
    rw [List.map_map, ← zip_fst lp, List.map_map]
    simp only [Function.comp_def, zip_fst lp]
  refine Rd.rd_sortK (zs := (chg.zip ps).map fun z => (z.1.1, z.2)) (.inr (by rw [en]; exact hL)) (by rw [List.length_map, List.length_zip]; omega) (fun z hz => ?_) (by rw [en1]; exact nd) fun ys p8 H8 py ya hn8 s8 h8 => ?_
  · obtain ⟨y, hy, rfl⟩ := List.mem_map.mp hz
    exact ⟨_, paired_zip hP y hy⟩
  obtain ⟨chg', pm, asc, hP'⟩ := pairs_sorted hP py ya
  have e8 : (ys.map fun z => V.ref z.2) = (ys.map (·.2)).map V.ref := by rw [List.map_map]; rfl
  rw [e8] at h8
  refine Rd.rd_nil ?_
  refine Rd.rd_tupleF (SqL.of h8) fun q9 H9 hq s9 h9 => ?_
  exact q q9 H9 chg' (s8.trans s9) ⟨_, h9, L2.Paired.mapP hP' fun _ _ z => (kpS (s8.trans s9)).sqT z⟩ pm asc
theorem cut_take {xs : List V} {n : Nat} (h : n ≤ xs.length) : cutV xs none (some (n : Int)) = xs.take n := Rd.cut_to xs n h
def words : List Str := [("a" : Str), ("aa" : Str), ("ab" : Str), ("b" : Str), ("back" : Str), ("ba" : Str), ("c" : Str), ("d" : Str), ("go" : Str), ("k" : Str), ("on" : Str), ("step" : Str), ("to" : Str), ("w" : Str), ("m" : Str), ("zzzzzzzz" : Str)]
def wordsB : List Str := [("a" : Str), ("aa" : Str), ("ab" : Str), ("b" : Str), ("back" : Str), ("ba" : Str), ("c" : Str), ("d" : Str), ("go" : Str), ("k" : Str), ("on" : Str), ("step" : Str), ("to" : Str), ("w" : Str), ("zzzzzzzz" : Str), ("m" : Str)]
theorem wordsB_perm : wordsB.Perm words := by
  unfold wordsB words
  repeat' (first | exact List.Perm.refl _ | exact List.Perm.swap _ _ _ | apply List.Perm.cons)
def spWords : Sp := Rd.mkSp (fun (a : Addr × Nat) => [.ref a.1, .int a.2]) fun a H Q _ => Dice H a.1 ∧ a.2 ≤ 16 ∧ ∀ (D : Addr) (H' : Hp) (ws : List Str), H D = none → Rolled a.1 H H' → H' D = some (.lst (ws.map V.str)) → ws.Nodup → (∀ x ∈ ws, x ∈ words) → ws.length = a.2 → Q (.ref D) H'
section
variable {gd : Bool} {P : Program} {w : World} {K : PySem.W.Frag} {mg : Str → Option Value} {base : Heap}
theorem ok_kind (F : Rd.Has K mg "_law_kind" s__law_kind) (g : Glob mg) (c__law_roll : Rd.Fn gd P w K mg base CX0 1 "_law_roll" spRoll) (c__law_one_of : Rd.Fn gd P w K mg base CX0 2 "_law_one_of" (spOneOf K)) (c__law_change : Rd.Fn gd P w K mg base CX0 3 "_law_change" (spDrawChg K)) : Rd.Fn gd P w K mg base CX0 4 "_law_kind" (spDrawChg K) := by
  refine F.fn sc__law_kind (fun _ => rfl) (fun _ _ _ _ _ _ us hl => match us, hl with | [_, _], _ => rfl) fun f cdv A outer s H Q E a hr h => ?_
  obtain ⟨d, c, cs⟩ := a
  obtain ⟨hD, hne, hS, hcs, k⟩ := h
  obtain ⟨hc0, hc5, hcn⟩ := hcs
  dsimp only at hD hne hS hc0 hc5 hcn k
  refine ⟨_, (pss_cons (ps_par (i := 2) (j := 3) (by rfl) sc__law_kind.nd rfl rfl (by decide) rfl rfl (pa_cons (Rd.pe_fn c__law_one_of (hr.mono (by decide)) (by rfl) (pa_cons (pv 0) (pa_cons (pv 1) pa_nil))) (pa_cons (Rd.pe_fn c__law_one_of (hr.mono (by decide)) (by rfl) (pa_cons (pv 0) (pa_cons (pv 1) pa_nil))) pa_nil)) (by rfl))
      (pss_cons (ps_set (i := 4) sc__law_kind.nd rfl (Or.inl rfl) (Rd.pe_fn c__law_roll (hr.mono (by decide)) (by rfl) (pa_cons (pv 0) (pa_cons pe_int pa_nil))))
      (pss_cons (ps_if (PW.pt (pw_or (pt_cmpR op_eq (pv 2) (pv 3) (nomark _)) (pw_or1 (pt_cmpR op_gt (pv 4) pe_int (nomark _))))) (pss_one (ps_ret (pe_ifExp (pt_cmpR op_lt (pv 4) pe_int (nomark _)) (Rd.pe_tupF (pa_cons (Rd.pe_tup (pa_cons (pv 2) (pa_cons (pe_un un_neg pe_int) pa_nil))) pa_nil)) (Rd.pe_fn c__law_change (hr.mono (by decide)) (by rfl) (pa_cons (pv 0) (pa_cons (pv 1) pa_nil)))))) pss_nil)
      (pss_one (ps_ret (pe_callTy Rd.c_tupleF (by rfl) g.tuple (by decide +kernel) (pa_cons (pe_callB Rd.c_sortK (by rfl) g.sorted (by decide +kernel) (pa_cons (pe_ix ix_list (Rd.pe_lst (pa_cons (Rd.pe_lst (pa_cons (Rd.pe_tup (pa_cons (pv 2) (pa_cons (pe_un un_neg pe_int) pa_nil))) (pa_cons (Rd.pe_tup (pa_cons (pv 3) (pa_cons pe_int pa_nil))) pa_nil))) (pa_cons (Rd.pe_lst (pa_cons (Rd.pe_tup (pa_cons (pv 2) (pa_cons (pe_un un_neg pe_int) pa_nil))) (pa_cons (Rd.pe_tup (pa_cons (pv 3) (pa_cons pe_int pa_nil))) pa_nil))) (pa_cons (Rd.pe_lst (pa_cons (Rd.pe_tup (pa_cons (pv 2) (pa_cons (pe_un un_neg pe_int) pa_nil))) (pa_cons (Rd.pe_tup (pa_cons (pv 3) (pa_cons pe_int pa_nil))) pa_nil))) (pa_cons (Rd.pe_lst (pa_cons (Rd.pe_tup (pa_cons (pv 2) (pa_cons pe_int pa_nil))) pa_nil)) (pa_cons (Rd.pe_lst (pa_cons (Rd.pe_tup (pa_cons (pv 2) (pa_cons (pe_un un_neg pe_int) pa_nil))) pa_nil)) (pa_cons (Rd.pe_lst (pa_cons (Rd.pe_tup (pa_cons (pv 2) (pa_cons (pe_un un_neg pe_int) pa_nil))) (pa_cons (Rd.pe_tup (pa_cons (pv 3) (pa_cons (pe_un un_neg pe_int) pa_nil))) pa_nil))) pa_nil))))))) (pv 4) (fun _ _ => rfl)) pa_nil)) pa_nil))))))), ?_⟩
  try simp only [Rd.noxK, Rd.cxK]
  refine Rd.rd_start [some (V.ref d), some (V.ref c), none, none, none] rfl ?_
  have c1 : 0 < (cs.map V.str).length := by rw [List.length_map]; exact List.length_pos_iff.mpr hc0
  have c2 : (cs.map V.str).length < 1000 := by rw [List.length_map]; omega
  walk_at "rd"
  refine rd_one hD hne hS c1 c2 fun v H1 hv R1 => ?_
  obtain ⟨x, rfl, hx⟩ := strs_of hv
  walk_at "rd"
  refine rd_one R1.dice hne (R1.sqL hne hS) c1 c2 fun v H2 hv R2 => ?_
  obtain ⟨y, rfl, hy⟩ := strs_of hv
  have R02 := R1.trans R2
  walk_at "rd"
  simp only [List.set_cons_zero, List.set_cons_succ]
  refine rd_roll R02.dice (by omega) (by omega) fun r H3 r0 r1 R3 => ?_
  have R03 := R02.trans R3
  walk_at "rd"
  have ok2 : ∀ (chg chg' : List (Str × Int)) H', Rolled d H H' → ∀ p, ChgAt K H' p chg' → chg'.Perm chg → Rd.Asc (chg'.map (·.1)) → chg.length ≤ 2 → (∀ kv ∈ chg, kv.1 ∈ cs ∧ -9 ≤ kv.2 ∧ kv.2 ≤ 9 ∧ kv.2 ≠ 0) → Q (.ref p) H' := fun chg chg' H' R p hp pm asc hl hok => k p H' chg' R hp ⟨asc, fun kv hkv => ⟨hcn _ (hok kv (pm.mem_iff.mp hkv)).1, (hok kv (pm.mem_iff.mp hkv)).2⟩⟩ (fun kv hkv => (hok kv (pm.mem_iff.mp hkv)).1) (by rw [pm.length_eq]; omega)
  have vals : (-9 : Int) ≤ -1 ∧ (-1 : Int) ≤ 9 ∧ (-1 : Int) ≠ 0 := by decide
  have one : ∀ H' q p, Rolled d H H' → SqT K H' q [.str x, .int (-1)] → Rd.SqF H' p [.ref q] → Q (.ref p) H' := fun H' q p R hq hp => ok2 [(x, -1)] [(x, -1)] H' R p ⟨[q], hp, .cons hq .nil⟩ (List.Perm.refl _) (List.pairwise_singleton _ _) (Nat.le_succ 1) fun kv hkv => by rw [List.mem_singleton.mp hkv]; exact ⟨hx, vals⟩
  have drawn : ∀ H', Rolled d H H' → spDrawChg K [.ref d, .ref c] H' Q E0 := fun H' R => Rd.rd_sp (d, c, cs) rfl ⟨R.dice, hne, R.sqL hne hS, ⟨hc0, hc5, hcn⟩, fun p H2 chg R2 h1 h2 h3 h4 => k p H2 chg (R.trans R2) h1 h2 h3 h4⟩
  by_cases exy : x = y
  · subst exy
    refine Rd.if_t (decide_eq_true rfl) ?_
    refine Rd.if_t rfl ?_
    walk_at "rd"
    refine ite2 (fun h4 => ?_) (fun h4 => ?_)
    · walk_at "rd"
      refine Rd.rd_mkTup (by show 2 ≤ sizeLine; decide) fun q H4 hq s4 h4 => ?_
      walk_at "rd"
      refine Rd.rd_mkTupF (by show 1 ≤ sizeLine; decide) fun p H5 hp s5 h5 => ?_
      exact one H5 q p ((R03.same s4).same s5) (Rd.Same.sqT s5 (SqT.of h4)) h5
    · walk_at "rd"
      exact drawn _ R03
  refine Rd.if_f (decide_eq_false fun z => exy (V.str.inj z)) ?_
  walk_at "rd"
  by_cases g5 : 5 < r
  · refine Rd.if_t (decide_eq_true g5) ?_
    walk_at "rd"
    refine ite2 (fun h4 => ?_) (fun h4 => ?_)
    · walk_at "rd"
      refine Rd.rd_mkTup (by show 2 ≤ sizeLine; decide) fun q H4 hq s4 h4 => ?_
      walk_at "rd"
      refine Rd.rd_mkTupF (by show 1 ≤ sizeLine; decide) fun p H5 hp s5 h5 => ?_
      exact one H5 q p ((R03.same s4).same s5) (Rd.Same.sqT s5 (SqT.of h4)) h5
    · walk_at "rd"
      exact drawn _ R03
  refine Rd.if_f (decide_eq_false g5) ?_
  walk_at "rd"
  refine Rd.rd_mkTup (by show 2 ≤ sizeLine; decide) fun q3 H4 n4 s4 h4 => ?_
  walk_at "rd"
  refine Rd.rd_mkTup (by show 2 ≤ sizeLine; decide) fun q4 H5 n5 s5 h5 => ?_
  walk_at "rd"
  refine Rd.rd_mkLst (by show 2 ≤ sizeLine; decide) fun l0 H6 n6 s6 h6 => ?_
  walk_at "rd"
  refine Rd.rd_mkTup (by show 2 ≤ sizeLine; decide) fun q6 H7 n7 s7 h7 => ?_
  walk_at "rd"
  refine Rd.rd_mkTup (by show 2 ≤ sizeLine; decide) fun q7 H8 n8 s8 h8 => ?_
  walk_at "rd"
  refine Rd.rd_mkLst (by show 2 ≤ sizeLine; decide) fun l1 H9 n9 s9 h9 => ?_
  walk_at "rd"
  refine Rd.rd_mkTup (by show 2 ≤ sizeLine; decide) fun q9 H10 n10 s10 h10 => ?_
  walk_at "rd"
  refine Rd.rd_mkTup (by show 2 ≤ sizeLine; decide) fun q10 H11 n11 s11 h11 => ?_
  walk_at "rd"
  refine Rd.rd_mkLst (by show 2 ≤ sizeLine; decide) fun l2 H12 n12 s12 h12 => ?_
  walk_at "rd"
  refine Rd.rd_mkTup (by show 2 ≤ sizeLine; decide) fun q12 H13 n13 s13 h13 => ?_
  walk_at "rd"
  refine Rd.rd_mkLst (by show 1 ≤ sizeLine; decide) fun l3 H14 n14 s14 h14 => ?_
  walk_at "rd"
  refine Rd.rd_mkTup (by show 2 ≤ sizeLine; decide) fun q14 H15 n15 s15 h15 => ?_
  walk_at "rd"
  refine Rd.rd_mkLst (by show 1 ≤ sizeLine; decide) fun l4 H16 n16 s16 h16 => ?_
  walk_at "rd"
  refine Rd.rd_mkTup (by show 2 ≤ sizeLine; decide) fun q16 H17 n17 s17 h17 => ?_
  walk_at "rd"
  refine Rd.rd_mkTup (by show 2 ≤ sizeLine; decide) fun q17 H18 n18 s18 h18 => ?_
  walk_at "rd"
  refine Rd.rd_mkLst (by show 2 ≤ sizeLine; decide) fun l5 H19 n19 s19 h19 => ?_
  walk_at "rd"
  refine Rd.rd_mkLst (by show 6 ≤ sizeLine; decide) fun L H20 n20 s20 h20 => ?_
  walk_at "rd"
  have t20 : Same H20 H20 := Same.refl _
  have t19 : Same H19 H20 := s20.trans t20
  have t18 : Same H18 H20 := s19.trans t19
  have t17 : Same H17 H20 := s18.trans t18
  have t16 : Same H16 H20 := s17.trans t17
  have t15 : Same H15 H20 := s16.trans t16
  have t14 : Same H14 H20 := s15.trans t15
  have t13 : Same H13 H20 := s14.trans t14
  have t12 : Same H12 H20 := s13.trans t13
  have t11 : Same H11 H20 := s12.trans t12
  have t10 : Same H10 H20 := s11.trans t11
  have t9 : Same H9 H20 := s10.trans t10
  have t8 : Same H8 H20 := s9.trans t9
  have t7 : Same H7 H20 := s8.trans t8
  have t6 : Same H6 H20 := s7.trans t7
  have t5 : Same H5 H20 := s6.trans t6
  have t4 : Same H4 H20 := s5.trans t5
  have t3 : Same H3 H20 := s4.trans t4
  have RN : Rolled d H H20 := R03.same t3
  obtain ⟨j, rfl⟩ : ∃ j : Nat, r = (j : Int) := ⟨r.toNat, by omega⟩
  have nxy : ∀ a b : Int, (([(x, a), (y, b)] : List (Str × Int)).map (·.1)).Nodup := fun a b => List.nodup_cons.mpr ⟨fun z => exy (List.mem_singleton.mp z), by simp⟩
  have okl : ∀ chg : List (Str × Int), (∀ kv ∈ chg, (kv.1 = x ∨ kv.1 = y) ∧ (kv.2 = -1 ∨ kv.2 = 1 ∨ kv.2 = 2)) → ∀ kv ∈ chg, kv.1 ∈ cs ∧ -9 ≤ kv.2 ∧ kv.2 ≤ 9 ∧ kv.2 ≠ 0 := fun chg hh kv hkv => by
    obtain ⟨e1, e2⟩ := hh kv hkv
    exact ⟨by rcases e1 with e | e <;> rw [e] <;> assumption, by omega⟩
  match j, r1, g5 with
  | 0, _, _ =>
    refine Rd.rd_ixL (SqL.of h20) (atI_nat rfl) ?_
    walk_at "rd"
    refine fin_sorted (ps := [q3, q4]) (chg := [(x, -1), (y, 1)]) (SqL.of (t6 _ _ h6)) (.cons (Rd.Same.sqT t4 (SqT.of h4)) (.cons (Rd.Same.sqT t5 (SqT.of h5)) .nil)) (nxy _ _) (by simp) fun p H' chg' s' hp pm asc => ?_
    exact ok2 _ chg' H' (RN.same s') p hp pm asc (by simp) (okl _ (by simp))
  | 1, _, _ =>
    refine Rd.rd_ixL (SqL.of h20) (atI_nat rfl) ?_
    walk_at "rd"
    refine fin_sorted (ps := [q6, q7]) (chg := [(x, -1), (y, 1)]) (SqL.of (t9 _ _ h9)) (.cons (Rd.Same.sqT t7 (SqT.of h7)) (.cons (Rd.Same.sqT t8 (SqT.of h8)) .nil)) (nxy _ _) (by simp) fun p H' chg' s' hp pm asc => ?_
    exact ok2 _ chg' H' (RN.same s') p hp pm asc (by simp) (okl _ (by simp))
  | 2, _, _ =>
    refine Rd.rd_ixL (SqL.of h20) (atI_nat rfl) ?_
    walk_at "rd"
    refine fin_sorted (ps := [q9, q10]) (chg := [(x, -1), (y, 2)]) (SqL.of (t12 _ _ h12)) (.cons (Rd.Same.sqT t10 (SqT.of h10)) (.cons (Rd.Same.sqT t11 (SqT.of h11)) .nil)) (nxy _ _) (by simp) fun p H' chg' s' hp pm asc => ?_
    exact ok2 _ chg' H' (RN.same s') p hp pm asc (by simp) (okl _ (by simp))
  | 3, _, _ =>
    refine Rd.rd_ixL (SqL.of h20) (atI_nat rfl) ?_
    walk_at "rd"
    refine fin_sorted (ps := [q12]) (chg := [(x, 1)]) (SqL.of (t14 _ _ h14)) (.cons (Rd.Same.sqT t13 (SqT.of h13)) .nil) (by simp) (by simp) fun p H' chg' s' hp pm asc => ?_
    exact ok2 _ chg' H' (RN.same s') p hp pm asc (by simp) (okl _ (by simp))
  | 4, _, _ =>
    refine Rd.rd_ixL (SqL.of h20) (atI_nat rfl) ?_
    walk_at "rd"
    refine fin_sorted (ps := [q14]) (chg := [(x, -1)]) (SqL.of (t16 _ _ h16)) (.cons (Rd.Same.sqT t15 (SqT.of h15)) .nil) (by simp) (by simp) fun p H' chg' s' hp pm asc => ?_
    exact ok2 _ chg' H' (RN.same s') p hp pm asc (by simp) (okl _ (by simp))
  | 5, _, _ =>
    refine Rd.rd_ixL (SqL.of h20) (atI_nat rfl) ?_
    walk_at "rd"
    refine fin_sorted (ps := [q16, q17]) (chg := [(x, -1), (y, -1)]) (SqL.of (t19 _ _ h19)) (.cons (Rd.Same.sqT t17 (SqT.of h17)) (.cons (Rd.Same.sqT t18 (SqT.of h18)) .nil)) (nxy _ _) (by simp) fun p H' chg' s' hp pm asc => ?_
    exact ok2 _ chg' H' (RN.same s') p hp pm asc (by simp) (okl _ (by simp))
  | n + 6, _, g5 => exact absurd g5 (by omega)
theorem ok_words (F : Rd.Has K mg "_law_words" s__law_words) (g : Glob mg) (c__law_mixed : Rd.Fn gd P w K mg base CX0 2 "_law_mixed" (spMixP K)) : Rd.Fn gd P w K mg base CX0 3 "_law_words" spWords := by
  refine F.fn sc__law_words (fun _ => rfl) (fun _ _ _ _ _ _ us hl => match us, hl with | [_, _], _ => rfl) fun f cdv A outer s H Q E a hr h => ?_
  obtain ⟨d, n⟩ := a
  obtain ⟨hD, hn, k⟩ := h
  dsimp only at hD hn k
  refine ⟨_, (pss_cons (ps_set (i := 2) sc__law_words.nd rfl (Or.inl rfl) (Rd.pe_lst (pa_cons pe_str (pa_cons pe_str (pa_cons pe_str (pa_cons pe_str (pa_cons pe_str (pa_cons pe_str (pa_cons pe_str (pa_cons pe_str (pa_cons pe_str (pa_cons pe_str (pa_cons pe_str (pa_cons pe_str (pa_cons pe_str (pa_cons pe_str (pa_cons pe_str (pa_cons pe_str pa_nil))))))))))))))))))
      (pss_one (ps_ret (pe_slice sl_list (Rd.pe_fn c__law_mixed (hr.mono (by decide)) (by rfl) (pa_cons (pv 0) (pa_cons (pv 2) pa_nil))) po_none (po_some (pv 1)))))), ?_⟩
  try simp only [Rd.noxK, Rd.cxK]
  refine Rd.rd_start [some (V.ref d), some (V.int n), none] rfl ?_
  walk_at "rd"
  refine Rd.rd_mkLst (by show 16 ≤ sizeLine; decide) fun l3 H3 hl3 s03 h3 => ?_
  have D3 : Dice H3 d := hD.same s03
  have nd3 : l3 ≠ d := hD.ne hl3
  walk_at "rd"
  refine Rd.rd_sp (d, l3, wordsB.map V.str) rfl ⟨D3, nd3, SqL.of h3, by show 16 < 1000; decide, fun D ys H4 hD4 pm R4 h4 => ?_⟩
  walk_at "rd"
  refine Rd.rd_slL (SqL.of h4) fun D5 H5 hD5 s5 h5 => ?_
  have R05 : Rolled d H H5 := (Rolled.pre s03 R4).same s5
  obtain ⟨ws, pw0, rfl⟩ := perm_map_inv V.str pm wordsB rfl
  have pw : ws.Perm words := pw0.trans wordsB_perm
  have lw : ws.length = 16 := pw.length_eq
  have nw : ws.Nodup := pw.nodup_iff.mpr (by decide +kernel)
  rw [cut_take (by rw [List.length_map, lw]; exact hn), ← List.map_take] at h5
  refine k D5 H5 (ws.take n) (none_rol (Rolled.pre s03 R4) hD hD5) R05 h5 (nw.sublist (List.take_sublist _ _)) (fun x hx => pw.mem_iff.mp (List.mem_of_mem_take hx)) (by rw [List.length_take, lw]; omega)
end
end M
set_option Elab.async false
set_option linter.all false
set_option maxRecDepth 100000
set_option maxHeartbeats 4000000
namespace M
open PySem L2
local macro_rules | `(tactic| walk_at "rdc") => `(tactic| first | exact Or.inl ⟨by decide, by decide⟩ | exact Or.inr ⟨by decide, by decide⟩ | exact ⟨by decide, by decide, by decide⟩ | exact ⟨by decide, by decide⟩ | decide | omega | assumption | (refine Or.inl ⟨?_, ?_⟩ <;> omega) | (refine Or.inr ⟨?_, ?_⟩ <;> omega) | (refine ⟨?_, ?_⟩ <;> omega))
local macro_rules | `(tactic| walk_at "rd1") => `(tactic| with_reducible first
  | refine Rd.rd_seq ?_ | refine Rd.rd_asg ?_ | refine Rd.rd_op ?_ | (refine' Rd.rd_var ?vh ?_; (case vh => with_unfolding_all rfl)) | refine Rd.rd_c ?_ | refine Rd.rd_I0 ?_ | refine Rd.rd_name0 ?_ | refine Rd.rd_nameS ?_ | refine Rd.rd_fn ?_
  | refine Rd.rd_cb ?_ | refine Rd.rd_cons ?_ | refine Rd.rd_nil ?_ | refine Rd.rd_int ?_ | refine Rd.rd_intB ?_ | refine Rd.rd_abs ?_ | refine Rd.rd_max2 ?_ | refine Rd.rd_min2 ?_
  | refine Rd.rd_call ?_ | refine Rd.rd_ifE ?_ | refine Rd.rd_test ?_ | refine Rd.rd_tB ?_ | refine Rd.rd_blV ?_ | refine Rd.rd_and ?_ | refine Rd.rd_or ?_ | refine Rd.rd_not ?_
  | refine Rd.rd_andV ?_ | refine Rd.rd_orV ?_ | refine Rd.rd_notV ?_ | refine Rd.rd_next ?_ | refine Rd.rd_ret ?_ | refine Rd.rd_drop ?_ | refine Rd.rd_ifS ?_ | refine Rd.rd_nx ?_ | refine Rd.rd_rt ?_ | refine Rd.rd_tMatch ?_ | refine Rd.rd_tCO ?_ | refine Rd.rd_tRevL ?_ | refine Rd.rd_tStar ?_ | refine Rd.rd_joined ?_ | refine Rd.rd_js1 ?_ | refine Rd.rd_js0 ?_ | refine Rd.rd_fmt ?_ | refine Rd.rd_propR ?_ | refine Rd.rd_iZipA ?_ | refine Rd.rd_iEnumT ?_ | refine Rd.rd_iOwn ?_ | (refine' Rd.rd_IET ?ln ?_; (case ln => with_unfolding_all walk_at "at")) | refine Rd.rd_chain ?_ | refine Rd.rd_tPar ?_ | refine Rd.rd_par ?_ | refine Rd.rd_sl ?_ | refine Rd.rd_noPart ?_ | refine Rd.rd_part ?_ | refine Rd.rd_intV ?_ | refine Rd.rd_lc ?_ | (refine' Rd.rd_aug ?vh ?_; (case vh => with_unfolding_all rfl)) | refine Rd.rd_ipI ?_ | refine Rd.rd_for ?_ | (refine' Rd.rd_IT ?ln ?_; (case ln => with_unfolding_all walk_at "at")) | (refine' Rd.rd_IL ?ln ?_; (case ln => with_unfolding_all walk_at "at")) | refine Rd.rd_iTup ?_ | refine Rd.rd_iList ?_ | refine Rd.rd_iRng1 ?_ | refine Rd.rd_iRng2 ?_ | refine Rd.rd_isi (Rd.isi_int Rd.kk_int_int) ?_ | refine Rd.rd_isi (Rd.isi_int Rd.kk_int_bool) ?_ | refine Rd.rd_dget ?_ | refine Rd.rd_din ?_ | refine Rd.rd_dnotin ?_ | refine Rd.rd_dput ?_ | refine Rd.rd_dc ?_ | refine Rd.rd_lc2 ?_ | refine Rd.rd_ltS ?_ | refine Rd.rd_inSg ?_ | refine Rd.rd_iStr ?_ | refine Rd.rd_IS ?_ | refine Rd.rd_prC ?_ | refine Rd.rd_prN ?_ | refine Rd.rd_methR ?_ | refine Rd.rd_cmeth ?_ | refine Rd.rd_fldS ?_ | refine Rd.rd_fld ?_ | (refine' Rd.rd_mkVS ?vh ?_; (case vh => with_unfolding_all rfl)) | (refine' Rd.rd_starT ?ln ?_; (case ln => with_unfolding_all walk_at "at")) | refine Rd.rd_iEnum ?_ | refine Rd.rd_iZip ?_ | (refine' Rd.rd_IE ?ln ?_; (case ln => with_unfolding_all walk_at "at")) | (refine' Rd.rd_IZ ?ln ?lm ?_; (case ln => with_unfolding_all walk_at "at"); (case lm => with_unfolding_all walk_at "at")) | (refine' Rd.rd_gTup ?ln ?lk ?_; (case ln => with_unfolding_all walk_at "at"); (case lk => with_unfolding_all rfl)) | refine Rd.rd_gCons ?_ | refine Rd.rd_gNil ?_ | refine Rd.rd_m1 ?_ | refine Rd.rd_strV ?_ | refine Rd.rd_tXiM ?_ | refine Rd.rd_tXiB ?_ | refine Rd.rd_tXiS ?_ | refine Rd.rd_bm ?_ | refine Rd.rd_bm0 ?_ | refine Rd.rd_isN ?_ | refine Rd.rd_notN ?_ | refine Rd.rd_sub ?_ | refine Rd.rd_un ?_ | refine Rd.rd_U ?_
  | (refine' Rd.rd_eq ?sc ?_; (case sc => with_unfolding_all rfl)) | (refine' Rd.rd_ne ?sc ?_; (case sc => with_unfolding_all rfl))
  | (refine' Rd.rd_I ?cc ?_; (case cc => with_unfolding_all walk_at "rdc"))
  | (refine' Rd.rd_lenL ?ln ?_; (case ln => with_unfolding_all walk_at "at")) | (refine' Rd.rd_lenT ?ln ?_; (case ln => with_unfolding_all walk_at "at"))
  | (refine' Rd.rd_ixL ?ln ?ia ?_; (case ln => with_unfolding_all walk_at "at"); (case ia => with_unfolding_all first | exact Rd.at0 | exact Rd.at1 | exact Rd.at2 | exact Rd.at3 | exact Rd.at4 | rfl)) | (refine' Rd.rd_ixT ?ln ?ia ?_; (case ln => with_unfolding_all walk_at "at"); (case ia => with_unfolding_all first | exact Rd.at0 | exact Rd.at1 | exact Rd.at2 | exact Rd.at3 | exact Rd.at4 | rfl)))
local macro_rules | `(tactic| walk_at "at") => `(tactic| first | assumption | (apply SqL.of; assumption) | (apply SqT.of; assumption) | (apply SqL.of; exact upd_same) | (apply SqT.of; exact upd_same))
local macro_rules | `(tactic| walk_at "rd") => `(tactic| repeat walk_at "rd1")
theorem ring_loop {ts : List Tr} {ns : List Str} (ne : ns ≠ []) (nd : ns.Nodup) (ends : ∀ t ∈ ts, t.src ∈ ns ∧ t.tgt ∈ ns) (h1 : ∀ i, i + 1 < ns.length → ∃ t ∈ ts, ns[i]? = some t.src ∧ ns[i + 1]? = some t.tgt) (h2 : 1 < ns.length → ∃ t ∈ ts, ns[ns.length - 1]? = some t.src ∧ ns[0]? = some t.tgt) : Loop1 ts ns := by
  have n0 : 0 < ns.length := List.length_pos_iff.mpr ne
  refine ⟨ne, nd, ends, fun h S s0 st x hx => ?_, fun h S s0 st x hx => ?_⟩
  · have key : ∀ (i : Nat) (y : Str), ns[i]? = some y → S y := by
      intro i
      induction i with
      | zero => intro y hy; rw [List.getElem?_eq_getElem h] at hy; exact Option.some.inj hy ▸ s0
      | succ i ih =>
        intro y hy
        have hi : i + 1 < ns.length := (List.getElem?_eq_some_iff.mp hy).1
        obtain ⟨t, ht, e1, e2⟩ := h1 i hi
        rw [e2] at hy
        exact Option.some.inj hy ▸ st t ht (ih _ e1)
    obtain ⟨i, hi⟩ := List.getElem?_of_mem hx
    exact key i x hi
  · have key : ∀ (j i : Nat) (y : Str), i + j + 1 = ns.length → ns[i]? = some y → S y := by
      intro j
      induction j with
      | zero =>
        intro i y e hy
        by_cases h3 : 1 < ns.length
        · obtain ⟨t, ht, e1, e2⟩ := h2 h3
          rw [show ns.length - 1 = i by omega, hy] at e1
          rw [List.getElem?_eq_getElem h] at e2
          rw [Option.some.inj e1]
          exact st t ht (Option.some.inj e2 ▸ s0)
        · rw [show i = 0 by omega, List.getElem?_eq_getElem h] at hy
          exact Option.some.inj hy ▸ s0
      | succ j ih =>
        intro i y e hy
        obtain ⟨t, ht, e1, e2⟩ := h1 i (by omega)
        rw [hy] at e1
        rw [Option.some.inj e1]
        exact st t ht (ih (i + 1) t.tgt (by omega) e2)
    obtain ⟨i, hi⟩ := List.getElem?_of_mem hx
    have hl := (List.getElem?_eq_some_iff.mp hi).1
    exact key (ns.length - 1 - i) i x (by omega) hi
/-- the pairs of the ring -/
def ringAt (ns : List Str) (i : Nat) : Str × Str := (ns.getD (if i = 0 then ns.length - 1 else i - 1) Str.empty, ns.getD i Str.empty)
def ring (ns : List Str) : List (Str × Str) := if 1 < ns.length then (List.range ns.length).map (ringAt ns) else []
theorem ring_len (ns : List Str) : (ring ns).length ≤ ns.length := by
  unfold ring
  split
  · rw [List.length_map, List.length_range]; exact Nat.le_refl _
  · exact Nat.zero_le _
theorem ring_mem {ns : List Str} (st : Str × Str) (h : st ∈ ring ns) : st.1 ∈ ns ∧ st.2 ∈ ns := by
  unfold ring at h
  split at h
  next hn =>
    obtain ⟨i, hi, rfl⟩ := List.mem_map.mp h
    have hi := List.mem_range.mp hi
    have g : ∀ j, j < ns.length → ns.getD j Str.empty ∈ ns := fun j hj => by
      rw [List.getD_eq_getElem?_getD, List.getElem?_eq_getElem hj]; exact List.getElem_mem hj
    exact ⟨g _ (by split <;> omega), g _ hi⟩
  next => exact (List.not_mem_nil h).elim
/-- rows over the ring and more pairs -/
theorem ring_rows {ts : List Tr} {ns : List Str} {sts : List (Str × Str)} (ne : ns ≠ []) (nd : ns.Nodup) (e : ts.map (fun t => (t.src, t.tgt)) = ring ns ++ sts) (hs : ∀ st ∈ sts, st.1 ∈ ns ∧ st.2 ∈ ns) : Loop1 ts ns := by
  have hmem : ∀ st ∈ ring ns, ∃ t ∈ ts, t.src = st.1 ∧ t.tgt = st.2 := fun st hst => by
    have : st ∈ ts.map (fun t => (t.src, t.tgt)) := by rw [e]; exact List.mem_append_left _ hst
    obtain ⟨t, ht, rfl⟩ := List.mem_map.mp this
    exact ⟨t, ht, rfl, rfl⟩
  have g : ∀ j, j < ns.length → ns[j]? = some (ns.getD j Str.empty) := fun j hj => by
    rw [List.getD_eq_getElem?_getD, List.getElem?_eq_getElem hj]; rfl
  have hring : ∀ i, 1 < ns.length → i < ns.length → ringAt ns i ∈ ring ns := fun i h1 hi => by
    unfold ring
    rw [if_pos h1]
    exact List.mem_map.mpr ⟨i, List.mem_range.mpr hi, rfl⟩
  refine ring_loop ne nd (fun t ht => ?_) (fun i hi => ?_) (fun h1 => ?_)
  · have : (t.src, t.tgt) ∈ ring ns ++ sts := by rw [← e]; exact List.mem_map.mpr ⟨t, ht, rfl⟩
    rcases List.mem_append.mp this with q | q
    · exact ring_mem _ q
    · exact hs _ q
  · obtain ⟨t, ht, e1, e2⟩ := hmem _ (hring (i + 1) (by omega) hi)
    refine ⟨t, ht, ?_, ?_⟩
    · rw [e1, g i (by omega)]; rfl
    · rw [e2, g (i + 1) hi]; rfl
  · obtain ⟨t, ht, e1, e2⟩ := hmem _ (hring 0 h1 (by omega))
    refine ⟨t, ht, ?_, ?_⟩
    · rw [e1, g _ (by omega)]; rfl
    · rw [e2, g 0 (by omega)]; rfl
def nodeNames : List Str := [("p" : Str), ("q" : Str), ("r" : Str), ("a" : Str)]
def counterNames : List Str := [("x" : Str), ("y" : Str), ("z" : Str), ("u" : Str), ("v" : Str)]
theorem names_ok : (∀ x ∈ nodeNames, isName x = true) ∧ (∀ x ∈ counterNames, isName x = true) ∧ (∀ x ∈ words, isName x = true) ∧ (∀ x ∈ words, x ∉ counterNames) := by
  refine ⟨?_, ?_, ?_, ?_⟩ <;> decide +kernel
/-- what else is known of a drawn graph -/
structure Drawn (m1 m2 m3 : Nat) (G : Gr) : Prop where
  tn : G.ts ≠ []
  ns : ∀ z ∈ G.ns, z ∈ nodeNames
  cs : ∀ z ∈ G.cs, z ∈ counterNames
  nm : ∀ t ∈ G.ts, t.nm ∈ words
  ln : G.ns.length ≤ m1
  lc : G.cs.length ≤ m2
  lt : G.ts.length ≤ m1 + m3
def spGraph (K : PySem.W.Frag) : Sp := Rd.mkSp (fun (a : Addr × Nat × Nat × Nat) => [.ref a.1, .int a.2.1, .int a.2.2.1, .int a.2.2.2]) fun a H Q _ => Dice H a.1 ∧ (1 ≤ a.2.1 ∧ a.2.1 ≤ 4) ∧ (1 ≤ a.2.2.1 ∧ a.2.2.1 ≤ 5) ∧ (1 ≤ a.2.2.2 ∧ a.2.2.2 ≤ 12) ∧
  ∀ p H' G, Rolled a.1 H H' → PlainAt K H' p G → GOk G → Drawn a.2.1 a.2.2.1 a.2.2.2 G → Q (.ref p) H'
end M
set_option Elab.async false
set_option linter.all false
set_option maxRecDepth 100000
set_option maxHeartbeats 4000000
namespace M
open PySem L2
local macro_rules | `(tactic| walk_at "rdc") => `(tactic| first | exact Or.inl ⟨by decide, by decide⟩ | exact Or.inr ⟨by decide, by decide⟩ | exact ⟨by decide, by decide, by decide⟩ | exact ⟨by decide, by decide⟩ | decide | omega | assumption | (refine Or.inl ⟨?_, ?_⟩ <;> omega) | (refine Or.inr ⟨?_, ?_⟩ <;> omega) | (refine ⟨?_, ?_⟩ <;> omega))
local macro_rules | `(tactic| walk_at "rd1") => `(tactic| with_reducible first
  | refine Rd.rd_seq ?_ | refine Rd.rd_asg ?_ | refine Rd.rd_op ?_ | (refine' Rd.rd_var ?vh ?_; (case vh => with_unfolding_all rfl)) | refine Rd.rd_c ?_ | refine Rd.rd_I0 ?_ | refine Rd.rd_name0 ?_ | refine Rd.rd_nameS ?_ | refine Rd.rd_fn ?_
  | refine Rd.rd_cb ?_ | refine Rd.rd_cons ?_ | refine Rd.rd_nil ?_ | refine Rd.rd_int ?_ | refine Rd.rd_intB ?_ | refine Rd.rd_abs ?_ | refine Rd.rd_max2 ?_ | refine Rd.rd_min2 ?_
  | refine Rd.rd_call ?_ | refine Rd.rd_ifE ?_ | refine Rd.rd_test ?_ | refine Rd.rd_tB ?_ | refine Rd.rd_blV ?_ | refine Rd.rd_and ?_ | refine Rd.rd_or ?_ | refine Rd.rd_not ?_
  | refine Rd.rd_andV ?_ | refine Rd.rd_orV ?_ | refine Rd.rd_notV ?_ | refine Rd.rd_next ?_ | refine Rd.rd_ret ?_ | refine Rd.rd_drop ?_ | refine Rd.rd_ifS ?_ | refine Rd.rd_nx ?_ | refine Rd.rd_rt ?_ | refine Rd.rd_tMatch ?_ | refine Rd.rd_tCO ?_ | refine Rd.rd_tRevL ?_ | refine Rd.rd_tStar ?_ | refine Rd.rd_joined ?_ | refine Rd.rd_js1 ?_ | refine Rd.rd_js0 ?_ | refine Rd.rd_fmt ?_ | refine Rd.rd_propR ?_ | refine Rd.rd_iZipA ?_ | refine Rd.rd_iEnumT ?_ | refine Rd.rd_iOwn ?_ | (refine' Rd.rd_IET ?ln ?_; (case ln => with_unfolding_all walk_at "at")) | refine Rd.rd_chain ?_ | refine Rd.rd_tPar ?_ | refine Rd.rd_par ?_ | refine Rd.rd_sl ?_ | refine Rd.rd_noPart ?_ | refine Rd.rd_part ?_ | refine Rd.rd_intV ?_ | refine Rd.rd_lc ?_ | (refine' Rd.rd_aug ?vh ?_; (case vh => with_unfolding_all rfl)) | refine Rd.rd_ipI ?_ | refine Rd.rd_for ?_ | (refine' Rd.rd_IT ?ln ?_; (case ln => with_unfolding_all walk_at "at")) | (refine' Rd.rd_IL ?ln ?_; (case ln => with_unfolding_all walk_at "at")) | refine Rd.rd_iTup ?_ | refine Rd.rd_iList ?_ | refine Rd.rd_iRng1 ?_ | refine Rd.rd_iRng2 ?_ | refine Rd.rd_isi (Rd.isi_int Rd.kk_int_int) ?_ | refine Rd.rd_isi (Rd.isi_int Rd.kk_int_bool) ?_ | refine Rd.rd_dget ?_ | refine Rd.rd_din ?_ | refine Rd.rd_dnotin ?_ | refine Rd.rd_dput ?_ | refine Rd.rd_dc ?_ | refine Rd.rd_lc2 ?_ | refine Rd.rd_ltS ?_ | refine Rd.rd_inSg ?_ | refine Rd.rd_iStr ?_ | refine Rd.rd_IS ?_ | refine Rd.rd_prC ?_ | refine Rd.rd_prN ?_ | refine Rd.rd_methR ?_ | refine Rd.rd_cmeth ?_ | refine Rd.rd_fldS ?_ | refine Rd.rd_fld ?_ | (refine' Rd.rd_mkVS ?vh ?_; (case vh => with_unfolding_all rfl)) | (refine' Rd.rd_starT ?ln ?_; (case ln => with_unfolding_all walk_at "at")) | refine Rd.rd_iEnum ?_ | refine Rd.rd_iZip ?_ | (refine' Rd.rd_IE ?ln ?_; (case ln => with_unfolding_all walk_at "at")) | (refine' Rd.rd_IZ ?ln ?lm ?_; (case ln => with_unfolding_all walk_at "at"); (case lm => with_unfolding_all walk_at "at")) | (refine' Rd.rd_gTup ?ln ?lk ?_; (case ln => with_unfolding_all walk_at "at"); (case lk => with_unfolding_all rfl)) | refine Rd.rd_gCons ?_ | refine Rd.rd_gNil ?_ | refine Rd.rd_m1 ?_ | refine Rd.rd_strV ?_ | refine Rd.rd_tXiM ?_ | refine Rd.rd_tXiB ?_ | refine Rd.rd_tXiS ?_ | refine Rd.rd_bm ?_ | refine Rd.rd_bm0 ?_ | refine Rd.rd_isN ?_ | refine Rd.rd_notN ?_ | refine Rd.rd_sub ?_ | refine Rd.rd_un ?_ | refine Rd.rd_U ?_
  | (refine' Rd.rd_eq ?sc ?_; (case sc => with_unfolding_all rfl)) | (refine' Rd.rd_ne ?sc ?_; (case sc => with_unfolding_all rfl))
  | (refine' Rd.rd_I ?cc ?_; (case cc => with_unfolding_all walk_at "rdc"))
  | (refine' Rd.rd_lenL ?ln ?_; (case ln => with_unfolding_all walk_at "at")) | (refine' Rd.rd_lenT ?ln ?_; (case ln => with_unfolding_all walk_at "at"))
  | (refine' Rd.rd_ixL ?ln ?ia ?_; (case ln => with_unfolding_all walk_at "at"); (case ia => with_unfolding_all first | exact Rd.at0 | exact Rd.at1 | exact Rd.at2 | exact Rd.at3 | exact Rd.at4 | rfl)) | (refine' Rd.rd_ixT ?ln ?ia ?_; (case ln => with_unfolding_all walk_at "at"); (case ia => with_unfolding_all first | exact Rd.at0 | exact Rd.at1 | exact Rd.at2 | exact Rd.at3 | exact Rd.at4 | rfl)))
local macro_rules | `(tactic| walk_at "at") => `(tactic| first | assumption | (apply SqL.of; assumption) | (apply SqT.of; assumption) | (apply SqL.of; exact upd_same) | (apply SqT.of; exact upd_same))
local macro_rules | `(tactic| walk_at "rd") => `(tactic| repeat walk_at "rd1")
abbrev s__law_graph : Stmt := top 50
theorem sc__law_graph : FnScope ["_law_dice_here", "_law_most_states", "_law_most_counters", "_law_more", "_law_nodes", "_law_counters", "_law_pairs", "_law_spots", "_law_turn", "_law_source", "_law_names", "_law_found", "_law_at", "_law_pair", "_law_change_here"] ["_law_dice_here", "_law_most_states", "_law_most_counters", "_law_more"] (defScope s__law_graph) := ⟨rfl, rfl, rfl, by decide +kernel, rfl, by decide +kernel, by decide +kernel⟩
/-- sorted(l[:n]) -/
theorem cut_sorted {K : PySem.W.Frag} {P : Program} {w : World} {H : Hp} {Q : VK} {σ : L2.St} {l : Addr} {ws : List Str} {i : Int} {n : Nat} (e : i = n) (h : H l = some (.lst (ws.map V.str))) (nd : ws.Nodup) (hn : n ≤ ws.length) (hl : ws.length < 1000)
    (q : ∀ (zs : List Str) (p : Addr) (H' : Hp), Rd.Asc zs → zs.length = n → (∀ z ∈ zs, z ∈ ws) → H p = none → Same H H' → H' p = some (.lst (zs.map V.str)) → Q (.ref p) H') : rSlL K (.ref l) none (some i) H fun x H1 => tNil σ H1 fun xs H2 => Rd.rSortT K P w (x :: xs) H2 Q := by
  subst e
  refine Rd.rd_slL (SqL.of h) fun p H1 hp s1 h1 => ?_
  rw [cut_take (by rw [List.length_map]; exact hn), ← List.map_take] at h1
  refine Rd.rd_nil ?_
  refine Rd.rd_sortT (.inl (.inr (SqL.of h1))) (by rw [List.length_take]; omega) fun ys p2 H2 py pw hp2 s2 h2 => ?_
  have nd2 : (ws.take n).Nodup := nd.sublist (List.take_sublist _ _)
  exact q ys p2 H2 (Rd.asc_of pw (py.nodup_iff.mpr nd2)) (by rw [py.length_eq, List.length_take]; omega) (fun z hz => List.mem_of_mem_take (py.mem_iff.mp hz)) (none_pre s1 hp2) (s1.trans s2) h2
theorem at_prev {ns : List Str} (gd : ∀ j, j < ns.length → (ns.map V.str)[j]? = some (V.str (ns.getD j Str.empty))) (n1 : 0 < ns.length) {i : Nat} (hi : i < ns.length) : atI (ns.map V.str) (0 + (i : Int) - 1) = some (V.str (ringAt ns i).1) := by
  unfold ringAt
  match i, hi with
  | 0, _ =>
    show atI (ns.map V.str) (-1) = _
    have e : ixN (ns.map V.str).length (-1) = some (ns.length - 1) := by
      rw [List.length_map]
      unfold ixN
      simp
      omega
    unfold atI
    rw [e]
    exact gd _ (by omega)
  | i + 1, hi =>
    rw [show (0 + ((i + 1 : Nat) : Int) - 1) = (i : Int) by omega]
    exact atI_nat (gd i (by omega))
/-- the ring's pairs -/
theorem ring_draw {K : PySem.W.Frag} {H : Hp} {Q : VK} {pn : Addr} {ns : List Str} {a b c e f : Option V} (n1 : 0 < ns.length) (n4 : ns.length ≤ 8) (hN : H pn = some (.lst (ns.map V.str)))
    (q : ∀ (pp : Addr) (H' : Hp) (ps : List Addr), H pp = none → Same H H' → H' pp = some (.lst (ps.map V.ref)) → Paired (StepAt K H') ps (ring ns) → Q (.ref pp) H') :
    if decide (1 < (ns.length : Int)) = true then
      tLc (iRng1 (tCons (tCB (Rd.rLen K) (tCons (tVar 4) tNil)) tNil)) (gName 12) tYes (tCB Rd.rMkTup (tCons (tOp (rIxL K) (tVar 4) (tOp (rI0 fun i j => V.int (i - j)) (tVar 12) (tC (V.int 1)))) (tCons (tOp (rIxL K) (tVar 4) (tVar 12)) tNil))) (List.map (fun x => x.snd) [(("_law_at" : Str), 12)]) [a, b, c, e, some (V.ref pn), f, none, none, none, none, none, none, none, none, none] H Q
    else tCB Rd.rMkLst tNil [a, b, c, e, some (V.ref pn), f, none, none, none, none, none, none, none, none, none] H Q := by
  have hN' : SqL K H pn (ns.map V.str) := SqL.of hN
  have gd : ∀ j, j < ns.length → (ns.map V.str)[j]? = some (V.str (ns.getD j Str.empty)) := fun j hj => by
    rw [List.getElem?_map, List.getElem?_eq_getElem hj, List.getD_eq_getElem?_getD, List.getElem?_eq_getElem hj]; rfl
  by_cases h1 : 1 < ns.length
  · rw [if_pos (decide_eq_true (by omega))]
    walk_at "rd"
    rw [List.length_map]
    refine Rd.rd_IR1 (by omega) (by omega) ?_
    rw [show ((ns.length : Nat) : Int).toNat = ns.length from Int.toNat_natCast _]
    have er : ring ns = (List.range ns.length).map (ringAt ns) := by unfold ring; rw [if_pos h1]
    refine Rd.lc_rngI (lo := 0) (fun i D acc H' => ∃ ps : List Addr, acc = ps.map V.ref ∧ Paired (StepAt K H') ps ((List.range i).map (ringAt ns)) ∧ Same H H' ∧ H' D = some (.lst acc)) (fun D hD => ?_) (fun i D acc H6 N hi hD5 p hN2 => ?_) (fun D acc H6 hD5 p => ?_)
    · exact ⟨[], rfl, .nil, Rd.same_new hD, upd_same⟩
    · obtain ⟨ps, e1, e2, s6, e3⟩ := p
      have hN6 : SqL K H6 pn (ns.map V.str) := SqL.of (s6 _ _ hN)
      refine Rd.rd_start' [a, b, c, e, some (V.ref pn), f, none, none, none, none, none, none, none, none, none] rfl ?_
      walk_at "rd"
      refine ⟨rfl, ?_⟩
      walk_at "rd"
      refine Rd.rd_ixL hN6 (at_prev gd n1 hi) ?_
      walk_at "rd"
      refine Rd.rd_ixL hN6 (by rw [Int.zero_add]; exact atI_nat (gd i hi)) ?_
      walk_at "rd"
      refine Rd.rd_mkTup (by show 2 ≤ sizeLine; decide) fun q7 H7 hq s7 h7 => ?_
      have le : acc.length ≤ 8 := by rw [e1, List.length_map, e2.length, List.length_map, List.length_range]; omega
      refine hN2 _ _ (s7 _ _ e3) (Nat.lt_of_le_of_lt le (by decide)) ⟨ps ++ [q7], by rw [e1, List.map_append]; rfl, ?_, fun b o e => ?_, upd_same⟩
      · have kp8 : Kp H7 (upd H7 D (.lst (acc ++ [V.ref q7]))) := kp_upd (s7 _ _ e3) rfl
        rw [List.range_succ, List.map_append]
        exact paired_app (L2.Paired.mapP e2 fun _ _ z => kp8.sqT ((kpS s7).sqT z)) (.cons (kp8.sqT (SqT.of h7)) .nil)
      · rw [upd_ne (ne_of_none e hD5)]
        exact s7 _ _ (s6 _ _ e)
    · obtain ⟨ps, e1, e2, s6, e3⟩ := p
      exact q D H6 ps hD5 s6 (by rw [e3, e1]) (by rw [er]; exact e2)
  · rw [if_neg (by rw [decide_eq_true_eq]; omega)]
    walk_at "rd"
    refine Rd.rd_mkLst (by show 0 ≤ sizeLine; decide) fun l5 H5 hl5 s5 h5 => ?_
    exact q l5 H5 [] hl5 s5 h5 (by unfold ring; rw [if_neg h1]; exact .nil)
/-- rows sorted by name, the order not yet known -/
theorem rows_sorted' {K : PySem.W.Frag} {H : Hp} {rs : List Addr} {ts0 : List Tr} (hP : Paired (RowAt K H) rs ts0) {ys : List (Str × Addr)} (hp : ys.Perm ((ts0.zip rs).map fun z => (z.1.nm, z.2))) (ha : Rd.Asc (ys.map (·.1))) :
    ∃ ts : List Tr, ts.Perm ts0 ∧ Rd.Asc (ts.map (·.nm)) ∧ Paired (RowAt K H) (ys.map (·.2)) ts := by
  obtain ⟨zs, p1, e1⟩ := perm_map_inv (fun z : Tr × Addr => (z.1.nm, z.2)) hp _ rfl
  have hl : ts0.length = rs.length := hP.length.symm
  refine ⟨zs.map (·.1), ?_, ?_, ?_⟩
  · have := p1.map (·.1)
    rw [zip_fst hl] at this
    exact this
  · have e2 : ys.map (·.1) = (zs.map (·.1)).map (·.nm) := by rw [e1, List.map_map, List.map_map]; rfl
    rw [← e2]; exact ha
  · have e4 : ys.map (·.2) = zs.map (·.2) := by rw [e1, List.map_map]; rfl
    rw [e4]
    exact paired_map2 _ _ fun z hz => paired_zip hP z (p1.mem_iff.mp hz)
/-- found.append((names[at], pair[0], pair[1], change)) -/
theorem row_tail {K : PySem.W.Frag} {H : Hp} {D : Ends} {pw pf q ch : Addr} {i : Nat} {nm : Str} {st : Str × Str} {wd : List Str} {rs : List Addr} {a0 a1 a2 a3 a4 a5 a6 a7 a8 a9 : Option V} (hpw : H pw = some (.lst (wd.map V.str))) (hpf : H pf = some (.lst (rs.map V.ref))) (hq : StepAt K H q st) (hw : wd[i]? = some nm) (hl : rs.length ≤ 30)
    (k : ∀ (r : Addr) (H' : Hp), SameBut pf H H' → Kp H H' → H' pf = some (.lst ((rs ++ [r]).map V.ref)) → SqT K H' r [.str nm, .str st.1, .str st.2, .ref ch] → D.nx [a0, a1, a2, a3, a4, a5, a6, a7, a8, a9, some (V.ref pw), some (V.ref pf), some (V.int i), some (V.ref q), some (V.ref ch)] H') :
    tDrop (tBM K "list" rAppend (tVar 11) (tCons (tCB Rd.rMkTup (tCons (tOp (rIxL K) (tVar 10) (tVar 12)) (tCons (tOp (rIxT K) (tVar 13) (tC (V.int 0))) (tCons (tOp (rIxT K) (tVar 13) (tC (V.int 1))) (tCons (tVar 14) tNil))))) tNil)) D [a0, a1, a2, a3, a4, a5, a6, a7, a8, a9, some (V.ref pw), some (V.ref pf), some (V.int i), some (V.ref q), some (V.ref ch)] H := by
  have hq' : SqT K H q [.str st.1, .str st.2] := hq
  walk_at "rd"
  refine ⟨Rd.tyL (SqL.of (K := K) hpf), ?_⟩
  walk_at "rd"
  refine Rd.rd_ixL (SqL.of hpw) (atI_nat (v := V.str nm) (by rw [List.getElem?_map, hw]; rfl)) ?_
  walk_at "rd"
  refine Rd.rd_mkTup (by show 4 ≤ sizeLine; decide) fun r H1 hr s1 h1 => ?_
  walk_at "rd"
  refine Rd.rd_append (s1 _ _ hpf) (by rw [List.length_map]; exact Nat.lt_of_le_of_lt hl (by decide)) ?_
  have kp : Kp H1 (upd H1 pf (.lst (rs.map V.ref ++ [V.ref r]))) := kp_upd (s1 _ _ hpf) rfl
  refine k r _ ((SameBut.of s1).trans SameBut.upd) ((kpS s1).trans kp) ?_ (kp.sqT (SqT.of h1))
  rw [upd_same, List.map_append]; rfl
section
variable {gd : Bool} {P : Program} {w : World} {K : PySem.W.Frag} {mg : Str → Option Value} {base : Heap}
theorem ok_graph (F : Rd.Has K mg "_law_graph" s__law_graph) (g : Glob mg) (c__law_roll : Rd.Fn gd P w K mg base CX0 1 "_law_roll" spRoll) (c__law_one_of : Rd.Fn gd P w K mg base CX0 2 "_law_one_of" (spOneOf K)) (c__law_mixed : Rd.Fn gd P w K mg base CX0 2 "_law_mixed" (spMixP K)) (c__law_kind : Rd.Fn gd P w K mg base CX0 4 "_law_kind" (spDrawChg K)) (c__law_words : Rd.Fn gd P w K mg base CX0 3 "_law_words" spWords) :
    Rd.Fn gd P w K mg base CX0 5 "_law_graph" (spGraph K) := by
  refine F.fn sc__law_graph (fun _ => rfl) (fun _ _ _ _ _ _ us hl => match us, hl with | [_, _, _, _], _ => rfl) fun f cdv A outer s H Q E b hr h => ?_
  obtain ⟨d, m1, m2, m3⟩ := b
  obtain ⟨hD, ⟨a1, a2⟩, ⟨b1, b2⟩, ⟨c1, c2⟩, k⟩ := h
  dsimp only at hD a1 a2 b1 b2 c1 c2 k
  refine ⟨_, (pss_cons (ps_set (i := 4) sc__law_graph.nd rfl (Or.inr rfl) (pe_callB (Rd.c_sortT rfl) (by rfl) g.sorted (by decide +kernel) (pa_cons (pe_slice sl_list (Rd.pe_fn c__law_mixed (hr.mono (by decide)) (by rfl) (pa_cons (pv 0) (pa_cons (Rd.pe_lst (pa_cons pe_str (pa_cons pe_str (pa_cons pe_str (pa_cons pe_str pa_nil))))) pa_nil))) po_none (po_some (pe_op op_add pe_int (Rd.pe_fn c__law_roll (hr.mono (by decide)) (by rfl) (pa_cons (pv 0) (pa_cons (pv 1) pa_nil)))))) pa_nil)))
      (pss_cons (ps_set (i := 5) sc__law_graph.nd rfl (Or.inl rfl) (pe_callB (Rd.c_sortT rfl) (by rfl) g.sorted (by decide +kernel) (pa_cons (pe_slice sl_list (Rd.pe_fn c__law_mixed (hr.mono (by decide)) (by rfl) (pa_cons (pv 0) (pa_cons (Rd.pe_lst (pa_cons pe_str (pa_cons pe_str (pa_cons pe_str (pa_cons pe_str (pa_cons pe_str pa_nil)))))) pa_nil))) po_none (po_some (pe_op op_add pe_int (Rd.pe_fn c__law_roll (hr.mono (by decide)) (by rfl) (pa_cons (pv 0) (pa_cons (pv 2) pa_nil)))))) pa_nil)))
      (pss_cons (ps_set (i := 6) sc__law_graph.nd rfl (Or.inl rfl) (pe_ifExp (pt_cmpR op_gt (pe_callB Rd.c_len (by rfl) g.len (by decide +kernel) (pa_cons (pv 4) pa_nil)) pe_int (nomark _)) (pe_lc (own := [("_law_at", 12)]) (by rfl) sc__law_graph.nd (pi_range1 (by rfl) g.range (pa_cons (pe_callB Rd.c_len (by rfl) g.len (by decide +kernel) (pa_cons (pv 4) pa_nil)) pa_nil)) (blkOk_by (own := [("_law_at", 12)]) (N := ["_law_dice_here", "_law_most_states", "_law_most_counters", "_law_more", "_law_nodes", "_law_counters", "_law_pairs", "_law_spots", "_law_turn", "_law_source", "_law_names", "_law_found", "_law_at", "_law_pair", "_law_change_here"]) (sc := defScope s__law_graph) (by decide +kernel)) (fun _ _ _ _ _ => (pg_name (i := 12) sc__law_graph.nd rfl (Or.inl rfl))) (fun _ _ _ _ _ => pts_nil) (fun _ _ _ _ _ => (Rd.pe_tup (pa_cons (pe_ix (Rd.ix_listK (K := K) (by rfl)) (pv 4) (pe_op op_sub (pv 12) pe_int) (fun _ _ => rfl)) (pa_cons (pe_ix (Rd.ix_listK (K := K) (by rfl)) (pv 4) (pv 12) (fun _ _ => rfl)) pa_nil))))) (Rd.pe_lst pa_nil)))
      (pss_cons (ps_set (i := 7) sc__law_graph.nd rfl (Or.inl rfl) (pe_callB Rd.c_len (by rfl) g.len (by decide +kernel) (pa_cons (pv 6) pa_nil)))
      (pss_cons (ps_for PassesOwn.never rfl (pi_range1 (by rfl) g.range (pa_cons (pe_op op_add pe_int (Rd.pe_fn c__law_roll (hr.mono (by decide)) (by rfl) (pa_cons (pv 0) (pa_cons (pv 3) pa_nil)))) pa_nil)) (pg_name (i := 8) sc__law_graph.nd rfl (Or.inl rfl)) (pss_cons (ps_set (i := 9) sc__law_graph.nd rfl (Or.inl rfl) (Rd.pe_fn c__law_one_of (hr.mono (by decide)) (by rfl) (pa_cons (pv 0) (pa_cons (pv 4) pa_nil))))
      (pss_one (ps_expr (pe_bm PySem.F.plainAttrs_list PySem.F.slot_list_append PySem.F.type_list_append mt_append (pv 6) (pa_cons (Rd.pe_tup (pa_cons (pv 9) (pa_cons (Rd.pe_fn c__law_one_of (hr.mono (by decide)) (by rfl) (pa_cons (pv 0) (pa_cons (Rd.pe_lst (pa_cons (pv 9) (pa_cons (pv 9) (pa_cons (Rd.pe_fn c__law_one_of (hr.mono (by decide)) (by rfl) (pa_cons (pv 0) (pa_cons (pv 4) pa_nil))) pa_nil)))) pa_nil))) pa_nil))) pa_nil))))))
      (pss_cons (ps_par (i := 10) (j := 11) (by rfl) sc__law_graph.nd rfl rfl (by decide) rfl rfl (pa_cons (Rd.pe_fn c__law_words (hr.mono (by decide)) (by rfl) (pa_cons (pv 0) (pa_cons (pe_callB Rd.c_len (by rfl) g.len (by decide +kernel) (pa_cons (pv 6) pa_nil)) pa_nil))) (pa_cons (Rd.pe_lst pa_nil) pa_nil)) (by rfl))
      (pss_cons (ps_for PassesOwn.never rfl (pi_enum (by rfl) g.enumerate (pa_cons (pv 6) pa_nil)) (pg_tup rfl (pgs_cons (pg_name (i := 12) sc__law_graph.nd rfl (Or.inl rfl)) (pgs_cons (pg_name (i := 13) sc__law_graph.nd rfl (Or.inl rfl)) pgs_nil))) (pss_cons (ps_set (i := 14) sc__law_graph.nd rfl (Or.inl rfl) (Rd.pe_fn c__law_kind (hr.mono (by decide)) (by rfl) (pa_cons (pv 0) (pa_cons (pv 5) pa_nil))))
      (pss_cons (ps_if (PW.pt (pw_and (pt_cmpR op_lt (pv 12) (pv 7) (nomark _)) (pw_and1 (pt_cmpR op_eq (Rd.pe_fn c__law_roll (hr.mono (by decide)) (by rfl) (pa_cons (pv 0) (pa_cons pe_int pa_nil))) pe_int (nomark _))))) (pss_one (ps_set (i := 14) sc__law_graph.nd rfl (Or.inl rfl) (Rd.pe_tupF pa_nil))) pss_nil)
      (pss_one (ps_expr (pe_bm PySem.F.plainAttrs_list PySem.F.slot_list_append PySem.F.type_list_append mt_append (pv 11) (pa_cons (Rd.pe_tup (pa_cons (pe_ix ix_list (pv 10) (pv 12) (fun _ _ => rfl)) (pa_cons (pe_ix ix_tup (pv 13) pe_int (fun _ _ => rfl)) (pa_cons (pe_ix ix_tup (pv 13) pe_int (fun _ _ => rfl)) (pa_cons (pv 14) pa_nil))))) pa_nil)))))))
      (pss_one (ps_ret (Rd.pe_tup (pa_cons (pe_callTy Rd.c_tuple (by rfl) g.tuple (by decide +kernel) (pa_cons (pv 5) pa_nil)) (pa_cons (pe_callTy Rd.c_tuple (by rfl) g.tuple (by decide +kernel) (pa_cons (pv 4) pa_nil)) (pa_cons (pe_callTy Rd.c_tuple (by rfl) g.tuple (by decide +kernel) (pa_cons (pe_callB Rd.c_sortK (by rfl) g.sorted (by decide +kernel) (pa_cons (pv 11) pa_nil)) pa_nil)) pa_nil))))))))))))), ?_⟩
  try simp only [Rd.noxK, Rd.cxK]
  refine Rd.rd_start [some (V.ref d), some (V.int m1), some (V.int m2), some (V.int m3), none, none, none, none, none, none, none, none, none, none, none] rfl ?_
  walk_at "rd"
  refine Rd.rd_mkLst (by show 4 ≤ sizeLine; decide) fun l1 H1 hl1 s1 h1 => ?_
  walk_at "rd"
  refine Rd.rd_sp (d, l1, nodeNames.map V.str) rfl ⟨hD.same s1, hD.ne hl1, SqL.of h1, by show 4 < 1000; decide, fun l2 ys H2 hl2 pm R2 h2 => ?_⟩
  have R02 : Rolled d H H2 := Rolled.pre s1 R2
  have nl2 : l2 ≠ d := (hD.same s1).ne hl2
  obtain ⟨ws, pw, rfl⟩ := perm_map_inv V.str pm nodeNames rfl
  walk_at "rd"
  refine rd_roll R02.dice (by omega) (by omega) fun r H3 r0 r1 R3 => ?_
  walk_at "rd"
  have nd1 : ws.Nodup := pw.nodup_iff.mpr (by decide +kernel)
  have lw : ws.length = 4 := pw.length_eq
  have R03 := R02.trans R3
  refine cut_sorted (n := 1 + r.toNat) (by omega) (R3.keep _ _ nl2 h2) nd1 (by omega) (by omega) fun ns pn H4 na nlen nm hpn s4 h4 => ?_
  have R04 := R03.same s4
  have hpn0 : H pn = none := none_rol R03 hD hpn
  have npn : pn ≠ d := hD.ne hpn0
  have nsN : ∀ z ∈ ns, z ∈ nodeNames := fun z hz => pw.mem_iff.mp (nm z hz)
  clear h1 h2 pm nm hl1 hl2
  walk_at "rd"
  refine Rd.rd_mkLst (by show 5 ≤ sizeLine; decide) fun l5 H5 hl5 s5 h5 => ?_
  walk_at "rd"
  have D5 := R04.dice.same s5
  refine Rd.rd_sp (d, l5, counterNames.map V.str) rfl ⟨D5, R04.dice.ne hl5, SqL.of h5, by show 5 < 1000; decide, fun l6 ys H6 hl6 pm6 R6 h6 => ?_⟩
  have R06 : Rolled d H H6 := (R04.same s5).trans R6
  have nl6 : l6 ≠ d := D5.ne hl6
  obtain ⟨vs, pv, rfl⟩ := perm_map_inv V.str pm6 counterNames rfl
  walk_at "rd"
  refine rd_roll R06.dice (by omega) (by omega) fun r7 H7 r70 r71 R7 => ?_
  walk_at "rd"
  have nd6 : vs.Nodup := pv.nodup_iff.mpr (by decide +kernel)
  have lv : vs.length = 5 := pv.length_eq
  have R07 := R06.trans R7
  refine cut_sorted (n := 1 + r7.toNat) (by omega) (R7.keep _ _ nl6 h6) nd6 (by omega) (by omega) fun cs pc H8 ca clen cm hpc s8 h8 => ?_
  have R08 := R07.same s8
  have hpc0 : H pc = none := none_rol R07 hD hpc
  have npc : pc ≠ d := hD.ne hpc0
  have csN : ∀ z ∈ cs, z ∈ counterNames := fun z hz => pv.mem_iff.mp (cm z hz)
  have h8n : H8 pn = some (.lst (ns.map V.str)) := s8 _ _ (R7.keep _ _ npn (R6.keep _ _ npn (s5 _ _ h4)))
  have nN8 : SqL K H8 pn (ns.map V.str) := SqL.of h8n
  clear h5 h6 pm6 cm hl5 hl6
  walk_at "rd"
  rw [List.length_map]
  refine ring_draw (by omega) (by omega) h8n fun pp H9 ps hpp s9 h9 hP9 => ?_
  have R09 := R08.same s9
  have hpp0 : H pp = none := none_rol R08 hD hpp
  have npp : pp ≠ d := hD.ne hpp0
  have h9n : H9 pn = some (.lst (ns.map V.str)) := s9 _ _ h8n
  have h9c : H9 pc = some (.lst (cs.map V.str)) := s9 _ _ h8
  have h9L : SqL K H9 pp (ps.map V.ref) := SqL.of h9
  walk_at "rd"
  rw [List.length_map]
  refine rd_roll R09.dice (by omega) (by omega) fun r10 H10 r100 r101 R10 => ?_
  walk_at "rd"
  refine Rd.rd_IR1 (by omega) (by omega) ?_
  have lring := ring_len ns
  have lps : ps.length = (ring ns).length := hP9.length
  have n1 : 0 < (ns.map V.str).length := by rw [List.length_map]; omega
  have n2 : (ns.map V.str).length < 1000 := by rw [List.length_map]; omega
  refine Rd.for_range (fun i σ' H' => ∃ (qs : List Addr) (sts : List (Str × Str)) (t u : Option V), σ' = [some (V.ref d), some (V.int m1), some (V.int m2), some (V.int m3), some (V.ref pn), some (V.ref pc), some (V.ref pp), some (V.int ps.length), t, u, none, none, none, none, none] ∧ Rolled d H H' ∧ H' pn = some (.lst (ns.map V.str)) ∧ H' pc = some (.lst (cs.map V.str)) ∧ H' pp = some (.lst (qs.map V.ref)) ∧ Paired (StepAt K H') qs (ring ns ++ sts) ∧ sts.length = i ∧ ∀ st ∈ sts, st.1 ∈ ns ∧ st.2 ∈ ns) ?_ (fun i σ' H11 hi p => ?_) (fun σ' H11 p => ?_)
  · exact ⟨ps, [], none, none, rfl, R09.trans R10, R10.keep _ _ npn h9n, R10.keep _ _ npc h9c, R10.keep _ _ npp h9, by rw [List.append_nil]; exact L2.Paired.mapP hP9 fun _ _ z => (R10.kp R09.dice).sqT z, rfl, fun _ z => (List.not_mem_nil z).elim⟩
  · obtain ⟨qs, sts, t, u, rfl, R11, h11n, h11c, h11, hP11, hl11, hs11⟩ := p
    refine Rd.rd_start' [some (V.ref d), some (V.int m1), some (V.int m2), some (V.int m3), some (V.ref pn), some (V.ref pc), some (V.ref pp), some (V.int ps.length), t, u, none, none, none, none, none] rfl ?_
    walk_at "rd"
    refine rd_one R11.dice npn (SqL.of h11n) n1 n2 fun v H12 hv R12 => ?_
    obtain ⟨x, rfl, hx⟩ := strs_of hv
    have k12 := R12.kp R11.dice
    have R012 := R11.trans R12
    walk_at "rd"
    have h12n := R12.keep _ _ npn h11n
    have h12 := R12.keep _ _ npp h11
    refine ⟨Rd.tyL (SqL.of (K := K) h12), ?_⟩
    walk_at "rd"
    refine rd_one R012.dice npn (SqL.of h12n) n1 n2 fun v H13 hv R13 => ?_
    obtain ⟨y, rfl, hy⟩ := strs_of hv
    have R013 := R012.trans R13
    walk_at "rd"
    refine Rd.rd_mkLst (by show 3 ≤ sizeLine; decide) fun l14 H14 hl14 s14 h14 => ?_
    have R014 := R013.same s14
    walk_at "rd"
    refine rd_one R014.dice (R013.dice.ne hl14) (SqL.of h14) (by show 0 < 3; decide) (by show 3 < 1000; decide) fun v H15 hv R15 => ?_
    obtain ⟨z, rfl, hz⟩ : ∃ z, v = .str z ∧ z ∈ ns := by
      obtain ⟨z, e, hz⟩ := strs_of (ns := [x, x, y]) hv
      refine ⟨z, e, ?_⟩
      simp only [List.mem_cons, List.not_mem_nil, or_false] at hz
      rcases hz with e | e | e <;> rw [e] <;> assumption
    have R015 := R014.trans R15
    walk_at "rd"
    refine Rd.rd_mkTup (by show 2 ≤ sizeLine; decide) fun q16 H16 hq16 s16 h16 => ?_
    have R016 := R015.same s16
    have k16 : Kp H11 H16 := ((k12.trans (R13.kp R012.dice)).trans (kpS s14)).trans ((R15.kp R014.dice).trans (kpS s16))
    have kk : ∀ b o, b ≠ d → H11 b = some o → H16 b = some o := fun b o hb e => s16 _ _ (R15.keep _ _ hb (s14 _ _ (R13.keep _ _ hb (R12.keep _ _ hb e))))
    have h16p : H16 pp = some (.lst (qs.map V.ref)) := kk _ _ npp h11
    have lq : qs.length ≤ 30 := by rw [hP11.length, List.length_append]; omega
    walk_at "rd"
    refine Rd.rd_append h16p (by rw [List.length_map]; exact Nat.lt_of_le_of_lt lq (by decide)) ?_
    walk_at "rd"
    have kp17 : Kp H16 (upd H16 pp (.lst (qs.map V.ref ++ [V.ref q16]))) := kp_upd h16p rfl
    have nnp : pn ≠ pp := (ne_of_none h8n hpp)
    have ncp : pc ≠ pp := (ne_of_none h8 hpp)
    refine ⟨qs ++ [q16], sts ++ [(x, z)], _, _, rfl, R016.mut hpp0 npp, by rw [upd_ne nnp]; exact kk _ _ npn h11n, by rw [upd_ne ncp]; exact kk _ _ npc h11c, by rw [upd_same, List.map_append]; rfl, ?_, by rw [List.length_append, hl11]; rfl, fun st hst => ?_⟩
    · rw [← List.append_assoc]
      exact paired_app (L2.Paired.mapP hP11 fun _ _ z => kp17.sqT (k16.sqT z)) (.cons (kp17.sqT (SqT.of h16)) .nil)
    · rcases List.mem_append.mp hst with e | e
      · exact hs11 st e
      · rw [List.mem_singleton.mp e]; exact ⟨hx, hz⟩
  · obtain ⟨qs, sts, t, u, rfl, R11, h11n, h11c, h11, hP11, hl11, hs11⟩ := p
    have h11L : SqL K H11 pp (qs.map V.ref) := SqL.of h11
    have lq : qs.length = (ring ns).length + sts.length := by rw [hP11.length, List.length_append]
    walk_at "rd"
    rw [List.length_map]
    refine Rd.rd_sp (d, qs.length) rfl ⟨R11.dice, by show qs.length ≤ 16; omega, fun pw2 H12 wd hpw R12 h12 wnd wmem wlen => ?_⟩
    dsimp only at wlen
    have R012 := R11.trans R12
    have hpw0 : H pw2 = none := none_rol R11 hD hpw
    have npw : pw2 ≠ d := hD.ne hpw0
    walk_at "rd"
    refine Rd.rd_mkLst (by show 0 ≤ sizeLine; decide) fun pf H13 hpf s13 h13 => ?_
    have R013 := R012.same s13
    have hpf0 : H pf = none := none_rol R012 hD hpf
    have npf : pf ≠ d := hD.ne hpf0
    have k13 : Kp H11 H13 := (R12.kp R11.dice).trans (kpS s13)
    have kk : ∀ b o, b ≠ d → H11 b = some o → H13 b = some o := fun b o hb e => s13 _ _ (R12.keep _ _ hb e)
    have h13p : SqL K H13 pp (qs.map V.ref) := SqL.of (kk _ _ npp h11)
    walk_at "rd"
    refine Rd.for_enum (K := K) (xs := qs.map V.ref) (fun i σ' H' => ∃ (rs : List Addr) (ts : List Tr) (v1 v2 v3 : Option V), σ' = [some (V.ref d), some (V.int m1), some (V.int m2), some (V.int m3), some (V.ref pn), some (V.ref pc), some (V.ref pp), some (V.int ps.length), t, u, some (V.ref pw2), some (V.ref pf), v1, v2, v3] ∧ Rolled d H H' ∧ H' pn = some (.lst (ns.map V.str)) ∧ H' pc = some (.lst (cs.map V.str)) ∧ H' pp = some (.lst (qs.map V.ref)) ∧ H' pw2 = some (.lst (wd.map V.str)) ∧ H' pf = some (.lst (rs.map V.ref)) ∧ Paired (StepAt K H') qs (ring ns ++ sts) ∧ Paired (RowAt K H') rs ts ∧ ts.map (·.nm) = wd.take i ∧ ts.map (fun t => (t.src, t.tgt)) = (ring ns ++ sts).take i ∧ ∀ t ∈ ts, ChgOk t.chg ∧ t.chg.length ≤ 5 ∧ ∀ kv ∈ t.chg, kv.1 ∈ cs) ?_ (fun i σ' H' _ p => ?_) (fun i x σ' H14 T H15 hx p hT s15 h15 => ?_) (fun σ' H14 p => ?_)
    · exact ⟨[], [], none, none, none, rfl, R013, kk _ _ npn h11n, kk _ _ npc h11c, kk _ _ npp h11, s13 _ _ h12, h13, L2.Paired.mapP hP11 fun _ _ z => k13.sqT z, .nil, rfl, rfl, fun _ z => (List.not_mem_nil z).elim⟩
    · obtain ⟨rs, ts, v1, v2, v3, _, _, _, _, q5, _⟩ := p
      exact SqL.of q5
    · obtain ⟨rs, ts, v1, v2, v3, rfl, R14, q1, q2, q3, q4, q5, hP14, hR14, en, ee, hok⟩ := p
      rw [List.getElem?_map] at hx
      obtain ⟨q, hq, rfl⟩ := Option.map_eq_some_iff.mp hx
      obtain ⟨st, hst, hqs⟩ := paired_get hP14 hq
      have hT15 : SqT K H15 T [.int (i : Nat), .ref q] := SqT.of h15
      refine Rd.rd_start' [some (V.ref d), some (V.int m1), some (V.int m2), some (V.int m3), some (V.ref pn), some (V.ref pc), some (V.ref pp), some (V.int ps.length), t, u, some (V.ref pw2), some (V.ref pf), v1, v2, v3] rfl ?_
      walk_at "rd"
      have csO : cs ≠ [] ∧ cs.length ≤ 5 ∧ ∀ c ∈ cs, isName c = true := ⟨List.length_pos_iff.mp (by omega), by omega, fun c hc => names_ok.2.1 c (csN c hc)⟩
      have R15 := R14.same s15
      refine Rd.rd_sp (d, pc, cs) rfl ⟨R15.dice, npc, SqL.of (s15 _ _ q2), csO, fun ch H16 chg R16 hchg cok cmem clen => ?_⟩
      have R016 := R15.trans R16
      walk_at "rd"
      have lqi : i < qs.length := (List.getElem?_eq_some_iff.mp hq).1
      obtain ⟨nm, hnm⟩ : ∃ nm, wd[i]? = some nm := ⟨wd[i]'(by omega), List.getElem?_eq_getElem (by omega)⟩
      have lrs : rs.length ≤ 30 := by
        have h1 : ts.length ≤ wd.length := by
          have := congrArg List.length en
          rw [List.length_map, List.length_take] at this; omega
        rw [hR14.length]; omega
      have nfn : pn ≠ pf := fun z => by rw [z] at h11n; exact absurd (R12.keep _ _ npf h11n) (by rw [hpf]; exact nofun)
      have nfc : pc ≠ pf := fun z => by rw [z] at h11c; exact absurd (R12.keep _ _ npf h11c) (by rw [hpf]; exact nofun)
      have nfp : pp ≠ pf := fun z => by rw [z] at h11; exact absurd (R12.keep _ _ npf h11) (by rw [hpf]; exact nofun)
      have nfw : pw2 ≠ pf := ne_of_none h12 hpf
      have fin : ∀ (ch2 : Addr) (chg2 : List (Str × Int)) (Hx : Hp) (r : Addr) (Hy : Hp) (σx : L2.St), (∃ v1 v2 v3, σx = [some (V.ref d), some (V.int m1), some (V.int m2), some (V.int m3), some (V.ref pn), some (V.ref pc), some (V.ref pp), some (V.int ps.length), t, u, some (V.ref pw2), some (V.ref pf), v1, v2, v3]) → Rolled d H14 Hx → ChgAt K Hx ch2 chg2 → ChgOk chg2 → chg2.length ≤ 5 → (∀ kv ∈ chg2, kv.1 ∈ cs) → SameBut pf Hx Hy → Kp Hx Hy → Hy pf = some (.lst ((rs ++ [r]).map V.ref)) → SqT K Hy r [.str nm, .str st.1, .str st.2, .ref ch2] → ∃ (rs : List Addr) (ts : List Tr) (v1 v2 v3 : Option V), σx = [some (V.ref d), some (V.int m1), some (V.int m2), some (V.int m3), some (V.ref pn), some (V.ref pc), some (V.ref pp), some (V.int ps.length), t, u, some (V.ref pw2), some (V.ref pf), v1, v2, v3] ∧ Rolled d H Hy ∧ Hy pn = some (.lst (ns.map V.str)) ∧ Hy pc = some (.lst (cs.map V.str)) ∧ Hy pp = some (.lst (qs.map V.ref)) ∧ Hy pw2 = some (.lst (wd.map V.str)) ∧ Hy pf = some (.lst (rs.map V.ref)) ∧ Paired (StepAt K Hy) qs (ring ns ++ sts) ∧ Paired (RowAt K Hy) rs ts ∧ ts.map (·.nm) = wd.take (i + 1) ∧ ts.map (fun t => (t.src, t.tgt)) = (ring ns ++ sts).take (i + 1) ∧ ∀ t ∈ ts, ChgOk t.chg ∧ t.chg.length ≤ 5 ∧ ∀ kv ∈ t.chg, kv.1 ∈ cs := by
        intro ch2 chg2 Hx r Hy σx hσ Rx hch cok2 clen2 cmem2 bx kx hf hrow
        obtain ⟨w1, w2, w3, rfl⟩ := hσ
        have kx0 : Kp H14 Hy := (Rx.kp R14.dice).trans kx
        have go : ∀ b o, b ≠ d → b ≠ pf → H14 b = some o → Hy b = some o := fun b o h1 h2 e => bx _ _ h2 (Rx.keep _ _ h1 e)
        have R0x := R14.trans Rx
        refine ⟨rs ++ [r], ts ++ [⟨nm, st.1, st.2, chg2⟩], w1, w2, w3, rfl, ⟨fun b o hb e => bx _ _ (ne_of_none e hpf0) (R0x.keep b o hb e), by
          obtain ⟨x, y, z, q⟩ := R0x.dice
          exact ⟨x, y, z, bx _ _ npf.symm q⟩⟩, go _ _ npn nfn q1, go _ _ npc nfc q2, go _ _ npp nfp q3, go _ _ npw nfw q4, hf, L2.Paired.mapP hP14 fun _ _ z => kx0.sqT z, ?_, ?_, ?_, fun t ht => ?_⟩
        · exact paired_app (L2.Paired.mapP hR14 fun _ _ z => z.kp kx0) (.cons ⟨ch2, hrow, hch.kp kx⟩ .nil)
        · rw [List.map_append, en, List.take_add_one, hnm]; rfl
        · rw [List.map_append, ee, List.take_add_one, hst]; rfl
        · rcases List.mem_append.mp ht with e | e
          · exact hok t e
          · rw [List.mem_singleton.mp e]; exact ⟨cok2, clen2, cmem2⟩
      have q16w := R16.keep _ _ npw (s15 _ _ q4)
      have q16f := R16.keep _ _ npf (s15 _ _ q5)
      have R1416 : Rolled d H14 H16 := Rolled.pre s15 R16
      have st16 : StepAt K H16 q st := (R1416.kp R14.dice).sqT hqs
      refine ite2 (fun hc => ?_) (fun hc => ?_)
      · walk_at "rd"
        refine rd_roll R016.dice (by omega) (by omega) fun r17 H17 r170 r171 R17 => ?_
        have R1417 := R1416.trans R17
        have q17w := R17.keep _ _ npw q16w
        have q17f := R17.keep _ _ npf q16f
        have st17 : StepAt K H17 q st := (R1417.kp R14.dice).sqT hqs
        walk_at "rd"
        refine ite2 (fun hc2 => ?_) (fun hc2 => ?_)
        · walk_at "rd"
          refine Rd.rd_mkTupF (by show 0 ≤ sizeLine; decide) fun e18 H18 he18 s18 h18 => ?_
          refine Rd.rd_nx (Rd.rd_start [some (V.ref d), some (V.int m1), some (V.int m2), some (V.int m3), some (V.ref pn), some (V.ref pc), some (V.ref pp), some (V.int ps.length), t, u, some (V.ref pw2), some (V.ref pf), some (V.int i), some (V.ref q), some (V.ref e18)] rfl ?_)
          refine row_tail (st := st) (s18 _ _ q17w) (s18 _ _ q17f) ((kpS s18).sqT st17) hnm lrs fun r H19 b19 k19 hf hrow => ?_
          exact fin _ [] H18 r H19 _ ⟨_, _, _, rfl⟩ (R1417.same s18) ⟨[], h18, .nil⟩ ⟨List.Pairwise.nil, fun _ z => (List.not_mem_nil z).elim⟩ (Nat.zero_le _) (fun _ z => (List.not_mem_nil z).elim) b19 k19 hf hrow
        · refine Rd.rd_next ?_
          refine Rd.rd_nx ?_
          refine row_tail (st := st) q17w q17f st17 hnm lrs fun r H19 b19 k19 hf hrow => ?_
          exact fin _ chg H17 r H19 _ ⟨_, _, _, rfl⟩ R1417 (hchg.kp (R17.kp R016.dice)) cok clen cmem b19 k19 hf hrow
      · refine Rd.rd_next ?_
        refine Rd.rd_nx ?_
        refine row_tail (st := st) q16w q16f st16 hnm lrs fun r H19 b19 k19 hf hrow => ?_
        exact fin _ chg H16 r H19 _ ⟨_, _, _, rfl⟩ R1416 hchg cok clen cmem b19 k19 hf hrow
    · obtain ⟨rs, ts, v1, v2, v3, rfl, R14, q1, q2, q3, q4, q5, hP14, hR14, en, ee, hok⟩ := p
      rw [List.length_map, ← wlen, List.take_length] at en
      rw [List.length_map, hP11.length, List.take_length] at ee
      have lts : ts.length = wd.length := by rw [← en, List.length_map]
      have lp : ts.length = rs.length := hR14.length.symm
      have n1' : ns ≠ [] := List.length_pos_iff.mp (by omega)
      walk_at "rd"
      refine Rd.rd_tupleL (SqL.of q2) fun tc H15 htc s15 h15 => ?_
      walk_at "rd"
      refine Rd.rd_tupleL (SqL.of (s15 _ _ q1)) fun tn H16 htn s16 h16 => ?_
      walk_at "rd"
      have s1416 := s15.trans s16
      have hP16 : Paired (RowAt K H16) rs ts := L2.Paired.mapP hR14 fun _ _ z => z.kp (kpS s1416)
      have en' : ((ts.zip rs).map fun z => (z.1.nm, z.2)).map (fun z => V.ref z.2) = rs.map V.ref := by
        rw [List.map_map, ← zip_snd lp, List.map_map]
        simp only [Function.comp_def, zip_snd lp]
      have en1 : ((ts.zip rs).map fun z => (z.1.nm, z.2)).map (fun z => z.1) = ts.map (·.nm) := by
        rw [List.map_map, ← zip_fst lp, List.map_map]
        simp only [Function.comp_def, zip_fst lp]
      refine Rd.rd_sortK (zs := (ts.zip rs).map fun z => (z.1.nm, z.2)) (.inr (by rw [en']; exact SqL.of (s1416 _ _ q5))) (by rw [List.length_map, List.length_zip]; omega) (fun z hz => ?_) (by rw [en1, en]; exact wnd) fun ys p8 H17 py ya hn17 s17 h17 => ?_
      · obtain ⟨y, hy, rfl⟩ := List.mem_map.mp hz
        obtain ⟨c, hrow, _⟩ := paired_zip hP16 y hy
        exact ⟨_, hrow⟩
      obtain ⟨ts2, pm2, asc2, hP2⟩ := rows_sorted' hP16 py ya
      have e8 : (ys.map fun z => V.ref z.2) = (ys.map (·.2)).map V.ref := by rw [List.map_map]; rfl
      rw [e8] at h17
      walk_at "rd"
      refine Rd.rd_tupleL (SqL.of h17) fun tt H18 htt s18 h18 => ?_
      walk_at "rd"
      refine Rd.rd_mkTup (by show 3 ≤ sizeLine; decide) fun pl H19 hpl s19 h19 => ?_
      have s1719 := s18.trans s19
      have s1619 := s17.trans s1719
      have LP : Loop1 ts2 ns := (ring_rows n1' na.nodup ee hs11).perm pm2.symm
      have mem2 : ∀ x ∈ ts2, x ∈ ts := fun x hx => pm2.mem_iff.mp hx
      have nmW : ∀ x ∈ ts, x.nm ∈ words := fun x hx => wmem _ (by rw [← en]; exact List.mem_map.mpr ⟨x, hx, rfl⟩)
      refine k pl H19 ⟨cs, ns, ts2⟩ (((R14.same s1416).same s17).same s1719) ⟨tc, tn, tt, SqT.of h19, TxT.kp (kpS (s16.trans s1619)) (SqT.of h15), TxT.kp (kpS s1619) (SqT.of h16), ⟨_, (kpS s19).sqT (SqT.of h18), L2.Paired.mapP hP2 fun _ _ z => z.kp (kpS s1619)⟩⟩ ?_ ⟨?_, nsN, csN, fun x hx => nmW x (mem2 x hx), by show ns.length ≤ m1; omega, by show cs.length ≤ m2; omega, by show ts2.length ≤ m1 + m3; rw [pm2.length_eq]; omega⟩
      rotate_left
      · show ts2 ≠ []
        exact List.length_pos_iff.mp (by rw [pm2.length_eq]; omega)
      refine ⟨List.length_pos_iff.mp (by show 0 < cs.length; omega), by show cs.length ≤ 5; omega, ca, fun x hx => names_ok.2.1 x (csN x hx), by show ns.length ≤ 8; omega, na, fun x hx => names_ok.1 x (nsN x hx), by show ts2.length ≤ 16; rw [pm2.length_eq]; omega, asc2, fun x hx => ?_, fun x hx => (hok x (mem2 x hx)).2.2, fun x hx hc => names_ok.2.2.2 _ (nmW x (mem2 x hx)) (csN _ hc), LP⟩
      obtain ⟨o1, o2, o3⟩ := hok x (mem2 x hx)
      obtain ⟨l1, l2⟩ := LP.ends x hx
      exact ⟨names_ok.2.2.1 _ (nmW x (mem2 x hx)), names_ok.1 _ (nsN _ l1), names_ok.1 _ (nsN _ l2), o1, o2⟩
end
end M
set_option Elab.async false
set_option linter.all false
set_option maxRecDepth 100000
set_option maxHeartbeats 4000000
namespace M
open PySem L2
local macro_rules | `(tactic| walk_at "rdc") => `(tactic| first | exact Or.inl ⟨by decide, by decide⟩ | exact Or.inr ⟨by decide, by decide⟩ | exact ⟨by decide, by decide, by decide⟩ | exact ⟨by decide, by decide⟩ | decide | omega | assumption | (refine Or.inl ⟨?_, ?_⟩ <;> omega) | (refine Or.inr ⟨?_, ?_⟩ <;> omega) | (refine ⟨?_, ?_⟩ <;> omega))
local macro_rules | `(tactic| walk_at "rd1") => `(tactic| with_reducible first
  | refine Rd.rd_seq ?_ | refine Rd.rd_asg ?_ | refine Rd.rd_op ?_ | (refine' Rd.rd_var ?vh ?_; (case vh => with_unfolding_all rfl)) | refine Rd.rd_c ?_ | refine Rd.rd_I0 ?_ | refine Rd.rd_name0 ?_ | refine Rd.rd_nameS ?_ | refine Rd.rd_fn ?_
  | refine Rd.rd_cb ?_ | refine Rd.rd_cons ?_ | refine Rd.rd_nil ?_ | refine Rd.rd_int ?_ | refine Rd.rd_intB ?_ | refine Rd.rd_abs ?_ | refine Rd.rd_max2 ?_ | refine Rd.rd_min2 ?_
  | refine Rd.rd_call ?_ | refine Rd.rd_ifE ?_ | refine Rd.rd_test ?_ | refine Rd.rd_tB ?_ | refine Rd.rd_blV ?_ | refine Rd.rd_and ?_ | refine Rd.rd_or ?_ | refine Rd.rd_not ?_
  | refine Rd.rd_andV ?_ | refine Rd.rd_orV ?_ | refine Rd.rd_notV ?_ | refine Rd.rd_next ?_ | refine Rd.rd_ret ?_ | refine Rd.rd_drop ?_ | refine Rd.rd_ifS ?_ | refine Rd.rd_nx ?_ | refine Rd.rd_rt ?_ | refine Rd.rd_tMatch ?_ | refine Rd.rd_tCO ?_ | refine Rd.rd_tRevL ?_ | refine Rd.rd_tStar ?_ | refine Rd.rd_joined ?_ | refine Rd.rd_js1 ?_ | refine Rd.rd_js0 ?_ | refine Rd.rd_fmt ?_ | refine Rd.rd_propR ?_ | refine Rd.rd_iZipA ?_ | refine Rd.rd_iEnumT ?_ | refine Rd.rd_iOwn ?_ | (refine' Rd.rd_IET ?ln ?_; (case ln => with_unfolding_all walk_at "at")) | refine Rd.rd_chain ?_ | refine Rd.rd_tPar ?_ | refine Rd.rd_par ?_ | refine Rd.rd_sl ?_ | refine Rd.rd_noPart ?_ | refine Rd.rd_part ?_ | refine Rd.rd_intV ?_ | refine Rd.rd_lc ?_ | (refine' Rd.rd_aug ?vh ?_; (case vh => with_unfolding_all rfl)) | refine Rd.rd_ipI ?_ | refine Rd.rd_for ?_ | (refine' Rd.rd_IT ?ln ?_; (case ln => with_unfolding_all walk_at "at")) | (refine' Rd.rd_IL ?ln ?_; (case ln => with_unfolding_all walk_at "at")) | refine Rd.rd_iTup ?_ | refine Rd.rd_iList ?_ | refine Rd.rd_iRng1 ?_ | refine Rd.rd_iRng2 ?_ | refine Rd.rd_isi (Rd.isi_int Rd.kk_int_int) ?_ | refine Rd.rd_isi (Rd.isi_int Rd.kk_int_bool) ?_ | refine Rd.rd_dget ?_ | refine Rd.rd_din ?_ | refine Rd.rd_dnotin ?_ | refine Rd.rd_dput ?_ | refine Rd.rd_dc ?_ | refine Rd.rd_lc2 ?_ | refine Rd.rd_ltS ?_ | refine Rd.rd_inSg ?_ | refine Rd.rd_iStr ?_ | refine Rd.rd_IS ?_ | refine Rd.rd_prC ?_ | refine Rd.rd_prN ?_ | refine Rd.rd_methR ?_ | refine Rd.rd_cmeth ?_ | refine Rd.rd_fldS ?_ | refine Rd.rd_fld ?_ | (refine' Rd.rd_mkVS ?vh ?_; (case vh => with_unfolding_all rfl)) | (refine' Rd.rd_starT ?ln ?_; (case ln => with_unfolding_all walk_at "at")) | refine Rd.rd_iEnum ?_ | refine Rd.rd_iZip ?_ | (refine' Rd.rd_IE ?ln ?_; (case ln => with_unfolding_all walk_at "at")) | (refine' Rd.rd_IZ ?ln ?lm ?_; (case ln => with_unfolding_all walk_at "at"); (case lm => with_unfolding_all walk_at "at")) | (refine' Rd.rd_gTup ?ln ?lk ?_; (case ln => with_unfolding_all walk_at "at"); (case lk => with_unfolding_all rfl)) | refine Rd.rd_gCons ?_ | refine Rd.rd_gNil ?_ | refine Rd.rd_m1 ?_ | refine Rd.rd_strV ?_ | refine Rd.rd_tXiM ?_ | refine Rd.rd_tXiB ?_ | refine Rd.rd_tXiS ?_ | refine Rd.rd_bm ?_ | refine Rd.rd_bm0 ?_ | refine Rd.rd_isN ?_ | refine Rd.rd_notN ?_ | refine Rd.rd_sub ?_ | refine Rd.rd_un ?_ | refine Rd.rd_U ?_
  | (refine' Rd.rd_eq ?sc ?_; (case sc => with_unfolding_all rfl)) | (refine' Rd.rd_ne ?sc ?_; (case sc => with_unfolding_all rfl))
  | (refine' Rd.rd_I ?cc ?_; (case cc => with_unfolding_all walk_at "rdc"))
  | (refine' Rd.rd_lenL ?ln ?_; (case ln => with_unfolding_all walk_at "at")) | (refine' Rd.rd_lenT ?ln ?_; (case ln => with_unfolding_all walk_at "at"))
  | (refine' Rd.rd_ixL ?ln ?ia ?_; (case ln => with_unfolding_all walk_at "at"); (case ia => with_unfolding_all first | exact Rd.at0 | exact Rd.at1 | exact Rd.at2 | exact Rd.at3 | exact Rd.at4 | rfl)) | (refine' Rd.rd_ixT ?ln ?ia ?_; (case ln => with_unfolding_all walk_at "at"); (case ia => with_unfolding_all first | exact Rd.at0 | exact Rd.at1 | exact Rd.at2 | exact Rd.at3 | exact Rd.at4 | rfl)))
local macro_rules | `(tactic| walk_at "at") => `(tactic| first | assumption | (apply SqL.of; assumption) | (apply SqT.of; assumption) | (apply SqL.of; exact upd_same) | (apply SqT.of; exact upd_same))
local macro_rules | `(tactic| walk_at "rd") => `(tactic| repeat walk_at "rd1")
abbrev s__law_built : Stmt := top 51
theorem sc__law_built : FnScope ["_law_plain"] ["_law_plain"] (defScope s__law_built) := ⟨rfl, rfl, rfl, by decide +kernel, rfl, by decide +kernel, by decide +kernel⟩
def spBuilt (K : PySem.W.Frag) (C : Addr) : Sp := Rd.mkSp (fun (a : Addr × Gr) => [.ref a.1]) fun a H Q _ => PlainAt K H a.1 a.2 ∧ GOk a.2 ∧ ∀ x H', Same H H' → GraphAt K C H' x a.2 → Q (.ref x) H'
theorem hu64 {gd : Bool} {k : Nat} {A : Around} (hr : Rd.RoomG gd k A) : A.units + 64 < cLine := hr.units
section
variable {gd : Bool} {P : Program} {w : World} {K : PySem.W.Frag} {mg : Str → Option Value} {base : Heap} {a : AdsG}
theorem ok_built (T : GraphC K mg a) (F : Rd.Has K mg "_law_built" s__law_built) (g : Glob mg) (c_Graph_of : FnR P w K mg base CX0 9 a.fo (spGOf K a.C)) : Rd.Fn gd P w K mg base CX0 11 "_law_built" (spBuilt K a.C) := by
  refine F.fn sc__law_built (fun _ => rfl) (fun _ _ _ _ _ _ us hl => match us, hl with | [_], _ => rfl) fun f cdv A outer s H Q E b hr h => ?_
  obtain ⟨p, G⟩ := b
  obtain ⟨⟨c, n, t, h0, hC, hN, hT⟩, GO, k⟩ := h
  dsimp only at h0 hC hN hT GO k
  refine ⟨_, (pss_one (ps_ret (ClX.pe_cmeth (Rd.pe_glr (by rfl) T.mgC) T.cr T.cm_of c_Graph_of (hr.mono (by decide)).toRoom pass0 (pa_cons (pe_ix ix_tup (pv 0) pe_int (fun _ _ => rfl)) (pa_cons (pe_ix ix_tup (pv 0) pe_int (fun _ _ => rfl)) (pa_cons (pe_ix ix_tup (pv 0) pe_int (fun _ _ => rfl)) pa_nil)))))), ?_⟩
  try simp only [Rd.noxK, Rd.cxK]
  refine Rd.rd_start [some (V.ref p)] rfl ?_
  walk_at "rd"
  refine ⟨rfl, ?_⟩
  walk_at "rd"
  exact Rd.rd_sp ((c, t, n), (G.cs, G.ns, G.ts), G) rfl ⟨hC, hT, hN, GO.norm fun _ _ => trivial, GO, k⟩
end
end M
set_option Elab.async false
set_option linter.all false
set_option maxRecDepth 100000
set_option maxHeartbeats 4000000
namespace M
open PySem L2
local macro_rules | `(tactic| walk_at "rdc") => `(tactic| first | exact Or.inl ⟨by decide, by decide⟩ | exact Or.inr ⟨by decide, by decide⟩ | exact ⟨by decide, by decide, by decide⟩ | exact ⟨by decide, by decide⟩ | decide | omega | assumption | (refine Or.inl ⟨?_, ?_⟩ <;> omega) | (refine Or.inr ⟨?_, ?_⟩ <;> omega) | (refine ⟨?_, ?_⟩ <;> omega))
local macro_rules | `(tactic| walk_at "rd1") => `(tactic| with_reducible first
  | refine Rd.rd_seq ?_ | refine Rd.rd_asg ?_ | refine Rd.rd_op ?_ | (refine' Rd.rd_var ?vh ?_; (case vh => with_unfolding_all rfl)) | refine Rd.rd_c ?_ | refine Rd.rd_I0 ?_ | refine Rd.rd_name0 ?_ | refine Rd.rd_nameS ?_ | refine Rd.rd_fn ?_
  | refine Rd.rd_cb ?_ | refine Rd.rd_cons ?_ | refine Rd.rd_nil ?_ | refine Rd.rd_int ?_ | refine Rd.rd_intB ?_ | refine Rd.rd_abs ?_ | refine Rd.rd_max2 ?_ | refine Rd.rd_min2 ?_
  | refine Rd.rd_call ?_ | refine Rd.rd_ifE ?_ | refine Rd.rd_test ?_ | refine Rd.rd_tB ?_ | refine Rd.rd_blV ?_ | refine Rd.rd_and ?_ | refine Rd.rd_or ?_ | refine Rd.rd_not ?_
  | refine Rd.rd_andV ?_ | refine Rd.rd_orV ?_ | refine Rd.rd_notV ?_ | refine Rd.rd_next ?_ | refine Rd.rd_ret ?_ | refine Rd.rd_drop ?_ | refine Rd.rd_ifS ?_ | refine Rd.rd_nx ?_ | refine Rd.rd_rt ?_ | refine Rd.rd_tMatch ?_ | refine Rd.rd_tCO ?_ | refine Rd.rd_tRevL ?_ | refine Rd.rd_tStar ?_ | refine Rd.rd_joined ?_ | refine Rd.rd_js1 ?_ | refine Rd.rd_js0 ?_ | refine Rd.rd_fmt ?_ | refine Rd.rd_propR ?_ | refine Rd.rd_iZipA ?_ | refine Rd.rd_iEnumT ?_ | refine Rd.rd_iOwn ?_ | (refine' Rd.rd_IET ?ln ?_; (case ln => with_unfolding_all walk_at "at")) | refine Rd.rd_chain ?_ | refine Rd.rd_tPar ?_ | refine Rd.rd_par ?_ | refine Rd.rd_sl ?_ | refine Rd.rd_noPart ?_ | refine Rd.rd_part ?_ | refine Rd.rd_intV ?_ | refine Rd.rd_lc ?_ | (refine' Rd.rd_aug ?vh ?_; (case vh => with_unfolding_all rfl)) | refine Rd.rd_ipI ?_ | refine Rd.rd_for ?_ | (refine' Rd.rd_IT ?ln ?_; (case ln => with_unfolding_all walk_at "at")) | (refine' Rd.rd_IL ?ln ?_; (case ln => with_unfolding_all walk_at "at")) | refine Rd.rd_iTup ?_ | refine Rd.rd_iList ?_ | refine Rd.rd_iRng1 ?_ | refine Rd.rd_iRng2 ?_ | refine Rd.rd_isi (Rd.isi_int Rd.kk_int_int) ?_ | refine Rd.rd_isi (Rd.isi_int Rd.kk_int_bool) ?_ | refine Rd.rd_dget ?_ | refine Rd.rd_din ?_ | refine Rd.rd_dnotin ?_ | refine Rd.rd_dput ?_ | refine Rd.rd_dc ?_ | refine Rd.rd_lc2 ?_ | refine Rd.rd_ltS ?_ | refine Rd.rd_inSg ?_ | refine Rd.rd_iStr ?_ | refine Rd.rd_IS ?_ | refine Rd.rd_prC ?_ | refine Rd.rd_prN ?_ | refine Rd.rd_methR ?_ | refine Rd.rd_cmeth ?_ | refine Rd.rd_fldS ?_ | refine Rd.rd_fld ?_ | (refine' Rd.rd_mkVS ?vh ?_; (case vh => with_unfolding_all rfl)) | (refine' Rd.rd_starT ?ln ?_; (case ln => with_unfolding_all walk_at "at")) | refine Rd.rd_iEnum ?_ | refine Rd.rd_iZip ?_ | (refine' Rd.rd_IE ?ln ?_; (case ln => with_unfolding_all walk_at "at")) | (refine' Rd.rd_IZ ?ln ?lm ?_; (case ln => with_unfolding_all walk_at "at"); (case lm => with_unfolding_all walk_at "at")) | (refine' Rd.rd_gTup ?ln ?lk ?_; (case ln => with_unfolding_all walk_at "at"); (case lk => with_unfolding_all rfl)) | refine Rd.rd_gCons ?_ | refine Rd.rd_gNil ?_ | refine Rd.rd_m1 ?_ | refine Rd.rd_strV ?_ | refine Rd.rd_tXiM ?_ | refine Rd.rd_tXiB ?_ | refine Rd.rd_tXiS ?_ | refine Rd.rd_bm ?_ | refine Rd.rd_bm0 ?_ | refine Rd.rd_isN ?_ | refine Rd.rd_notN ?_ | refine Rd.rd_sub ?_ | refine Rd.rd_un ?_ | refine Rd.rd_U ?_
  | (refine' Rd.rd_eq ?sc ?_; (case sc => with_unfolding_all rfl)) | (refine' Rd.rd_ne ?sc ?_; (case sc => with_unfolding_all rfl))
  | (refine' Rd.rd_I ?cc ?_; (case cc => with_unfolding_all walk_at "rdc"))
  | (refine' Rd.rd_lenL ?ln ?_; (case ln => with_unfolding_all walk_at "at")) | (refine' Rd.rd_lenT ?ln ?_; (case ln => with_unfolding_all walk_at "at"))
  | (refine' Rd.rd_ixL ?ln ?ia ?_; (case ln => with_unfolding_all walk_at "at"); (case ia => with_unfolding_all first | exact Rd.at0 | exact Rd.at1 | exact Rd.at2 | exact Rd.at3 | exact Rd.at4 | rfl)) | (refine' Rd.rd_ixT ?ln ?ia ?_; (case ln => with_unfolding_all walk_at "at"); (case ia => with_unfolding_all first | exact Rd.at0 | exact Rd.at1 | exact Rd.at2 | exact Rd.at3 | exact Rd.at4 | rfl)))
local macro_rules | `(tactic| walk_at "at") => `(tactic| first | assumption | (apply SqL.of; assumption) | (apply SqT.of; assumption) | (apply SqL.of; exact upd_same) | (apply SqT.of; exact upd_same))
local macro_rules | `(tactic| walk_at "rd") => `(tactic| repeat walk_at "rd1")
structure Shw (m n : Nat) (d : PyData) : Prop where
  sh : d.showable = true
  dp : d.depth ≤ m
  lf : d.leavesShort 300 = true
  wt : d.weight ≤ n
theorem Shw.len {m n : Nat} {d : PyData} (h : Shw m n d) (hn : n ≤ 30000) : d.shown.length ≤ sizeLine := by
  have := PyData.shown_le 300 (by decide) d h.lf
  have e := sizeLine_eq
  have h5 : (300 + 2) * d.weight ≤ 302 * 30000 := Nat.mul_le_mul (Nat.le_refl _) (Nat.le_trans h.wt hn)
  omega
theorem shw_name {x : Str} (h : isName x = true) : Shw 0 8 (.str x) := by
  refine ⟨rfl, Nat.le_refl _, ?_, (name_len h).2⟩
  have h2 := name_ok h
  unfold isName at h
  rw [Bool.and_eq_true] at h
  show (x.cps.toList.all fun c => decide (c < 16 ^ 8)) = true
  refine List.all_eq_true.mpr fun c hc => ?_
  have hm : c ∈ letters.cps.toList := of_decide_eq_true (List.all_eq_true.mp h.2 c hc)
  have hall : ∀ d ∈ letters.cps.toList, decide (d < 16 ^ 8) = true := by decide +kernel
  exact hall c hm
theorem Shw.mono {m n m' n' : Nat} {d : PyData} (h : Shw m n d) (hm : m ≤ m') (hn : n ≤ n') : Shw m' n' d := ⟨h.sh, Nat.le_trans h.dp hm, h.lf, Nat.le_trans h.wt hn⟩
/-- a dict of texts and small numbers -/
def chgDt (chg : List (Str × Int)) : PyData := .dict (chg.map fun kv => (PyData.str kv.1, PyData.int kv.2))
theorem dz_chgK {K : PySem.W.Frag} {H : Hp} {a : Addr} {chg : List (Str × Int)} (h : H a = some (.dK (chgK chg))) : Rd.Dz K H (.ref a) (chgDt chg) := by
  have e1 : ∀ l : List (Str × Int), Rd.DzAll K H ((chgK l).map (·.2)) (l.map fun kv => PyData.int kv.2) := fun l => by
    induction l with
    | nil => exact .nil
    | cons x r ih => exact .cons (.base (.int _)) ih
  have q := Rd.Dz.dic h (e1 chg)
  have e2 : ((chgK chg).map fun kv => (match kv.1 with | .inl i => PyData.int i | .inr x => PyData.str x : PyData)).zip (chg.map fun kv => PyData.int kv.2) = chg.map fun kv => (PyData.str kv.1, PyData.int kv.2) := by
    clear q h
    induction chg with
    | nil => rfl
    | cons x r ih => exact congrArg (List.cons _) ih
  unfold chgDt
  rw [← e2]
  exact q
end M
set_option Elab.async false
set_option linter.all false
set_option maxRecDepth 100000
set_option maxHeartbeats 4000000
set_option Elab.async false
set_option linter.all false
set_option maxRecDepth 100000
set_option maxHeartbeats 4000000
namespace Rd
open PySem PySem.Spec PyProof.Rows L2
def SqS (K : PySem.W.Frag) (H : Hp) (a : Addr) (xs : List V) : Prop := SqL K H a xs ∨ SqT K H a xs
def rIxS (K : PySem.W.Frag) : R2 := fun x y H Q => rIxL K x y H Q ∨ rIxT K x y H Q
theorem ix_seq {X : Cx} : IxR X (rIxS X.K) := fun value slice pins s σ H x y v u Q I rx ry h hs => h.elim (fun h => ix_list value slice pins s σ H x y v u Q I rx ry h hs) fun h => ix_tup value slice pins s σ H x y v u Q I rx ry h hs
section
variable {K : PySem.W.Frag} {H H' : Hp} {Q : VK} {a : Addr} {xs : List V} {v : V} {j : Int}
theorem SqS.same (s : Same H H') (h : SqS K H a xs) : SqS K H' a xs := h.imp (fun h => L2.Same.seq s h) fun h => Same.sqT s h
theorem rd_ixS (h : SqS K H a xs) (ha : atI xs j = some v) (q : Q v H) : rIxS K (.ref a) (.int j) H Q := h.imp (fun h => rd_ixL h ha q) fun h => rd_ixT h ha q
theorem rd_lenS2 (h : SqS K H a xs) (q : Q (.int (xs.length : Nat)) H) : rLen K [.ref a] H Q := h.elim (fun h => rd_lenL h q) fun h => rd_lenT h q
end
theorem pe_fldK {X : Cx} {K : PySem.W.Frag} {e : Expr} {ta : TE} {f : Str} {pos : Pos} (hK : X.K = K) (he : PE X e ta) (hb : attributeBase e f X.env (eval e X.env) = eval e X.env) : PE X (.Attribute e f pos) (tFld K ta f) := by subst hK; exact pe_fld he hb
/-- e, a dict that is locked from here on -/
def tFrz (t : TE) : TE := fun σ H Q => t σ H fun x H1 => ∃ d kvs, x = .ref d ∧ H1 d = some (.dK kvs) ∧ ∀ o, Q x (upd H1 d (.frz o (.dK kvs)))
section
variable {X : Cx} {e : Expr} {t td ty tx tv : TE} {σ : L2.St} {H : Hp} {Q : VK} {a : Addr} {kvs : List (Key × V)}
theorem rd_frz (q : t σ H fun x H1 => ∃ d kvs, x = .ref d ∧ H1 d = some (.dK kvs) ∧ ∀ o, Q x (upd H1 d (.frz o (.dK kvs)))) : tFrz t σ H Q := q
theorem rd_vals {R : It → Hp → Prop} (q : td σ H fun x H1 => ∃ d o kvs, x = .ref d ∧ H1 d = some (.frz o (.dK kvs)) ∧ R (Itd d o kvs) H1) : iVals td σ H R := q
/-- d.get(k, x) -/
def rGet (ty tx : TE) (σ : L2.St) (Q : VK) (x : V) (H1 : Hp) : Prop := ∃ a, x = .ref a ∧ IsD H1 a ∧ ty σ H1 fun y H2 => tx σ H2 fun z H3 => ∃ o, DGet H3 a y o ∧ Q (o.getD z) H3
theorem rd_get2 (q : td σ H fun x H1 => rGet ty tx σ Q x H1) : tDGet2 td ty tx σ H Q := q
def rGetE (a : Addr) (y z : V) (H : Hp) (Q : VK) : Prop := ∃ o, DGet H a y o ∧ Q (o.getD z) H
theorem rd_getA (h : L2.Rd H a (.dK kvs)) (q : ty σ H fun y H2 => tx σ H2 fun z H3 => rGetE a y z H3 Q) : rGet ty tx σ Q (.ref a) H := ⟨a, rfl, .inl ⟨kvs, h⟩, q⟩
theorem rd_getE {x : Str} {z : V} (h : L2.Rd H a (.dK kvs)) (q : Q ((valV kvs (Sum.inr x : Key)).getD z) H) : rGetE a (.str x) z H Q := ⟨_, .inl ⟨kvs, Sum.inr x, h, rfl, rfl⟩, q⟩
/-- d[k] op= e -/
theorem rd_daug {rd : V → V → Hp → VK → Prop} {D : Ends} (q : td σ H fun x H1 => ty σ H1 fun y H2 => ∃ a v, x = .ref a ∧ DGet H2 a y (some v) ∧
  tv σ H2 fun y2 H3 => rd v y2 H3 fun z H4 => ∃ H5, DPut H4 a y z H5 ∧ D.nx σ H5) : sDAug td ty tv rd D σ H := q
/-- list(d.items()) -/
theorem rd_items (q : td σ H fun x H1 => LiI.rItemsL x H1 Q) : LiI.tListItems td σ H Q := q
end
def HasKw (K : PySem.W.Frag) (mg : Str → Option Value) (x : Str) (st : Stmt) (kw : Str) (dv : V) : Prop := ∃ f fd, FunD K x x (defArgs st) (defBody st) (defScope st) [] [(kw, dv)] f fd ∧ mg x = some (.ref f) ∧ PySem.W.keepIn K (.ref f) = true
/-- its promise: n positional values, then the keyword's -/
def FnKw (P : Program) (w : World) (K : PySem.W.Frag) (mg : Str → Option Value) (base : Heap) (k : Nat) (x kw : Str) (ps : List Str) (dv : V) (sp : Sp) : Prop :=
  ∃ f fd, FnOk P w K mg base CX0 k f fd ps sp ∧ mg x = some (.ref f) ∧ PySem.W.keepIn K (.ref f) = true ∧ (∃ ds, Vals [dv] ds ∧ Binds K fd ps ds) ∧ KBn K fd ps (ps.length - 1) [kw] (fun us ws => us ++ ws) (fun vs zs => vs ++ zs)
section
variable {P : Program} {w : World} {K : PySem.W.Frag} {mg : Str → Option Value} {base : Heap} {k : Nat} {x kw : Str} {st : Stmt} {N ps : List Str} {dv : V}
theorem HasKw.fn {α : Type} {args : α → List V} {pre : α → Hp → VK → XK → Prop} (h : HasKw K mg x st kw dv) (S : FnScope N ps (defScope st)) (hl : ∀ a, (args a).length = ps.length) (hn : 1 ≤ ps.length)
    (hb0 : ∀ (D : Addr) (doc pm : Value) (an : Option Addr) (cdv ct : Value) (us ks : List Value), us.length = ps.length - 1 → ks.length = 1 → KwChain D (([(kw, dv)].map (·.1)).zip ks) (bindArgs (PySem.W.fnOf x x (defArgs st) (defBody st) (defScope st) .none (.ref D) doc pm an cdv ct) ⟨us, []⟩) (ps.zip (us ++ ks)))
    (hb1 : ∀ (kV doc pm : Value) (an : Option Addr) (cdv ct : Value) (us ws : List Value), us.length = ps.length - 1 → ws.length = 1 → bindArgs (PySem.W.fnOf x x (defArgs st) (defBody st) (defScope st) .none kV doc pm an cdv ct) ⟨us, [kw].zip ws⟩ = pure (ps.zip (us ++ ws)))
    (body : ∀ (f : Addr) (cdv : Value) (A : Around) (outer : List Env) (s : Shared) (H : Hp) (Q : VK) (E : XK) (a : α), Room k (A.deeper (PyProof.Rows.envOfC x (defScope st) s.heap.objs.size f cdv)) → pre a H Q E →
      ∃ t, PSs (cxOf CX0 P w K mg base N x (defScope st) f cdv A outer s H E).nox (defBody st) t ∧ t { nx := fun _ H' => Q .non H', rt := Q } (start N (args a)) H) :
    FnKw P w K mg base (k + 1) x kw ps dv (mkSp args pre) := by
  obtain ⟨f, fd, F, hm, hk⟩ := h
  refine ⟨f, fd, F.ok S (fun vs H Q E hsp => by obtain ⟨a, rfl, _⟩ := hsp; exact hl a) fun cdv A outer s H vs Q E hr hsp => ?_, hm, hk, ?_, ?_⟩
  · obtain ⟨a, rfl, ha⟩ := hsp
    obtain ⟨t, q1, q2⟩ := body f cdv A outer s H Q E a hr ha
    exact ⟨t, q1.nox, q2⟩
  · exact F.binds0 (ps.length - 1) (fun z => nomatch z) (by show ps.length - 1 + 1 = ps.length; omega) hb0
  · obtain ⟨oc, od, dV, kV, doc, pm, an, cdv, ct, osl, rfl, lk, hcd, hD, hK⟩ := F.ex
    rcases hD with ⟨_, rfl⟩ | ⟨e, _⟩
    · exact ⟨fun s us ws X l1 l2 => .of_eq (hb1 kV doc pm an cdv ct us ws l1 l2), fun r1 r2 => r1.append r2⟩
    · exact absurd rfl e
end
section
variable {X : Cx} {k : Nat} {x kw : Str} {ps : List Str} {dv : V} {sp : Sp} {p pos kpos : Pos} {e e3 : Expr} {es : List Expr} {t : TA} {tk : TE}
def tKw0 (sp : Sp) (dv : V) (t : TA) : TE := fun σ H Q => t σ H fun vs H1 => sp (vs ++ [dv]) H1 Q E0
theorem rd_kw0 {σ : L2.St} {H : Hp} {Q : VK} (q : t σ H fun vs H1 => sp (vs ++ [dv]) H1 Q E0) : tKw0 sp dv t σ H Q := q
theorem rd_callN {n m : Nat} {gV : List V → List V → List V} {t tk : TA} {E : XK} {σ : L2.St} {H : Hp} {Q : VK} (q : t σ H fun vs H1 => tk σ H1 fun zs H2 => vs.length = n ∧ zs.length = m ∧ sp (gV vs zs) H2 Q E) : tCallN n m sp gV E t tk σ H Q := q
end
end Rd
set_option Elab.async false
set_option linter.all false
set_option maxRecDepth 100000
set_option maxHeartbeats 4000000
namespace M
open PySem L2
local macro_rules | `(tactic| walk_at "rdc") => `(tactic| first | exact Or.inl ⟨by decide, by decide⟩ | exact Or.inr ⟨by decide, by decide⟩ | exact ⟨by decide, by decide, by decide⟩ | exact ⟨by decide, by decide⟩ | decide | omega | assumption | (refine Or.inl ⟨?_, ?_⟩ <;> omega) | (refine Or.inr ⟨?_, ?_⟩ <;> omega) | (refine ⟨?_, ?_⟩ <;> omega))
local macro_rules | `(tactic| walk_at "rd1") => `(tactic| with_reducible first
  | refine Rd.rd_seq ?_ | refine Rd.rd_asg ?_ | refine Rd.rd_op ?_ | (refine' Rd.rd_var ?vh ?_; (case vh => with_unfolding_all rfl)) | refine Rd.rd_c ?_ | refine Rd.rd_I0 ?_ | refine Rd.rd_name0 ?_ | refine Rd.rd_nameS ?_ | refine Rd.rd_fn ?_
  | refine Rd.rd_cb ?_ | refine Rd.rd_cons ?_ | refine Rd.rd_nil ?_ | refine Rd.rd_int ?_ | refine Rd.rd_intB ?_ | refine Rd.rd_abs ?_ | refine Rd.rd_max2 ?_ | refine Rd.rd_min2 ?_
  | refine Rd.rd_call ?_ | refine Rd.rd_ifE ?_ | refine Rd.rd_test ?_ | refine Rd.rd_tB ?_ | refine Rd.rd_blV ?_ | refine Rd.rd_and ?_ | refine Rd.rd_or ?_ | refine Rd.rd_not ?_
  | refine Rd.rd_andV ?_ | refine Rd.rd_orV ?_ | refine Rd.rd_notV ?_ | refine Rd.rd_next ?_ | refine Rd.rd_ret ?_ | refine Rd.rd_drop ?_ | refine Rd.rd_ifS ?_ | refine Rd.rd_nx ?_ | refine Rd.rd_rt ?_ | refine Rd.rd_tMatch ?_ | refine Rd.rd_tCO ?_ | refine Rd.rd_tRevL ?_ | refine Rd.rd_tStar ?_ | refine Rd.rd_joined ?_ | refine Rd.rd_js1 ?_ | refine Rd.rd_js0 ?_ | refine Rd.rd_fmt ?_ | refine Rd.rd_propR ?_ | refine Rd.rd_iZipA ?_ | refine Rd.rd_iEnumT ?_ | refine Rd.rd_iOwn ?_ | (refine' Rd.rd_IET ?ln ?_; (case ln => with_unfolding_all walk_at "at")) | refine Rd.rd_chain ?_ | refine Rd.rd_tPar ?_ | refine Rd.rd_par ?_ | refine Rd.rd_sl ?_ | refine Rd.rd_noPart ?_ | refine Rd.rd_part ?_ | refine Rd.rd_intV ?_ | refine Rd.rd_lc ?_ | (refine' Rd.rd_aug ?vh ?_; (case vh => with_unfolding_all rfl)) | refine Rd.rd_ipI ?_ | refine Rd.rd_for ?_ | (refine' Rd.rd_IT ?ln ?_; (case ln => with_unfolding_all walk_at "at")) | (refine' Rd.rd_IL ?ln ?_; (case ln => with_unfolding_all walk_at "at")) | refine Rd.rd_iTup ?_ | refine Rd.rd_iList ?_ | refine Rd.rd_iRng1 ?_ | refine Rd.rd_iRng2 ?_ | refine Rd.rd_isi (Rd.isi_int Rd.kk_int_int) ?_ | refine Rd.rd_isi (Rd.isi_int Rd.kk_int_bool) ?_ | refine Rd.rd_dget ?_ | refine Rd.rd_din ?_ | refine Rd.rd_dnotin ?_ | refine Rd.rd_dput ?_ | refine Rd.rd_dc ?_ | refine Rd.rd_lc2 ?_ | refine Rd.rd_ltS ?_ | refine Rd.rd_inSg ?_ | refine Rd.rd_iStr ?_ | refine Rd.rd_IS ?_ | refine Rd.rd_prC ?_ | refine Rd.rd_prN ?_ | refine Rd.rd_methR ?_ | refine Rd.rd_cmeth ?_ | refine Rd.rd_fldS ?_ | refine Rd.rd_fld ?_ | (refine' Rd.rd_mkVS ?vh ?_; (case vh => with_unfolding_all rfl)) | (refine' Rd.rd_starT ?ln ?_; (case ln => with_unfolding_all walk_at "at")) | refine Rd.rd_iEnum ?_ | refine Rd.rd_iZip ?_ | (refine' Rd.rd_IE ?ln ?_; (case ln => with_unfolding_all walk_at "at")) | (refine' Rd.rd_IZ ?ln ?lm ?_; (case ln => with_unfolding_all walk_at "at"); (case lm => with_unfolding_all walk_at "at")) | (refine' Rd.rd_gTup ?ln ?lk ?_; (case ln => with_unfolding_all walk_at "at"); (case lk => with_unfolding_all rfl)) | refine Rd.rd_gCons ?_ | refine Rd.rd_gNil ?_ | refine Rd.rd_m1 ?_ | refine Rd.rd_strV ?_ | refine Rd.rd_tXiM ?_ | refine Rd.rd_tXiB ?_ | refine Rd.rd_tXiS ?_ | refine Rd.rd_bm ?_ | refine Rd.rd_bm0 ?_ | refine Rd.rd_isN ?_ | refine Rd.rd_notN ?_ | refine Rd.rd_sub ?_ | refine Rd.rd_un ?_ | refine Rd.rd_U ?_
  | (refine' Rd.rd_eq ?sc ?_; (case sc => with_unfolding_all rfl)) | (refine' Rd.rd_ne ?sc ?_; (case sc => with_unfolding_all rfl))
  | (refine' Rd.rd_I ?cc ?_; (case cc => with_unfolding_all walk_at "rdc"))
  | (refine' Rd.rd_lenL ?ln ?_; (case ln => with_unfolding_all walk_at "at")) | (refine' Rd.rd_lenT ?ln ?_; (case ln => with_unfolding_all walk_at "at"))
  | (refine' Rd.rd_ixL ?ln ?ia ?_; (case ln => with_unfolding_all walk_at "at"); (case ia => with_unfolding_all first | exact Rd.at0 | exact Rd.at1 | exact Rd.at2 | exact Rd.at3 | exact Rd.at4 | rfl)) | (refine' Rd.rd_ixT ?ln ?ia ?_; (case ln => with_unfolding_all walk_at "at"); (case ia => with_unfolding_all first | exact Rd.at0 | exact Rd.at1 | exact Rd.at2 | exact Rd.at3 | exact Rd.at4 | rfl)))
local macro_rules | `(tactic| walk_at "at") => `(tactic| first | assumption | (apply SqL.of; assumption) | (apply SqT.of; assumption) | (apply SqL.of; exact upd_same) | (apply SqT.of; exact upd_same))
local macro_rules | `(tactic| walk_at "rd") => `(tactic| repeat walk_at "rd1")
/-- a's object changes -/
structure Mut (a : Addr) (H H' : Hp) : Prop where
  keep : ∀ b o, b ≠ a → H b = some o → H' b = some o
  kp : Kp H H'
theorem mut_upd {a : Addr} {H : Hp} {u o : HO} (h : H a = some u) (hu : Imm u = false) : Mut a H (upd H a o) := ⟨fun b v hb e => by rw [upd_ne hb]; exact e, kp_upd h hu⟩
theorem same_mutM {H H1 H2 : Hp} {a : Addr} (s : Same H H1) (n : H a = none) (m : Mut a H1 H2) : Same H H2 := fun b o e => m.keep b o (ne_of_none e n) (s b o e)
theorem Rolled.mutM {d a : Addr} {H H1 H2 : Hp} (r : Rolled d H H1) (n : H a = none) (e : a ≠ d) (m : Mut a H1 H2) : Rolled d H H2 := by
  obtain ⟨x, y, z, q⟩ := r.dice
  exact ⟨fun b o hb w => m.keep b o (ne_of_none w n) (r.keep b o hb w), x, y, z, m.keep _ _ e.symm q⟩
theorem Dice.nel {H : Hp} {d b : Addr} {o : HO} (hD : Dice H d) (h : H b = some o) (ho : ∀ xs, o ≠ .lst xs) : b ≠ d := fun z => by
  obtain ⟨x, y, w, q⟩ := hD
  rw [z, q] at h
  exact ho _ (Option.some.inj h).symm
theorem GraphAt.rolled {K : PySem.W.Frag} {C d : Addr} {H H' : Hp} {x : Addr} {G : Gr} (r : Rolled d H H') (hD : Dice H d) (h : GraphAt K C H x G) : GraphAt K C H' x G := by
  obtain ⟨dx, pc, ps, pt, pn, pr, rs, h1, h2⟩ := h
  have k := r.kp hD
  exact ⟨dx, pc, ps, pt, pn, pr, rs, r.keep _ _ (hD.nel h1 fun _ => nofun) h1, ⟨h2.c.kp k, h2.s.kp k, k.sqT h2.t, L2.Paired.mapP h2.tP fun _ _ q => q.kp k, h2.n.kp k, r.keep _ _ (hD.nel h2.r fun _ => nofun) h2.r⟩⟩
theorem GraphAt.ins {K : PySem.W.Frag} {C : Addr} {H : Hp} {x : Addr} {G : Gr} (h : GraphAt K C H x G) : ∃ dx pc ps pt pn pr, H x = some (.ins C dx (flds pc ps pt pn pr)) := by
  obtain ⟨dx, pc, ps, pt, pn, pr, _, e, _⟩ := h
  exact ⟨dx, pc, ps, pt, pn, pr, e⟩
theorem kk_str_str : kitB "str" "str" = some true := by decide +kernel
section
variable {K : PySem.W.Frag} {mg : Str → Option Value} {a : AdsG} {H : Hp} {x : Addr} {G : Gr} {σ : L2.St} {Q : VK} {ta : TE} {c : Addr → Prop}
theorem fld_c (T : GraphC K mg a) (h : GraphAt K a.C H x G) (q : ∀ p, TxT K H p G.cs → Q (.ref p) H) : Rd.rFld K "own_counters" (.ref x) H Q := by
  obtain ⟨dx, pc, ps, pt, pn, pr, rs, h1, h2⟩ := h
  exact ⟨x, a.C, dx, _, V.ref pc, rfl, h1, T.cl, T.nC, rfl, q pc h2.c⟩
theorem fld_s (T : GraphC K mg a) (h : GraphAt K a.C H x G) (q : ∀ p, TxT K H p G.ns → Q (.ref p) H) : Rd.rFld K "own_states" (.ref x) H Q := by
  obtain ⟨dx, pc, ps, pt, pn, pr, rs, h1, h2⟩ := h
  exact ⟨x, a.C, dx, _, V.ref ps, rfl, h1, T.cl, T.nS, rfl, q ps h2.s⟩
theorem fld_n (T : GraphC K mg a) (h : GraphAt K a.C H x G) (q : ∀ p, TxT K H p (G.ts.map (·.nm)) → Q (.ref p) H) : Rd.rFld K "own_names" (.ref x) H Q := by
  obtain ⟨dx, pc, ps, pt, pn, pr, rs, h1, h2⟩ := h
  exact ⟨x, a.C, dx, _, V.ref pn, rfl, h1, T.cl, T.nN, rfl, q pn h2.n⟩
theorem fld_r (T : GraphC K mg a) (h : GraphAt K a.C H x G) (q : ∀ (p : Addr) (rs : List Addr), H p = some (.dK (rowsD G.ts rs)) → Paired (RowAt K H) rs G.ts → Q (.ref p) H) : Rd.rFld K "own_rows" (.ref x) H Q := by
  obtain ⟨dx, pc, ps, pt, pn, pr, rs, h1, h2⟩ := h
  exact ⟨x, a.C, dx, _, V.ref pr, rfl, h1, T.cl, T.nR, rfl, q pr rs h2.r h2.tP⟩
end
/-- a tuple, or a list that is none of the dice -/
def SqD (K : PySem.W.Frag) (H : Hp) (d a : Addr) (xs : List V) : Prop := (SqL K H a xs ∧ a ≠ d) ∨ SqT K H a xs
theorem SqD.s {K : PySem.W.Frag} {H : Hp} {d a : Addr} {xs : List V} (h : SqD K H d a xs) : Rd.SqS K H a xs := h.imp (fun h => h.1) id
theorem SqD.same {K : PySem.W.Frag} {H H' : Hp} {d a : Addr} {xs : List V} (s : Same H H') (h : SqD K H d a xs) : SqD K H' d a xs := h.imp (fun h => ⟨L2.Same.seq s h.1, h.2⟩) fun h => Rd.Same.sqT s h
theorem Rolled.sqD {K : PySem.W.Frag} {d a : Addr} {H H' : Hp} {xs : List V} (r : Rolled d H H') (hD : Dice H d) (h : SqD K H d a xs) : SqD K H' d a xs := h.imp (fun h => ⟨r.sqL h.2 h.1, h.2⟩) fun h => r.sqT hD h
def spOneOfS (K : PySem.W.Frag) : Sp := Rd.mkSp (fun (a : Addr × Addr × List V) => [.ref a.1, .ref a.2.1]) fun a H Q _ => Dice H a.1 ∧ SqD K H a.1 a.2.1 a.2.2 ∧ 0 < a.2.2.length ∧ a.2.2.length < 1000 ∧
  ∀ v H', v ∈ a.2.2 → Rolled a.1 H H' → Q v H'
theorem rd_oneS {K : PySem.W.Frag} {H : Hp} {Q : VK} {E : XK} {d m : Addr} {xs : List V} (hD : Dice H d) (h : SqD K H d m xs) (h0 : 0 < xs.length) (h1 : xs.length < 1000) (q : ∀ v H', v ∈ xs → Rolled d H H' → Q v H') : spOneOfS K [.ref d, .ref m] H Q E :=
  Rd.rd_sp (d, m, xs) rfl ⟨hD, h, h0, h1, q⟩
section
variable {gd : Bool} {P : Program} {w : World} {K : PySem.W.Frag} {mg : Str → Option Value} {base : Heap}
theorem ok_oneS (F : Rd.Has K mg "_law_one_of" s__law_one_of) (g : Glob mg) (c__law_roll : Rd.Fn gd P w K mg base CX0 1 "_law_roll" spRoll) : Rd.Fn gd P w K mg base CX0 2 "_law_one_of" (spOneOfS K) := by
  refine F.fn sc__law_one_of (fun _ => rfl) (fun _ _ _ _ _ _ us hl => match us, hl with | [_, _], _ => rfl) fun f cdv A outer s H Q E a hr h => ?_
  obtain ⟨d, m, xs⟩ := a
  obtain ⟨hD, hS, h0, h1, k⟩ := h
  dsimp only at hD hS h0 h1 k
  refine ⟨_, (pss_one (ps_ret (pe_ix Rd.ix_seq (pv 1) (Rd.pe_fn c__law_roll (hr.mono (by decide)) (by rfl) (pa_cons (pv 0) (pa_cons (pe_callB Rd.c_len (by rfl) g.len (by decide +kernel) (pa_cons (pv 1) pa_nil)) pa_nil))) (fun _ _ => rfl)))), ?_⟩
  try simp only [Rd.noxK, Rd.cxK]
  refine Rd.rd_start [some (V.ref d), some (V.ref m)] rfl ?_
  walk_at "rd"
  refine Rd.rd_lenS2 hS.s ?_
  walk_at "rd"
  refine rd_roll hD (by omega) (by omega) fun r H1 r0 r1 R1 => ?_
  obtain ⟨j, rfl⟩ : ∃ j : Nat, r = (j : Int) := ⟨r.toNat, by omega⟩
  have hj : j < xs.length := by omega
  refine Rd.rd_ixS (R1.sqD hD hS).s (atI_nat (List.getElem?_eq_getElem hj)) ?_
  exact k _ _ (List.getElem_mem hj) R1
theorem oneS_L (h : Rd.Fn gd P w K mg base CX0 2 "_law_one_of" (spOneOfS K)) : Rd.Fn gd P w K mg base CX0 2 "_law_one_of" (spOneOf K) := by
  obtain ⟨f, F, hm, hk⟩ := h
  refine ⟨f, F.imp fun vs H Q E hs => ?_, hm, hk⟩
  obtain ⟨⟨d, m, xs⟩, rfl, h1, h2, h3, h4, h5, h6⟩ := hs
  exact ⟨(d, m, xs), rfl, h1, .inl ⟨h3, h2⟩, h4, h5, h6⟩
end
end M
set_option Elab.async false
set_option linter.all false
set_option maxRecDepth 100000
set_option maxHeartbeats 4000000
namespace M
open PySem L2
local macro_rules | `(tactic| walk_at "rdc") => `(tactic| first | exact Or.inl ⟨by decide, by decide⟩ | exact Or.inr ⟨by decide, by decide⟩ | exact ⟨by decide, by decide, by decide⟩ | exact ⟨by decide, by decide⟩ | decide | omega | assumption | (refine Or.inl ⟨?_, ?_⟩ <;> omega) | (refine Or.inr ⟨?_, ?_⟩ <;> omega) | (refine ⟨?_, ?_⟩ <;> omega))
local macro_rules | `(tactic| walk_at "rd1") => `(tactic| with_reducible first
  | refine Rd.rd_seq ?_ | refine Rd.rd_asg ?_ | refine Rd.rd_op ?_ | (refine' Rd.rd_var ?vh ?_; (case vh => with_unfolding_all rfl)) | refine Rd.rd_c ?_ | refine Rd.rd_I0 ?_ | refine Rd.rd_name0 ?_ | refine Rd.rd_nameS ?_ | refine Rd.rd_fn ?_
  | refine Rd.rd_cb ?_ | refine Rd.rd_cons ?_ | refine Rd.rd_nil ?_ | refine Rd.rd_int ?_ | refine Rd.rd_intB ?_ | refine Rd.rd_abs ?_ | refine Rd.rd_max2 ?_ | refine Rd.rd_min2 ?_
  | refine Rd.rd_call ?_ | refine Rd.rd_ifE ?_ | refine Rd.rd_test ?_ | refine Rd.rd_tB ?_ | refine Rd.rd_blV ?_ | refine Rd.rd_and ?_ | refine Rd.rd_or ?_ | refine Rd.rd_not ?_
  | refine Rd.rd_andV ?_ | refine Rd.rd_orV ?_ | refine Rd.rd_notV ?_ | refine Rd.rd_next ?_ | refine Rd.rd_ret ?_ | refine Rd.rd_drop ?_ | refine Rd.rd_ifS ?_ | refine Rd.rd_nx ?_ | refine Rd.rd_rt ?_ | refine Rd.rd_tMatch ?_ | refine Rd.rd_tCO ?_ | refine Rd.rd_tRevL ?_ | refine Rd.rd_tStar ?_ | refine Rd.rd_joined ?_ | refine Rd.rd_js1 ?_ | refine Rd.rd_js0 ?_ | refine Rd.rd_fmt ?_ | refine Rd.rd_propR ?_ | refine Rd.rd_iZipA ?_ | refine Rd.rd_iEnumT ?_ | refine Rd.rd_iOwn ?_ | (refine' Rd.rd_IET ?ln ?_; (case ln => with_unfolding_all walk_at "at")) | refine Rd.rd_chain ?_ | refine Rd.rd_tPar ?_ | refine Rd.rd_par ?_ | refine Rd.rd_sl ?_ | refine Rd.rd_noPart ?_ | refine Rd.rd_part ?_ | refine Rd.rd_intV ?_ | refine Rd.rd_lc ?_ | (refine' Rd.rd_aug ?vh ?_; (case vh => with_unfolding_all rfl)) | refine Rd.rd_ipI ?_ | refine Rd.rd_for ?_ | (refine' Rd.rd_IT ?ln ?_; (case ln => with_unfolding_all walk_at "at")) | (refine' Rd.rd_IL ?ln ?_; (case ln => with_unfolding_all walk_at "at")) | refine Rd.rd_iTup ?_ | refine Rd.rd_iList ?_ | refine Rd.rd_iRng1 ?_ | refine Rd.rd_iRng2 ?_ | refine Rd.rd_isi (Rd.isi_int Rd.kk_int_int) ?_ | refine Rd.rd_isi (Rd.isi_int Rd.kk_int_bool) ?_ | refine Rd.rd_dget ?_ | refine Rd.rd_din ?_ | refine Rd.rd_dnotin ?_ | refine Rd.rd_dput ?_ | refine Rd.rd_dc ?_ | refine Rd.rd_lc2 ?_ | refine Rd.rd_ltS ?_ | refine Rd.rd_inSg ?_ | refine Rd.rd_iStr ?_ | refine Rd.rd_IS ?_ | refine Rd.rd_prC ?_ | refine Rd.rd_prN ?_ | refine Rd.rd_methR ?_ | refine Rd.rd_cmeth ?_ | refine Rd.rd_fldS ?_ | refine Rd.rd_fld ?_ | (refine' Rd.rd_mkVS ?vh ?_; (case vh => with_unfolding_all rfl)) | (refine' Rd.rd_starT ?ln ?_; (case ln => with_unfolding_all walk_at "at")) | refine Rd.rd_iEnum ?_ | refine Rd.rd_iZip ?_ | (refine' Rd.rd_IE ?ln ?_; (case ln => with_unfolding_all walk_at "at")) | (refine' Rd.rd_IZ ?ln ?lm ?_; (case ln => with_unfolding_all walk_at "at"); (case lm => with_unfolding_all walk_at "at")) | (refine' Rd.rd_gTup ?ln ?lk ?_; (case ln => with_unfolding_all walk_at "at"); (case lk => with_unfolding_all rfl)) | refine Rd.rd_gCons ?_ | refine Rd.rd_gNil ?_ | refine Rd.rd_m1 ?_ | refine Rd.rd_strV ?_ | refine Rd.rd_tXiM ?_ | refine Rd.rd_tXiB ?_ | refine Rd.rd_tXiS ?_ | refine Rd.rd_bm ?_ | refine Rd.rd_bm0 ?_ | refine Rd.rd_isN ?_ | refine Rd.rd_notN ?_ | refine Rd.rd_sub ?_ | refine Rd.rd_un ?_ | refine Rd.rd_U ?_
  | (refine' Rd.rd_eq ?sc ?_; (case sc => with_unfolding_all rfl)) | (refine' Rd.rd_ne ?sc ?_; (case sc => with_unfolding_all rfl))
  | (refine' Rd.rd_I ?cc ?_; (case cc => with_unfolding_all walk_at "rdc"))
  | (refine' Rd.rd_lenL ?ln ?_; (case ln => with_unfolding_all walk_at "at")) | (refine' Rd.rd_lenT ?ln ?_; (case ln => with_unfolding_all walk_at "at"))
  | (refine' Rd.rd_ixL ?ln ?ia ?_; (case ln => with_unfolding_all walk_at "at"); (case ia => with_unfolding_all first | exact Rd.at0 | exact Rd.at1 | exact Rd.at2 | exact Rd.at3 | exact Rd.at4 | rfl)) | (refine' Rd.rd_ixT ?ln ?ia ?_; (case ln => with_unfolding_all walk_at "at"); (case ia => with_unfolding_all first | exact Rd.at0 | exact Rd.at1 | exact Rd.at2 | exact Rd.at3 | exact Rd.at4 | rfl)))
local macro_rules | `(tactic| walk_at "at") => `(tactic| first | assumption | (apply SqL.of; assumption) | (apply SqT.of; assumption) | (apply SqL.of; exact upd_same) | (apply SqT.of; exact upd_same))
local macro_rules | `(tactic| walk_at "rd") => `(tactic| repeat walk_at "rd1")
local macro_rules | `(tactic| walk_at "ne") => `(tactic| first | assumption | exact Ne.symm (by assumption) | (refine' Dice.ne ?D ?h; (case h => assumption); (case D => walk_at "fa")))
local macro_rules | `(tactic| walk_at "kp1") => `(tactic| first | exact kpS (by assumption) | exact Mut.kp (by assumption) | (refine' Rolled.kp ?r ?D; (case r => assumption); (case D => walk_at "fa")))
local macro_rules | `(tactic| walk_at "fa") => `(tactic| first
  | assumption | exact SqT.of (by assumption) | exact SqL.of (by assumption)
  | (refine' Dice.same ?h ?s; (case s => assumption); (case h => walk_at "fa")) | exact Rolled.dice (by assumption)
  | (refine' L2.Same.seq ?s ?h; (case s => assumption); (case h => walk_at "fa")) | (refine' Rolled.sqL ?r ?n ?h; (case r => assumption); (case n => walk_at "ne"); (case h => walk_at "fa"))
  | (refine' Kp.sqT ?k ?h; (case k => walk_at "kp1"); (case h => walk_at "fa")) | (refine' RowAt.kp ?k ?h; (case k => walk_at "kp1"); (case h => walk_at "fa")) | (refine' RowsAt.kp ?k ?h; (case k => walk_at "kp1"); (case h => walk_at "fa")) | (refine' ChgAt.kp ?k ?h; (case k => walk_at "kp1"); (case h => walk_at "fa")) | (refine' PlainAt.kp ?k ?h; (case k => walk_at "kp1"); (case h => walk_at "fa"))
  | (refine' GraphAt.same ?h ?s; (case s => assumption); (case h => walk_at "fa")) | (refine' GraphAt.rolled ?r ?D ?h; (case r => assumption); (case D => walk_at "fa"); (case h => walk_at "fa"))
  | (refine' Rd.Same.at ?s ?h; (case s => assumption); (case h => walk_at "fa")) | (refine' Mut.keep ?m _ _ ?n ?h; (case m => assumption); (case n => walk_at "ne"); (case h => walk_at "fa")) | (refine' Rolled.keep ?r _ _ ?n ?h; (case r => assumption); (case n => walk_at "ne"); (case h => walk_at "fa")))
local macro_rules | `(tactic| walk_at "sm") => `(tactic| first | assumption | exact Same.refl _ | (refine' L2.Same.trans ?h ?s; (case s => assumption); (case h => walk_at "sm")) | (refine' same_mutM ?a ?b ?c; (case c => assumption); (case b => walk_at "nn"); (case a => walk_at "sm")))
local macro_rules | `(tactic| walk_at "rl") => `(tactic| first | assumption | exact Rolled.refl (by walk_at "fa") | (refine' Rolled.trans ?a ?b; (case b => assumption); (case a => walk_at "rl")) | (refine' Rolled.same ?a ?b; (case b => assumption); (case a => walk_at "rl")) | (refine' Rolled.mutM ?a ?n ?e ?m; (case m => assumption); (case n => walk_at "nn"); (case e => walk_at "ne"); (case a => walk_at "rl")))
local macro_rules | `(tactic| walk_at "nn") => `(tactic| first | assumption | (refine' none_pre ?s ?h; (case h => assumption); (case s => walk_at "sm")) | (refine' none_rol ?r ?D ?h; (case h => assumption); (case D => walk_at "fa"); (case r => walk_at "rl")))
local macro_rules | `(tactic| walk_at "sz") => `(tactic| first | (simp only [List.length_cons, List.length_nil]; decide) | (refine Rd.small64 ?_; simp only [List.length_map, List.length_append, List.length_cons, List.length_nil]; omega))
local macro_rules | `(tactic| walk_at "at") => `(tactic| walk_at "fa")
local macro_rules | `(tactic| walk_at "rd1") => `(tactic| with_reducible first
  | (refine' Rd.rd_mkTup ?sz fun _ _ _ _ _ => ?_; (case sz => with_unfolding_all walk_at "sz")) | (refine' Rd.rd_mkLst ?sz fun _ _ _ _ _ => ?_; (case sz => with_unfolding_all walk_at "sz")) | (refine' Rd.rd_mkTupF ?sz fun _ _ _ _ _ => ?_; (case sz => with_unfolding_all walk_at "sz"))
  | (refine' Rd.rd_tupleL ?ln fun _ _ _ _ _ => ?_; (case ln => with_unfolding_all walk_at "at")) | (refine' Rd.rd_tupleT ?ln ?_; (case ln => with_unfolding_all walk_at "at")) | (refine' Rd.rd_listL ?ln fun _ _ _ _ _ => ?_; (case ln => with_unfolding_all walk_at "at")) | (refine' Rd.rd_listT ?ln fun _ _ _ _ _ => ?_; (case ln => with_unfolding_all walk_at "at"))
  | (refine' fld_c ?T ?h fun _ _ => ?_; (case T => assumption); (case h => with_unfolding_all walk_at "fa")) | (refine' fld_s ?T ?h fun _ _ => ?_; (case T => assumption); (case h => with_unfolding_all walk_at "fa")) | (refine' fld_n ?T ?h fun _ _ => ?_; (case T => assumption); (case h => with_unfolding_all walk_at "fa"))
  | refine Rd.rd_get2 ?_ | (refine' Rd.rd_getA ?ln ?_; (case ln => with_unfolding_all first | exact Or.inl (by walk_at "at") | exact Or.inr ⟨_, by walk_at "at"⟩)) | (refine' Rd.rd_getE ?ln ?_; (case ln => with_unfolding_all first | exact Or.inl (by walk_at "at") | exact Or.inr ⟨_, by walk_at "at"⟩)) | refine Rd.rd_daug ?_ | refine Rd.rd_items ?_ | refine Rd.rd_frz ?_ | refine Rd.rd_vals ?_ | refine Rd.rd_kw0 ?_ | refine Rd.rd_callN ?_
  | (refine' Rd.rd_isi (Rd.isi_tup ?ln Rd.kk_tup_tup) ?_; (case ln => with_unfolding_all walk_at "at")) | refine Rd.rd_isi (Rd.isi_str (b := true) kk_str_str) ?_)
local macro_rules | `(tactic| walk_at "st") => `(tactic| (simp only [List.map_cons, List.map_nil, L2.wipe, List.set_cons_zero, List.set_cons_succ]; walk_at "rd"; refine ⟨rfl, ?_⟩; walk_at "rd"))
abbrev s_require_graph : Stmt := top 32
theorem sc_require_graph : FnScope ["graph"] ["graph"] (defScope s_require_graph) := ⟨rfl, rfl, rfl, by decide +kernel, rfl, by decide +kernel, by decide +kernel⟩
theorem paired_filter {α β : Type} {F : α → β → Prop} (pr : β → Bool) : ∀ {l : List α} {m : List β}, Paired F l m → Paired F (((m.zip l).filter fun z => pr z.1).map (·.2)) (m.filter pr)
  | _, _, .nil => .nil
  | a :: l, b :: m, .cons r t => by
    have ih := paired_filter pr t
    rw [List.zip_cons_cons]
    by_cases e : pr b = true
    · rw [List.filter_cons_of_pos (by simpa using e), List.filter_cons_of_pos e, List.map_cons]; exact .cons r ih
    · rw [List.filter_cons_of_neg (by simpa using e), List.filter_cons_of_neg e]; exact ih
section
variable {K : PySem.W.Frag} {σ : L2.St} {H : Hp} {Q : VK} {g : TG} {te : TE} {tt : TT} {vs : List Nat} {a : Addr}
/-- [row for row in rows if ..] -/
theorem lc_rowsR {ps : List Addr} {ts : List Tr} (pr : Tr → Bool) (hz : ts.length ≤ 100000) (hS : SqT K H a (ps.map V.ref)) (hP : Paired (RowAt K H) ps ts)
    (step : ∀ t r H1 (N : Hp → Prop) (M : V → Hp → Prop), t ∈ ts → Same H H1 → RowAt K H1 r t → (pr t = false → ∀ H2, Same H1 H2 → N H2) → (pr t = true → ∀ H2, Same H1 H2 → M (.ref r) H2) → g (.ref r) (wipe σ vs) H1 fun σ2 H2 => wipe σ2 vs = wipe σ vs ∧ tt σ2 H2 fun b H3 => if b = true then te σ2 H3 M else N H3)
    (done : ∀ D H' (rs : List Addr), H D = none → Same H H' → H' D = some (.lst (rs.map V.ref)) → Paired (RowAt K H') rs (ts.filter pr) → Q (.ref D) H') : Rd.rLc g tt te vs σ Q (Itt K a) H := by
  have lp : ps.length = ts.length := hP.length
  refine Rd.lc_gen (ts.zip ps) (fun z v H1 => v = .ref z.2 ∧ RowAt K H1 z.2 z.1) (fun z => pr z.1) (fun z => V.ref z.2) (by rw [List.length_zip]; omega) (fun i H1 hi s1 => ?_) (fun H1 s1 => ?_) (fun i H1 x H2 z et s1 y => ?_) (fun z x H1 N M hz1 s1 hx hN hM => ?_) fun D H' h1 h2 h3 => ?_
  · rw [List.length_zip] at hi
    exact ⟨_, V.ref (ps[i]'(by omega)), Rd.Same.sqT s1 hS, by rw [List.getElem?_map, List.getElem?_eq_getElem (by omega)]; rfl⟩
  · exact ⟨_, Rd.Same.sqT s1 hS, by rw [List.length_map, List.length_zip]; omega⟩
  · obtain ⟨rfl, y⟩ := y
    have e := y _ (Rd.Same.sqT s1 hS)
    rw [List.getElem?_map] at e
    obtain ⟨r, hr, rfl⟩ := Option.map_eq_some_iff.mp e
    obtain ⟨e1, e2⟩ := List.getElem?_zip_eq_some.mp et
    rw [hr] at e2
    have e3 : r = z.2 := Option.some.inj e2
    subst e3
    obtain ⟨t', ht', q⟩ := paired_get hP hr
    rw [e1] at ht'
    have e4 : z.1 = t' := Option.some.inj ht'
    subst e4
    exact ⟨Same.refl _, rfl, q.kp (kpS s1)⟩
  · obtain ⟨rfl, hr⟩ := hx
    exact step z.1 z.2 H1 N M (List.of_mem_zip hz1).1 s1 hr hN hM
  · have e : ((ts.zip ps).filter fun z => pr z.1).map (fun z => V.ref z.2) = (((ts.zip ps).filter fun z => pr z.1).map (·.2)).map V.ref := by rw [List.map_map]; rfl
    rw [e] at h3
    exact done D H' _ h1 h2 h3 (L2.Paired.mapP (paired_filter pr hP) fun _ _ q => q.kp (kpS h2))
end
def lay (ts : List Tr) (q : Str) : Nat → List Str
  | 0 => [q]
  | k + 1 => lay ts q k ++ (ts.filter fun t => decide (t.src ∈ lay ts q k)).map (·.tgt)
section
variable {ts : List Tr} {ns : List Str} {q r x : Str}
def IsD (ts : List Tr) (q x : Str) (m : Nat) : Prop := x ∈ lay ts q m ∧ ∀ j, j < m → x ∉ lay ts q j
end
section
variable {gd : Bool} {P : Program} {w : World} {K : PySem.W.Frag} {mg : Str → Option Value} {base : Heap} {a : AdsG}
def spReqG (K : PySem.W.Frag) (C : Addr) : Sp := Rd.mkSp (fun (a : Addr × Gr) => [.ref a.1]) fun a H Q _ => GraphAt K C H a.1 a.2 ∧ Q .non H
theorem ok_reqG (T : GraphC K mg a) (F : Rd.Has K mg "require_graph" s_require_graph) (g : Glob mg) : Rd.Fn gd P w K mg base CX0 1 "require_graph" (spReqG K a.C) := by
  refine F.fn sc_require_graph (fun _ => rfl) (fun _ _ _ _ _ _ us hl => match us, hl with | [_], _ => rfl) fun f cdv A outer s H Q E b hr h => ?_
  obtain ⟨x, G⟩ := b
  obtain ⟨hG, k⟩ := h
  dsimp only at hG k
  refine ⟨_, (pss_one (ps_if (pt_not (pt_val (pe_callB Rd.c_isi (by rfl) g.isinstance (by decide +kernel) (pa_cons (pv 0) (pa_cons (Rd.pe_glr (by rfl) T.mgC) pa_nil))))) (pss_one ps_never) pss_nil)), ?_⟩
  try simp only [Rd.noxK, Rd.cxK]
  refine Rd.rd_start [some (V.ref x)] rfl ?_
  walk_at "rd"
  refine Rd.rd_isiC (T.ty hG) T.i1 ?_
  walk_at "rd"
  refine Rd.if_f rfl ?_
  walk_at "rd"
  exact k
end
end M
set_option Elab.async false
set_option linter.all false
set_option maxRecDepth 100000
set_option maxHeartbeats 4000000
namespace Rd
open PySem PySem.Spec PyProof.Rows L2
section
variable {X : Cx} {CX : CXT} {k : Nat} {C f : Addr} {sp : Sp} {E : XK}
def rInO (C : Addr) (sp : Sp) (E : XK) (neg : Bool) : R2 := fun x y H Q => (∃ a dx fs, y = .ref a ∧ H a = some (.ins C dx fs)) ∧ sp [y, x] H (fun v H' => ∃ b, v = .bl b ∧ Q (.bl (if neg then !b else b)) H') E
theorem contains_own {pins : List (Addr × Obj)} {σ : L2.St} {H : Hp} {s : Shared} {x : V} {v : Value} {a dx : Addr} {fs : List (Str × V)} {Q : Bool → Shared → Prop} {R : Bool → Hp → Prop} (hs : PySem.W.findIn X.K (.ref C) "__contains__" = some (some (.ref f))) (hf : PySem.W.isFn X.K (.ref f) = true) (F : FnR X.prog X.w X.K X.mg X.base CX k f sp) (hr : Room k X.A) (hx : Passes CX X E) (I : L2.Inv X pins σ H s) (ha : H a = some (.ins C dx fs)) (rx : RelV x v)
    (h : sp [.ref a, x] H (fun w H' => ∃ b, w = .bl b ∧ R b H') E) (hR : ∀ b H' s', L2.Inv X pins σ H' s' → R b H' → Q b s') : wpAny (model X.prog X.w) X.A (contains (.ref a) v) Q X.xe s := by
  obtain ⟨ox, od, J, _⟩ := ins_look I ha
  unfold contains
  refine wpAny_holding ?_
  show wpAny _ _ (specialOf (.ref a) "__contains__" >>= _) _ _ _
  refine wpAny_bind (wpAny_bind (J.type.here ((PySem.W.looks_findIn I.kIn hs).here ?_)))
  show wpAny _ _ (callSpecialUnlessNone? (.ref a) "__contains__" [v] _ >>= _) _ _ _
  refine wpAny_bind ?_
  unfold callSpecialUnlessNone?
  refine wpAny_bind (wpAny_bind (J.type.here ((PySem.W.looks_findIn I.kIn hs).here (wpAny_holding (wpAny_bind ((PySem.W.bind_fn I.kIn _ (beq_iff_eq.mp hf)).here ?_))))))
  show wpAny _ _ (call (.ref f) [.ref a, v] >>= _) _ _ _
  refine wpAny_bind (run_at (vs := [.ref a, x]) F hr I.env0 hx I (.cons rfl (.cons rx .nil)) h fun u s' hq => ?_)
  obtain ⟨w, H', I', rw', b, rfl, q⟩ := hq
  cases rw'
  refine wpAny_pure ?_
  show wpAny _ _ (truthy (.bool b)) _ _ _
  exact wpAny_pure (hR b H' s' I' q)
theorem op_inO (hs : PySem.W.findIn X.K (.ref C) "__contains__" = some (some (.ref f))) (hf : PySem.W.isFn X.K (.ref f) = true) (F : FnR X.prog X.w X.K X.mg X.base CX k f sp) (hr : Room k X.A) (hx : Passes CX X E) : OpR X (compareOp .In) (rInO C sp E false) := by
  intro pins s σ H x y v u Q I rx ry h
  obtain ⟨⟨a, dx, fs, rfl, ha⟩, h⟩ := h
  cases ry
  exact wpAny_bind (contains_own (R := fun b H' => Q (.bl b) H') hs hf F hr hx I ha rx h fun b H' s' I' q => wpAny_pure ⟨.bl b, H', I', rfl, q⟩)
theorem rd_inO {neg : Bool} {x : V} {H : Hp} {Q : VK} {a dx : Addr} {fs : List (Str × V)} (h : H a = some (.ins C dx fs)) (q : sp [.ref a, x] H (fun v H' => ∃ b, v = .bl b ∧ Q (.bl (if neg then !b else b)) H') E) : rInO C sp E neg x (.ref a) H Q := ⟨⟨a, dx, fs, rfl, h⟩, q⟩
end
end Rd
set_option Elab.async false
set_option linter.all false
set_option maxRecDepth 100000
set_option maxHeartbeats 4000000
namespace Zl
open PySem PySem.Calls PyProof.Rows PyProof.V PySem.Spec PySem.W
section
variable {prog : Program} {w : World} {A : Around} {E : Value → Shared → Prop} {s : Shared} {z TI TO T i1 i2 : Addr} {fp1 fp2 : List Addr} {n1 n2 i : Nat} {P1 P2 : Nat → Value → Prop} {St1 St2 : Nat → Heap → Prop} {a1 a2 : Value} {f : Bool} {oT : Obj}
theorem next_item_held {Q : Value → Shared → Prop} (S : ZipSep2 z TI TO i1 i2 fp1 fp2) (D1 : Draws prog w A i1 fp1 n1 P1 St1) (D2 : Draws prog w A i2 fp2 n2 P2 St2)
    (hz : IsZipHeld s.heap z TI TO T f) (hT : s.heap.get? T = some oT) (hTI : IsTupOf2 s.heap TI (.ref i1) (.ref i2)) (st1 : St1 i s.heap) (st2 : St2 i s.heap) (hlt1 : i < n1) (hlt2 : i < n2)
    (hQ : ∀ x1 x2 h' tk, P1 i x1 → P2 i x2 → IsZipHeld h' z TI TO T true → St1 (i + 1) h' → St2 (i + 1) h' → IsTupOf2 h' s.heap.objs.size x1 x2 → h'.objs.size = s.heap.objs.size + 1 →
      (∀ c o, c ≠ z → c ≠ i1 → c ≠ i2 → s.heap.get? c = some o → h'.get? c = some o) → Q (.ref s.heap.objs.size) { s with heap := h', toks := tk }) :
    wpAny (model prog w) A (Builtin.«zip.__next__» ⟨[.ref z], []⟩) (fun fin s' => ∃ v, fin = .done (.ret v) ∧ Q v s') E s := by
  obtain ⟨hp, g, d, tk0, os⟩ := s
  show wpAny _ _ (field (.ref z) 2 >>= _) _ _ _
  refine wpAny_bind (wpAny_field hz rfl (x := .bool false) rfl ?_)
  show wpAny _ _ (field (.ref z) 3 >>= _) _ _ _
  refine wpAny_bind (wpAny_field hz rfl (x := .ref TI) rfl ?_)
  refine wpAny_bind (wpAny_seqItems hTI rfl ?_)
  show wpAny _ _ (Builtin.SmallTypes.ownedTupleIsFree (.ref z) >>= _) _ _ _
  refine wpAny_bind (wpAny_tupleHeld_zip hz hT fun h₁ hz₁ hs₁ => ?_)
  simp only [Bool.false_eq_true, if_false]
  replace hs₁ : Heap.SameBut z hp h₁ := hs₁
  refine wpAny_bind ?_
  rw [← Array.forIn_toList]
  simp only [List.forIn_cons, List.forIn_nil]
  refine wpAny_bind (wpAny_bind (wpAny_holding ?_))
  show wpAny _ _ (Builtin.SmallTypes.nextOf (.ref i1) >>= _) _ _ ⟨h₁, g, d, tk0, os⟩
  refine wpAny_bind (D1.item i _ _ _ hlt1 (D1.over st1 hs₁ S.zf1) fun x1 p1 tk1 hx1 sn1 hp1 => wpAny_pure ?_)
  replace hp1 : Heap.SameBut i1 h₁ p1 := hp1
  refine wpAny_pure ?_
  refine wpAny_bind (wpAny_bind (wpAny_holding ?_))
  show wpAny _ _ (Builtin.SmallTypes.nextOf (.ref i2) >>= _) _ _ ⟨p1, g, d, tk1, os⟩
  refine wpAny_bind (D2.item i _ _ _ hlt2 (D2.over (D2.over st2 hs₁ S.zf2) hp1 S.sep1_2) fun x2 p2 tk2 hx2 sn2 hp2 => wpAny_pure ?_)
  replace hp2 : Heap.SameBut i2 p1 p2 := hp2
  refine wpAny_pure (wpAny_pure ?_)
  show wpAny _ _ (newTuple [x1, x2] >>= _) _ _ ⟨p2, g, d, tk2, os⟩
  refine wpAny_bind (wpAny_newTuple ?_)
  have hsz : p2.objs.size = hp.objs.size := by rw [hp2.1, hp1.1, hs₁.1]
  have hz₃ : IsZipHeld p2 z TI TO T true := hp2.extBut _ _ S.zi2 (hp1.extBut _ _ S.zi1 hz₁)
  have hk : ∀ c o, c ≠ z → c ≠ i1 → c ≠ i2 → hp.get? c = some o → p2.get? c = some o := fun c o c1 c2 c3 e => hp2.extBut _ _ c3 (hp1.extBut _ _ c2 (hs₁.extBut _ _ c1 e))
  refine wpAny_pure ⟨_, rfl, ?_⟩
  show Q (.ref p2.objs.size) _
  have hp' : IsTupOf2 (p2.push { cls := .type "tuple", data := .seq #[x1, x2] }) p2.objs.size x1 x2 := Heap.get?_push_size _ rfl
  have hz4 : (p2.push { cls := .type "tuple", data := .seq #[x1, x2] }).objs.size = p2.objs.size + 1 := Heap.size_push ..
  rw [hsz] at hp' hz4 ⊢
  exact hQ x1 x2 _ _ hx1 hx2 (Heap.get?_push_of_some _ hz₃) (D1.frame _ _ _ (D1.over sn1 hp2 S.sep2_1) fun b _ o e => Heap.get?_push_of_some _ e) (D2.frame _ _ _ sn2 fun b _ o e => Heap.get?_push_of_some _ e) hp' hz4 fun c o c1 c2 c3 e => Heap.get?_push_of_some _ (hk c o c1 c2 c3 e)
theorem next_end_held {Q : Fin → Shared → Prop} (S : ZipSep2 z TI TO i1 i2 fp1 fp2) (D1 : Draws prog w A i1 fp1 n1 P1 St1) (D2 : Draws prog w A i2 fp2 n2 P2 St2)
    (hz : IsZipHeld s.heap z TI TO T f) (hT : s.heap.get? T = some oT) (hTI : IsTupOf2 s.heap TI (.ref i1) (.ref i2)) (st1 : St1 i s.heap) (st2 : St2 i s.heap) (hle1 : i ≤ n1) (hle2 : i ≤ n2) (hend : i = n1 ∨ i = n2)
    (hE : ∀ h' tk e, (∀ c o, c ≠ z → c ≠ i1 → c ≠ i2 → s.heap.get? c = some o → h'.get? c = some o) → (∃ o, h'.get? e = some o ∧ o.cls = .type "StopIteration") → E (.ref e) { s with heap := h', toks := tk }) :
    wpAny (model prog w) A (Builtin.«zip.__next__» ⟨[.ref z], []⟩) Q E s := by
  obtain ⟨hp, g, d, tk0, os⟩ := s
  show wpAny _ _ (field (.ref z) 2 >>= _) _ _ _
  refine wpAny_bind (wpAny_field hz rfl (x := .bool false) rfl ?_)
  show wpAny _ _ (field (.ref z) 3 >>= _) _ _ _
  refine wpAny_bind (wpAny_field hz rfl (x := .ref TI) rfl ?_)
  refine wpAny_bind (wpAny_seqItems hTI rfl ?_)
  show wpAny _ _ (Builtin.SmallTypes.ownedTupleIsFree (.ref z) >>= _) _ _ _
  refine wpAny_bind (wpAny_tupleHeld_zip hz hT fun h₁ hz₁ hs₁ => ?_)
  simp only [Bool.false_eq_true, if_false]
  replace hs₁ : Heap.SameBut z hp h₁ := hs₁
  refine wpAny_bind ?_
  rw [← Array.forIn_toList]
  simp only [List.forIn_cons, List.forIn_nil]
  refine wpAny_bind (wpAny_bind (wpAny_holding ?_))
  show wpAny _ _ (Builtin.SmallTypes.nextOf (.ref i1) >>= _) _ _ ⟨h₁, g, d, tk0, os⟩
  by_cases hlt1 : i < n1
  · refine wpAny_bind (D1.item i _ _ _ hlt1 (D1.over st1 hs₁ S.zf1) fun x1 p1 tk1 hx1 sn1 hp1 => wpAny_pure ?_)
    replace hp1 : Heap.SameBut i1 h₁ p1 := hp1
    refine wpAny_pure ?_
    refine wpAny_bind (wpAny_bind (wpAny_holding ?_))
    show wpAny _ _ (Builtin.SmallTypes.nextOf (.ref i2) >>= _) _ _ ⟨p1, g, d, tk1, os⟩
    have hi2 : i = n2 := by omega
    refine wpAny_bind (D2.done ⟨p1, g, d, tk1, os⟩ _ _ (by rw [← hi2]; exact D2.over (D2.over st2 hs₁ S.zf2) hp1 S.sep1_2) fun q e hq he => ?_)
    replace hq : Heap.ExtBut i2 p1 q := hq
    exact hE q tk1 e (fun c o c1 c2 c3 x => hq _ _ c3 (hp1.extBut _ _ c2 (hs₁.extBut _ _ c1 x))) he
  · have hi1 : i = n1 := by omega
    refine wpAny_bind (D1.done ⟨h₁, g, d, tk0, os⟩ _ _ (by rw [← hi1]; exact D1.over st1 hs₁ S.zf1) fun q e hq he => ?_)
    replace hq : Heap.ExtBut i1 h₁ q := hq
    exact hE q tk0 e (fun c o c1 c2 _ x => hq _ _ c2 (hs₁.extBut _ _ c1 x)) he
theorem pyNext_item_held {Q : Option Value → Shared → Prop} (S : ZipSep2 z TI TO i1 i2 fp1 fp2) (D1 : Draws prog w A.in1 i1 fp1 n1 P1 St1) (D2 : Draws prog w A.in1 i2 fp2 n2 P2 St2)
    (hz : IsZipHeld s.heap z TI TO T f) (hT : s.heap.get? T = some oT) (hTI : IsTupOf2 s.heap TI (.ref i1) (.ref i2)) (st1 : St1 i s.heap) (st2 : St2 i s.heap) (hlt1 : i < n1) (hlt2 : i < n2)
    (hQ : ∀ x1 x2 h' tk, P1 i x1 → P2 i x2 → IsZipHeld h' z TI TO T true → St1 (i + 1) h' → St2 (i + 1) h' → IsTupOf2 h' s.heap.objs.size x1 x2 → h'.objs.size = s.heap.objs.size + 1 →
      (∀ c o, c ≠ z → c ≠ i1 → c ≠ i2 → s.heap.get? c = some o → h'.get? c = some o) → Q (some (.ref s.heap.objs.size)) { s with heap := h', toks := tk }) :
    wpAny (model prog w) A (pyNext (.ref z)) Q E s := by
  have hTy : s.TypeIs (.ref z) "zip" := ⟨_, hz, rfl⟩
  unfold pyNext
  exact wpAny_bind (wpAny_attempt (wpAny_callSpecial?_slot (name := Str.ofString "__next__") hTy F.slot_zip_next
    (wpAny_call_entry F.slot_zip_next hTy F.entry_zip_next
      (next_item_held S D1 D2 hz hT hTI st1 st2 hlt1 hlt2 fun x1 x2 h' tk y1 y2 b1 b2 d1 d2 b5 b6 => wpAny_pure (hQ x1 x2 h' tk y1 y2 b1 b2 d1 d2 b5 b6)) (F.args_zip_next_1 _))))
theorem pyNext_end_held {Q : Option Value → Shared → Prop} (S : ZipSep2 z TI TO i1 i2 fp1 fp2) (D1 : Draws prog w A.in1 i1 fp1 n1 P1 St1) (D2 : Draws prog w A.in1 i2 fp2 n2 P2 St2)
    (hz : IsZipHeld s.heap z TI TO T f) (hT : s.heap.get? T = some oT) (hTI : IsTupOf2 s.heap TI (.ref i1) (.ref i2)) (st1 : St1 i s.heap) (st2 : St2 i s.heap) (hle1 : i ≤ n1) (hle2 : i ≤ n2) (hend : i = n1 ∨ i = n2)
    (hQ : ∀ h' tk, (∀ c o, c ≠ z → c ≠ i1 → c ≠ i2 → s.heap.get? c = some o → h'.get? c = some o) → Q none { s with heap := h', toks := tk }) : wpAny (model prog w) A (pyNext (.ref z)) Q E s := by
  have hTy : s.TypeIs (.ref z) "zip" := ⟨_, hz, rfl⟩
  unfold pyNext
  refine wpAny_bind (wpAny_attempt (wpAny_callSpecial?_slot (name := Str.ofString "__next__") hTy F.slot_zip_next
    (wpAny_call_entry F.slot_zip_next hTy F.entry_zip_next (next_end_held S D1 D2 hz hT hTI st1 st2 hle1 hle2 hend fun h' tk e hk he => ?_) (F.args_zip_next_1 _))))
  obtain ⟨o, ho, hc⟩ := he
  refine wpAny_bind (wpAny_isInstance (T := "StopIteration") (b := true) ⟨o, ho, hc⟩ isSubtype_stop ?_)
  exact wpAny_pure (hQ _ _ hk)
/-- the zip's state: no tuple is out yet, or one that is held -/
def ZSt (h : Heap) (z TI TO i1 i2 S : Addr) (i : Nat) : Prop := IsTupOf2 h TI (.ref i1) (.ref i2) ∧ ((IsZip h z TI TO .none ∧ ∃ a1 a2, IsTupOf2 h TO a1 a2) ∨ ∃ T f oT, IsZipHeld h z TI TO T f ∧ h.get? T = some oT ∧ T ≠ z ∧ T ≠ i1 ∧ T ≠ i2 ∧ T ≠ S)
/-- places apart -/
structure Ap (z TI TO i1 i2 S : Addr) (fp1 fp2 : List Addr) : Prop extends ZipSep2 z TI TO i1 i2 fp1 fp2 where
  Sz : S ≠ z
  STI : S ≠ TI
  STO : S ≠ TO
  Sf1 : S ∉ fp1
  Sf2 : S ∉ fp2
theorem Ap.Si1 {S : Addr} (D : Ap z TI TO i1 i2 S fp1 fp2) : S ≠ i1 := fun e => D.Sf1 (by rw [e]; exact D.mem1)
theorem Ap.Si2 {S : Addr} (D : Ap z TI TO i1 i2 S fp1 fp2) : S ≠ i2 := fun e => D.Sf2 (by rw [e]; exact D.mem2)
theorem ZSt.keep {h h' : Heap} {S : Addr} (D : Ap z TI TO i1 i2 S fp1 fp2) (x : ZSt h z TI TO i1 i2 S i) (hk : ∀ b o, b ≠ S → h.get? b = some o → h'.get? b = some o) : ZSt h' z TI TO i1 i2 S i := by
  obtain ⟨x0, x⟩ := x
  refine ⟨hk _ _ D.STI.symm x0, ?_⟩
  rcases x with ⟨h1, a1, a2, h2⟩ | ⟨T, f, oT, h1, h2, h3, h4, h5, h6⟩
  · exact .inl ⟨hk _ _ D.Sz.symm h1, a1, a2, hk _ _ D.STO.symm h2⟩
  · exact .inr ⟨T, f, oT, hk _ _ D.Sz.symm h1, hk _ _ h6 h2, h3, h4, h5, h6⟩
theorem zst_item {S : Addr} {Q : Option Value → Shared → Prop} (D : Ap z TI TO i1 i2 S fp1 fp2) (D1 : Draws prog w A.in1 i1 fp1 n1 P1 St1) (D2 : Draws prog w A.in1 i2 fp2 n2 P2 St2) (x : ZSt s.heap z TI TO i1 i2 S i) (hS : S < s.heap.objs.size)
    (st1 : St1 i s.heap) (st2 : St2 i s.heap) (hlt1 : i < n1) (hlt2 : i < n2)
    (hQ : ∀ x1 x2 h' tk, P1 i x1 → P2 i x2 → ZSt h' z TI TO i1 i2 S (i + 1) → St1 (i + 1) h' → St2 (i + 1) h' → IsTupOf2 h' s.heap.objs.size x1 x2 → h'.objs.size = s.heap.objs.size + 1 →
      (∀ c o, c ≠ z → c ≠ TO → c ≠ i1 → c ≠ i2 → s.heap.get? c = some o → h'.get? c = some o) → Q (some (.ref s.heap.objs.size)) { s with heap := h', toks := tk }) :
    wpAny (model prog w) A (pyNext (.ref z)) Q E s := by
  obtain ⟨hTI, x⟩ := x
  obtain ⟨o1, ho1⟩ := D1.live _ _ st1
  obtain ⟨o2, ho2⟩ := D2.live _ _ st2
  rcases x with ⟨h1, a1, a2, h2⟩ | ⟨T, f, oT, h1, h2, h3, h4, h5, h6⟩
  · exact wpAny_pyNext_zipD2_item D.toZipSep2 D1 D2 h1 hTI h2 st1 st2 hlt1 hlt2 fun x1 x2 h' tk y1 y2 g1 g2 g3 g4 g5 g6 g7 => hQ x1 x2 h' tk y1 y2 ⟨g7 _ _ D.TIz D.TITO D.TIi1 D.TIi2 hTI, .inr ⟨_, false, _, g1, g5, Nat.ne_of_gt (Heap.lt_size h1), Nat.ne_of_gt (Heap.lt_size ho1), Nat.ne_of_gt (Heap.lt_size ho2), Nat.ne_of_gt hS⟩⟩ g3 g4 g5 g6 g7
  · exact pyNext_item_held D.toZipSep2 D1 D2 h1 h2 hTI st1 st2 hlt1 hlt2 fun x1 x2 h' tk y1 y2 g1 g3 g4 g5 g6 g7 => hQ x1 x2 h' tk y1 y2 ⟨g7 _ _ D.TIz D.TIi1 D.TIi2 hTI, .inr ⟨T, true, oT, g1, g7 _ _ h3 h4 h5 h2, h3, h4, h5, h6⟩⟩ g3 g4 g5 g6 fun c o c1 _ c2 c3 e => g7 c o c1 c2 c3 e
theorem zst_done {S : Addr} {Q : Option Value → Shared → Prop} (D : Ap z TI TO i1 i2 S fp1 fp2) (D1 : Draws prog w A.in1 i1 fp1 n1 P1 St1) (D2 : Draws prog w A.in1 i2 fp2 n2 P2 St2) (x : ZSt s.heap z TI TO i1 i2 S i)
    (st1 : St1 i s.heap) (st2 : St2 i s.heap) (hle1 : i ≤ n1) (hle2 : i ≤ n2) (hend : i = n1 ∨ i = n2)
    (hQ : ∀ h' tk, (∀ c o, c ≠ z → c ≠ TO → c ≠ i1 → c ≠ i2 → s.heap.get? c = some o → h'.get? c = some o) → Q none { s with heap := h', toks := tk }) : wpAny (model prog w) A (pyNext (.ref z)) Q E s := by
  obtain ⟨hTI, x⟩ := x
  rcases x with ⟨h1, a1, a2, h2⟩ | ⟨T, f, oT, h1, h2, h3, h4, h5, h6⟩
  · exact wpAny_pyNext_zipD2_end D.toZipSep2 D1 D2 h1 hTI h2 st1 st2 hle1 hle2 hend hQ
  · exact pyNext_end_held D.toZipSep2 D1 D2 h1 h2 hTI st1 st2 hle1 hle2 hend fun h' tk hk => hQ h' tk fun c o c1 _ c2 c3 e => hk c o c1 c2 c3 e
structure ZG (P1 P2 : Nat → Value → Prop) (lo : Addr) (h : Heap) (as : List Addr) : Prop where
  rise : as.Pairwise (· < ·)
  above : ∀ a ∈ as, lo < a
  pairs : ∀ (j : Nat) (a : Addr), as[j]? = some a → ∃ x1 x2, P1 j x1 ∧ P2 j x2 ∧ IsTupOf2 h a x1 x2
theorem ZG.there {lo : Addr} {h : Heap} {as : List Addr} (g : ZG P1 P2 lo h as) {a : Addr} (ha : a ∈ as) : a < h.objs.size := by
  obtain ⟨j, hj⟩ := List.mem_iff_getElem?.mp ha
  obtain ⟨_, _, _, _, e⟩ := g.pairs j a hj
  exact Heap.lt_size e
theorem ZG.low {lo lo' : Addr} {h : Heap} {as : List Addr} (g : ZG P1 P2 lo h as) (hl : lo' ≤ lo) : ZG P1 P2 lo' h as := ⟨g.rise, fun a ha => Nat.lt_of_le_of_lt hl (g.above a ha), g.pairs⟩
theorem zloop {S m : Nat} {R : Result → Shared → Prop} (D : Ap z TI TO i1 i2 S fp1 fp2) (D1 : Draws prog w A.in1.in1 i1 fp1 n1 P1 St1) (D2 : Draws prog w A.in1.in1 i2 fp2 n2 P2 St2) (hzS : z < S) (hTS : TO < S) (h1S : i1 < S) (h2S : i2 < S) (hm : m = min n1 n2) (hn : m ≤ sizeLine) (res : Value) {h₁ : Heap}
    (hR : ∀ h' tk acc c as, (∀ b o, b ≠ S → b ≠ z → b ≠ TO → b ≠ i1 → b ≠ i2 → h₁.get? b = some o → h'.get? b = some o) → h'.get? S = some { cls := .type "list", dict := none, data := .seq acc c, slots := #[] } → as.length = m → ZG P1 P2 S h' as →
      acc.toList = as.map Value.ref → R (.ok (.ret res)) { s with heap := h', toks := tk }) :
    ∀ (k i : Nat) (h : Heap) (tk c : Nat) (acc : Array Value) (as : List Addr), m - i = k → i ≤ m → ZSt h z TI TO i1 i2 S i → St1 i h → St2 i h → (∀ b o, b ≠ S → b ≠ z → b ≠ TO → b ≠ i1 → b ≠ i2 → h₁.get? b = some o → h.get? b = some o) →
      h.get? S = some { cls := .type "list", dict := none, data := .seq acc c, slots := #[] } → acc.toList = as.map Value.ref → as.length = i → ZG P1 P2 S h as →
      codeAny (model prog w) A (.builtin "list.extend.loop" ⟨[.ref S, .ref z, res], []⟩) R { s with heap := h, toks := tk } := by
  intro k
  induction k with
  | zero =>
    intro i h tk c acc as hk hi hst s1 s2 hkeep hS hacc hal hG
    refine codeAny_builtin PySem.F.entry_extend_loop ?_
    rw [Around.under_plainId PySem.F.plain_extend_loop _]
    show wpAny _ A.in1 (pyNext (.ref z) >>= _) _ _ _
    refine wpAny_bind (zst_done (s := { s with heap := h, toks := tk }) (A := A.in1) D D1 D2 hst s1 s2 (by omega) (by omega) (by omega) fun h' tk' he => ?_)
    refine wpAny_pure (hR h' tk' acc c as (fun b o g1 g2 g3 g4 g5 e => he b o g2 g3 g4 g5 (hkeep b o g1 g2 g3 g4 g5 e)) (he S _ D.Sz D.STO D.Si1 D.Si2 hS) (by omega) ⟨hG.rise, hG.above, fun j a hj => ?_⟩ hacc)
    obtain ⟨x1, x2, e1, e2, e3⟩ := hG.pairs j a hj
    have hb := hG.above a (List.mem_of_getElem? hj)
    exact ⟨x1, x2, e1, e2, he a _ (Nat.ne_of_gt (Nat.lt_trans hzS hb)) (Nat.ne_of_gt (Nat.lt_trans hTS hb)) (Nat.ne_of_gt (Nat.lt_trans h1S hb)) (Nat.ne_of_gt (Nat.lt_trans h2S hb)) e3⟩
  | succ k ih =>
    intro i h tk c acc as hk hi hst s1 s2 hkeep hS hacc hal hG
    have hsz : acc.size = i := by rw [← Array.length_toList, hacc, List.length_map, hal]
    refine codeAny_builtin PySem.F.entry_extend_loop ?_
    rw [Around.under_plainId PySem.F.plain_extend_loop _]
    show wpAny _ A.in1 (pyNext (.ref z) >>= _) _ _ _
    refine wpAny_bind (zst_item (s := { s with heap := h, toks := tk }) (A := A.in1) D D1 D2 hst (Heap.lt_size hS) s1 s2 (by omega) (by omega) fun x1 x2 h' tk' y1 y2 hst' t1 t2 ht hz' hkp => ?_)
    dsimp only at ht hz' hkp ⊢
    have hS' := hkp S _ D.Sz D.STO D.Si1 D.Si2 hS
    have up : ∀ b o, b ≠ S → h'.get? b = some o → (h'.update S (Obj.mapSeq (·.push (Value.ref h.objs.size)))).get? b = some o := fun b o hb e => (Heap.get?_update_other _ _ (Ne.symm hb)).trans e
    have hSl : S < h.objs.size := Heap.lt_size hS
    show wpAny _ A.in1 (updateSeq S (·.push (Value.ref h.objs.size)) >>= _) _ _ _
    refine wpAny_bind ?_
    refine wpAny_updateSeq hS' rfl (wpAny_pure ⟨plainId_quiet PySem.F.plain_extend_loop _, ih (i + 1) _ tk' _ (acc.push (Value.ref h.objs.size)) (as ++ [h.objs.size]) (by omega) (by omega) (hst'.keep D up)
      (D1.frame _ _ _ t1 fun b hb o e => up b o (fun q => D.Sf1 (q ▸ hb)) e) (D2.frame _ _ _ t2 fun b hb o e => up b o (fun q => D.Sf2 (q ▸ hb)) e)
      (fun b o g1 g2 g3 g4 g5 e => up b o g1 (hkp b o g2 g3 g4 g5 (hkeep b o g1 g2 g3 g4 g5 e))) (Heap.get?_update_self _ hS' rfl) (by rw [Array.toList_push, hacc, List.map_append]; rfl) (by rw [List.length_append, hal]; rfl) ⟨?_, ?_, ?_⟩⟩) (by rw [hsz]; omega) (by show (acc.push (Value.ref h.objs.size)).size ≤ sizeLine + 1; rw [Array.size_push, hsz]; omega)
    · refine List.pairwise_append.mpr ⟨hG.rise, List.pairwise_singleton _ _, fun a ha b hb => ?_⟩
      rw [List.mem_singleton.mp hb]
      exact hG.there ha
    · intro a ha
      rcases List.mem_append.mp ha with ha | ha
      · exact hG.above a ha
      · rw [List.mem_singleton.mp ha]; exact hSl
    · intro j b hj
      rcases Nat.lt_trichotomy j as.length with h1 | h1 | h1
      · rw [List.getElem?_append_left h1] at hj
        obtain ⟨x1', x2', e1, e2, e3⟩ := hG.pairs j b hj
        have hb := hG.above b (List.mem_of_getElem? hj)
        exact ⟨x1', x2', e1, e2, up b _ (Nat.ne_of_gt hb) (hkp b _ (Nat.ne_of_gt (Nat.lt_trans hzS hb)) (Nat.ne_of_gt (Nat.lt_trans hTS hb)) (Nat.ne_of_gt (Nat.lt_trans h1S hb)) (Nat.ne_of_gt (Nat.lt_trans h2S hb)) e3)⟩
      · subst h1
        have hb : h.objs.size = b := by simpa using hj
        subst hb
        exact ⟨x1, x2, by rw [hal]; exact y1, by rw [hal]; exact y2, up _ _ (Nat.ne_of_gt hSl) ht⟩
      · have hnone : (as ++ [h.objs.size])[j]? = none := List.getElem?_eq_none (by rw [List.length_append, List.length_singleton]; omega)
        rw [hnone] at hj; cases hj
theorem no_len : typeLookup (.type "zip") "__len__" = pure none := am_miss_of_fast (by decide +kernel)
theorem no_hint : typeLookup (.type "zip") "__length_hint__" = pure none := am_miss_of_fast (by decide +kernel)
theorem zhint (hT : s.TypeIs (.ref z) "zip") {Q : Bool → Shared → Prop} (h : Q true s) : wpAny (model prog w) A (Builtin.List.listLengthHint (.ref z)) Q E s := by
  unfold Builtin.List.listLengthHint
  refine wpAny_bind (wpAny_specialOf hT no_len ?_)
  refine wpAny_ite_split (fun hab => absurd hab (by decide)) (fun _ => ?_)
  refine wpAny_ite_split (fun hab => absurd hab (by decide)) (fun _ => ?_)
  refine wpAny_bind (wpAny_specialOf hT no_hint ?_)
  exact wpAny_pure h
theorem zextend {S m : Nat} {R : Result → Shared → Prop} (D : Ap z TI TO i1 i2 S fp1 fp2) (D1 : Draws prog w A.in1.in1 i1 fp1 n1 P1 St1) (D2 : Draws prog w A.in1.in1 i2 fp2 n2 P2 St2) (hzS : z < S) (hTS : TO < S) (h1S : i1 < S) (h2S : i2 < S) (hm : m = min n1 n2) (hn : m ≤ sizeLine) (res : Value)
    (hz : IsZip s.heap z TI TO .none) (hTI : IsTupOf2 s.heap TI (.ref i1) (.ref i2)) (hTO : IsTupOf2 s.heap TO a1 a2) (s1 : St1 0 s.heap) (s2 : St2 0 s.heap) (c₀ : Nat) (hS : s.heap.get? S = some { cls := .type "list", data := .seq #[] c₀ })
    (hR : ∀ h' tk acc c as, (∀ b o, b ≠ S → b ≠ z → b ≠ TO → b ≠ i1 → b ≠ i2 → s.heap.get? b = some o → h'.get? b = some o) → h'.get? S = some { cls := .type "list", dict := none, data := .seq acc c, slots := #[] } → as.length = m → ZG P1 P2 S h' as →
      acc.toList = as.map Value.ref → R (.ok (.ret res)) { s with heap := h', toks := tk }) :
    wpAny (model prog w) A.in1 (Builtin.List.listExtendWith (.ref S) (.ref z) res)
      (fun fin s' => match fin with | .done f => R (.ok f) s' | .again c' => c'.quiet = true ∧ codeAny (model prog w) A c' R s') (fun e s' => R (.error e) s') s := by
  have hst : ZSt s.heap z TI TO i1 i2 S 0 := ⟨hTI, .inl ⟨hz, _, _, hTO⟩⟩
  have hT : s.TypeIs (.ref z) "zip" := ⟨_, hz, rfl⟩
  have key : ∀ (h : Heap) (c₁ tk : Nat), (∀ b o, b ≠ S → s.heap.get? b = some o → h.get? b = some o) → h.get? S = some { cls := .type "list", data := .seq #[] c₁ } →
      codeAny (model prog w) A (.builtin "list.extend.loop" ⟨[.ref S, .ref z, res], []⟩) R { s with heap := h, toks := tk } := by
    intro h c₁ tk hk hS₁
    exact zloop (s := s) (h₁ := s.heap) D D1 D2 hzS hTS h1S h2S hm hn res hR m 0 h tk c₁ #[] [] (Nat.sub_zero _) (Nat.zero_le _) (hst.keep D hk) (D1.frame _ _ _ s1 fun b hb o e => hk b o (fun q => D.Sf1 (q ▸ hb)) e) (D2.frame _ _ _ s2 fun b hb o e => hk b o (fun q => D.Sf2 (q ▸ hb)) e)
      (fun b o g1 _ _ _ _ e => hk b o g1 e) hS₁ rfl rfl ⟨List.Pairwise.nil, (fun _ ha => nomatch ha), (fun j a hj => by simp at hj)⟩
  unfold Builtin.List.listExtendWith
  refine wpAny_bind (wpAny_typeOf (T := "zip") hT ?_)
  have h1 : Builtin.List.listSameRef (.ref S) (.ref z) = false := by simp [Builtin.List.listSameRef, D.Sz]
  have h2 : (Value.type "zip" == Value.type "list") = false := by decide
  have h3 : (Value.type "zip" == Value.type "tuple") = false := by decide
  simp only [h1, h2, h3, Bool.or_false, Bool.false_eq_true, if_false]
  refine wpAny_bind (wpAny_pyIter_zip hz ?_)
  refine wpAny_bind (wpAny_holding (zhint hT ?_))
  refine wpAny_ite_split (fun _ => ?_) (fun hab => absurd (by simp) hab)
  refine wpAny_bind (wpAny_rule ?_)
  refine wpAny_bind ?_
  show wpAny _ _ (updateSeq S (·.push .none) >>= fun _ => updateSeq S (·.pop)) _ _ _
  refine wpAny_bind (wpAny_updateSeq hS rfl ?_)
  have hS₂ := Heap.get?_update_self (Obj.mapSeq (·.push Value.none)) hS rfl
  refine wpAny_updateSeq (hz := by seq_fits) hS₂ rfl ?_
  have hS₃ := Heap.get?_update_self (Obj.mapSeq (·.pop)) hS₂ rfl
  refine wpAny_pure ⟨plainId_quiet PySem.F.plain_extend_loop _, key _ _ _ (fun b o hb e => ?_) hS₃⟩
  exact (Heap.get?_update_other _ _ (Ne.symm hb)).trans ((Heap.get?_update_other _ _ (Ne.symm hb)).trans e)
theorem zinit {S m : Nat} {R : Result → Shared → Prop} (D : Ap z TI TO i1 i2 S fp1 fp2) (D1 : Draws prog w A.in1.in1 i1 fp1 n1 P1 St1) (D2 : Draws prog w A.in1.in1 i2 fp2 n2 P2 St2) (hzS : z < S) (hTS : TO < S) (h1S : i1 < S) (h2S : i2 < S) (hm : m = min n1 n2) (hn : m ≤ sizeLine)
    (hz : IsZip s.heap z TI TO .none) (hTI : IsTupOf2 s.heap TI (.ref i1) (.ref i2)) (hTO : IsTupOf2 s.heap TO a1 a2) (s1 : St1 0 s.heap) (s2 : St2 0 s.heap) (hS : s.heap.get? S = some { cls := .type "list", data := .seq #[] })
    (hR : ∀ h' tk acc c as, (∀ b o, b ≠ S → b ≠ z → b ≠ TO → b ≠ i1 → b ≠ i2 → s.heap.get? b = some o → h'.get? b = some o) → h'.get? S = some { cls := .type "list", dict := none, data := .seq acc c, slots := #[] } → as.length = m → ZG P1 P2 S h' as →
      acc.toList = as.map Value.ref → R (.ok (.ret .none)) { s with heap := h', toks := tk }) :
    wpAny (model prog w) A.in1 (Builtin.«list.__init__» ⟨[.ref S, .ref z], []⟩)
      (fun fin s' => match fin with | .done f => R (.ok f) s' | .again c' => c'.quiet = true ∧ codeAny (model prog w) A c' R s') (fun e s' => R (.error e) s') s := by
  show wpAny _ _ (do let old ← Builtin.List.listItems (.ref S); Builtin.List.listUpdate (.ref S) (fun _ => #[]); letGo old.toList.reverse; Builtin.List.listExtendWith (.ref S) (.ref z) .none) _ _ s
  refine wpAny_bind ?_
  unfold Builtin.List.listItems
  refine wpAny_bind (wpAny_seqItems hS rfl (wpAny_pure ?_))
  show wpAny _ _ (updateSeq S (fun _ => #[]) >>= fun _ => letGo (#[] : Array Value).toList.reverse >>= fun _ => Builtin.List.listExtendWith (.ref S) (.ref z) .none) _ _ s
  refine wpAny_bind (wpAny_updateSeq hS rfl ?_)
  have hS₂ := Heap.get?_update_self (Obj.mapSeq (fun _ => (#[] : Array Value))) hS rfl
  have oth : ∀ b o, b ≠ S → s.heap.get? b = some o → (s.heap.update S (Obj.mapSeq (fun _ => (#[] : Array Value)))).get? b = some o :=
    fun b o hb e => (Heap.get?_update_other _ _ (Ne.symm hb)).trans e
  refine wpAny_bind (wpAny_letGo ?_)
  refine zextend D D1 D2 hzS hTS h1S h2S hm hn .none (oth _ _ D.Sz.symm hz) (oth _ _ D.STI.symm hTI) (oth _ _ D.STO.symm hTO) (D1.frame _ _ _ s1 fun b hb o e => oth b o (fun q => D.Sf1 (q ▸ hb)) e) (D2.frame _ _ _ s2 fun b hb o e => oth b o (fun q => D.Sf2 (q ▸ hb)) e) _ hS₂ fun h' tk acc c as hk hS' hl hG hacc => ?_
  exact hR h' tk acc c as (fun b o g1 g2 g3 g4 g5 e => hk b o g1 g2 g3 g4 g5 (oth b o g1 e)) hS' hl hG hacc
/-- list(z), z a zip that was just made -/
theorem zcall {m : Nat} {Q : Value → Shared → Prop} (Sp : ZipSep2 z TI TO i1 i2 fp1 fp2) (D1 : Draws prog w A.in1.in1.in1 i1 fp1 n1 P1 St1) (D2 : Draws prog w A.in1.in1.in1 i2 fp2 n2 P2 St2) (hf1 : ∀ b ∈ fp1, b < s.heap.objs.size) (hf2 : ∀ b ∈ fp2, b < s.heap.objs.size) (hm : m = min n1 n2) (hn : m ≤ sizeLine)
    (hz : IsZip s.heap z TI TO .none) (hTI : IsTupOf2 s.heap TI (.ref i1) (.ref i2)) (hTO : IsTupOf2 s.heap TO a1 a2) (s1 : St1 0 s.heap) (s2 : St2 0 s.heap)
    (hQ : ∀ h' tk acc c as, (∀ b o, b ≠ z → b ≠ TO → b ≠ i1 → b ≠ i2 → s.heap.get? b = some o → h'.get? b = some o) → h'.get? s.heap.objs.size = some { cls := .type "list", dict := none, data := .seq acc c, slots := #[] } → as.length = m → ZG P1 P2 s.heap.objs.size h' as →
      acc.toList = as.map Value.ref → Q (.ref s.heap.objs.size) { s with heap := h', toks := tk }) :
    wpAny (model prog w) A (call (.type "list") [.ref z]) Q E s := by
  refine callType_codes (Q₁ := fun obj s₁ => obj = .ref s.heap.objs.size ∧ s₁ = { s with heap := s.heap.push { cls := .type "list", data := .seq #[] } }) PySem.F.called_list (PySem.F.typeCall_list_1 _) PySem.F.entry_list_init
    (code_list_new _ ⟨rfl, rfl⟩) fun obj s₁ h₁ => ?_
  obtain ⟨rfl, rfl⟩ := h₁
  have hS : (s.heap.push { cls := .type "list", data := .seq #[] }).get? s.heap.objs.size = some { cls := .type "list", data := .seq #[] } := Heap.get?_push_size _ rfl
  have up : ∀ b o, s.heap.get? b = some o → (s.heap.push { cls := .type "list", data := .seq #[] }).get? b = some o := fun b o e => Heap.get?_push_of_some _ e
  have D : Ap z TI TO i1 i2 s.heap.objs.size fp1 fp2 := { Sp with Sz := Nat.ne_of_gt (Heap.lt_size hz), STI := Nat.ne_of_gt (Heap.lt_size hTI), STO := Nat.ne_of_gt (Heap.lt_size hTO), Sf1 := fun q => Nat.lt_irrefl _ (hf1 _ q), Sf2 := fun q => Nat.lt_irrefl _ (hf2 _ q) }
  refine ⟨⟨_, hS, rfl⟩, PySem.F.args_list_init_2 _ _, zinit (A := A.in1) D D1 D2 (Heap.lt_size hz) (Heap.lt_size hTO) (hf1 _ Sp.mem1) (hf2 _ Sp.mem2) hm hn (up _ _ hz) (up _ _ hTI) (up _ _ hTO) (D1.frame _ _ _ s1 fun b _ o e => up b o e) (D2.frame _ _ _ s2 fun b _ o e => up b o e) hS fun h' tk acc c as hk hS' hl hG hacc => ?_⟩
  exact ⟨rfl, hQ h' tk acc c as (fun b o g2 g3 g4 g5 e => hk b o (Nat.ne_of_lt (Heap.lt_size e)) g2 g3 g4 g5 (up b o e)) hS' hl hG hacc⟩
end
end Zl
namespace Rd
open PySem PySem.Spec PyProof.Rows L2
/-- the tuples tracked at their addresses -/
def putP : Hp → List Addr → List (V × V) → Hp
  | H, a :: as, p :: zs => putP (upd H a (.tup [p.1, p.2])) as zs
  | H, _, _ => H
theorem putP_off {b : Addr} : ∀ (as : List Addr) (zs : List (V × V)) (H : Hp), b ∉ as → putP H as zs b = H b
  | [], _, _, _ => rfl
  | _ :: _, [], _, _ => rfl
  | a :: as, p :: zs, H, h => by
    show putP (upd H a (.tup [p.1, p.2])) as zs b = H b
    rw [putP_off as zs _ (fun z => h (List.mem_cons_of_mem _ z)), upd_ne (fun z => h (by rw [z]; exact List.mem_cons_self))]
theorem putP_at : ∀ (as : List Addr) (zs : List (V × V)) (H : Hp), as.length = zs.length → as.Nodup → Paired (fun (t : Addr) (p : V × V) => putP H as zs t = some (.tup [p.1, p.2])) as zs
  | [], [], _, _, _ => .nil
  | [], _ :: _, _, h, _ => by cases h
  | _ :: _, [], _, h, _ => by cases h
  | a :: as, p :: zs, H, h, hn => by
    have hn' := List.nodup_cons.mp hn
    have ih := putP_at as zs (upd H a (.tup [p.1, p.2])) (Nat.succ.inj h) hn'.2
    refine .cons ?_ ih
    show putP (upd H a (.tup [p.1, p.2])) as zs a = some (.tup [p.1, p.2])
    rw [putP_off as zs _ hn'.1, upd_same]
theorem pairs_laidC {X : Cx} {ch : List Addr} {pins : List (Addr × Obj)} {σ : L2.St} {H : Hp} {s : Shared} {h' : Heap} {tk : Nat} {xs ys : List V} {us ws : List Value} {acc : Array Value} {c : Nat} {as : List Addr} {p : Addr} (I : Inv X pins σ H s) (rx : Vals xs us) (ry : Vals ys ws) (hz : (xs.zip ys).length ≤ sizeLine)
    (hf : ∀ b ∈ ch, FpOk X pins H b) (hk : ∀ b o, b ∉ ch → s.heap.get? b = some o → h'.get? b = some o) (hp : s.heap.objs.size ≤ p) (hS : h'.get? p = some { cls := .type "list", dict := none, data := .seq acc c, slots := #[] }) (hl : as.length = (xs.zip ys).length) (hG : Zl.ZG (fun i v => us.toArray[i]? = some v) (fun i v => ws.toArray[i]? = some v) p h' as) (hacc : acc.toList = as.map Value.ref) :
    ∃ H' : Hp, Same H H' ∧ H p = none ∧ H' p = some (.lst (as.map V.ref)) ∧ Paired (fun (t : Addr) (q : V × V) => H' t = some (.tup [q.1, q.2])) as (xs.zip ys) ∧ Inv X pins σ H' { s with heap := h', toks := tk } := by
  have hSn : p ∉ as := fun z => Nat.lt_irrefl _ (hG.above _ z)
  have nd : as.Nodup := List.Pairwise.imp (fun {a b} (h : a < b) => Nat.ne_of_lt h) hG.rise
  have new : ∀ t ∈ as, H t = none := fun t ht => I.hok.fresh (Nat.le_trans hp (Nat.le_of_lt (hG.above t ht)))
  have newS : H p = none := I.hok.fresh hp
  have atP := putP_at as (xs.zip ys) (upd H p (.lst (as.map V.ref))) hl nd
  have off : ∀ b, b ∉ as → b ≠ p → putP (upd H p (.lst (as.map V.ref))) as (xs.zip ys) b = H b := fun b h1 h2 => by rw [putP_off as _ _ h1, upd_ne h2]
  have low : ∀ b o, s.heap.get? b = some o → b ∉ as ∧ b ≠ p := fun b o e => ⟨fun z => absurd (Heap.lt_size e) (Nat.not_lt.mpr (Nat.le_trans hp (Nat.le_of_lt (hG.above b z)))), Nat.ne_of_lt (Nat.lt_of_lt_of_le (Heap.lt_size e) hp)⟩
  have kp : ∀ b u, H b = some u → (putP (upd H p (.lst (as.map V.ref))) as (xs.zip ys)) b = some u := fun b u e => by
    rw [off b (fun z => by rw [new b z] at e; cases e) (fun z => by rw [z, newS] at e; cases e)]
    exact e
  have eS : putP (upd H p (.lst (as.map V.ref))) as (xs.zip ys) p = some (.lst (as.map V.ref)) := by rw [putP_off as _ _ hSn, upd_same]
  refine ⟨putP (upd H p (.lst (as.map V.ref))) as (xs.zip ys), kp, newS, eS, atP, ?_⟩
  refine I.call' (ch := ch) rfl ⟨fun b o q _ _ z => hk b o z q, fun b o q _ _ z => ⟨o.slots, hk b o z q⟩, fun b o q n _ => ?_, fun b o q z => ⟨o, hk b o z q⟩, fun b xs q => kp b _ q, fun b o u q => kp b _ q, fun b ps q => ⟨#[], by rw [kp b _ q]; simp⟩⟩ (fun b u q => ?_) I.bare fun b z => ⟨(hf b z).2.2.2.1, (hf b z).2.1, (hf b z).2.2.2.2.1, (hf b z).2.2.2.2.2⟩
  · obtain ⟨z1, z2⟩ := low b o q
    rw [off b z1 z2]
    exact n
  · by_cases hb : b ∈ as
    · obtain ⟨j, pk, e1, e2, e3⟩ := LiI.paired_ix atP hb
      rw [e3] at q
      cases q
      obtain ⟨x1, x2, f1, f2, f3⟩ := hG.pairs j b e1
      obtain ⟨g1, g2⟩ := List.getElem?_zip_eq_some.mp e2
      have r1 := vals_at rx g1 (u := x1) (by simpa using f1)
      have r2 := vals_at ry g2 (u := x2) (by simpa using f2)
      exact ⟨by show 2 ≤ sizeLine; decide, [x1, x2], .cons r1 (.cons r2 .nil), ⟨_, f3, rfl, _, rfl⟩⟩
    · by_cases hb2 : b = p
      · rw [hb2] at q ⊢
        rw [eS] at q
        cases q
        refine ⟨by rw [List.length_map]; omega, acc.toList, c, by rw [hacc]; exact LiI.vals_refs as, ?_⟩
        rw [Array.toArray_toList]
        exact hS
      · rw [off b hb hb2] at q
        have nit : ∀ d w, H d = some w → d ∉ ch := fun d w e z => by have := (hf d z).1; rw [this] at e; cases e
        exact (I.hok b u q).stay (fun d v hd y => hk d v (hd.elim (fun z => by rw [z]; exact nit b u q) fun z => nit d _ z) y) (fun d y => kp d _ y) fun d xs y => kp d _ y
theorem pairs_laid {X : Cx} {pins : List (Addr × Obj)} {σ : L2.St} {H : Hp} {s : Shared} {h' : Heap} {tk : Nat} {xs ys : List V} {us ws : List Value} {acc : Array Value} {c : Nat} {as : List Addr} {p : Addr} (I : Inv X pins σ H s) (rx : Vals xs us) (ry : Vals ys ws) (hz : (xs.zip ys).length ≤ sizeLine)
    (hk : ∀ b o, s.heap.get? b = some o → h'.get? b = some o) (hp : s.heap.objs.size ≤ p) (hS : h'.get? p = some { cls := .type "list", dict := none, data := .seq acc c, slots := #[] }) (hl : as.length = (xs.zip ys).length) (hG : Zl.ZG (fun i v => us.toArray[i]? = some v) (fun i v => ws.toArray[i]? = some v) p h' as) (hacc : acc.toList = as.map Value.ref) :
    ∃ H' : Hp, Same H H' ∧ H p = none ∧ H' p = some (.lst (as.map V.ref)) ∧ Paired (fun (t : Addr) (q : V × V) => H' t = some (.tup [q.1, q.2])) as (xs.zip ys) ∧ Inv X pins σ H' { s with heap := h', toks := tk } :=
  pairs_laidC (ch := []) I rx ry hz (fun b z => by simp at z) (fun b o _ e => hk b o e) hp hS hl hG hacc
/-- what is zipped: a list or a tuple -/
structure Src (h : Heap) (a : Addr) (its : Array Value) (o : Obj) (HH : Heap → Prop) (St : Addr → Nat → Heap → Prop) : Prop where
  bg : Begins (.ref a) o HH
  now : HH h
  dr : ∀ (prog : Program) (w : World) (A : Around) (it : Addr), A.handled = none → a ≠ it → Draws prog w A it [it, a] its.size (fun i v => its[i]? = some v) (St it)
  st : ∀ it h', h'.get? it = some o → HH h' → St it 0 h'
  lt : a < h.objs.size
theorem src_list {h : Heap} {a : Addr} {its : Array Value} (hl : h.IsList a its) : Src h a its { cls := .type "list_iterator", data := .fields #[.ref a, .int 0 0] } (fun h => h.IsList a its) (fun it i h => h.IsListIter it a i ∧ h.IsList a its) :=
  ⟨begins_list a its, hl, fun _ _ _ it hh hne => Draws.list hh it a hne its, fun it h' e hl' => ⟨⟨_, e, rfl, rfl⟩, hl'⟩, let ⟨_, ho, _⟩ := hl; Heap.lt_size ho⟩
theorem src_tuple {h : Heap} {a : Addr} {its : Array Value} (hl : h.IsTuple a its) : Src h a its { cls := .type "tuple_iterator", data := .fields #[.ref a, .int 0 0] } (fun h => h.IsTuple a its) (fun it i h => h.IsTupleIter it a i ∧ h.IsTuple a its) :=
  ⟨begins_tuple a its, hl, fun _ _ _ it hh hne => Draws.tuple hh it a hne its, fun it h' e hl' => ⟨⟨_, e, rfl, rfl⟩, hl'⟩, let ⟨_, ho, _⟩ := hl; Heap.lt_size ho⟩
def rListZip (K : PySem.W.Frag) : List V → Hp → VK → Prop := fun vs H Q => ∃ a b xs ys, vs = [.ref a, .ref b] ∧ SqS K H a xs ∧ SqS K H b ys ∧ ∀ p H' ts, H p = none → Same H H' → H' p = some (.lst (ts.map V.ref)) → Paired (fun (t : Addr) (q : V × V) => H' t = some (.tup [q.1, q.2])) ts (xs.zip ys) → Q (.ref p) H'
theorem sep2_of {n a b : Nat} (ha : a < n) (hb : b < n) : ZipSep2 (n + 4) (n + 2) (n + 3) n (n + 1) [n, a] [n + 1, b] := by
  have n1 : ∀ k j : Nat, k ≠ j → n + k ≠ n + j := fun k j h e => h (by omega)
  have a1 : ∀ k : Nat, n + k ≠ a := fun k e => by omega
  have b1 : ∀ k : Nat, n + k ≠ b := fun k e => by omega
  have m : ∀ {x y z : Nat}, x ≠ y → x ≠ z → x ∉ [y, z] := fun h1 h2 q => by
    rcases List.mem_cons.mp q with e | e
    · exact h1 e
    · exact h2 (List.mem_singleton.mp e)
  exact ⟨n1 2 4 (by decide), n1 3 4 (by decide), n1 2 3 (by decide), n1 2 0 (by decide), List.mem_cons_self, m (n1 4 0 (by decide)) (a1 4), m (n1 3 0 (by decide)) (a1 3), n1 2 1 (by decide), List.mem_cons_self, m (n1 4 1 (by decide)) (b1 4), m (n1 3 1 (by decide)) (b1 3), m (n1 0 1 (by decide)) (b1 0), m (n1 1 0 (by decide)) (a1 1)⟩
theorem src_of {X : Cx} {pins : List (Addr × Obj)} {σ : L2.St} {H : Hp} {s : Shared} {a : Addr} {xs : List V} (I : Inv X pins σ H s) (h : SqS X.K H a xs) : ∃ (us : List Value) (o : Obj) (HH : Heap → Prop) (St : Addr → Nat → Heap → Prop), Vals xs us ∧ us.length ≤ sizeLine ∧ Src s.heap a us.toArray o HH St := by
  rcases h with h | h
  · obtain ⟨its, rv, p, hz⟩ := I.list h
    exact ⟨its, _, _, _, rv, by rw [← rv.length]; exact hz, src_list p.isList⟩
  · obtain ⟨its, rv, p, hz⟩ := I.tuple h
    exact ⟨its, _, _, _, rv, by rw [← rv.length]; exact hz, src_tuple (show s.heap.IsTuple a its.toArray from p)⟩
section
variable {X : Cx} {e e2 : Expr} {ta : TA} {p p2 pos pos2 : Pos}
/-- list(zip(x, y)) -/
theorem pe_listZip (hc : X.calm = true) (hg : Gl X "list") (hm : X.mg "list" = none) (hv : bootBuiltins "list" = some (.type "list")) (hg2 : Gl X "zip") (hm2 : X.mg "zip" = none) (ha : PA X [e, e2] ta)
    (hs : starEach [.Call (.Name "zip" p2) [e, e2] [] pos2] X.env = (false, eval (.Call (.Name "zip" p2) [e, e2] [] pos2) X.env) :: starEach [] X.env := by rfl)
    (hs2 : starEach [e, e2] X.env = (false, eval e X.env) :: starEach [e2] X.env := by rfl) (hpl : (backTo pos2 (starEach [e2] X.env)).any (·.1) = false := by rfl) :
    PE X (.Call (.Name "list" p) [.Call (.Name "zip" p2) [e, e2] [] pos2] [] pos) (tCB (rListZip X.K) ta) := by
  refine ⟨fun pins s σ H Q I h => ?_⟩
  refine wpAny_Call_Name_kw (ld_blt I hg hm hv ?_)
  refine PyProof.Rows.callWith_type1 ?_ hs rfl
  rw [hs]
  show wpAny _ _ (spliced ((false, eval (.Call (.Name "zip" p2) [e, e2] [] pos2) X.env) :: backTo pos (starEach [] X.env))) _ _ s
  refine Calls.spliced_cons ?_
  refine Call_ (ld_blt I hg2 hm2 PyProof.Rows.boot_zip (PyProof.Rows.callWith_type1 (thn (ha.run pos2 pins s σ H _ I h) fun us s1 ⟨vs, H1, I1, r1, q1⟩ => ?_) hs2 hpl))
  obtain ⟨a, b, xs, ys, ex, hx, hy, q⟩ := q1
  subst ex
  cases r1 with
  | cons r rr =>
    cases rr with
    | cons r' rr =>
      cases rr
      cases r
      cases r'
      obtain ⟨us, o1, HH1, St1, rx, lx, S1⟩ := src_of I1 hx
      obtain ⟨ws, o2, HH2, St2, ry, ly, S2⟩ := src_of I1 hy
      refine zip_begins2 S1.bg S2.bg S1.now S2.now fun h' hz hTI hTO g1 g2 hsz hk => ?_
      have la := S1.lt
      have lb := S2.lt
      generalize hn : s1.heap.objs.size = n at hz hTI hTO g1 g2 hsz la lb ⊢
      refine Calls.spliced_nil ?_
      have hh : X.A.handled = none := I1.ok.hd hc
      have key := Zl.zcall (prog := X.prog) (w := X.w) (A := X.A) (E := X.xe) (s := { s1 with heap := h' }) (Q := EP X pins σ Q) (m := (xs.zip ys).length) (sep2_of la lb) (S1.dr X.prog X.w X.A.in1.in1.in1 n hh (Nat.ne_of_lt la)) (S2.dr X.prog X.w X.A.in1.in1.in1 (n + 1) hh (Nat.ne_of_lt (Nat.lt_succ_of_lt lb)))
        (fun x hx => ?_) (fun x hx => ?_) ?_ ?_ hz hTI hTO (S1.st n h' g1 (S1.bg.keeps _ _ S1.now hk)) (S2.st (n + 1) h' g2 (S2.bg.keeps _ _ S2.now hk)) fun h'' tk acc c as hk2 hS hl hG hacc => ?_
      · exact key
      · show x < h'.objs.size
        rw [hsz]
        rcases List.mem_cons.mp hx with z | z
        · rw [z]; exact Nat.lt_add_of_pos_right (by decide)
        · rw [List.mem_singleton.mp z]; exact Nat.lt_of_lt_of_le la (Nat.le_add_right _ _)
      · show x < h'.objs.size
        rw [hsz]
        rcases List.mem_cons.mp hx with z | z
        · rw [z]; exact Nat.add_lt_add_left (by decide) n
        · rw [List.mem_singleton.mp z]; exact Nat.lt_of_lt_of_le lb (Nat.le_add_right _ _)
      · rw [List.length_zip, rx.length, ry.length, List.size_toArray, List.size_toArray]
      · rw [List.length_zip, rx.length]
        exact Nat.le_trans (Nat.min_le_left _ _) lx
      · have keep : ∀ b o, s1.heap.get? b = some o → h''.get? b = some o := fun b o e => by
          have lt : b < n := by rw [← hn]; exact Heap.lt_size e
          exact hk2 b o (Nat.ne_of_lt (Nat.lt_of_lt_of_le lt (Nat.le_add_right _ _))) (Nat.ne_of_lt (Nat.lt_of_lt_of_le lt (Nat.le_add_right _ _))) (Nat.ne_of_lt lt) (Nat.ne_of_lt (Nat.lt_of_lt_of_le lt (Nat.le_add_right _ _))) (hk b o e)
        obtain ⟨H', k1, k2, k3, k4, J⟩ := pairs_laid (tk := tk) I1 rx ry (by rw [List.length_zip, rx.length]; exact Nat.le_trans (Nat.min_le_left _ _) lx) keep (show s1.heap.objs.size ≤ h'.objs.size by rw [hsz, hn]; exact Nat.le_add_right _ _) hS hl hG hacc
        exact ⟨.ref _, H', J, rfl, q _ H' as k2 k1 k3 k4⟩
end
end Rd
set_option Elab.async false
set_option linter.all false
set_option maxRecDepth 100000
set_option maxHeartbeats 4000000
set_option Elab.async false
set_option linter.all false
set_option maxRecDepth 100000
set_option maxHeartbeats 4000000
set_option Elab.async false
set_option linter.all false
set_option maxRecDepth 100000
set_option maxHeartbeats 4000000
namespace M
open PySem L2
local macro_rules | `(tactic| walk_at "rdc") => `(tactic| first | exact Or.inl ⟨by decide, by decide⟩ | exact Or.inr ⟨by decide, by decide⟩ | exact ⟨by decide, by decide, by decide⟩ | exact ⟨by decide, by decide⟩ | decide | omega | assumption | (refine Or.inl ⟨?_, ?_⟩ <;> omega) | (refine Or.inr ⟨?_, ?_⟩ <;> omega) | (refine ⟨?_, ?_⟩ <;> omega))
local macro_rules | `(tactic| walk_at "rd1") => `(tactic| with_reducible first
  | refine Rd.rd_seq ?_ | refine Rd.rd_asg ?_ | refine Rd.rd_op ?_ | (refine' Rd.rd_var ?vh ?_; (case vh => with_unfolding_all rfl)) | refine Rd.rd_c ?_ | refine Rd.rd_I0 ?_ | refine Rd.rd_name0 ?_ | refine Rd.rd_nameS ?_ | refine Rd.rd_fn ?_
  | refine Rd.rd_cb ?_ | refine Rd.rd_cons ?_ | refine Rd.rd_nil ?_ | refine Rd.rd_int ?_ | refine Rd.rd_intB ?_ | refine Rd.rd_abs ?_ | refine Rd.rd_max2 ?_ | refine Rd.rd_min2 ?_
  | refine Rd.rd_call ?_ | refine Rd.rd_ifE ?_ | refine Rd.rd_test ?_ | refine Rd.rd_tB ?_ | refine Rd.rd_blV ?_ | refine Rd.rd_and ?_ | refine Rd.rd_or ?_ | refine Rd.rd_not ?_
  | refine Rd.rd_andV ?_ | refine Rd.rd_orV ?_ | refine Rd.rd_notV ?_ | refine Rd.rd_next ?_ | refine Rd.rd_ret ?_ | refine Rd.rd_drop ?_ | refine Rd.rd_ifS ?_ | refine Rd.rd_nx ?_ | refine Rd.rd_rt ?_ | refine Rd.rd_tMatch ?_ | refine Rd.rd_tCO ?_ | refine Rd.rd_tRevL ?_ | refine Rd.rd_tStar ?_ | refine Rd.rd_joined ?_ | refine Rd.rd_js1 ?_ | refine Rd.rd_js0 ?_ | refine Rd.rd_fmt ?_ | refine Rd.rd_propR ?_ | refine Rd.rd_iZipA ?_ | refine Rd.rd_iEnumT ?_ | refine Rd.rd_iOwn ?_ | (refine' Rd.rd_IET ?ln ?_; (case ln => with_unfolding_all walk_at "at")) | refine Rd.rd_chain ?_ | refine Rd.rd_tPar ?_ | refine Rd.rd_par ?_ | refine Rd.rd_sl ?_ | refine Rd.rd_noPart ?_ | refine Rd.rd_part ?_ | refine Rd.rd_intV ?_ | refine Rd.rd_lc ?_ | (refine' Rd.rd_aug ?vh ?_; (case vh => with_unfolding_all rfl)) | refine Rd.rd_ipI ?_ | refine Rd.rd_for ?_ | (refine' Rd.rd_IT ?ln ?_; (case ln => with_unfolding_all walk_at "at")) | (refine' Rd.rd_IL ?ln ?_; (case ln => with_unfolding_all walk_at "at")) | refine Rd.rd_iTup ?_ | refine Rd.rd_iList ?_ | refine Rd.rd_iRng1 ?_ | refine Rd.rd_iRng2 ?_ | refine Rd.rd_isi (Rd.isi_int Rd.kk_int_int) ?_ | refine Rd.rd_isi (Rd.isi_int Rd.kk_int_bool) ?_ | refine Rd.rd_dget ?_ | refine Rd.rd_din ?_ | refine Rd.rd_dnotin ?_ | refine Rd.rd_dput ?_ | refine Rd.rd_dc ?_ | refine Rd.rd_lc2 ?_ | refine Rd.rd_ltS ?_ | refine Rd.rd_inSg ?_ | refine Rd.rd_iStr ?_ | refine Rd.rd_IS ?_ | refine Rd.rd_prC ?_ | refine Rd.rd_prN ?_ | refine Rd.rd_methR ?_ | refine Rd.rd_cmeth ?_ | refine Rd.rd_fldS ?_ | refine Rd.rd_fld ?_ | (refine' Rd.rd_mkVS ?vh ?_; (case vh => with_unfolding_all rfl)) | (refine' Rd.rd_starT ?ln ?_; (case ln => with_unfolding_all walk_at "at")) | refine Rd.rd_iEnum ?_ | refine Rd.rd_iZip ?_ | (refine' Rd.rd_IE ?ln ?_; (case ln => with_unfolding_all walk_at "at")) | (refine' Rd.rd_IZ ?ln ?lm ?_; (case ln => with_unfolding_all walk_at "at"); (case lm => with_unfolding_all walk_at "at")) | (refine' Rd.rd_gTup ?ln ?lk ?_; (case ln => with_unfolding_all walk_at "at"); (case lk => with_unfolding_all rfl)) | refine Rd.rd_gCons ?_ | refine Rd.rd_gNil ?_ | refine Rd.rd_m1 ?_ | refine Rd.rd_strV ?_ | refine Rd.rd_tXiM ?_ | refine Rd.rd_tXiB ?_ | refine Rd.rd_tXiS ?_ | refine Rd.rd_bm ?_ | refine Rd.rd_bm0 ?_ | refine Rd.rd_isN ?_ | refine Rd.rd_notN ?_ | refine Rd.rd_sub ?_ | refine Rd.rd_un ?_ | refine Rd.rd_U ?_
  | (refine' Rd.rd_eq ?sc ?_; (case sc => with_unfolding_all rfl)) | (refine' Rd.rd_ne ?sc ?_; (case sc => with_unfolding_all rfl))
  | (refine' Rd.rd_I ?cc ?_; (case cc => with_unfolding_all walk_at "rdc"))
  | (refine' Rd.rd_lenL ?ln ?_; (case ln => with_unfolding_all walk_at "at")) | (refine' Rd.rd_lenT ?ln ?_; (case ln => with_unfolding_all walk_at "at"))
  | (refine' Rd.rd_ixL ?ln ?ia ?_; (case ln => with_unfolding_all walk_at "at"); (case ia => with_unfolding_all first | exact Rd.at0 | exact Rd.at1 | exact Rd.at2 | exact Rd.at3 | exact Rd.at4 | rfl)) | (refine' Rd.rd_ixT ?ln ?ia ?_; (case ln => with_unfolding_all walk_at "at"); (case ia => with_unfolding_all first | exact Rd.at0 | exact Rd.at1 | exact Rd.at2 | exact Rd.at3 | exact Rd.at4 | rfl)))
local macro_rules | `(tactic| walk_at "at") => `(tactic| first | assumption | (apply SqL.of; assumption) | (apply SqT.of; assumption) | (apply SqL.of; exact upd_same) | (apply SqT.of; exact upd_same))
local macro_rules | `(tactic| walk_at "rd") => `(tactic| repeat walk_at "rd1")
theorem find_rows : ∀ {ts : List Tr} {rs : List Addr} (z : Str), ts.length = rs.length → ((valV (rowsD ts rs) (Sum.inr z : Key)).isSome = true ↔ z ∈ ts.map (·.nm))
  | [], [], z, _ => by constructor <;> intro h <;> cases h
  | t :: ts, r :: rs, z, e => by
    have ih := find_rows (ts := ts) (rs := rs) z (by simpa using e)
    by_cases h : t.nm = z
    · constructor
      · intro _; rw [List.map_cons, h]; exact List.mem_cons_self
      · intro _
        unfold valV rowsD
        rw [List.zip_cons_cons, List.map_cons, List.find?_cons_of_pos (by simpa using h)]
        rfl
    · have e2 : valV (rowsD (t :: ts) (r :: rs)) (Sum.inr z : Key) = valV (rowsD ts rs) (Sum.inr z : Key) := by
        unfold valV rowsD
        rw [List.zip_cons_cons, List.map_cons, List.find?_cons_of_neg (by simpa using h)]
      rw [e2, ih, List.map_cons, List.mem_cons]
      exact ⟨.inr, fun q => q.resolve_left fun w => h w.symm⟩
end M
set_option Elab.async false
set_option linter.all false
set_option maxRecDepth 100000
set_option maxHeartbeats 4000000
namespace M
open PySem L2
local macro_rules | `(tactic| walk_at "rdc") => `(tactic| first | exact Or.inl ⟨by decide, by decide⟩ | exact Or.inr ⟨by decide, by decide⟩ | exact ⟨by decide, by decide, by decide⟩ | exact ⟨by decide, by decide⟩ | decide | omega | assumption | (refine Or.inl ⟨?_, ?_⟩ <;> omega) | (refine Or.inr ⟨?_, ?_⟩ <;> omega) | (refine ⟨?_, ?_⟩ <;> omega))
local macro_rules | `(tactic| walk_at "rd1") => `(tactic| with_reducible first
  | refine Rd.rd_seq ?_ | refine Rd.rd_asg ?_ | refine Rd.rd_op ?_ | (refine' Rd.rd_var ?vh ?_; (case vh => with_unfolding_all rfl)) | refine Rd.rd_c ?_ | refine Rd.rd_I0 ?_ | refine Rd.rd_name0 ?_ | refine Rd.rd_nameS ?_ | refine Rd.rd_fn ?_
  | refine Rd.rd_cb ?_ | refine Rd.rd_cons ?_ | refine Rd.rd_nil ?_ | refine Rd.rd_int ?_ | refine Rd.rd_intB ?_ | refine Rd.rd_abs ?_ | refine Rd.rd_max2 ?_ | refine Rd.rd_min2 ?_
  | refine Rd.rd_call ?_ | refine Rd.rd_ifE ?_ | refine Rd.rd_test ?_ | refine Rd.rd_tB ?_ | refine Rd.rd_blV ?_ | refine Rd.rd_and ?_ | refine Rd.rd_or ?_ | refine Rd.rd_not ?_
  | refine Rd.rd_andV ?_ | refine Rd.rd_orV ?_ | refine Rd.rd_notV ?_ | refine Rd.rd_next ?_ | refine Rd.rd_ret ?_ | refine Rd.rd_drop ?_ | refine Rd.rd_ifS ?_ | refine Rd.rd_nx ?_ | refine Rd.rd_rt ?_ | refine Rd.rd_tMatch ?_ | refine Rd.rd_tCO ?_ | refine Rd.rd_tRevL ?_ | refine Rd.rd_tStar ?_ | refine Rd.rd_joined ?_ | refine Rd.rd_js1 ?_ | refine Rd.rd_js0 ?_ | refine Rd.rd_fmt ?_ | refine Rd.rd_propR ?_ | refine Rd.rd_iZipA ?_ | refine Rd.rd_iEnumT ?_ | refine Rd.rd_iOwn ?_ | (refine' Rd.rd_IET ?ln ?_; (case ln => with_unfolding_all walk_at "at")) | refine Rd.rd_chain ?_ | refine Rd.rd_tPar ?_ | refine Rd.rd_par ?_ | refine Rd.rd_sl ?_ | refine Rd.rd_noPart ?_ | refine Rd.rd_part ?_ | refine Rd.rd_intV ?_ | refine Rd.rd_lc ?_ | (refine' Rd.rd_aug ?vh ?_; (case vh => with_unfolding_all rfl)) | refine Rd.rd_ipI ?_ | refine Rd.rd_for ?_ | (refine' Rd.rd_IT ?ln ?_; (case ln => with_unfolding_all walk_at "at")) | (refine' Rd.rd_IL ?ln ?_; (case ln => with_unfolding_all walk_at "at")) | refine Rd.rd_iTup ?_ | refine Rd.rd_iList ?_ | refine Rd.rd_iRng1 ?_ | refine Rd.rd_iRng2 ?_ | refine Rd.rd_isi (Rd.isi_int Rd.kk_int_int) ?_ | refine Rd.rd_isi (Rd.isi_int Rd.kk_int_bool) ?_ | refine Rd.rd_dget ?_ | refine Rd.rd_din ?_ | refine Rd.rd_dnotin ?_ | refine Rd.rd_dput ?_ | refine Rd.rd_dc ?_ | refine Rd.rd_lc2 ?_ | refine Rd.rd_ltS ?_ | refine Rd.rd_inSg ?_ | refine Rd.rd_iStr ?_ | refine Rd.rd_IS ?_ | refine Rd.rd_prC ?_ | refine Rd.rd_prN ?_ | refine Rd.rd_methR ?_ | refine Rd.rd_cmeth ?_ | refine Rd.rd_fldS ?_ | refine Rd.rd_fld ?_ | (refine' Rd.rd_mkVS ?vh ?_; (case vh => with_unfolding_all rfl)) | (refine' Rd.rd_starT ?ln ?_; (case ln => with_unfolding_all walk_at "at")) | refine Rd.rd_iEnum ?_ | refine Rd.rd_iZip ?_ | (refine' Rd.rd_IE ?ln ?_; (case ln => with_unfolding_all walk_at "at")) | (refine' Rd.rd_IZ ?ln ?lm ?_; (case ln => with_unfolding_all walk_at "at"); (case lm => with_unfolding_all walk_at "at")) | (refine' Rd.rd_gTup ?ln ?lk ?_; (case ln => with_unfolding_all walk_at "at"); (case lk => with_unfolding_all rfl)) | refine Rd.rd_gCons ?_ | refine Rd.rd_gNil ?_ | refine Rd.rd_m1 ?_ | refine Rd.rd_strV ?_ | refine Rd.rd_tXiM ?_ | refine Rd.rd_tXiB ?_ | refine Rd.rd_tXiS ?_ | refine Rd.rd_bm ?_ | refine Rd.rd_bm0 ?_ | refine Rd.rd_isN ?_ | refine Rd.rd_notN ?_ | refine Rd.rd_sub ?_ | refine Rd.rd_un ?_ | refine Rd.rd_U ?_
  | (refine' Rd.rd_eq ?sc ?_; (case sc => with_unfolding_all rfl)) | (refine' Rd.rd_ne ?sc ?_; (case sc => with_unfolding_all rfl))
  | (refine' Rd.rd_I ?cc ?_; (case cc => with_unfolding_all walk_at "rdc"))
  | (refine' Rd.rd_lenL ?ln ?_; (case ln => with_unfolding_all walk_at "at")) | (refine' Rd.rd_lenT ?ln ?_; (case ln => with_unfolding_all walk_at "at"))
  | (refine' Rd.rd_ixL ?ln ?ia ?_; (case ln => with_unfolding_all walk_at "at"); (case ia => with_unfolding_all first | exact Rd.at0 | exact Rd.at1 | exact Rd.at2 | exact Rd.at3 | exact Rd.at4 | rfl)) | (refine' Rd.rd_ixT ?ln ?ia ?_; (case ln => with_unfolding_all walk_at "at"); (case ia => with_unfolding_all first | exact Rd.at0 | exact Rd.at1 | exact Rd.at2 | exact Rd.at3 | exact Rd.at4 | rfl)))
local macro_rules | `(tactic| walk_at "at") => `(tactic| first | assumption | (apply SqL.of; assumption) | (apply SqT.of; assumption) | (apply SqL.of; exact upd_same) | (apply SqT.of; exact upd_same))
local macro_rules | `(tactic| walk_at "rd") => `(tactic| repeat walk_at "rd1")
local macro_rules | `(tactic| walk_at "ne") => `(tactic| first | assumption | exact Ne.symm (by assumption) | (refine' Dice.ne ?D ?h; (case h => assumption); (case D => walk_at "fa")))
local macro_rules | `(tactic| walk_at "kp1") => `(tactic| first | exact kpS (by assumption) | exact Mut.kp (by assumption) | (refine' Rolled.kp ?r ?D; (case r => assumption); (case D => walk_at "fa")))
local macro_rules | `(tactic| walk_at "fa") => `(tactic| first
  | assumption | exact SqT.of (by assumption) | exact SqL.of (by assumption)
  | (refine' Dice.same ?h ?s; (case s => assumption); (case h => walk_at "fa")) | exact Rolled.dice (by assumption)
  | (refine' L2.Same.seq ?s ?h; (case s => assumption); (case h => walk_at "fa")) | (refine' Rolled.sqL ?r ?n ?h; (case r => assumption); (case n => walk_at "ne"); (case h => walk_at "fa"))
  | (refine' Kp.sqT ?k ?h; (case k => walk_at "kp1"); (case h => walk_at "fa")) | (refine' RowAt.kp ?k ?h; (case k => walk_at "kp1"); (case h => walk_at "fa")) | (refine' RowsAt.kp ?k ?h; (case k => walk_at "kp1"); (case h => walk_at "fa")) | (refine' ChgAt.kp ?k ?h; (case k => walk_at "kp1"); (case h => walk_at "fa")) | (refine' PlainAt.kp ?k ?h; (case k => walk_at "kp1"); (case h => walk_at "fa"))
  | (refine' GraphAt.same ?h ?s; (case s => assumption); (case h => walk_at "fa")) | (refine' GraphAt.rolled ?r ?D ?h; (case r => assumption); (case D => walk_at "fa"); (case h => walk_at "fa"))
  | (refine' Rd.Same.at ?s ?h; (case s => assumption); (case h => walk_at "fa")) | (refine' Mut.keep ?m _ _ ?n ?h; (case m => assumption); (case n => walk_at "ne"); (case h => walk_at "fa")) | (refine' Rolled.keep ?r _ _ ?n ?h; (case r => assumption); (case n => walk_at "ne"); (case h => walk_at "fa")))
local macro_rules | `(tactic| walk_at "sm") => `(tactic| first | assumption | exact Same.refl _ | (refine' L2.Same.trans ?h ?s; (case s => assumption); (case h => walk_at "sm")) | (refine' same_mutM ?a ?b ?c; (case c => assumption); (case b => walk_at "nn"); (case a => walk_at "sm")))
local macro_rules | `(tactic| walk_at "rl") => `(tactic| first | assumption | exact Rolled.refl (by walk_at "fa") | (refine' Rolled.trans ?a ?b; (case b => assumption); (case a => walk_at "rl")) | (refine' Rolled.same ?a ?b; (case b => assumption); (case a => walk_at "rl")) | (refine' Rolled.mutM ?a ?n ?e ?m; (case m => assumption); (case n => walk_at "nn"); (case e => walk_at "ne"); (case a => walk_at "rl")))
local macro_rules | `(tactic| walk_at "nn") => `(tactic| first | assumption | (refine' none_pre ?s ?h; (case h => assumption); (case s => walk_at "sm")) | (refine' none_rol ?r ?D ?h; (case h => assumption); (case D => walk_at "fa"); (case r => walk_at "rl")))
local macro_rules | `(tactic| walk_at "sz") => `(tactic| first | (simp only [List.length_cons, List.length_nil]; decide) | (refine Rd.small64 ?_; simp only [List.length_map, List.length_append, List.length_cons, List.length_nil]; omega))
local macro_rules | `(tactic| walk_at "at") => `(tactic| walk_at "fa")
local macro_rules | `(tactic| walk_at "rd1") => `(tactic| with_reducible first
  | (refine' Rd.rd_mkTup ?sz fun _ _ _ _ _ => ?_; (case sz => with_unfolding_all walk_at "sz")) | (refine' Rd.rd_mkLst ?sz fun _ _ _ _ _ => ?_; (case sz => with_unfolding_all walk_at "sz")) | (refine' Rd.rd_mkTupF ?sz fun _ _ _ _ _ => ?_; (case sz => with_unfolding_all walk_at "sz"))
  | (refine' Rd.rd_tupleL ?ln fun _ _ _ _ _ => ?_; (case ln => with_unfolding_all walk_at "at")) | (refine' Rd.rd_tupleT ?ln ?_; (case ln => with_unfolding_all walk_at "at")) | (refine' Rd.rd_listL ?ln fun _ _ _ _ _ => ?_; (case ln => with_unfolding_all walk_at "at")) | (refine' Rd.rd_listT ?ln fun _ _ _ _ _ => ?_; (case ln => with_unfolding_all walk_at "at"))
  | (refine' fld_c ?T ?h fun _ _ => ?_; (case T => assumption); (case h => with_unfolding_all walk_at "fa")) | (refine' fld_s ?T ?h fun _ _ => ?_; (case T => assumption); (case h => with_unfolding_all walk_at "fa")) | (refine' fld_n ?T ?h fun _ _ => ?_; (case T => assumption); (case h => with_unfolding_all walk_at "fa"))
  | refine Rd.rd_get2 ?_ | (refine' Rd.rd_getA ?ln ?_; (case ln => with_unfolding_all first | exact Or.inl (by walk_at "at") | exact Or.inr ⟨_, by walk_at "at"⟩)) | (refine' Rd.rd_getE ?ln ?_; (case ln => with_unfolding_all first | exact Or.inl (by walk_at "at") | exact Or.inr ⟨_, by walk_at "at"⟩)) | refine Rd.rd_daug ?_ | refine Rd.rd_items ?_ | refine Rd.rd_frz ?_ | refine Rd.rd_vals ?_ | refine Rd.rd_kw0 ?_ | refine Rd.rd_callN ?_
  | (refine' Rd.rd_isi (Rd.isi_tup ?ln Rd.kk_tup_tup) ?_; (case ln => with_unfolding_all walk_at "at")) | refine Rd.rd_isi (Rd.isi_str (b := true) kk_str_str) ?_)
local macro_rules | `(tactic| walk_at "st") => `(tactic| (simp only [List.map_cons, List.map_nil, L2.wipe, List.set_cons_zero, List.set_cons_succ]; walk_at "rd"; refine ⟨rfl, ?_⟩; walk_at "rd"))
structure Mo where
  st : Str
  ld : Str → Int
  tp : Str → Int
structure Mc where
  G : Gr
  now : Mo
  past : List Mo
  log : List Str
/-- what comes of a transition: it does not leave the state, a counter gets too low, a state and loads -/
inductive Ans
  | op
  | low (c : Str)
  | to (st : Str) (ld : Str → Int)
/-- the number of a counter in a change -/
def stp (chg : List (Str × Int)) (c : Str) : Int := match chg.find? (fun z => decide (z.1 = c)) with
  | some z => z.2
  | none => 0
def addF (f : Str → Int) (chg : List (Str × Int)) : Str → Int := fun c => f c + stp chg c
def lowL (cs : List Str) (f : Str → Int) (chg : List (Str × Int)) : List Str := cs.filter fun c => decide (addF f chg c < 0)
def ansOf (cs : List Str) (st : Str) (f : Str → Int) (t : Tr) : Ans := if t.src = st then (match lowL cs f t.chg with
  | c :: _ => .low c
  | [] => .to t.tgt (addF f t.chg)) else .op
def maxF (f g : Str → Int) : Str → Int := fun c => if f c < g c then g c else f c
/-- the moment behind it -/
def Mo.aft (M : Mo) (st : Str) (f : Str → Int) : Mo := ⟨st, f, maxF f M.tp⟩
theorem stp_nil (c : Str) : stp [] c = 0 := rfl
theorem stp_cons (kv : Str × Int) (chg : List (Str × Int)) (c : Str) : stp (kv :: chg) c = if kv.1 = c then kv.2 else stp chg c := by
  unfold stp
  by_cases e : kv.1 = c
  · rw [List.find?_cons_of_pos (by simp [e]), if_pos e]
  · rw [List.find?_cons_of_neg (by simp [e]), if_neg e]
theorem stp_not {chg : List (Str × Int)} {c : Str} (h : c ∉ chg.map (·.1)) : stp chg c = 0 := by
  induction chg with
  | nil => rfl
  | cons kv chg ih =>
    rw [List.map_cons, List.mem_cons] at h
    rw [stp_cons, if_neg fun e => h (.inl e.symm), ih fun q => h (.inr q)]
theorem stp_app {chg : List (Str × Int)} {kv : Str × Int} (h : kv.1 ∉ chg.map (·.1)) (c : Str) : stp (chg ++ [kv]) c = if c = kv.1 then kv.2 else stp chg c := by
  induction chg with
  | nil =>
    rw [List.nil_append, stp_cons, stp_nil]
    by_cases e : c = kv.1
    · rw [if_pos e, if_pos e.symm]
    · rw [if_neg e, if_neg fun z => e z.symm]
  | cons x chg ih =>
    rw [List.map_cons, List.mem_cons] at h
    rw [List.cons_append, stp_cons, stp_cons, ih fun q => h (.inr q)]
    by_cases e : x.1 = c
    · rw [if_pos e, if_neg (fun z : c = kv.1 => h (.inl (z.symm.trans e.symm))), if_pos e]
    · rw [if_neg e, if_neg e]
theorem stp_mem {chg : List (Str × Int)} (nd : (chg.map (·.1)).Nodup) {kv : Str × Int} (h : kv ∈ chg) : stp chg kv.1 = kv.2 := by
  induction chg with
  | nil => cases h
  | cons x chg ih =>
    rw [List.map_cons, List.nodup_cons] at nd
    rw [stp_cons]
    rcases List.mem_cons.mp h with e | e
    · rw [e, if_pos rfl]
    · rw [if_neg fun z : x.1 = kv.1 => nd.1 (z ▸ List.mem_map_of_mem e), ih nd.2 e]
theorem mem_low {cs : List Str} {f : Str → Int} {chg : List (Str × Int)} {c : Str} : c ∈ lowL cs f chg ↔ c ∈ cs ∧ addF f chg c < 0 := by
  unfold lowL
  rw [List.mem_filter, decide_eq_true_eq]
/-- who is low is in the change -/
theorem low_in {cs : List Str} {f : Str → Int} {chg : List (Str × Int)} (hf : ∀ c ∈ cs, 0 ≤ f c) {c : Str} (h : c ∈ lowL cs f chg) : c ∈ chg.map (·.1) := by
  obtain ⟨h1, h2⟩ := mem_low.mp h
  refine Classical.byContradiction fun n => ?_
  unfold addF at h2
  rw [stp_not n] at h2
  have := hf c h1
  omega
theorem low_none {cs : List Str} {f : Str → Int} {chg : List (Str × Int)} (hf : ∀ c ∈ cs, 0 ≤ f c) (h : ∀ c ∈ cs, c ∈ chg.map (·.1) → 0 ≤ addF f chg c) : lowL cs f chg = [] := by
  refine List.eq_nil_iff_forall_not_mem.mpr fun c hc => ?_
  have h1 := mem_low.mp hc
  have := h c h1.1 (low_in hf hc)
  omega
/-- the first one that gets too low, in the change's order, is the first of all -/
theorem low_first {cs : List Str} {f : Str → Int} {chg : List (Str × Int)} (hf : ∀ c ∈ cs, 0 ≤ f c) (hA : Rd.Asc cs) (hB : Rd.Asc (chg.map (·.1))) {i : Nat} {kv : Str × Int} (hi : chg[i]? = some kv) (hc : kv.1 ∈ cs) (hlow : addF f chg kv.1 < 0)
    (hpre : ∀ j, j < i → ∀ x, chg[j]? = some x → 0 ≤ addF f chg x.1) : ∃ r, lowL cs f chg = kv.1 :: r := by
  have hm : kv.1 ∈ lowL cs f chg := mem_low.mpr ⟨hc, hlow⟩
  have hAs : Rd.Asc (lowL cs f chg) := hA.sublist List.filter_sublist
  cases e : lowL cs f chg with
  | nil => rw [e] at hm; cases hm
  | cons h r =>
    rw [e] at hm hAs
    have hh : h ∈ lowL cs f chg := by rw [e]; exact List.mem_cons_self
    rcases List.mem_cons.mp hm with q | q
    · exact ⟨r, by rw [q]⟩
    · have lt : Rd.lts h kv.1 = true := (List.pairwise_cons.mp hAs).1 _ q
      obtain ⟨x, hx, ex⟩ := List.mem_map.mp (low_in hf hh)
      obtain ⟨j, hj⟩ := List.mem_iff_getElem?.mp hx
      have hneg := (mem_low.mp hh).2
      rcases Nat.lt_or_ge j i with l | l
      · have := hpre j l x hj
        rw [ex] at this
        omega
      · have ne : h ≠ kv.1 := fun z => by rw [z, Rd.lts_irrefl] at lt; cases lt
        have nij : j ≠ i := fun z => by
          rw [z, hi] at hj
          exact ne (ex.symm.trans (congrArg Prod.fst (Option.some.inj hj).symm))
        have l' : i < j := by omega
        have g1 : (chg.map (·.1))[i]? = some kv.1 := by rw [List.getElem?_map, hi]; rfl
        have g2 : (chg.map (·.1))[j]? = some h := by rw [List.getElem?_map, hj, ← ex]; rfl
        have lt2 : Rd.lts kv.1 h = true := by
          obtain ⟨b1, e1⟩ := List.getElem?_eq_some_iff.mp g1
          obtain ⟨b2, e2⟩ := List.getElem?_eq_some_iff.mp g2
          have := List.pairwise_iff_getElem.mp hB i j b1 b2 l'
          rwa [e1, e2] at this
        exact absurd (Rd.lts_trans lt lt2) (by rw [Rd.lts_irrefl]; decide)
def ldK (cs : List Str) (f : Str → Int) : List (Key × V) := cs.map fun n => (Sum.inr n, V.int (f n))
theorem ldK_len {cs : List Str} {f : Str → Int} : (ldK cs f).length = cs.length := List.length_map _
theorem val_ldK {f : Str → Int} {n : Str} : ∀ {cs : List Str}, n ∈ cs → valV (ldK cs f) (Sum.inr n : Key) = some (V.int (f n))
  | x :: cs, h => by
    unfold valV ldK
    by_cases e : x = n
    · rw [List.map_cons, List.find?_cons_of_pos (by simp [e]), e]; rfl
    · rcases List.mem_cons.mp h with z | z
      · exact absurd z.symm e
      · have ih := val_ldK (f := f) z
        unfold valV ldK at ih
        rw [List.map_cons, List.find?_cons_of_neg (by simpa using e)]
        exact ih
theorem put_ldK {cs : List Str} {f : Str → Int} {n : Str} (h : n ∈ cs) (v : Int) : putK (ldK cs f) (Sum.inr n) (V.int v) = ldK cs fun m => if m = n then v else f m := by
  unfold putK ldK
  rw [if_pos (List.any_eq_true.mpr ⟨(Sum.inr n, V.int (f n)), List.mem_map.mpr ⟨n, h, rfl⟩, by simp⟩), List.map_map]
  refine List.map_congr_left fun m _ => ?_
  by_cases e : m = n
  · simp [e]
  · simp [e]
theorem merge_ldK {cs : List Str} (nd : cs.Nodup) (f : Str → Int) : mergeK [] (ldK cs f) = ldK cs f := by
  have e : (ldK cs f).map (·.1) = cs.map Sum.inr := by unfold ldK; rw [List.map_map]; rfl
  rw [Rd.merge_nodup _ _ (by rw [List.nil_append, e]; exact nd.map _ fun a b h q => h (Sum.inr.inj q)), List.nil_append]
section
variable {H : Hp} {d : Addr}
theorem dg_ld {cs : List Str} {f : Str → Int} {n : Str} (h : H d = some (.dK (ldK cs f))) (hn : n ∈ cs) : DGet H d (.str n) (some (V.int (f n))) := val_ldK (f := f) hn ▸ Rd.dg_s h
theorem dp_ld {cs : List Str} {f : Str → Int} {n : Str} {v : Int} (h : H d = some (.dK (ldK cs f))) (hn : n ∈ cs) (hl : cs.length ≤ 1000) : DPut H d (.str n) (.int v) (upd H d (.dK (ldK cs fun m => if m = n then v else f m))) := by
  rw [← put_ldK hn]
  exact Rd.dp_s h (by rw [ldK_len]; exact Nat.lt_of_le_of_lt hl (by decide))
theorem rd_inAdd {x y : Int} {Q : VK} (q : Q (.int (x + y)) H) : rAdd (.int x) (.int y) H Q := ⟨x, y, rfl, rfl, q⟩
end
structure MomC (K : PySem.W.Frag) (mg : Str → Option Value) (m : AdsM) : Prop where
  mgC : mg "Moment" = some (.ref m.M)
  cl : Cls K m.M
  nS : NoAttr K m.M "own_state"
  nD : NoAttr K m.M "own_loads"
  nT : NoAttr K m.M "own_tops"
  mk_ : Mk K m.M m.fm
  m_behind : Meth K m.M "behind" m.bh
structure MachC (K : PySem.W.Frag) (mg : Str → Option Value) (m : AdsM) : Prop where
  mgC : mg "Machine" = some (.ref m.C)
  cl : Cls K m.C
  nG : NoAttr K m.C "own_graph"
  nN : NoAttr K m.C "own_now"
  nP : NoAttr K m.C "own_past"
  nL : NoAttr K m.C "own_log"
  mk_ : Mk K m.C m.fi
  m_take : Meth K m.C "take" m.tk
  m_take_all : Meth K m.C "take_all" m.ta
  o : MomC K mg m
def fldsM (pg pm pp pl : Addr) : List (Str × V) := [("own_graph", .ref pg), ("own_now", .ref pm), ("own_past", .ref pp), ("own_log", .ref pl)]
def fldsO (st : Str) (dl dt : Addr) : List (Str × V) := [("own_state", .str st), ("own_loads", .ref dl), ("own_tops", .ref dt)]
/-- a moment -/
def MoAt (M : Addr) (cs : List Str) (H : Hp) (p : Addr) (o : Mo) : Prop := ∃ dx dl dt, H p = some (.ins M dx (fldsO o.st dl dt)) ∧ H dl = some (.dK (ldK cs o.ld)) ∧ H dt = some (.dK (ldK cs o.tp))
/-- the machine at x, its graph elsewhere -/
def MaAt (m : AdsM) (cs : List Str) (H : Hp) (x pg : Addr) (now : Mo) (past : List Mo) (log : List Str) : Prop := ∃ dx pm pp pl ms, H x = some (.ins m.C dx (fldsM pg pm pp pl)) ∧ MoAt m.M cs H pm now ∧ H pp = some (.lst (ms.map V.ref)) ∧ Paired (MoAt m.M cs H) ms past ∧ H pl = some (.lst (log.map V.str))
def MachAt (K : PySem.W.Frag) (C : Addr) (m : AdsM) (H : Hp) (x : Addr) (S : Mc) : Prop := ∃ pg, GraphAt K C H pg S.G ∧ MaAt m S.G.cs H x pg S.now S.past S.log
/-- all but the dice stays -/
theorem Dice.nll {H : Hp} {d b : Addr} {xs : List V} (hD : Dice H d) (h : H b = some (.lst xs)) (ho : ∀ x y z : Int, xs ≠ [.int x, .int y, .int z]) : b ≠ d := fun z => by
  obtain ⟨x, y, w, q⟩ := hD
  rw [z, q] at h
  exact ho _ _ _ (HO.lst.inj (Option.some.inj h)).symm
section
variable {K : PySem.W.Frag} {C M d x y : Addr} {m : AdsM} {H H' : Hp} {cs : List Str} {S : Mc} {o : Mo} {p : Addr}
theorem MoAt.same (s : Same H H') (h : MoAt M cs H p o) : MoAt M cs H' p o := by
  obtain ⟨dx, dl, dt, h1, h2, h3⟩ := h
  exact ⟨dx, dl, dt, s _ _ h1, s _ _ h2, s _ _ h3⟩
theorem MoAt.rolled (r : Rolled d H H') (hD : Dice H d) (h : MoAt M cs H p o) : MoAt M cs H' p o := by
  obtain ⟨dx, dl, dt, h1, h2, h3⟩ := h
  exact ⟨dx, dl, dt, r.keep _ _ (hD.nel h1 fun _ => nofun) h1, r.keep _ _ (hD.nel h2 fun _ => nofun) h2, r.keep _ _ (hD.nel h3 fun _ => nofun) h3⟩
theorem MaAt.same {now : Mo} {past : List Mo} {log : List Str} (s : Same H H') (h : MaAt m cs H x p now past log) : MaAt m cs H' x p now past log := by
  obtain ⟨dx, pm, pp, pl, ms, h1, h2, h3, h4, h5⟩ := h
  exact ⟨dx, pm, pp, pl, ms, s _ _ h1, h2.same s, s _ _ h3, L2.Paired.mapP h4 fun _ _ q => q.same s, s _ _ h5⟩
theorem refs_ne3 (ms : List Addr) (x y z : Int) : ms.map V.ref ≠ [.int x, .int y, .int z] := fun e => by
  match ms, e with
  | _ :: _, e => cases (List.cons.inj e).1
theorem strs_ne3 (ms : List Str) (x y z : Int) : ms.map V.str ≠ [.int x, .int y, .int z] := fun e => by
  match ms, e with
  | _ :: _, e => cases (List.cons.inj e).1
theorem MaAt.rolled {now : Mo} {past : List Mo} {log : List Str} (r : Rolled d H H') (hD : Dice H d) (h : MaAt m cs H x p now past log) : MaAt m cs H' x p now past log := by
  obtain ⟨dx, pm, pp, pl, ms, h1, h2, h3, h4, h5⟩ := h
  exact ⟨dx, pm, pp, pl, ms, r.keep _ _ (hD.nel h1 fun _ => nofun) h1, h2.rolled r hD, r.keep _ _ (hD.nll h3 (refs_ne3 ms)) h3, L2.Paired.mapP h4 fun _ _ q => q.rolled r hD, r.keep _ _ (hD.nll h5 (strs_ne3 log)) h5⟩
theorem MachAt.same (s : Same H H') (h : MachAt K C m H x S) : MachAt K C m H' x S := let ⟨pg, h1, h2⟩ := h; ⟨pg, h1.same s, h2.same s⟩
theorem MachAt.rolled (r : Rolled d H H') (hD : Dice H d) (h : MachAt K C m H x S) : MachAt K C m H' x S := let ⟨pg, h1, h2⟩ := h; ⟨pg, h1.rolled r hD, h2.rolled r hD⟩
theorem MachAt.ins (h : MachAt K C m H x S) : ∃ dx pg pm pp pl, H x = some (.ins m.C dx (fldsM pg pm pp pl)) := let ⟨pg, _, dx, pm, pp, pl, _, h1, _⟩ := h; ⟨dx, pg, pm, pp, pl, h1⟩
theorem MomC.st {mg : Str → Option Value} {Q : VK} (T : MomC K mg m) (h : MoAt m.M cs H p o) (q : Q (.str o.st) H) : Rd.rFld K "own_state" (.ref p) H Q := by
  obtain ⟨dx, dl, dt, h1, h2, h3⟩ := h
  exact ⟨p, m.M, dx, _, _, rfl, h1, T.cl, T.nS, rfl, q⟩
theorem MomC.ld {mg : Str → Option Value} {Q : VK} (T : MomC K mg m) (h : MoAt m.M cs H p o) (q : ∀ d, H d = some (.dK (ldK cs o.ld)) → Q (.ref d) H) : Rd.rFld K "own_loads" (.ref p) H Q := by
  obtain ⟨dx, dl, dt, h1, h2, h3⟩ := h
  exact ⟨p, m.M, dx, _, _, rfl, h1, T.cl, T.nD, rfl, q dl h2⟩
theorem MomC.tp {mg : Str → Option Value} {Q : VK} (T : MomC K mg m) (h : MoAt m.M cs H p o) (q : ∀ d, H d = some (.dK (ldK cs o.tp)) → Q (.ref d) H) : Rd.rFld K "own_tops" (.ref p) H Q := by
  obtain ⟨dx, dl, dt, h1, h2, h3⟩ := h
  exact ⟨p, m.M, dx, _, _, rfl, h1, T.cl, T.nT, rfl, q dt h3⟩
theorem MachC.gr {mg : Str → Option Value} {Q : VK} (T : MachC K mg m) (h : MachAt K C m H x S) (q : ∀ g, GraphAt K C H g S.G → Q (.ref g) H) : Rd.rFld K "own_graph" (.ref x) H Q := by
  obtain ⟨pg, hG, dx, pm, pp, pl, ms, h1, h2, h3, h4, h5⟩ := h
  exact ⟨x, m.C, dx, _, _, rfl, h1, T.cl, T.nG, rfl, q pg hG⟩
theorem MachC.nw {mg : Str → Option Value} {Q : VK} (T : MachC K mg m) (h : MachAt K C m H x S) (q : ∀ g, MoAt m.M S.G.cs H g S.now → Q (.ref g) H) : Rd.rFld K "own_now" (.ref x) H Q := by
  obtain ⟨pg, hG, dx, pm, pp, pl, ms, h1, h2, h3, h4, h5⟩ := h
  exact ⟨x, m.C, dx, _, _, rfl, h1, T.cl, T.nN, rfl, q pm h2⟩
theorem MachC.lg {mg : Str → Option Value} {Q : VK} (T : MachC K mg m) (h : MachAt K C m H x S) (q : ∀ p, H p = some (.lst (S.log.map V.str)) → Q (.ref p) H) : Rd.rFld K "own_log" (.ref x) H Q := by
  obtain ⟨pg, hG, dx, pm, pp, pl, ms, h1, h2, h3, h4, h5⟩ := h
  exact ⟨x, m.C, dx, _, _, rfl, h1, T.cl, T.nL, rfl, q pl h5⟩
end
end M
set_option Elab.async false
set_option linter.all false
set_option maxRecDepth 100000
set_option maxHeartbeats 4000000
namespace Rd
open PySem PySem.Spec PyProof.Rows L2
def eqks (k : Str) (v : Value) : Bool := match v with
  | .str n _ => n == k
  | _ => false
theorem eqks_at {A : Around} {s : Shared} {k : Str} {t : Tok} : ∀ {xs : List Str} {us : List Value}, Vals (xs.map V.str) us → ∀ y ∈ us, SeqAt.EqAt A s y (.str k t) (eqks k y)
  | [], _, .nil => fun y hy => by cases hy
  | x :: xs, _, .cons r h => fun y hy => by
    obtain ⟨u, rfl⟩ := r
    rcases List.mem_cons.mp hy with e | e
    · rw [e]; exact SeqAt.EqAt.str_str x u k t
    · exact eqks_at h y e
theorem eqks_count {k : Str} : ∀ {xs : List Str} {us : List Value}, Vals (xs.map V.str) us → us.countP (eqks k) = xs.count k
  | [], _, .nil => rfl
  | x :: xs, _, .cons r h => by
    obtain ⟨u, rfl⟩ := r
    have ih := eqks_count (k := k) h
    rw [List.countP_cons, List.count_cons, ih] <;> rfl
def rCntS (K : PySem.W.Frag) : V → List V → Hp → VK → Prop := fun x xs H Q => ∃ (p : Addr) (ns : List Str) (k : Str), x = .ref p ∧ xs = [.str k] ∧ SqL K H p (ns.map V.str) ∧ Q (.int (ns.count k : Nat)) H
theorem mt_countS {X : Cx} : MtR X "list.count" (rCntS X.K) := by
  intro pins s σ H x xs v us Q I rx rxs h
  obtain ⟨p, ns, k, rfl, rfl, hs, q⟩ := h
  cases rx
  obtain ⟨u, rfl, ru⟩ := rxs.one
  obtain ⟨t, rfl⟩ := ru
  obtain ⟨its, rv, ⟨⟨cls, dd, data, sl⟩, n, ho, hc, hdn, hd⟩, hlen⟩ := I.list hs
  simp only at hc hd
  subst hc hd
  refine call_meets PySem.F.slot_list_count ⟨_, ho, rfl⟩ PySem.F.entry_list_count (PySem.F.args_list_count_2 _ _)
    (SeqAt.list_countAt p its.toArray n dd sl (.str k t) (eqks k)) ⟨ho, fun y hy => eqks_at rv y (by simpa using hy), ?_⟩
  have ec : its.toArray.toList.countP (eqks k) = ns.count k := eqks_count rv
  refine ⟨.int (ns.count k : Nat), H, I.tok _, ⟨s.toks, ?_⟩, q⟩
  show Value.int ((its.toArray.toList.countP (eqks k) : Nat) : Int) s.toks = Value.int ((ns.count k : Nat) : Int) s.toks
  rw [ec]
section
variable {K : PySem.W.Frag} {H : Hp} {Q : VK} {p d : Addr}
theorem rd_countS {ns : List Str} {k : Str} (h : SqL K H p (ns.map V.str)) (q : Q (.int (ns.count k : Nat)) H) : rCntS K (.ref p) [.str k] H Q := ⟨p, ns, k, rfl, rfl, h, q⟩
theorem c_maxLK {X : Cx} {K : PySem.W.Frag} (hK : X.K = K) (hc : X.calm = true) : CallR X (.builtin "max") (rMax K) := by subst hK; exact cr_max hc
theorem rd_maxL {ns : List Int} (h : SqL K H p (ns.map V.int)) (h0 : 0 < ns.length) (q : ∀ m, m ∈ ns → (∀ y, y ∈ ns → y ≤ m) → Q (.int m) H) : rMax K [.ref p] H Q := ⟨p, ns, rfl, h, h0, q⟩
/-- max of two -/
theorem rd_maxL2 {x y : Int} (h : H p = some (.lst [.int x, .int y])) (q : Q (.int (if x < y then y else x)) H) : rMax K [.ref p] H Q := by
  refine rd_maxL (ns := [x, y]) (SqL.of h) (by show 0 < 2; decide) fun m hm hy => ?_
  have h1 := hy x (by simp)
  have h2 := hy y (by simp)
  have e : m = if x < y then y else x := by
    have : m = x ∨ m = y := by simpa using hm
    split <;> omega
  rw [e]; exact q
def rDictD : List V → Hp → VK → Prop := fun xs H Q => ∃ (a : Addr) (kvs : List (Key × V)), xs = [.ref a] ∧ L2.Rd H a (.dK kvs) ∧ ∀ p, H p = none → Q (.ref p) (upd H p (.dK kvs))
theorem c_dictD {X : Cx} : CallR X (.type "dict") rDictD := call_dictD
theorem rd_dictD {kvs : List (Key × V)} (h : H d = some (.dK kvs)) (q : ∀ p H', H p = none → Same H H' → H' p = some (.dK kvs) → Q (.ref p) H') : rDictD [.ref d] H Q := ⟨d, kvs, rfl, .inl h, fun p hp => q p _ hp (same_new hp) upd_same⟩
end
section
variable {K : PySem.W.Frag} {σ : L2.St} {H : Hp} {Q : VK} {g : TG} {tt : TT} {tk tv te : TE} {vs : List Nat} {d : Addr}
theorem rd_iItems {R : It → Hp → Prop} {td : TE} (q : td σ H fun x H1 => ∃ d o kvs, x = .ref d ∧ H1 d = some (.frz o (.dK kvs)) ∧ R (Iti d o kvs) H1) : iItems td σ H R := q
/-- {k: v for a, b in d.items()}, d locked, the keys kept: vf the values -/
theorem dc_items {o : Obj} {kvs : List (Key × V)} (vf : Key × V → V) (hz : kvs.length ≤ 100000) (nd : (kvs.map (·.1)).Nodup) (h : H d = some (.frz o (.dK kvs)))
    (step : ∀ kv T H1 (N : V → V → Hp → Prop), kv ∈ kvs → Same H H1 → H1 T = some (.tup [kV kv.1, kv.2]) → (∀ H2, Same H1 H2 → N (kV kv.1) (vf kv) H2) → g (.ref T) (wipe σ vs) H1 fun σ2 H2 => wipe σ2 vs = wipe σ vs ∧ tk σ2 H2 fun y H4 => tv σ2 H4 fun z H5 => N y z H5)
    (done : ∀ D H', H D = none → Same H H' → H' D = some (.dK (kvs.map fun kv => (kv.1, vf kv))) → Q (.ref D) H') : rDc g tYes tk tv vs σ Q (Iti d o kvs) H := by
  intro D hD
  let m : Nat → List (Key × V) := fun i => (kvs.take i).map fun kv => (kv.1, vf kv)
  let Pv : Nat → Hp → Prop := fun i H1 => Same H H1 ∧ H1 D = some (.dK (m i))
  refine ⟨fun i n H1 => n = kvs.length - i ∧ i ≤ kvs.length ∧ Pv i H1, ⟨kvs.length, by simp, Nat.zero_le _, same_new hD, by rw [upd_same]; rfl⟩, ?_⟩
  rintro i n H1 ⟨rfl, hi, s1, hd1⟩
  have hq := s1 _ _ h
  by_cases hlt : i < kvs.length
  · refine .inr ⟨⟨hq, hlt⟩, Pv (i + 1), fun H' p' => ⟨kvs.length - (i + 1), by omega, rfl, hlt, p'⟩, fun x H' y => ?_⟩
    obtain ⟨T, k, v, hkv, rfl, hT, rfl⟩ := y
    obtain ⟨kv, rfl, rfl⟩ : ∃ kv : Key × V, kv.1 = k ∧ kv.2 = v := ⟨(k, v), rfl, rfl⟩
    have sT : Same H1 (upd H1 T (.tup [kV kv.1, kv.2])) := same_new hT
    refine step kv T _ _ (List.mem_of_getElem? hkv) (s1.trans sT) upd_same fun H2 s2 => ?_
    have hl : (m i).length < sizeLine := by
      show ((kvs.take i).map _).length < _
      rw [List.length_map, List.length_take]
      exact Nat.lt_of_le_of_lt (Nat.le_trans (Nat.min_le_right _ _) hz) (by decide)
    refine ⟨m i, kv.1, rfl, s2 _ _ (sT _ _ hd1), hl, fun b o' e => ?_, ?_⟩
    · rw [upd_ne (ne_of_none e hD)]
      exact s2 _ _ (sT _ _ (s1 _ _ e))
    · rw [upd_same]
      show some (HO.dK (putK ((kvs.take i).map fun kv => (kv.1, vf kv)) kv.1 (vf kv))) = some (HO.dK ((kvs.take (i + 1)).map fun kv => (kv.1, vf kv)))
      rw [List.take_add_one, hkv, List.map_append, putK_new' fun z => ?_]
      · rfl
      · rw [List.map_map] at z
        have nd2 : ((kvs.take (i + 1)).map (·.1)).Nodup := by
          rw [List.map_take]
          exact nd.sublist (List.take_sublist _ _)
        rw [List.take_add_one, hkv, List.map_append] at nd2
        exact (List.nodup_append.mp nd2).2.2 _ z _ (List.mem_singleton.mpr rfl) rfl
  · obtain rfl : i = kvs.length := by omega
    refine .inl ⟨⟨hq, Nat.le_refl _⟩, done D H1 hD s1 ?_⟩
    rw [hd1]
    show some (HO.dK ((kvs.take kvs.length).map fun kv => (kv.1, vf kv))) = _
    rw [List.take_length]
theorem rd_keysD {td : TE} {R : It → Hp → Prop} (h : td σ H fun x H1 => ∃ d o, x = .ref d ∧ ((∃ kvs, H1 d = some (.frz o (.dK kvs)) ∧ R (Itk d o kvs) H1) ∨ ∃ kvs, H1 d = some (.frz o (.dT kvs)) ∧ R (Itkt d o kvs) H1)) : iKeys td σ H R := h
theorem lc_keysD {o : Obj} {kvs : List (Key × V)} (f : Key × V → V) (hz : kvs.length ≤ 100000) (h : H d = some (.frz o (.dK kvs))) (step : ∀ kv H1 (M : V → Hp → Prop), kv ∈ kvs → Same H H1 → (∀ H2, Same H1 H2 → M (f kv) H2) → g (kV kv.1) (wipe σ vs) H1 fun σ2 H2 => wipe σ2 vs = wipe σ vs ∧ te σ2 H2 M)
    (done : ∀ D H', H D = none → Same H H' → H' D = some (.lst (kvs.map f)) → Q (.ref D) H') : rLc g tYes te vs σ Q (Itk d o kvs) H := by
  refine lc_gen kvs (fun kv v _ => v = kV kv.1) (fun _ => true) f hz (fun i H1 hi s1 => ⟨s1 _ _ h, hi⟩) (fun H1 s1 => ⟨s1 _ _ h, Nat.le_refl _⟩) (fun i H1 x H2 kv ekv s1 y => ?_) (fun kv x H1 N M hkv s1 hx hN hM => ?_) fun D H' h1 h2 h3 => done D H' h1 h2 (by rw [h3, List.filter_eq_self.mpr fun _ _ => rfl])
  · obtain ⟨rfl, k, v, e, rfl⟩ := y
    rw [e] at ekv
    cases ekv
    exact ⟨Same.refl _, rfl⟩
  · subst hx
    exact step kv H1 M hkv s1 (hM rfl)
end
section
variable {K : PySem.W.Frag} {σ : L2.St} {H : Hp} {Q : VK} {g : TG} {te : TE} {tt : TT} {vs : List Nat} {a : Addr}
theorem paired_getP {α β : Type} {F : α → β → Prop} : ∀ {l : List α} {m : List β} {i : Nat} {b : β}, Paired F l m → m[i]? = some b → ∃ a, l[i]? = some a ∧ F a b
  | _, _, 0, b, .cons r t, h => ⟨_, rfl, Option.some.inj h ▸ r⟩
  | _, _, i + 1, b, .cons r t, h => by
    obtain ⟨a, q1, q2⟩ := paired_getP (i := i) (b := b) t h
    exact ⟨a, q1, q2⟩
  | _, _, i, b, .nil, h => by simp at h
theorem lc_prS {α : Type} (F : Hp → V → α → Prop) (keep : ∀ (H H' : Hp) (v : V) (z : α), Same H H' → F H v z → F H' v z) {xs : List V} {zs : List α} (pr : α → Bool) (f : α → V) (hz : zs.length ≤ 100000) (hP : Paired (F H) xs zs) {J : It}
    (go : ∀ i H1, i < xs.length → Same H H1 → J.go i H1) (stop : ∀ H1, Same H H1 → J.stop xs.length H1) (yld : ∀ i H1 x H2, Same H H1 → J.yld i H1 x H2 → H2 = H1 ∧ xs[i]? = some x)
    (step : ∀ z v H1 (N : Hp → Prop) (M : V → Hp → Prop), z ∈ zs → Same H H1 → F H1 v z → (pr z = false → ∀ H2, Same H1 H2 → N H2) → (pr z = true → ∀ H2, Same H1 H2 → M (f z) H2) →
      g v (wipe σ vs) H1 fun σ2 H2 => wipe σ2 vs = wipe σ vs ∧ tt σ2 H2 fun b H3 => if b = true then te σ2 H3 M else N H3)
    (done : ∀ D H', H D = none → Same H H' → H' D = some (.lst ((zs.filter pr).map f)) → Q (.ref D) H') : rLc g tt te vs σ Q J H := by
  have lp : xs.length = zs.length := hP.length
  refine lc_gen zs (fun (z : α) (x : V) (_ : Hp) => ∃ i : Nat, zs[i]? = some z ∧ xs[i]? = some x) pr f hz (fun i H1 hi s1 => go i H1 (by omega) s1) (fun H1 s1 => lp ▸ stop H1 s1) (fun i H1 x H2 z ez s1 y => ?_) (fun z x H1 N M hm s1 hx hN hM => ?_) done
  · obtain ⟨rfl, e⟩ := yld i H1 x H2 s1 y
    exact ⟨Same.refl _, i, ez, e⟩
  · obtain ⟨i, h1, h2⟩ := hx
    obtain ⟨v, h3, h4⟩ := paired_getP hP h1
    rw [h2] at h3
    cases h3
    exact step z x H1 N M hm s1 (keep _ _ _ _ s1 h4) hN hM
/-- .. over a tuple, a list -/
theorem lc_prT {α : Type} (F : Hp → V → α → Prop) (keep : ∀ (H H' : Hp) (v : V) (z : α), Same H H' → F H v z → F H' v z) {xs : List V} {zs : List α} (pr : α → Bool) (f : α → V) (hz : zs.length ≤ 100000) (hS : SqT K H a xs) (hP : Paired (F H) xs zs)
    (step : ∀ z v H1 (N : Hp → Prop) (M : V → Hp → Prop), z ∈ zs → Same H H1 → F H1 v z → (pr z = false → ∀ H2, Same H1 H2 → N H2) → (pr z = true → ∀ H2, Same H1 H2 → M (f z) H2) →
      g v (wipe σ vs) H1 fun σ2 H2 => wipe σ2 vs = wipe σ vs ∧ tt σ2 H2 fun b H3 => if b = true then te σ2 H3 M else N H3)
    (done : ∀ D H', H D = none → Same H H' → H' D = some (.lst ((zs.filter pr).map f)) → Q (.ref D) H') : rLc g tt te vs σ Q (Itt K a) H :=
  lc_prS F keep pr f hz hP (fun i H1 hi s1 => ⟨xs, xs[i], Same.sqT s1 hS, by simp [hi]⟩) (fun H1 s1 => ⟨xs, Same.sqT s1 hS, Nat.le_refl _⟩) (fun i H1 x H2 s1 y => ⟨y.1, y.2 xs (Same.sqT s1 hS)⟩) step done
/-- .. without a test -/
theorem lc_prT1 {α : Type} (F : Hp → V → α → Prop) (keep : ∀ (H H' : Hp) (v : V) (z : α), Same H H' → F H v z → F H' v z) {xs : List V} {zs : List α} (f : α → V) (hz : zs.length ≤ 100000) (hS : SqT K H a xs) (hP : Paired (F H) xs zs)
    (step : ∀ z v H1 (M : V → Hp → Prop), z ∈ zs → Same H H1 → F H1 v z → (∀ H2, Same H1 H2 → M (f z) H2) → g v (wipe σ vs) H1 fun σ2 H2 => wipe σ2 vs = wipe σ vs ∧ te σ2 H2 M)
    (done : ∀ D H', H D = none → Same H H' → H' D = some (.lst (zs.map f)) → Q (.ref D) H') : rLc g tYes te vs σ Q (Itt K a) H :=
  lc_prT F keep (fun _ => true) f hz hS hP (fun z v H1 N M hm s1 hv hN hM => step z v H1 M hm s1 hv (hM rfl)) fun D H' h1 h2 h3 => done D H' h1 h2 (by rw [h3, List.filter_eq_self.mpr fun _ _ => rfl])
end
end Rd
set_option Elab.async false
set_option linter.all false
set_option maxRecDepth 100000
set_option maxHeartbeats 4000000
namespace M
open PySem L2
local macro_rules | `(tactic| walk_at "rdc") => `(tactic| first | exact Or.inl ⟨by decide, by decide⟩ | exact Or.inr ⟨by decide, by decide⟩ | exact ⟨by decide, by decide, by decide⟩ | exact ⟨by decide, by decide⟩ | decide | omega | assumption | (refine Or.inl ⟨?_, ?_⟩ <;> omega) | (refine Or.inr ⟨?_, ?_⟩ <;> omega) | (refine ⟨?_, ?_⟩ <;> omega))
local macro_rules | `(tactic| walk_at "rd1") => `(tactic| with_reducible first
  | refine Rd.rd_seq ?_ | refine Rd.rd_asg ?_ | refine Rd.rd_op ?_ | (refine' Rd.rd_var ?vh ?_; (case vh => with_unfolding_all rfl)) | refine Rd.rd_c ?_ | refine Rd.rd_I0 ?_ | refine Rd.rd_name0 ?_ | refine Rd.rd_nameS ?_ | refine Rd.rd_fn ?_
  | refine Rd.rd_cb ?_ | refine Rd.rd_cons ?_ | refine Rd.rd_nil ?_ | refine Rd.rd_int ?_ | refine Rd.rd_intB ?_ | refine Rd.rd_abs ?_ | refine Rd.rd_max2 ?_ | refine Rd.rd_min2 ?_
  | refine Rd.rd_call ?_ | refine Rd.rd_ifE ?_ | refine Rd.rd_test ?_ | refine Rd.rd_tB ?_ | refine Rd.rd_blV ?_ | refine Rd.rd_and ?_ | refine Rd.rd_or ?_ | refine Rd.rd_not ?_
  | refine Rd.rd_andV ?_ | refine Rd.rd_orV ?_ | refine Rd.rd_notV ?_ | refine Rd.rd_next ?_ | refine Rd.rd_ret ?_ | refine Rd.rd_drop ?_ | refine Rd.rd_ifS ?_ | refine Rd.rd_nx ?_ | refine Rd.rd_rt ?_ | refine Rd.rd_tMatch ?_ | refine Rd.rd_tCO ?_ | refine Rd.rd_tRevL ?_ | refine Rd.rd_tStar ?_ | refine Rd.rd_joined ?_ | refine Rd.rd_js1 ?_ | refine Rd.rd_js0 ?_ | refine Rd.rd_fmt ?_ | refine Rd.rd_propR ?_ | refine Rd.rd_iZipA ?_ | refine Rd.rd_iEnumT ?_ | refine Rd.rd_iOwn ?_ | (refine' Rd.rd_IET ?ln ?_; (case ln => with_unfolding_all walk_at "at")) | refine Rd.rd_chain ?_ | refine Rd.rd_tPar ?_ | refine Rd.rd_par ?_ | refine Rd.rd_sl ?_ | refine Rd.rd_noPart ?_ | refine Rd.rd_part ?_ | refine Rd.rd_intV ?_ | refine Rd.rd_lc ?_ | (refine' Rd.rd_aug ?vh ?_; (case vh => with_unfolding_all rfl)) | refine Rd.rd_ipI ?_ | refine Rd.rd_for ?_ | (refine' Rd.rd_IT ?ln ?_; (case ln => with_unfolding_all walk_at "at")) | (refine' Rd.rd_IL ?ln ?_; (case ln => with_unfolding_all walk_at "at")) | refine Rd.rd_iTup ?_ | refine Rd.rd_iList ?_ | refine Rd.rd_iRng1 ?_ | refine Rd.rd_iRng2 ?_ | refine Rd.rd_isi (Rd.isi_int Rd.kk_int_int) ?_ | refine Rd.rd_isi (Rd.isi_int Rd.kk_int_bool) ?_ | refine Rd.rd_dget ?_ | refine Rd.rd_din ?_ | refine Rd.rd_dnotin ?_ | refine Rd.rd_dput ?_ | refine Rd.rd_dc ?_ | refine Rd.rd_lc2 ?_ | refine Rd.rd_ltS ?_ | refine Rd.rd_inSg ?_ | refine Rd.rd_iStr ?_ | refine Rd.rd_IS ?_ | refine Rd.rd_prC ?_ | refine Rd.rd_prN ?_ | refine Rd.rd_methR ?_ | refine Rd.rd_cmeth ?_ | refine Rd.rd_fldS ?_ | refine Rd.rd_fld ?_ | (refine' Rd.rd_mkVS ?vh ?_; (case vh => with_unfolding_all rfl)) | (refine' Rd.rd_starT ?ln ?_; (case ln => with_unfolding_all walk_at "at")) | refine Rd.rd_iEnum ?_ | refine Rd.rd_iZip ?_ | (refine' Rd.rd_IE ?ln ?_; (case ln => with_unfolding_all walk_at "at")) | (refine' Rd.rd_IZ ?ln ?lm ?_; (case ln => with_unfolding_all walk_at "at"); (case lm => with_unfolding_all walk_at "at")) | (refine' Rd.rd_gTup ?ln ?lk ?_; (case ln => with_unfolding_all walk_at "at"); (case lk => with_unfolding_all rfl)) | refine Rd.rd_gCons ?_ | refine Rd.rd_gNil ?_ | refine Rd.rd_m1 ?_ | refine Rd.rd_strV ?_ | refine Rd.rd_tXiM ?_ | refine Rd.rd_tXiB ?_ | refine Rd.rd_tXiS ?_ | refine Rd.rd_bm ?_ | refine Rd.rd_bm0 ?_ | refine Rd.rd_isN ?_ | refine Rd.rd_notN ?_ | refine Rd.rd_sub ?_ | refine Rd.rd_un ?_ | refine Rd.rd_U ?_
  | (refine' Rd.rd_eq ?sc ?_; (case sc => with_unfolding_all rfl)) | (refine' Rd.rd_ne ?sc ?_; (case sc => with_unfolding_all rfl))
  | (refine' Rd.rd_I ?cc ?_; (case cc => with_unfolding_all walk_at "rdc"))
  | (refine' Rd.rd_lenL ?ln ?_; (case ln => with_unfolding_all walk_at "at")) | (refine' Rd.rd_lenT ?ln ?_; (case ln => with_unfolding_all walk_at "at"))
  | (refine' Rd.rd_ixL ?ln ?ia ?_; (case ln => with_unfolding_all walk_at "at"); (case ia => with_unfolding_all first | exact Rd.at0 | exact Rd.at1 | exact Rd.at2 | exact Rd.at3 | exact Rd.at4 | rfl)) | (refine' Rd.rd_ixT ?ln ?ia ?_; (case ln => with_unfolding_all walk_at "at"); (case ia => with_unfolding_all first | exact Rd.at0 | exact Rd.at1 | exact Rd.at2 | exact Rd.at3 | exact Rd.at4 | rfl)))
local macro_rules | `(tactic| walk_at "at") => `(tactic| first | assumption | (apply SqL.of; assumption) | (apply SqT.of; assumption) | (apply SqL.of; exact upd_same) | (apply SqT.of; exact upd_same))
local macro_rules | `(tactic| walk_at "rd") => `(tactic| repeat walk_at "rd1")
local macro_rules | `(tactic| walk_at "ne") => `(tactic| first | assumption | exact Ne.symm (by assumption) | (refine' Dice.ne ?D ?h; (case h => assumption); (case D => walk_at "fa")))
local macro_rules | `(tactic| walk_at "kp1") => `(tactic| first | exact kpS (by assumption) | exact Mut.kp (by assumption) | (refine' Rolled.kp ?r ?D; (case r => assumption); (case D => walk_at "fa")))
local macro_rules | `(tactic| walk_at "fa") => `(tactic| first
  | assumption | exact SqT.of (by assumption) | exact SqL.of (by assumption)
  | (refine' Dice.same ?h ?s; (case s => assumption); (case h => walk_at "fa")) | exact Rolled.dice (by assumption)
  | (refine' L2.Same.seq ?s ?h; (case s => assumption); (case h => walk_at "fa")) | (refine' Rolled.sqL ?r ?n ?h; (case r => assumption); (case n => walk_at "ne"); (case h => walk_at "fa"))
  | (refine' Kp.sqT ?k ?h; (case k => walk_at "kp1"); (case h => walk_at "fa")) | (refine' RowAt.kp ?k ?h; (case k => walk_at "kp1"); (case h => walk_at "fa")) | (refine' RowsAt.kp ?k ?h; (case k => walk_at "kp1"); (case h => walk_at "fa")) | (refine' ChgAt.kp ?k ?h; (case k => walk_at "kp1"); (case h => walk_at "fa")) | (refine' PlainAt.kp ?k ?h; (case k => walk_at "kp1"); (case h => walk_at "fa"))
  | (refine' GraphAt.same ?h ?s; (case s => assumption); (case h => walk_at "fa")) | (refine' GraphAt.rolled ?r ?D ?h; (case r => assumption); (case D => walk_at "fa"); (case h => walk_at "fa"))
  | (refine' Rd.Same.at ?s ?h; (case s => assumption); (case h => walk_at "fa")) | (refine' Mut.keep ?m _ _ ?n ?h; (case m => assumption); (case n => walk_at "ne"); (case h => walk_at "fa")) | (refine' Rolled.keep ?r _ _ ?n ?h; (case r => assumption); (case n => walk_at "ne"); (case h => walk_at "fa")))
local macro_rules | `(tactic| walk_at "sm") => `(tactic| first | assumption | exact Same.refl _ | (refine' L2.Same.trans ?h ?s; (case s => assumption); (case h => walk_at "sm")) | (refine' same_mutM ?a ?b ?c; (case c => assumption); (case b => walk_at "nn"); (case a => walk_at "sm")))
local macro_rules | `(tactic| walk_at "rl") => `(tactic| first | assumption | exact Rolled.refl (by walk_at "fa") | (refine' Rolled.trans ?a ?b; (case b => assumption); (case a => walk_at "rl")) | (refine' Rolled.same ?a ?b; (case b => assumption); (case a => walk_at "rl")) | (refine' Rolled.mutM ?a ?n ?e ?m; (case m => assumption); (case n => walk_at "nn"); (case e => walk_at "ne"); (case a => walk_at "rl")))
local macro_rules | `(tactic| walk_at "nn") => `(tactic| first | assumption | (refine' none_pre ?s ?h; (case h => assumption); (case s => walk_at "sm")) | (refine' none_rol ?r ?D ?h; (case h => assumption); (case D => walk_at "fa"); (case r => walk_at "rl")))
local macro_rules | `(tactic| walk_at "sz") => `(tactic| first | (simp only [List.length_cons, List.length_nil]; decide) | (refine Rd.small64 ?_; simp only [List.length_map, List.length_append, List.length_cons, List.length_nil]; omega))
local macro_rules | `(tactic| walk_at "at") => `(tactic| walk_at "fa")
local macro_rules | `(tactic| walk_at "rd1") => `(tactic| with_reducible first
  | (refine' Rd.rd_mkTup ?sz fun _ _ _ _ _ => ?_; (case sz => with_unfolding_all walk_at "sz")) | (refine' Rd.rd_mkLst ?sz fun _ _ _ _ _ => ?_; (case sz => with_unfolding_all walk_at "sz")) | (refine' Rd.rd_mkTupF ?sz fun _ _ _ _ _ => ?_; (case sz => with_unfolding_all walk_at "sz"))
  | (refine' Rd.rd_tupleL ?ln fun _ _ _ _ _ => ?_; (case ln => with_unfolding_all walk_at "at")) | (refine' Rd.rd_tupleT ?ln ?_; (case ln => with_unfolding_all walk_at "at")) | (refine' Rd.rd_listL ?ln fun _ _ _ _ _ => ?_; (case ln => with_unfolding_all walk_at "at")) | (refine' Rd.rd_listT ?ln fun _ _ _ _ _ => ?_; (case ln => with_unfolding_all walk_at "at"))
  | (refine' fld_c ?T ?h fun _ _ => ?_; (case T => assumption); (case h => with_unfolding_all walk_at "fa")) | (refine' fld_s ?T ?h fun _ _ => ?_; (case T => assumption); (case h => with_unfolding_all walk_at "fa")) | (refine' fld_n ?T ?h fun _ _ => ?_; (case T => assumption); (case h => with_unfolding_all walk_at "fa"))
  | refine Rd.rd_get2 ?_ | (refine' Rd.rd_getA ?ln ?_; (case ln => with_unfolding_all first | exact Or.inl (by walk_at "at") | exact Or.inr ⟨_, by walk_at "at"⟩)) | (refine' Rd.rd_getE ?ln ?_; (case ln => with_unfolding_all first | exact Or.inl (by walk_at "at") | exact Or.inr ⟨_, by walk_at "at"⟩)) | refine Rd.rd_daug ?_ | refine Rd.rd_items ?_ | refine Rd.rd_frz ?_ | refine Rd.rd_vals ?_ | refine Rd.rd_kw0 ?_ | refine Rd.rd_callN ?_
  | (refine' Rd.rd_isi (Rd.isi_tup ?ln Rd.kk_tup_tup) ?_; (case ln => with_unfolding_all walk_at "at")) | refine Rd.rd_isi (Rd.isi_str (b := true) kk_str_str) ?_)
local macro_rules | `(tactic| walk_at "st") => `(tactic| (simp only [List.map_cons, List.map_nil, L2.wipe, List.set_cons_zero, List.set_cons_succ]; walk_at "rd"; refine ⟨rfl, ?_⟩; walk_at "rd"))
abbrev s_is_integer : Stmt := top 30
theorem sc_is_integer : FnScope ["value"] ["value"] (defScope s_is_integer) := ⟨rfl, rfl, rfl, by decide +kernel, rfl, by decide +kernel, by decide +kernel⟩
abbrev s_is_many : Stmt := top 31
theorem sc_is_many : FnScope ["value"] ["value"] (defScope s_is_many) := ⟨rfl, rfl, rfl, by decide +kernel, rfl, by decide +kernel, by decide +kernel⟩
abbrev s_require_many : Stmt := top 36
theorem sc_require_many : FnScope ["value"] ["value"] (defScope s_require_many) := ⟨rfl, rfl, rfl, by decide +kernel, rfl, by decide +kernel, by decide +kernel⟩
abbrev s_require_state : Stmt := top 35
theorem sc_require_state : FnScope ["graph", "state"] ["graph", "state"] (defScope s_require_state) := ⟨rfl, rfl, rfl, by decide +kernel, rfl, by decide +kernel, by decide +kernel⟩
abbrev s_require_name : Stmt := top 33
theorem sc_require_name : FnScope ["graph", "name"] ["graph", "name"] (defScope s_require_name) := ⟨rfl, rfl, rfl, by decide +kernel, rfl, by decide +kernel, by decide +kernel⟩
abbrev s_require_counter : Stmt := top 34
theorem sc_require_counter : FnScope ["graph", "counter"] ["graph", "counter"] (defScope s_require_counter) := ⟨rfl, rfl, rfl, by decide +kernel, rfl, by decide +kernel, by decide +kernel⟩
abbrev s_can_take : Stmt := top 40
theorem sc_can_take : FnScope ["state", "loads", "row", "name", "source", "target", "change", "counter", "number"] ["state", "loads", "row"] (defScope s_can_take) := ⟨rfl, rfl, rfl, by decide +kernel, rfl, by decide +kernel, by decide +kernel⟩
abbrev s_possible_in : Stmt := top 41
theorem sc_possible_in : FnScope ["machine", "state", "loads", "rows", "name"] ["machine"] (defScope s_possible_in) := ⟨rfl, rfl, rfl, by decide +kernel, rfl, by decide +kernel, by decide +kernel⟩
abbrev s_Moment___init__ : Stmt := inClass (top 38) 0
theorem sc_Moment___init__ : FnScope ["self", "state", "loads", "tops"] ["self", "state", "loads", "tops"] (defScope s_Moment___init__) := ⟨rfl, rfl, rfl, by decide +kernel, rfl, by decide +kernel, by decide +kernel⟩
abbrev s_Moment_behind : Stmt := inClass (top 38) 1
theorem sc_Moment_behind : FnScope ["self", "row", "name", "source", "target", "change", "loads", "counter", "number", "tops", "load"] ["self", "row"] (defScope s_Moment_behind) := ⟨rfl, rfl, rfl, by decide +kernel, rfl, by decide +kernel, by decide +kernel⟩
def spIsIJ : Sp := Rd.mkSp (fun (i : Int) => [.int i]) fun i H Q _ => Q (.bl true) H
def spIsManyJ : Sp := Rd.mkSp (fun (i : Int) => [.int i]) fun i H Q _ => Q (.bl (decide (i ≥ 0))) H
def spReqMany : Sp := Rd.mkSp (fun (i : Int) => [.int i]) fun i H Q _ => 0 ≤ i ∧ Q .non H
def spReqSt (K : PySem.W.Frag) (C : Addr) (f : Gr → List Str) : Sp := Rd.mkSp (fun (a : Addr × Gr × Str) => [.ref a.1, .str a.2.2]) fun a H Q _ => GraphAt K C H a.1 a.2.1 ∧ a.2.2 ∈ f a.2.1 ∧ Q .non H
/-- whether a transition can be taken -/
def canB (st : Str) (f : Str → Int) (t : Tr) : Bool := decide (t.src = st) && t.chg.all fun kv => decide (f kv.1 + kv.2 ≥ 0)
def spCan (K : PySem.W.Frag) : Sp := Rd.mkSp (fun (a : (Str × Addr × Addr) × List Str × (Str → Int) × Tr) => [.str a.1.1, .ref a.1.2.1, .ref a.1.2.2]) fun a H Q _ => H a.1.2.1 = some (.dK (ldK a.2.1 a.2.2.1)) ∧ RowAt K H a.1.2.2 a.2.2.2 ∧ TrOk a.2.2.2 ∧ (∀ kv ∈ a.2.2.2.chg, kv.1 ∈ a.2.1) ∧ ∀ H', Same H H' → Q (.bl (canB a.1.1 a.2.2.1 a.2.2.2)) H'
def posL (G : Gr) (st : Str) (f : Str → Int) : List Str := (G.ts.filter fun t => canB st f t).map (·.nm)
def spPoss (K : PySem.W.Frag) (C : Addr) (m : AdsM) : Sp := Rd.mkSp (fun (a : Addr × Mc) => [.ref a.1]) fun a H Q _ => MachAt K C m H a.1 a.2 ∧ GOk a.2.G ∧ ∀ p H', Same H H' → TxT K H' p (posL a.2.G a.2.now.st a.2.now.ld) → Q (.ref p) H'
def PrV (K : PySem.W.Frag) (H : Hp) (v : V) (kv : Str × Int) : Prop := ∃ p, v = .ref p ∧ PairAt K H p kv
theorem prV_keep (K : PySem.W.Frag) (H H' : Hp) (v : V) (kv : Str × Int) (s : Same H H') (h : PrV K H v kv) : PrV K H' v kv := let ⟨p, e, q⟩ := h; ⟨p, e, (kpS s).sqT q⟩
theorem paired_ref {β : Type} {F : Addr → β → Prop} : ∀ {l : List Addr} {m : List β}, Paired F l m → Paired (fun v z => ∃ p, v = V.ref p ∧ F p z) (l.map V.ref) m
  | _, _, .nil => .nil
  | _, _, .cons r t => .cons ⟨_, rfl, r⟩ (paired_ref t)
theorem paired_nm {H : Hp} : ∀ ts : List Tr, Paired (fun v (t : Tr) => v = V.str t.nm) (ts.map (V.str ∘ (·.nm))) ts
  | [] => .nil
  | t :: ts => .cons rfl (paired_nm (H := H) ts)
section
variable {gd : Bool} {P : Program} {w : World} {K : PySem.W.Frag} {mg : Str → Option Value} {base : Heap} {a : AdsG} {m : AdsM}
theorem ok_isIJ (F : Rd.Has K mg "is_integer" s_is_integer) (g : Glob mg) : Rd.Fn gd P w K mg base CX0 1 "is_integer" spIsIJ := by
  refine F.fn sc_is_integer (fun _ => rfl) (fun _ _ _ _ _ _ us hl => match us, hl with | [_], _ => rfl) fun f cdv A outer s H Q E i hr k => ?_
  refine ⟨_, (pss_one (ps_ret (pe_and (pe_callB Rd.c_isi (by rfl) g.isinstance (by decide +kernel) (pa_cons (pv 0) (pa_cons (pe_bltn (v := .ty "int") (by rfl) g.int (by decide +kernel) rfl) pa_nil))) (pe_one (pe_not (pe_callB Rd.c_isi (by rfl) g.isinstance (by decide +kernel) (pa_cons (pv 0) (pa_cons (pe_bltn (v := .ty "bool") (by rfl) g.bool (by decide +kernel) rfl) pa_nil)))))))), ?_⟩
  try simp only [Rd.noxK, Rd.cxK]
  refine Rd.rd_start [some (V.int i)] rfl ?_
  walk_at "rd"
  refine Rd.if_t rfl ?_
  walk_at "rd"
  exact k
theorem ok_isManyJ (F : Rd.Has K mg "is_many" s_is_many) (g : Glob mg) (c_is_integer : Rd.Fn gd P w K mg base CX0 1 "is_integer" spIsIJ) : Rd.Fn gd P w K mg base CX0 2 "is_many" spIsManyJ := by
  refine F.fn sc_is_many (fun _ => rfl) (fun _ _ _ _ _ _ us hl => match us, hl with | [_], _ => rfl) fun f cdv A outer s H Q E i hr k => ?_
  refine ⟨_, (pss_one (ps_ret (pe_and (Rd.pe_fn c_is_integer (hr.mono (by decide)) (by rfl) (pa_cons (pv 0) pa_nil)) (pe_one (pe_cmpR op_ge (pv 0) pe_int (nomark _)))))), ?_⟩
  try simp only [Rd.noxK, Rd.cxK]
  refine Rd.rd_start [some (V.int i)] rfl ?_
  walk_at "rd"
  refine Rd.rd_sp i rfl ?_
  walk_at "rd"
  refine Rd.if_t rfl ?_
  walk_at "rd"
  exact k
theorem ok_reqMany (F : Rd.Has K mg "require_many" s_require_many) (g : Glob mg) (c_is_many : Rd.Fn gd P w K mg base CX0 2 "is_many" spIsManyJ) : Rd.Fn gd P w K mg base CX0 3 "require_many" spReqMany := by
  refine F.fn sc_require_many (fun _ => rfl) (fun _ _ _ _ _ _ us hl => match us, hl with | [_], _ => rfl) fun f cdv A outer s H Q E i hr h => ?_
  obtain ⟨h0, k⟩ := h
  refine ⟨_, (pss_one (ps_if (pt_not (pt_val (Rd.pe_fn c_is_many (hr.mono (by decide)) (by rfl) (pa_cons (pv 0) pa_nil)))) (pss_one ps_never) pss_nil)), ?_⟩
  try simp only [Rd.noxK, Rd.cxK]
  refine Rd.rd_start [some (V.int i)] rfl ?_
  walk_at "rd"
  refine Rd.rd_sp i rfl ?_
  walk_at "rd"
  refine Rd.if_f (by rw [decide_eq_true h0]; rfl) ?_
  walk_at "rd"
  exact k
theorem ok_reqState (T : GraphC K mg a) (F : Rd.Has K mg "require_state" s_require_state) (g : Glob mg) : Rd.Fn gd P w K mg base CX0 1 "require_state" (spReqSt K a.C (·.ns)) := by
  refine F.fn sc_require_state (fun _ => rfl) (fun _ _ _ _ _ _ us hl => match us, hl with | [_, _], _ => rfl) fun f cdv A outer s H Q E b hr h => ?_
  obtain ⟨x, G, n⟩ := b
  obtain ⟨hG, hn, k⟩ := h
  dsimp only at hG hn k
  refine ⟨_, (pss_one (ps_if (PW.pt (pw_or (pt_not (pt_val (pe_callB Rd.c_isi (by rfl) g.isinstance (by decide +kernel) (pa_cons (pv 1) (pa_cons (pe_bltn (v := .ty "str") (by rfl) g.str (by decide +kernel) rfl) pa_nil))))) (pw_or1 (pt_cmpR op_notIn_seq (pv 1) (pe_fld (pv 0) rfl) (by rfl))))) (pss_one ps_never) pss_nil)), ?_⟩
  try simp only [Rd.noxK, Rd.cxK]
  refine Rd.rd_start [some (V.ref x), some (V.str n)] rfl ?_
  walk_at "rd"
  refine Rd.if_f rfl ?_
  walk_at "rd"
  rename_i p hp
  refine Rd.rd_inTx (.inl hp) ?_
  rw [if_pos rfl, decide_eq_true hn]
  walk_at "rd"
  refine Rd.if_f rfl ?_
  walk_at "rd"
  exact k
theorem ok_reqCounter (T : GraphC K mg a) (F : Rd.Has K mg "require_counter" s_require_counter) (g : Glob mg) : Rd.Fn gd P w K mg base CX0 1 "require_counter" (spReqSt K a.C (·.cs)) := by
  refine F.fn sc_require_counter (fun _ => rfl) (fun _ _ _ _ _ _ us hl => match us, hl with | [_, _], _ => rfl) fun f cdv A outer s H Q E b hr h => ?_
  obtain ⟨x, G, n⟩ := b
  obtain ⟨hG, hn, k⟩ := h
  dsimp only at hG hn k
  refine ⟨_, (pss_one (ps_if (PW.pt (pw_or (pt_not (pt_val (pe_callB Rd.c_isi (by rfl) g.isinstance (by decide +kernel) (pa_cons (pv 1) (pa_cons (pe_bltn (v := .ty "str") (by rfl) g.str (by decide +kernel) rfl) pa_nil))))) (pw_or1 (pt_cmpR op_notIn_seq (pv 1) (pe_fld (pv 0) rfl) (by rfl))))) (pss_one ps_never) pss_nil)), ?_⟩
  try simp only [Rd.noxK, Rd.cxK]
  refine Rd.rd_start [some (V.ref x), some (V.str n)] rfl ?_
  walk_at "rd"
  refine Rd.if_f rfl ?_
  walk_at "rd"
  rename_i p hp
  refine Rd.rd_inTx (.inl hp) ?_
  rw [if_pos rfl, decide_eq_true hn]
  walk_at "rd"
  refine Rd.if_f rfl ?_
  walk_at "rd"
  exact k
theorem ok_reqName (T : GraphC K mg a) (F : Rd.Has K mg "require_name" s_require_name) (g : Glob mg) : Rd.Fn gd P w K mg base CX0 1 "require_name" (spReqSt K a.C (fun G => G.ts.map (·.nm))) := by
  refine F.fn sc_require_name (fun _ => rfl) (fun _ _ _ _ _ _ us hl => match us, hl with | [_, _], _ => rfl) fun f cdv A outer s H Q E b hr h => ?_
  obtain ⟨x, G, n⟩ := b
  obtain ⟨hG, hn, k⟩ := h
  dsimp only at hG hn k
  refine ⟨_, (pss_one (ps_if (PW.pt (pw_or (pt_not (pt_val (pe_callB Rd.c_isi (by rfl) g.isinstance (by decide +kernel) (pa_cons (pv 1) (pa_cons (pe_bltn (v := .ty "str") (by rfl) g.str (by decide +kernel) rfl) pa_nil))))) (pw_or1 (pt_cmp (pc_dnotin (hu_of hr.toRoom) (pv 1) (pe_fld (pv 0) rfl)))))) (pss_one ps_never) pss_nil)), ?_⟩
  try simp only [Rd.noxK, Rd.cxK]
  refine Rd.rd_start [some (V.ref x), some (V.str n)] rfl ?_
  walk_at "rd"
  refine Rd.if_f rfl ?_
  walk_at "rd"
  refine fld_r T hG fun p rs hp hP => ?_
  walk_at "rd"
  refine ⟨p, _, rfl, Rd.dg_s hp, ?_⟩
  rw [(find_rows n hP.length.symm).mpr hn]
  walk_at "rd"
  refine Rd.if_f rfl ?_
  walk_at "rd"
  exact k
theorem ok_can (F : Rd.Has K mg "can_take" s_can_take) (g : Glob mg) : Rd.Fn gd P w K mg base CX0 1 "can_take" (spCan K) := by
  refine F.fn sc_can_take (fun _ => rfl) (fun _ _ _ _ _ _ us hl => match us, hl with | [_, _, _], _ => rfl) fun f cdv A outer s H Q E b hr h => ?_
  obtain ⟨⟨st, dl, r⟩, cs, ld, t⟩ := b
  obtain ⟨hl, hrow, TO, hc, k⟩ := h
  dsimp only at hl hrow TO hc k
  obtain ⟨c, h1, ps, h2, hP⟩ := hrow
  refine ⟨_, (pss_cons (ps_asg (pv 2) (pg_tup rfl (pgs_cons (pg_name (i := 3) sc_can_take.nd rfl (Or.inl rfl)) (pgs_cons (pg_name (i := 4) sc_can_take.nd rfl (Or.inl rfl)) (pgs_cons (pg_name (i := 5) sc_can_take.nd rfl (Or.inl rfl)) (pgs_cons (pg_name (i := 6) sc_can_take.nd rfl (Or.inl rfl)) pgs_nil))))))
      (pss_one (ps_ret (pe_and (pe_cmpR op_eq (pv 4) (pv 0) (nomark _)) (pe_one (pe_callB (Rd.c_all rfl) (by rfl) g.all (by decide +kernel) (pa_cons (pe_lc (own := [("counter", 7), ("number", 8)]) (by rfl) sc_can_take.nd (pi_tup (pv 6)) (blkOk_by (own := [("counter", 7), ("number", 8)]) (N := ["state", "loads", "row", "name", "source", "target", "change", "counter", "number"]) (sc := defScope s_can_take) (by decide +kernel)) (fun _ _ _ _ _ => (Rd.pg_tupK (K := K) (n := 2) (by rfl) rfl (pgs_cons (pg_name (i := 7) sc_can_take.nd rfl (Or.inl rfl)) (pgs_cons (pg_name (i := 8) sc_can_take.nd rfl (Or.inl rfl)) pgs_nil)))) (fun _ _ _ _ _ => pts_nil) (fun _ _ _ _ _ => (pe_cmpR op_ge (pe_op op_add (pe_dget (hu_of hr.toRoom) (pv 1) (pv 7) (fun _ _ => rfl)) (pv 8)) pe_int (nomark _)))) pa_nil))))))), ?_⟩
  try simp only [Rd.noxK, Rd.cxK]
  refine Rd.rd_start [some (V.str st), some (V.ref dl), some (V.ref r), none, none, none, none, none, none] rfl ?_
  walk_at "rd"
  unfold canB at k
  by_cases e : t.src = st
  · refine Rd.if_t (decide_eq_true (by rw [e])) ?_
    rw [decide_eq_true e, Bool.true_and] at k
    walk_at "rd"
    refine Rd.rd_IT h2.sq ?_
    have c5 := TO.2.2.2.2
    refine Rd.lc_prT1 (PrV K) (prV_keep K) (fun kv => V.bl (decide (ld kv.1 + kv.2 ≥ 0))) (by omega) h2.sq (paired_ref hP) (fun kv v H1 M hm s1 hv hM => ?_) (fun D H1 hD s1 hD1 => ?_)
    · obtain ⟨p, rfl, hp⟩ := hv
      have hp' : SqT K H1 p [.str kv.1, .int kv.2] := hp
      have hl1 := s1 _ _ hl
      refine Rd.rd_start' [some (V.str st), some (V.ref dl), some (V.ref r), some (V.str t.nm), some (V.str t.src), some (V.str t.tgt), some (V.ref c), none, none] rfl ?_
      walk_at "rd"
      refine ⟨rfl, ?_⟩
      walk_at "rd"
      refine ⟨dl, _, rfl, dg_ld hl1 (hc kv hm), ?_⟩
      walk_at "rd"
      exact hM _ (Same.refl _)
    walk_at "rd"
    have e2 : (t.chg.map fun kv => V.bl (decide (ld kv.1 + kv.2 ≥ 0))) = (t.chg.map fun kv => decide (ld kv.1 + kv.2 ≥ 0)).map V.bl := by rw [List.map_map]; rfl
    rw [e2] at hD1
    refine Rd.rd_all (SqL.of hD1) ?_
    rw [List.all_map]
    exact k H1 s1
  · refine Rd.if_f (decide_eq_false fun z => e (V.str.inj z)) ?_
    rw [decide_eq_false e, Bool.false_and] at k
    exact k H (Same.refl H)
theorem ok_poss (T : GraphC K mg a) (TM : MachC K mg m) (F : Rd.Has K mg "possible_in" s_possible_in) (g : Glob mg) (c_can_take : Rd.Fn gd P w K mg base CX0 1 "can_take" (spCan K)) : Rd.Fn gd P w K mg base CX0 2 "possible_in" (spPoss K a.C m) := by
  refine F.fn sc_possible_in (fun _ => rfl) (fun _ _ _ _ _ _ us hl => match us, hl with | [_], _ => rfl) fun f cdv A outer s H Q E b hr h => ?_
  obtain ⟨x, S⟩ := b
  obtain ⟨hx, GO, k⟩ := h
  dsimp only at hx GO k
  refine ⟨_, (pss_cons (ps_asg (Rd.pe_tup (pa_cons (pe_fld (pe_fld (pv 0) rfl) rfl) (pa_cons (pe_fld (pe_fld (pv 0) rfl) rfl) (pa_cons (pe_fld (pe_fld (pv 0) rfl) rfl) pa_nil)))) (pg_tup rfl (pgs_cons (pg_name (i := 1) sc_possible_in.nd rfl (Or.inr rfl)) (pgs_cons (pg_name (i := 2) sc_possible_in.nd rfl (Or.inr rfl)) (pgs_cons (pg_name (i := 3) sc_possible_in.nd rfl (Or.inr rfl)) pgs_nil)))))
      (pss_one (ps_ret (pe_callTy Rd.c_tuple (by rfl) g.tuple (by decide +kernel) (pa_cons (pe_lc (own := [("name", 4)]) (by rfl) sc_possible_in.nd (pi_tup (pe_fld (pe_fld (pv 0) rfl) rfl)) (blkOk_by (own := [("name", 4)]) (N := ["machine", "state", "loads", "rows", "name"]) (sc := defScope s_possible_in) (by decide +kernel)) (fun _ _ _ _ _ => (pg_name (i := 4) sc_possible_in.nd rfl (Or.inl rfl))) (fun _ _ _ _ _ => (pts_one (pt_val (Rd.pe_fn c_can_take (hr.mono (by decide)) (by rfl) (pa_cons (pv 1) (pa_cons (pv 2) (pa_cons (pe_dget (hu_of hr.toRoom) (pv 3) (pv 4) (fun _ _ => rfl)) pa_nil))))))) (fun _ _ _ _ _ => (pv 4))) pa_nil))))), ?_⟩
  try simp only [Rd.noxK, Rd.cxK]
  refine Rd.rd_start [some (V.ref x), none, none, none, none] rfl ?_
  walk_at "rd"
  refine TM.nw hx fun pn hn => ?_
  refine TM.o.st hn ?_
  walk_at "rd"
  refine TM.nw hx fun pn2 hn2 => ?_
  refine TM.o.ld hn2 fun dl hl => ?_
  walk_at "rd"
  refine TM.gr hx fun pg hG => ?_
  refine fld_r T hG fun pr rs hr0 hP => ?_
  walk_at "rd"
  rename_i p1 H1 n1 s1 h1
  refine TM.gr (hx.same s1) fun pg2 hG2 => ?_
  refine fld_n T hG2 fun pn3 hN => ?_
  have t16 := GO.t16
  have hl1 := s1 _ _ hl
  have hr1 := s1 _ _ hr0
  have hP1 : Paired (RowAt K H1) rs S.G.ts := L2.Paired.mapP hP fun _ _ q => q.kp (kpS s1)
  refine Rd.rd_IT hN ?_
  refine Rd.lc_prT (zs := S.G.ts) (fun _ v (t : Tr) => v = V.str t.nm) (fun _ _ _ _ _ e => e) (fun t => canB S.now.st S.now.ld t) (fun t => V.str t.nm) (by omega) hN (by rw [List.map_map]; exact paired_nm (H := H1) S.G.ts) (fun t v H2 N M hm s2 hv hN2 hM => ?_) (fun D H2 hD s2 hD2 => ?_)
  · subst hv
    obtain ⟨r, hv, hrow⟩ := val_rows hP1 GO.tA.nodup t hm
    refine Rd.rd_start' [some (V.ref x), some (V.str S.now.st), some (V.ref dl), some (V.ref pr), none] rfl ?_
    walk_at "rd"
    refine ⟨rfl, ?_⟩
    walk_at "rd"
    refine ⟨pr, V.ref r, rfl, hv ▸ Rd.dg_s (s2 _ _ hr1), ?_⟩
    walk_at "rd"
    refine Rd.rd_sp ((S.now.st, dl, r), S.G.cs, S.now.ld, t) rfl ⟨s2 _ _ hl1, hrow.kp (kpS s2), GO.tO t hm, GO.tK t hm, fun H3 s3 => ?_⟩
    dsimp only
    refine ⟨_, rfl, ?_⟩
    cases hb : canB S.now.st S.now.ld t with
    | true =>
      refine Rd.if_t rfl ?_
      walk_at "rd"
      exact hM hb _ s3
    | false =>
      refine Rd.if_f rfl ?_
      exact hN2 hb _ s3
  walk_at "rd"
  rename_i p3 H3 n3 s3 h3
  have e2 : ((S.G.ts.filter fun t => canB S.now.st S.now.ld t).map fun t => V.str t.nm) = (posL S.G S.now.st S.now.ld).map V.str := by unfold posL; rw [List.map_map]; rfl
  rw [e2] at h3
  exact k p3 H3 ((s1.trans s2).trans s3) (SqT.of h3)
end
end M
set_option Elab.async false
set_option linter.all false
set_option maxRecDepth 100000
set_option maxHeartbeats 4000000
namespace Rd
open PySem PySem.Spec PyProof.Rows L2
abbrev keMro : List Value := [.type "KeyError", .type "LookupError", .type "Exception", .type "BaseException", .type "object"]
/-- what B.__init__ is -/
structure IniW (B initId : String) : Prop where
  kind : builtinKind initId = some .slot
  split : splitId initId = some (B, "__init__")
  row : Manifest.signature? initId = some ⟨.positional, "*", B, .self, [⟨"args", .varPos, false⟩]⟩
  plain : plainId initId = true
  entry : entryFor table initId = some Builtin.«BaseException.__init__»
  star : (B != "*") = true
theorem ini_of {B newId initId : String} {bmB : List Value} (F : ExcBaseFacts B newId initId bmB) : IniW B initId := ⟨F.initKind, F.initSplit, F.initRow, F.init.plain, F.initEntry, F.noStar⟩
section
variable {prog : Program} {w : World} {A : Around} {E : Value → Shared → Prop} {R : Result → Shared → Prop} {h : Heap} {g : Array GenState} {d : Drawn} {t : Nat} {os : OsState}
variable {nm q : Str} {C N : Addr} {bs bm bmB : List Value} {hdct : Bool} {sn : List Str} {sub : List Value} {ab : Bool} {col : Option Bool} {dd : Option Addr} {k0 k1 k2 k3 k5 : Option Value} {B newId initId i0 : String}
theorem xw_new (F : ExcBaseFacts B newId i0 bmB) (hB : bm.contains (.type B) = true) (hA : bm.contains (.type "AttributeError") = false) (hN : bm.contains (.type "NameError") = false) {us : List Value}
    (hC : h.get? C = some (excClassObj nm q C N bs bm hdct sn sub ab col dd k0 k1 k2 k3 k5 newId)) (hz : us.length ≤ sizeLine)
    (hq : R (.ok (.ret (.ref (h.objs.size + 1)))) ⟨(h.push (PySem.W.kdv_tup us)).push (HandSPX.excO C h.objs.size), g, d, t, os⟩) : codeAny (model prog w) A (.call (.builtin newId) ⟨.ref C :: us, []⟩) R ⟨h, g, d, t, os⟩ := by
  have c1 : (Value.ref C :: bm).contains (.type B) = true := by rw [List.contains_cons, hB, Bool.or_true]
  have c2 : (Value.ref C :: bm).contains (.type "AttributeError") = false := by rw [List.contains_cons, hA]; rfl
  have c3 : (Value.ref C :: bm).contains (.type "NameError") = false := by rw [List.contains_cons, hN]; rfl
  have st := F.noStar
  have en := F.ends
  have chk : ∀ {M : Model} {A : Around} {E : Value → Shared → Prop} {Q : Unit → Shared → Prop}, Q () ⟨h, g, d, t, os⟩ → wpAny M A (checkBuiltinCall newId ⟨.ref C :: us, []⟩) Q E ⟨h, g, d, t, os⟩ := fun {M A E Q} z => by
    simp only [checkBuiltinCall, F.newKind, F.newSplit, F.newRow]
    repeat (first | refine wpAny_loadPart_at hC ?_ | (refine wpAny_isSubtype_exc hC ?_; rw [c1]) | refine wpAny_staticBase_exc hC ?_ | refine wpAny_madeBy_exc hC ?_ | wp_step | simp only [bne_self_eq_false, Bool.false_eq_true, if_false])
    exact z
  refine codeAny_call_builtin_code (Code.quiet_builtin _ F.quiet) (chk (codeAny_builtinAt F.entry ?_))
  unfold Builtin.«BaseException.__new__»
  refine PySem.wpAt_bind (show PySem.wpAt _ _ _ (stack >>= _) _ _ _ from PySem.wpAt_bind (PySem.wpAt_stack fun p below => PySem.wpAt_of_wpAny ?_))
  wp_walk
  refine PySem.wpAt_of_wpAny ?_
  rw [F.owner]
  repeat (first | with_reducible refine wpAny_loadPart_at hC ?_ | with_reducible refine wpAny_madeHere_exc F.canon hC ?_ | (with_reducible refine wpAny_isSubtype_exc hC ?_; first | rw [c1] | rw [c2] | rw [c3]) | wp_step)
  show R _ _
  rw [Heap.size_push]
  exact hq
end
section
variable {prog : Program} {w : World} {A : Around} {E : Value → Shared → Prop} {R : Result → Shared → Prop} {h : Heap} {g : Array GenState} {d : Drawn} {t : Nat} {os : OsState}
variable {nm q : Str} {C N fI : Addr} {bs bm bmB us : List Value} {hdct : Bool} {sn : List Str} {sub : List Value} {ab : Bool} {col : Option Bool} {dd : Option Addr} {k0 k1 k2 k3 k5 : Option Value} {B newId initId i0 : String}
/-- C(us..): made by the base's __new__, then the own __init__ -/
theorem xw_call (F : ExcBaseFacts B newId i0 bmB) (hB : bm.contains (.type B) = true) (hA : bm.contains (.type "AttributeError") = false) (hN : bm.contains (.type "NameError") = false)
    (hC : h.get? C = some (excClassObj nm q C N bs bm hdct sn sub ab col dd k0 k1 k2 k3 k5 newId)) (hi : PySem.W.Looks (model prog w) h (typeLookup (.ref C) "__init__") (some (.ref fI)))
    (hb : ∀ self, PySem.W.Looks (model prog w) h (bindSpecial (.ref fI) self) (.ref fI, [self])) (hz : us.length ≤ sizeLine)
    (hq : codeAny (model prog w) (A.under (.builtin "type.__call__" ⟨.ref C :: us, []⟩)) (.call (.ref fI) ⟨.ref (h.objs.size + 1) :: us, []⟩) (PySem.W.InitBack (h.objs.size + 1) R) ⟨(h.push (PySem.W.kdv_tup us)).push (HandSPX.excO C h.objs.size), g, d, t, os⟩) :
    codeAny (model prog w) A (.call (.ref C) ⟨us, []⟩) R ⟨h, g, d, t, os⟩ := by
  have f1 := tc_lookup
  have f2 := tc_bind (.ref C)
  have ty : (⟨h, g, d, t, os⟩ : Shared).TypeIs (.ref C) "type" := ⟨_, hC, rfl⟩
  refine codeAny_of_tree (show wpAny _ _ (callAny (.ref C) _) _ _ _ from ?_)
  repeat (any_goals (first | assumption | with_reducible refine wpAny_loadPart_at hC ?_ | wp_step))
  refine ⟨rfl, codeAny_call_builtin_at (Code.quiet_builtin _ (by decide +kernel)) entry_typeCall (wpAny_check_type_call_sub hC ?_)⟩
  repeat (first | with_reducible refine wpAny_madeBy_exc hC ?_ | with_reducible refine wpAny_loadPart_at hC ?_ | wp_step)
  refine xw_new F hB hA hN hC hz (show wpAny _ _ _ _ _ _ from ?_)
  have kk : ∀ b o, h.get? b = some o → ((h.push (PySem.W.kdv_tup us)).push (HandSPX.excO C h.objs.size)).get? b = some o := fun b o e => Heap.get?_push_of_some _ (Heap.get?_push_of_some _ e)
  have hC2 := kk _ _ hC
  have hg : ((h.push (PySem.W.kdv_tup us)).push (HandSPX.excO C h.objs.size)).get? (h.objs.size + 1) = some (HandSPX.excO C h.objs.size) := by heap_get
  have cc : (Value.ref C :: bm).contains (.ref C) = true := by simp
  unfold isInstance
  repeat (first | with_reducible refine wpAny_loadPart_at hg ?_ | wp_step)
  refine (show wpAny _ _ (isSubtype (Value.ref C) (Value.ref C)) _ _ (⟨(h.push (PySem.W.kdv_tup us)).push (HandSPX.excO C h.objs.size), g, d, t, os⟩ : Shared) from wpAny_isSubtype_exc hC2 ?_)
  rw [cc]
  repeat wp_step
  refine (show wpAny _ _ (typeLookup (.ref C) _) _ _ _ from (hi.keeps kk).at (wpAny_holding (wpAny_bind (((hb (.ref (h.objs.size + 1))).keeps kk).at ?_))))
  refine wpAny_bind (wpAny_call (codeAny_mono hq fun r s' z => ?_))
  match r, z with
  | .error e, z => exact z
  | .ok .next, z => exact z.elim
  | .ok .brk, z => exact z.elim
  | .ok .cont, z => exact z.elim
  | .ok (.ret v), z =>
    obtain ⟨rfl, z⟩ := z
    first | exact wpAny_pure (wpAny_pure z) | (wp_walk; exact z)
/-- B.__init__(e, ..) -/
theorem xw_init (F : IniW B initId) (hB : bm.contains (.type B) = true) {e t0 : Addr} (hC : h.get? C = some (excClassObj nm q C N bs bm hdct sn sub ab col dd k0 k1 k2 k3 k5 newId)) (he : h.get? e = some (HandSPX.excO C t0)) (hz : us.length ≤ sizeLine)
    (hq : ∀ h' t1, (∀ b o, b ≠ e → h.get? b = some o → h'.get? b = some o) → h'.get? e = some (HandSPX.excO C t1) → R (.ok (.ret .none)) ⟨h', g, d, t, os⟩) : codeAny (model prog w) A (.call (.builtin initId) ⟨.ref e :: us, []⟩) R ⟨h, g, d, t, os⟩ := by
  have c1 : (Value.ref C :: bm).contains (.type B) = true := by rw [List.contains_cons, hB, Bool.or_true]
  have st := F.star
  have chk : ∀ {M : Model} {A : Around} {E : Value → Shared → Prop} {Q : Unit → Shared → Prop}, Q () ⟨h, g, d, t, os⟩ → wpAny M A (checkBuiltinCall initId ⟨.ref e :: us, []⟩) Q E ⟨h, g, d, t, os⟩ := fun {M A E Q} z => by
    simp only [checkBuiltinCall, F.kind, F.split, F.row]
    repeat (first | (with_reducible refine wpAny_loadPart_at he ?_) | with_reducible refine wpAny_loadPart_at hC ?_ | (with_reducible refine wpAny_isSubtype_exc hC ?_; rw [c1]) | wp_step)
    refine wpAny_onRaise ?_
    have ck : ∀ (a b : String) (n : Nat), Bind.check ⟨.positional, "*", B, .self, [⟨"args", .varPos, false⟩]⟩ a b n (List.map (fun x => x.fst) ({ pos := Value.ref e :: us } : Args).kw) = pure () := fun a b n => check_star_args _ _ _ _ _ _
    rw [ck]
    exact wpAny_pure z
  refine codeAny_call_builtin F.plain F.entry (chk ?_)
  wp_walk
  refine hq _ h.objs.size (fun b o hb ho => ?_) ((Heap.get?_update_self _ (Heap.get?_push_of_some _ he) rfl).trans rfl)
  exact (Heap.get?_update_other _ _ (Ne.symm hb)).trans (Heap.get?_push_of_some _ ho)
end
/-- an exception class with an own __init__, by its base's mro -/
structure XiC (K : PySem.W.Frag) (C : Addr) (bmB : List Value) (newId : String) : Prop where
  cl : PySem.W.excInitIn K C bmB newId = true
  ov : PySem.W.excOver K C bmB = true
  sa : PySem.W.findIn K (.ref C) "__setattr__" = some (some (.builtin "object.__setattr__"))
  hd : PySem.W.hasDictIn K C = true
  kp : PySem.W.keepIn K (.ref C) = true
section
variable {X : Cx} {pins : List (Addr × Obj)} {σ : L2.St} {H : Hp} {s : Shared} {a C : Addr} {f : Str} {y : V} {u : Value} {B newId initId : String} {bmB : List Value} {E : Value → Shared → Prop} {A : Around}
/-- the first field -/
theorem xi_store {Q : Unit → Shared → Prop} (SF : StoreFacts B bmB "object.__setattr__" "object") (T : XiC X.K C bmB newId) (I : Inv X pins σ H s) (e : H a = some (exo a C none)) (hno : PySem.W.takerIn X.K C f = some none) (ry : RelV y u)
    (h : ∀ dx s', H dx = none → dx ≠ a → Inv X pins σ (upd (upd H dx (exd dx [(f, y)])) a (exo a C (some dx))) s' → Q () s') : wpAny (model X.prog X.w) A (setAttr (.ref a) f u) Q E s := by
  obtain ⟨t1, ho⟩ := exo_at I.hok e
  obtain ⟨cd, hc, hd⟩ := PySem.W.any_some T.hd
  obtain ⟨hp, g, d, t, os⟩ := s
  refine PySem.W.set_plain I.kIn (od := none) ⟨ho, rfl, rfl, True.intro⟩ T.sa ?_
  refine PySem.W.osa_openX (od := none) SF I.kIn ⟨ho, rfl, rfl, True.intro⟩ T.ov hno fun b => ?_
  have hcls : PySem.W.Looks (model X.prog X.w) hp (classData C) cd := PySem.W.looks_clsIn I.kIn hc
  have hxs : a ≠ hp.objs.size := Nat.ne_of_lt (Heap.lt_size ho)
  refine wpAny_bind (wpAny_pure (wpAny_bind (PySem.W.instanceDict_exc (s := ⟨hp, g, d, t + 1, os⟩) ho hcls hd ?_)))
  show wpAny _ _ (Builtin.ObjectAttr.storeInDict hp.objs.size (.str f t) f u) _ _ _
  have hx1 : (hp.push (PySem.W.dictOf [] 0)).get? a = some _ := Heap.get?_push_of_some _ ho
  refine HandSPX.store_in_new (hp := (hp.push (PySem.W.dictOf [] 0)).update a fun o => { o with dict := some hp.objs.size }) ?_ fun h' tk' hn hs => ?_
  · exact ⟨_, #[], _, (Heap.get?_update_ne _ _ _ _ hxs.symm).trans (Heap.get?_push_at rfl rfl), rfl, fun e he => absurd he (by simp), fun _ => rfl⟩
  have k : ∀ b o, b ≠ a → hp.get? b = some o → h'.get? b = some o := fun b o hb q => (hs.2 b (Nat.ne_of_lt (Heap.lt_size q))).trans ((Heap.get?_update_ne _ _ _ _ hb).trans (Heap.get?_push_of_some _ q))
  have hx : h'.get? a = some ({ cls := .ref C, dict := some hp.objs.size, data := .fields #[.ref t1, .none, .none, .none, .bool false, .none] } : Obj) := (hs.2 a hxs).trans (Heap.get?_update_self _ hx1 rfl)
  have hnd : H hp.objs.size = none := I.hok.fresh (Nat.le_refl _)
  have nd : ∀ {b : Addr} {o : Obj}, hp.get? b = some o → b ≠ hp.objs.size := fun {b o} q => Nat.ne_of_lt (Heap.lt_size q)
  have na : ∀ {b : Addr}, H b = none → b ≠ a := fun {b} n z => by rw [z, e] at n; cases n
  have exA : ∃ o', h'.get? a = some o' := ⟨_, hx⟩
  have U : Un X.fs [] H (upd (upd H hp.objs.size (exd hp.objs.size [(f, y)])) a (exo a C (some hp.objs.size))) hp h' := {
    keep := fun b o q n _ _ => k b o (na n) q, slot := fun b o q n _ _ => ⟨o.slots, k b o (na n) q⟩, free := fun b o q n _ => by rw [upd_ne (na n), upd_ne (nd q)]; exact n,
    there := fun b o q _ => (Classical.em (b = a)).elim (fun hb => hb ▸ exA) fun hb => ⟨o, k b o hb q⟩,
    tups := fun b xs q => by rw [upd_ne (at_ne e q exo_tup), upd_ne (ne_of_none q hnd)]; exact q,
    frzs := fun b o v q => by rw [upd_ne (at_ne e q exo_frz), upd_ne (ne_of_none q hnd)]; exact q,
    tbls := fun b ps q => ⟨#[], by rw [upd_ne (at_ne e q exo_tbl), upd_ne (ne_of_none q hnd), q]; simp⟩ }
  refine h hp.objs.size _ hnd hxs.symm (I.un (t' := tk') U fun b o q => ?_)
  by_cases hb : b = a
  · subst hb; rw [upd_same] at q; cases q; exact exo_ok hx
  rw [upd_ne hb] at q
  by_cases hdd : b = hp.objs.size
  · subst hdd; rw [upd_same] at q; cases q; exact exd_ok hn (relO_put (fs := []) ry fun g => True.intro)
  rw [upd_ne hdd] at q
  refine (I.hok b o q).stay (fun c v hc z => k c v (by rcases hc with hc | hc; · exact hc ▸ hb
                                                       · exact at_ne e hc exo_own) z) (fun c hc => ?_) fun c xs hc => ?_
  · rw [upd_ne (at_ne e hc exo_own), upd_ne (ne_of_none hc hnd)]; exact hc
  · rw [upd_ne (at_ne e hc exo_tup), upd_ne (ne_of_none hc hnd)]; exact hc
/-- B.__init__(self, ..) -/
theorem xi_base {us : List Value} {Q : Value → Shared → Prop} (FB : IniW B initId) (hB : bmB.contains (.type B) = true) (T : XiC X.K C bmB newId) (I : Inv X pins σ H s) (e : H a = some (exo a C none)) (hl : us.length ≤ sizeLine) (h : ∀ s', Inv X pins σ H s' → Q .none s') :
    wpAny (model X.prog X.w) A (call (.builtin initId) (.ref a :: us)) Q E s := by
  obtain ⟨nm, N, q, bs, bm, hdct, sn, sub, ab, col, dd, k0, k1, k2, k3, k5, hC, hT⟩ := PySem.W.excInit_of I.kIn T.cl
  obtain ⟨t1, ho⟩ := exo_at I.hok e
  obtain ⟨hp, g, d, t, os⟩ := s
  refine wpAny_call (xw_init FB ((hT B).trans hB) hC ho hl fun h' t2 k hx => ?_)
  have J := I.write (t' := t) (x := a) (e := a) (o := exo a C none) (by rw [e]; exact True.intro) (.inl rfl) k ⟨_, hx⟩ (exo_ok hx)
  rw [show upd H a (exo a C none) = H from funext fun b => if hb : b = a then by rw [hb, upd_same, e] else upd_ne hb] at J
  exact h _ J
end
def tXiB (C : Addr) (ta : TA) : TE := fun σ H Q => ta σ H fun vs H1 => ∃ (a : Addr) (ws : List V), vs = .ref a :: ws ∧ ws.length ≤ 1000 ∧ H1 a = some (exo a C none) ∧ Q .non H1
def tXiS (C : Addr) (f : Str) (to te : TE) : TS := fun D σ H => te σ H fun y H1 => to σ H1 fun x H2 => ∃ a : Addr, x = .ref a ∧ H2 a = some (exo a C none) ∧ ∀ dx, H2 dx = none → dx ≠ a → D.nx σ (upd (upd H2 dx (exd dx [(f, y)])) a (exo a C (some dx)))
def tXiM (C : Addr) (sp : Sp) (E : XK) (ta : TA) : TE := fun σ H Q => ta σ H fun vs H1 => vs.length ≤ 1000 ∧ ∀ a, H1 a = none → sp (.ref a :: vs) (upd H1 a (exo a C none)) (fun v H2 => v = .non ∧ Q (.ref a) H2) E
section
variable {X : Cx} {o e : Expr} {es : List Expr} {to te : TE} {ta : TA} {f x : Str} {p p' p1 p2 pos : Pos} {B newId initId : String} {bmB : List Value} {C fI : Addr} {CX : CXT} {k : Nat} {sp : Sp} {E : XK}
theorem pe_xiB {b : Str} {pl : Sem Bool} (FB : IniW B initId) (bB : bmB.contains (.type B) = true) (T : XiC X.K C bmB newId) (hg : Gl X b) (hm : X.mg b = none) (hB : bootBuiltins b = some (.type B)) (hn : b ≠ "__name__") (hdb : (b == ("__debug__" : Str)) = false)
    (ty : typeOf (.type B) = pure (.type "type")) (hst : Manifest.isStub B = false) (hh : PySem.W.handedIn (.builtin initId) = true) (vV : PySem.W.findCls X.K (.type B) (.type "type") "__init__" = some (.val (.builtin initId))) (ha : PA X (e :: es) ta)
    (hc : eval (.Call (.Attribute (.Name b p1) "__init__" p2) (e :: es) [] pos) X.env = (do
      let ov ← eval (.Name b p1) X.env; standAt p2.atName; let (f, first) ← holding [ov] (getMethod ov "__init__" pl)
      callWith pos f first (backTo pos (starEach (e :: es) X.env)) (backToKw pos (keywordEach [] X.env))) := by rfl)
    (he : starEach (e :: es) X.env = (false, eval e X.env) :: starEach es X.env := by rfl) (hpl : (backTo pos (starEach es X.env)).any (·.1) = false := by rfl) :
    PE X (.Call (.Attribute (.Name b p1) "__init__" p2) (e :: es) [] pos) (tXiB C ta) := by
  refine ⟨fun pins s σ H Q I h => ?_⟩
  refine PySem.W.methodCall_KW (ld_blt I hg hm hB ?_ hn hdb) hc
  obtain ⟨m, fr⟩ := I.fr
  refine PySem.W.method_type fr I.ok.mod.kin ty hst vV hh ?_
  show wpAny _ _ (callWith pos (Value.builtin initId) [] (backTo pos (starEach (e :: es) X.env)) []) _ _ _
  refine PyProof.Rows.callWith_method1 (thn (ha.run pos pins _ σ H _ (I.tok _) h) fun us s1 ⟨vs, H1, I1, r1, a, ws, ev, hl, ea, q⟩ => ?_) he hpl
  subst ev
  cases r1 with
  | @cons _ u0 _ ur ra rw' =>
    obtain rfl : u0 = Value.ref a := ra
    exact xi_base FB bB T I1 ea (by rw [← Paired.length rw', sizeLine_eq]; omega) fun s' J => ⟨.non, H1, J, rfl, q⟩
theorem ps_xiS (SF : StoreFacts B bmB "object.__setattr__" "object") (T : XiC X.K C bmB newId) (hno : PySem.W.takerIn X.K C f = some none) (ho : PE X o to) (he : PE X e te) (hs : swapsWith e (some (.Attribute o f p')) pos.line X.env = pure false := by rfl) :
    PS X (.Assign [.Attribute o f p'] e pos) (tXiS C f to te) := by
  refine ⟨fun pins s σ H D I h => ?_⟩
  refine plainObj_wpAny_Assign_Attribute (thn (he.run pins s σ H _ I h) fun v s1 ⟨y, H1, I1, r1, q1⟩ => thn (ho.run pins s1 σ H1 _ I1 q1) fun u s2 ⟨x, H2, I2, r2, a, ex, ea, q⟩ => ?_) hs
  subst ex
  obtain rfl : u = Value.ref a := r2
  exact xi_store SF T I2 ea hno r1 fun dx s' n ne J => ⟨σ, _, J, q dx n ne⟩
end
/-- at a: an exception of the class at D -/
def Ex (H : Hp) (a D : Addr) : Prop := H a = some (ExO (.ref D) a) ∨ ∃ (d : Addr) (fs : List (Str × V)), H a = some (exo a D (some d)) ∧ H d = some (exd d fs)
/-- .. with the field f -/
def ExF (H : Hp) (a D : Addr) (f : Str) (v : V) : Prop := ∃ (d : Addr) (fs : List (Str × V)), H a = some (exo a D (some d)) ∧ H d = some (exd d fs) ∧ fs.lookup f = some v
theorem ExF.ex {H : Hp} {a D : Addr} {f : Str} {v : V} (h : ExF H a D f v) : Ex H a D := by
  obtain ⟨d, fs, h1, h2, _⟩ := h
  exact .inr ⟨d, fs, h1, h2⟩
theorem Ex.same {H H' : Hp} {a D : Addr} (h : Ex H a D) (s : Same H H') : Ex H' a D := by
  rcases h with h | ⟨d, fs, h1, h2⟩
  · exact .inl (s _ _ h)
  · exact .inr ⟨d, fs, s _ _ h1, s _ _ h2⟩
theorem ExF.same {H H' : Hp} {a D : Addr} {f : Str} {v : V} (h : ExF H a D f v) (s : Same H H') : ExF H' a D f v := by
  obtain ⟨d, fs, h1, h2, h3⟩ := h
  exact ⟨d, fs, s _ _ h1, s _ _ h2, h3⟩
def rXiM (C : Addr) (sp : Sp) (E : XK) : List V → Hp → VK → Prop := fun vs H Q => vs.length ≤ 1000 ∧ ∀ a, H a = none → sp (.ref a :: vs) (upd H a (exo a C none)) (fun v H2 => v = .non ∧ Q (.ref a) H2) E
theorem rd_tXiM {C : Addr} {sp : Sp} {E : XK} {ta : TA} {σ : L2.St} {H : Hp} {Q : VK} (q : ta σ H fun vs H1 => rXiM C sp E vs H1 Q) : tXiM C sp E ta σ H Q := q
theorem rd_tXiB {C : Addr} {ta : TA} {σ : L2.St} {H : Hp} {Q : VK} (q : ta σ H fun vs H1 => ∃ (a : Addr) (ws : List V), vs = .ref a :: ws ∧ ws.length ≤ 1000 ∧ H1 a = some (exo a C none) ∧ Q .non H1) : tXiB C ta σ H Q := q
theorem rd_tXiS {C : Addr} {f : Str} {to te : TE} {D : Ends} {σ : L2.St} {H : Hp} (q : te σ H fun y H1 => to σ H1 fun x H2 => ∃ a : Addr, x = .ref a ∧ H2 a = some (exo a C none) ∧ ∀ dx, H2 dx = none → dx ≠ a → D.nx σ (upd (upd H2 dx (exd dx [(f, y)])) a (exo a C (some dx)))) : tXiS C f to te D σ H := q
end Rd
set_option Elab.async false
set_option linter.all false
set_option maxRecDepth 100000
set_option maxHeartbeats 4000000
namespace Rd
open PySem PySem.Spec PyProof.Rows L2
/-- a clause: its class, and what it wishes of the exception at a -/
abbrev Cl : Type := Value × (Ends → Addr → Value → Option Addr → L2.St → Hp → Prop)
/-- except X: suite -/
abbrev clP (c : Value) (ts : Addr → Value → Option Addr → TS) : Cl := (c, fun D a cls d σ H => ts a cls d D σ H)
/-- except X as n: suite (n in slot i) -/
abbrev clA (c : Value) (i : Nat) (ts : Addr → Value → Option Addr → TS) : Cl := (c, fun D a cls d σ H => ts a cls d { nx := fun σ' H' => D.nx (σ'.set i none) H', rt := D.rt, bk := fun σ' H' => D.bk (σ'.set i none) H', ct := fun σ' H' => D.ct (σ'.set i none) H' } (σ.set i (some (.ref a))) H)
def wCl (K : PySem.W.Frag) (D : Ends) : List Cl → WX
  | [] => fun _ _ _ _ => False
  | (c, w) :: r => fun cls d σ H => ∃ b, PySem.W.exmOne K cls c = some b ∧ (b = true → ∀ a, H a = none → w D a cls d σ H) ∧ (b = false → wCl K D r cls d σ H)
inductive HdsAs (X : Cx) : List ExceptHandler → List Cl → Prop
  | rest {hds : List ExceptHandler} : HdsAs X hds []
  | next {x : Str} {c : Value} {ts : Addr → Value → Option Addr → TS} {b₀ : Stmt} {suite : List Stmt} {np hp : Pos} {hds : List ExceptHandler} {l : List Cl} (hc : Names X x c)
      (su : ∀ (a : Addr) (oe : Obj) (cls : Value) (d : Option Addr) (pn : List (Addr × Obj)), Zc cls d oe → (∃ vs, oe.data = .fields vs) → PSs (X.suite a ((a, oe) :: pn)) (b₀ :: suite) (ts a cls d)) (r : HdsAs X hds l) :
      HdsAs X (.ExceptHandler (some (.Name x np)) none (b₀ :: suite) hp :: hds) (clP c ts :: l)
  | nextAs {x n : Str} {c : Value} {i : Nat} {ts : Addr → Value → Option Addr → TS} {b₀ : Stmt} {suite : List Stmt} {np hp : Pos} {hds : List ExceptHandler} {l : List Cl} (hN : X.N.Nodup) (hi : X.N[i]? = some n) (hln : X.env.kindOf n = some .local) (hc : Names X x c)
      (su : ∀ (a : Addr) (oe : Obj) (cls : Value) (d : Option Addr) (pn : List (Addr × Obj)), Zc cls d oe → (∃ vs, oe.data = .fields vs) → PSs (X.suite a ((a, oe) :: pn)) (b₀ :: suite) (ts a cls d)) (r : HdsAs X hds l) :
      HdsAs X (.ExceptHandler (some (.Name x np)) (some n) (b₀ :: suite) hp :: hds) (clA c i ts :: l)
section
variable {X : Cx} {body : List Stmt} {h₀ : ExceptHandler} {hds : List ExceptHandler} {l : List Cl} {pos : Pos} {tb : WX → TS}
theorem ps_tryAs (hs : X.stack = X.env :: X.outer) (hf : X.env.frame = some X.env.locals)
    (hb : ∀ (W : WX) (pn : List (Addr × Obj)) (xe : Value → Shared → Prop), Takes (X.tr pn xe) W → PSs (X.tr pn xe) body (tb W)) (hh : HdsAs X (h₀ :: hds) l) :
    PS X (.Try body (h₀ :: hds) [] [] pos) (fun D σ H => tb (wCl X.K D l) D σ H) := by
  refine ⟨fun pins s σ H D I h => ?_⟩
  have ok := I.ok
  have frames : X.A.frames = some (X.env :: X.outer) := by rw [ok.frames, hs]
  let go : Value → Shared → Prop := fun e z => wpAny (model X.prog X.w) X.A (noteFrame e X.env) (fun _ z₂ => wpAny (model X.prog X.w) X.A (setFlight e none) (fun _ z₃ => wpAny (model X.prog X.w) X.A (handleBy e X.env (h₀ :: hds)) (SP X pins D) X.xe z₃) X.xe z₂) X.xe z
  have tk : Takes (X.tr (X.pn ++ pins) go) (wCl X.K D l) := by
    intro u s' xx
    obtain ⟨a, B, sI, pins', σ', H', cls, d, rfl, J', nb, up, sky, na, os, ag, wish⟩ := xx
    have J : Inv X pins σ' H' sI := J'.ofTry ok
    refine Sky.land Zc.steady frames hf (show Sky B (X.env :: X.outer) a (Zc cls d) X.env.locals s'.heap by rw [← hs]; exact sky) fun h3 fl3 up3 => ?_
    have J3 : Inv X pins σ' H' { s' with heap := h3 } := J.landed nb fl3.1 (up.trans up3) os ag
    obtain ⟨oe3, vs3, he3, hz3, hd3⟩ := fl3.there
    have nfr : a ∉ frs (X.env :: X.outer) := fun hm => by
      obtain ⟨_, o', e', hnf⟩ := fl3.2.2.1.mem hm
      obtain rfl : oe3 = o' := Option.some.inj (he3.symm.trans e')
      exact hnf _ hd3
    have nL : a ≠ X.env.locals := fun z => nfr (List.mem_filterMap.mpr ⟨X.env, List.mem_cons_self, by rw [hf, z]⟩)
    have nF : a ∉ X.fs := fun hm => by
      obtain ⟨e, he, q⟩ := List.mem_filterMap.mp hm
      exact nfr (List.mem_filterMap.mpr ⟨e, List.mem_cons_of_mem _ he, q⟩)
    have S3 := J3.suite he3 hd3 na nL nF
    have isC : PySem.W.Looks (model X.prog X.w) h3 (typeOf (.ref a)) cls := fun A Q E s k q => wpAny_typeOf_ref (k _ _ he3) (by rw [hz3.1]; exact q)
    have name : ∀ {x : Str} {c : Value} {np : Pos} {Q : Value → Shared → Prop} {E : Value → Shared → Prop}, Names X x c → Q c { s' with heap := h3 } → wpAny (model X.prog X.w) (X.A.mark (some (.ref a))) (eval (.Name x np) X.env) Q E { s' with heap := h3 } := by
      intro x c np Q E hc q
      obtain ⟨hg, hdbg, hm | ⟨hm, hv, hnn⟩⟩ := hc
      · exact ld_glob (X := X.suite a ((a, oe3) :: (X.pn ++ pins))) S3 hg hm q hdbg
      · exact ld_blt (X := X.suite a ((a, oe3) :: (X.pn ++ pins))) S3 hg hm hv q hnn hdbg
    suffices all : ∀ {hds' : List ExceptHandler} {l' : List Cl}, HdsAs X hds' l' → wCl X.K D l' cls d σ' H' → wpAny (model X.prog X.w) X.A (handleBy (.ref a) X.env hds') (SP X pins D) X.xe { s' with heap := h3 } from all hh wish
    intro hds' l' hk
    induction hk with
    | rest => intro z; exact False.elim z
    | @next x c ts b₀ suite np hp hds2 l2 hc su r ih =>
      rintro ⟨b, hb1, yes, no⟩
      refine wpAny_handleBy_cons (codeAny_handlers_test ?_) (by intro q; cases q)
      have isM := PySem.W.exm_one (M := model X.prog X.w) J3.kIn isC hb1
      refine name hc (isM.here ?_)
      cases b with
      | false => exact ih (no rfl)
      | true =>
        refine codeAny_handlers_suite (HandSPX.lands_againZ fl3 fun h4 fl4 up4 => ?_)
        have J4 : Inv X pins σ' H' { s' with heap := h4 } := J.landed nb fl4.1 ((up.trans up3).trans up4) os ag
        obtain ⟨oe4, vs4, he4, hz4, hd4⟩ := fl4.there
        refine wpAny_mono ((su a oe4 cls d (X.pn ++ pins) hz4 ⟨_, hd4⟩).run [] _ _ H' _ (J4.suite he4 hd4 na nL nF) (yes rfl a na)) (fun f s6 hsp => ?_) (fun _ _ z => False.elim z)
        match f, hsp with
        | .next, ⟨σ6, H6, S6, q6⟩ => exact ⟨σ6, H6, S6.unsuite ok, q6⟩
        | .brk, ⟨σ6, H6, S6, q6⟩ => exact ⟨σ6, H6, S6.unsuite ok, q6⟩
        | .cont, ⟨σ6, H6, S6, q6⟩ => exact ⟨σ6, H6, S6.unsuite ok, q6⟩
        | .ret u, ⟨v6, σ6, H6, S6, r6, q6⟩ => exact ⟨v6, σ6, H6, S6.unsuite ok, r6, q6⟩
    | @nextAs x n c i ts b₀ suite np hp hds2 l2 hN hi hln hc su r ih =>
      rintro ⟨b, hb1, yes, no⟩
      refine wpAny_handleBy_cons (codeAny_handlers_test ?_) (by intro q; cases q)
      have isM := PySem.W.exm_one (M := model X.prog X.w) J3.kIn isC hb1
      refine name hc (isM.here ?_)
      cases b with
      | false => exact ih (no rfl)
      | true =>
        have hloc : Loc X.env.scope n := .inl hln
        refine codeAny_handlers_suite_as (HandSPX.lands_againZ fl3 fun h4 fl4 up4 => ?_)
        have J4 : Inv X pins σ' H' { s' with heap := h4 } := J.landed nb fl4.1 ((up.trans up3).trans up4) os ag
        obtain ⟨oe4, vs4, he4, hz4, hd4⟩ := fl4.there
        refine store_ok (X := X.suite a ((a, oe4) :: (X.pn ++ pins))) (v := .ref a) (J4.suite he4 hd4 na nL nF) hN hi hloc rfl (fun s5 S5 => ?_) (.inr hln)
        refine wpAny_mono ((su a oe4 cls d (X.pn ++ pins) hz4 ⟨_, hd4⟩).run [] s5 _ H' _ S5 (yes rfl a na)) (fun f s6 hsp => ?_) (fun _ _ z => False.elim z)
        have end_ : ∀ {σ6 : L2.St} {H6 : Hp} {Q : Shared → Prop}, Inv (X.suite a ((a, oe4) :: (X.pn ++ pins))) [] σ6 H6 s6 → (∀ s7, Inv X pins (σ6.set i none) H6 s7 → Q s7) →
            wpAny (model X.prog X.w) X.A (do bindName X.env n .none; unbindBehindTheSuite X.env n hp) (fun _ s7 => Q s7) X.xe s6 := fun {σ6 H6 Q} S6 hq => gone_ok (S6.unsuite ok) hN hi hln hq
        match f, hsp with
        | .next, ⟨σ6, H6, S6, q6⟩ => exact end_ S6 fun s7 J7 => ⟨_, _, J7, q6⟩
        | .brk, ⟨σ6, H6, S6, q6⟩ => exact end_ S6 fun s7 J7 => ⟨_, _, J7, q6⟩
        | .cont, ⟨σ6, H6, S6, q6⟩ => exact end_ S6 fun s7 J7 => ⟨_, _, J7, q6⟩
        | .ret u, ⟨v6, σ6, H6, S6, r6, q6⟩ => exact end_ S6 fun s7 J7 => ⟨_, _, _, J7, r6, q6⟩
  refine wpAny_Try_except (wpAny_mono ((hb (wCl X.K D l) (X.pn ++ pins) go tk).run [] s σ H D (I.toTry _) h) (fun f s1 hsp => ?_) (fun e s1 he => he))
  match f, hsp with
  | .next, ⟨σ', H', J', q⟩ => exact wpAny_execs_nil ⟨σ', H', J'.ofTry ok, q⟩
  | .brk, ⟨σ', H', J', q⟩ => exact ⟨σ', H', J'.ofTry ok, q⟩
  | .cont, ⟨σ', H', J', q⟩ => exact ⟨σ', H', J'.ofTry ok, q⟩
  | .ret u, ⟨v, σ', H', J', r, q⟩ => exact ⟨v, σ', H', J'.ofTry ok, r, q⟩
end
def tMkXi (C : Addr) (f : Str) (ta : TA) : L2.St → Hp → XK → Prop := fun σ H Q => ta σ H fun vs H1 => ∃ v, vs = [v] ∧ ∀ d H', H1 d = none → Same H1 H' → H' d = some (.xd [(f, v)]) → Q (.ref C) (some d) H'
theorem rd_mkXi {C : Addr} {f : Str} {ta : TA} {σ : L2.St} {H : Hp} {Q : XK} (q : ta σ H fun vs H1 => ∃ v, vs = [v] ∧ ∀ d H', H1 d = none → Same H1 H' → H' d = some (.xd [(f, v)]) → Q (.ref C) (some d) H') : tMkXi C f ta σ H Q := q
/-- the promise of such an __init__ -/
def spXr (C : Addr) (f : Str) : Sp := mkSp (fun (a : Addr × V) => [.ref a.1, a.2]) fun a H Q _ => H a.1 = some (exo a.1 C none) ∧ ∀ d H', H d = none → d ≠ a.1 → H' a.1 = some (exo a.1 C (some d)) → H' d = some (exd d [(f, a.2)]) → (∀ b o, b ≠ a.1 → H b = some o → H' b = some o) → Q .non H'
section
variable {X : Cx} {e : Expr} {ta : TA} {f x : Str} {p pos : Pos} {newId : String} {bmB : List Value} {C fI : Addr} {CX : CXT} {k : Nat}
theorem pmk_xi {gd : Bool} {BN i0 : String} {bmN : List Value} (FB : ExcBaseFacts BN newId i0 bmN) (bB : bmB.contains (.type BN) = true) (bA : bmB.contains (.type "AttributeError") = false) (bN : bmB.contains (.type "NameError") = false) (T : XiC X.K C bmB newId) (iC : PySem.W.findIn X.K (.ref C) "__init__" = some (some (.ref fI))) (tI : PySem.W.typeIn X.K (.ref fI) = some (.type "function"))
    (exC : PySem.W.subIn X.K (.ref C) (.type "BaseException") = some true) (tyC : PySem.W.typeIn X.K (.ref C) = some (.type "type")) (F1 : FnG gd X.prog X.w X.K X.mg X.base CX k fI (spXr C f)) (hr : RoomG gd (k + 1) X.A) (hx : Passes CX X E0) (hg : Gl X x) (hm : X.mg x = some (.ref C)) (ha : PA X [e] ta)
    (hdb : (x == ("__debug__" : Str)) = false := by decide) (he : starEach [e] X.env = (false, eval e X.env) :: starEach [] X.env := by rfl) (hpl : (backTo pos (starEach [] X.env)).any (·.1) = false := by rfl) :
    PMk X (.Call (.Name x p) [e] [] pos) (tMkXi C f ta) := by
  intro pins s σ H Q I h
  refine wpAny_Call_Name_kw (ld_glob I hg hm ?_ hdb)
  refine PySem.W.callWith_K (h₀ := X.base) I.ok.mod.kin T.kp (thn (ha.run pos pins s σ H _ I h) fun us s1 ⟨vs, H1, I1, r1, v, ev, q1⟩ => ⟨I1.kIn, ?_⟩) he hpl
  subst ev
  show wpAny _ _ (call (.ref C) us) _ _ _
  obtain ⟨nm, N, q, bs, bm, hdct, sn, sub, ab, col, dd, k0, k1, k2, k3, k5, hC, hT⟩ := PySem.W.excInit_of I1.kIn T.cl
  obtain ⟨hp, g, dr, tk, os⟩ := s1
  have hn : H1 (hp.objs.size + 1) = none := I1.hok.fresh (Nat.le_succ _)
  have kk : ∀ b o, hp.get? b = some o → ((hp.push (PySem.W.kdv_tup us)).push (HandSPX.excO C hp.objs.size)).get? b = some o := fun b o e => Heap.get?_push_of_some _ (Heap.get?_push_of_some _ e)
  have hget : ((hp.push (PySem.W.kdv_tup us)).push (HandSPX.excO C hp.objs.size)).get? (hp.objs.size + 1) = some (HandSPX.excO C hp.objs.size) := by heap_get
  have I2 := I1.laid (t' := tk) (a := hp.objs.size + 1) (o := exo (hp.objs.size + 1) C none) kk (Nat.le_succ _) (exo_ok hget)
  have r2 : Vals [V.ref (hp.objs.size + 1), v] (Value.ref (hp.objs.size + 1) :: us) := .cons rfl r1
  have hsp : spXr C f [V.ref (hp.objs.size + 1), v] (upd H1 (hp.objs.size + 1) (exo (hp.objs.size + 1) C none)) (fun v' H2 => v' = .non ∧ ∃ d, H2 (hp.objs.size + 1) = some (exo (hp.objs.size + 1) C (some d)) ∧ H2 d = some (exd d [(f, v)]) ∧ H1 d = none ∧ Q (.ref C) (some d) (upd (del H2 (hp.objs.size + 1)) d (.xd [(f, v)]))) E0 := by
    refine rd_sp (hp.objs.size + 1, v) rfl ⟨upd_same, fun d H2 hd hne h1 h2 h3 => ⟨rfl, d, h1, h2, by rw [upd_ne hne] at hd; exact hd, q1 d _ (by rw [upd_ne hne] at hd; exact hd) (fun b o e => ?_) upd_same⟩⟩
    have ne1 : b ≠ hp.objs.size + 1 := ne_of_none e hn
    have ne2 : b ≠ d := ne_of_none e (by rw [upd_ne hne] at hd; exact hd)
    rw [upd_ne ne2, del_ne ne1]
    exact h3 b o ne1 (by rw [upd_ne ne1]; exact e)
  refine wpAny_call (xw_call FB ((hT _).trans bB) ((hT _).trans bA) ((hT _).trans bN) hC (PySem.W.looks_findIn I1.kIn iC) (fun self => PySem.W.bind_fn I1.kIn self tI) (by rw [← Paired.length r1, sizeLine_eq]; show 1 ≤ _; omega)
    (codeAny_mono (F1 _ X.stack _ _ (Value.ref (hp.objs.size + 1) :: us) _ _ E0 (hr.make C us []) (I2.env0.make C us []) r2 hsp) fun r s' hq' => ?_))
  match r, hq' with
  | .error er, hq' => exact hx pins σ _ _ er s' I2 hq'
  | .ok (.ret u), hq' =>
    obtain ⟨v', H2, os2, bare2, un2, hok2, rv, ev, d, ea, ed, hd1, q2⟩ := hq'
    subst ev
    obtain ⟨h2, g2, d2, t2, os'⟩ := s'
    exact ⟨rv, mk_end (raises_own exC tyC) I1 (Nat.le_succ _) kk un2 hok2 os2 bare2 ea ed hd1 q2⟩
  | .ok .next, hq' => exact False.elim hq'
  | .ok .brk, hq' => exact False.elim hq'
  | .ok .cont, hq' => exact False.elim hq'
end
end Rd
set_option Elab.async false
set_option linter.all false
set_option maxRecDepth 100000
set_option maxHeartbeats 4000000
namespace Rd
open PySem PySem.Spec PyProof.Rows L2
/-- repr of a value: an int, a bool, a text, None, or data at a place -/
def rRepV (K : PySem.W.Frag) : List V → Hp → VK → Prop := fun xs H Q => ∃ v d, xs = [v] ∧ Dz K H v d ∧ d.showable = true ∧ d.depth ≤ 60 ∧ d.shown.length ≤ sizeLine ∧ Q (.str d.shown) H
theorem c_reprV {X : Cx} (hg : X.A.guards = some []) (hu : X.A.units + 64 < cLine) : CallR X (.builtin "repr") (rRepV X.K) := by
  intro pins s σ H xs us Q I r h
  obtain ⟨v, d, rfl, hd, hs, hz, hl, q⟩ := h
  cases r with
  | cons rx rr =>
    cases rr
    cases v with
    | ref a =>
      cases rx
      obtain ⟨as, rd, nm⟩ := Dz.reads I hd rfl
      exact repr_of_reads' rd hs (fun _ => nm) hg (by omega) (fun _ _ e => e) (fun h' u tk hk => ⟨.str _, H, I.kept hk, ⟨_, rfl⟩, q⟩) hl
    | int i =>
      obtain ⟨t, rfl⟩ := rx
      cases hd with
      | base h => cases h; exact PySem.P.repr_of_int (of_decide_eq_true hs) ⟨.str _, H, I.tok _, ⟨_, rfl⟩, q⟩
    | bl b =>
      cases rx
      cases hd with
      | base h => cases h; exact PySem.P.repr_of_bool ⟨.str _, H, I.tok _, ⟨_, rfl⟩, q⟩
    | str x =>
      obtain ⟨t, rfl⟩ := rx
      cases hd with
      | base h => cases h; exact PySem.P.repr_of_str ⟨.str _, H, I.tok _, ⟨_, rfl⟩, q⟩ hl
    | non =>
      cases rx
      cases hd with
      | base h => cases h; exact PySem.P.repr_of_none ⟨.str _, H, I.tok _, ⟨_, rfl⟩, q⟩
    | _ =>
      cases hd with
      | base h => cases h
theorem rd_reprV {K : PySem.W.Frag} {H : Hp} {Q : VK} {v : V} {d : PyData} (h : Dz K H v d) (hs : d.showable = true) (hz : d.depth ≤ 60) (hl : d.shown.length ≤ sizeLine) (q : Q (.str d.shown) H) : rRepV K [v] H Q := ⟨v, d, rfl, h, hs, hz, hl, q⟩
mutual
theorem Dt.mono {K : PySem.W.Frag} {H H' : Hp} (k : ∀ a xs, SqT K H a xs → SqT K H' a xs) : ∀ {v : V} {d : PyData}, Dt K H v d → Dt K H' v d
  | _, _, .non => .non
  | _, _, .bl b => .bl b
  | _, _, .int i => .int i
  | _, _, .str x => .str x
  | _, _, .tup h1 h2 => .tup (k _ _ h1) (DtAll.mono k h2)
theorem DtAll.mono {K : PySem.W.Frag} {H H' : Hp} (k : ∀ a xs, SqT K H a xs → SqT K H' a xs) : ∀ {vs : List V} {ds : List PyData}, DtAll K H vs ds → DtAll K H' vs ds
  | _, _, .nil => .nil
  | _, _, .cons h1 h2 => .cons (Dt.mono k h1) (DtAll.mono k h2)
end
mutual
theorem Dz.mono {K : PySem.W.Frag} {H H' : Hp} (kt : ∀ a xs, SqT K H a xs → SqT K H' a xs) (kl : ∀ a xs, SqL K H a xs → SqL K H' a xs) (kd : ∀ a kvs, H a = some (.dK kvs) → H' a = some (.dK kvs)) : ∀ {v : V} {d : PyData}, Dz K H v d → Dz K H' v d
  | _, _, .base h => .base (h.mono kt)
  | _, _, .dic h1 h2 => .dic (kd _ _ h1) (DzAll.mono kt kl kd h2)
  | _, _, .lst h1 hn h2 => .lst (kl _ _ h1) hn (DzAll.mono kt kl kd h2)
theorem DzAll.mono {K : PySem.W.Frag} {H H' : Hp} (kt : ∀ a xs, SqT K H a xs → SqT K H' a xs) (kl : ∀ a xs, SqL K H a xs → SqL K H' a xs) (kd : ∀ a kvs, H a = some (.dK kvs) → H' a = some (.dK kvs)) : ∀ {vs : List V} {ds : List PyData}, DzAll K H vs ds → DzAll K H' vs ds
  | _, _, .nil => .nil
  | _, _, .cons h1 h2 => .cons (Dz.mono kt kl kd h1) (DzAll.mono kt kl kd h2)
end
end Rd
set_option Elab.async false
set_option linter.all false
set_option maxRecDepth 100000
set_option maxHeartbeats 4000000
namespace M
open PySem L2
local macro_rules | `(tactic| walk_at "rdc") => `(tactic| first | exact Or.inl ⟨by decide, by decide⟩ | exact Or.inr ⟨by decide, by decide⟩ | exact ⟨by decide, by decide, by decide⟩ | exact ⟨by decide, by decide⟩ | decide | omega | assumption | (refine Or.inl ⟨?_, ?_⟩ <;> omega) | (refine Or.inr ⟨?_, ?_⟩ <;> omega) | (refine ⟨?_, ?_⟩ <;> omega))
local macro_rules | `(tactic| walk_at "rd1") => `(tactic| with_reducible first
  | refine Rd.rd_seq ?_ | refine Rd.rd_asg ?_ | refine Rd.rd_op ?_ | (refine' Rd.rd_var ?vh ?_; (case vh => with_unfolding_all rfl)) | refine Rd.rd_c ?_ | refine Rd.rd_I0 ?_ | refine Rd.rd_name0 ?_ | refine Rd.rd_nameS ?_ | refine Rd.rd_fn ?_
  | refine Rd.rd_cb ?_ | refine Rd.rd_cons ?_ | refine Rd.rd_nil ?_ | refine Rd.rd_int ?_ | refine Rd.rd_intB ?_ | refine Rd.rd_abs ?_ | refine Rd.rd_max2 ?_ | refine Rd.rd_min2 ?_
  | refine Rd.rd_call ?_ | refine Rd.rd_ifE ?_ | refine Rd.rd_test ?_ | refine Rd.rd_tB ?_ | refine Rd.rd_blV ?_ | refine Rd.rd_and ?_ | refine Rd.rd_or ?_ | refine Rd.rd_not ?_
  | refine Rd.rd_andV ?_ | refine Rd.rd_orV ?_ | refine Rd.rd_notV ?_ | refine Rd.rd_next ?_ | refine Rd.rd_ret ?_ | refine Rd.rd_drop ?_ | refine Rd.rd_ifS ?_ | refine Rd.rd_nx ?_ | refine Rd.rd_rt ?_ | refine Rd.rd_tMatch ?_ | refine Rd.rd_tCO ?_ | refine Rd.rd_tRevL ?_ | refine Rd.rd_tStar ?_ | refine Rd.rd_joined ?_ | refine Rd.rd_js1 ?_ | refine Rd.rd_js0 ?_ | refine Rd.rd_fmt ?_ | refine Rd.rd_propR ?_ | refine Rd.rd_iZipA ?_ | refine Rd.rd_iEnumT ?_ | refine Rd.rd_iOwn ?_ | (refine' Rd.rd_IET ?ln ?_; (case ln => with_unfolding_all walk_at "at")) | refine Rd.rd_chain ?_ | refine Rd.rd_tPar ?_ | refine Rd.rd_par ?_ | refine Rd.rd_sl ?_ | refine Rd.rd_noPart ?_ | refine Rd.rd_part ?_ | refine Rd.rd_intV ?_ | refine Rd.rd_lc ?_ | (refine' Rd.rd_aug ?vh ?_; (case vh => with_unfolding_all rfl)) | refine Rd.rd_ipI ?_ | refine Rd.rd_for ?_ | (refine' Rd.rd_IT ?ln ?_; (case ln => with_unfolding_all walk_at "at")) | (refine' Rd.rd_IL ?ln ?_; (case ln => with_unfolding_all walk_at "at")) | refine Rd.rd_iTup ?_ | refine Rd.rd_iList ?_ | refine Rd.rd_iRng1 ?_ | refine Rd.rd_iRng2 ?_ | refine Rd.rd_isi (Rd.isi_int Rd.kk_int_int) ?_ | refine Rd.rd_isi (Rd.isi_int Rd.kk_int_bool) ?_ | refine Rd.rd_dget ?_ | refine Rd.rd_din ?_ | refine Rd.rd_dnotin ?_ | refine Rd.rd_dput ?_ | refine Rd.rd_dc ?_ | refine Rd.rd_lc2 ?_ | refine Rd.rd_ltS ?_ | refine Rd.rd_inSg ?_ | refine Rd.rd_iStr ?_ | refine Rd.rd_IS ?_ | refine Rd.rd_prC ?_ | refine Rd.rd_prN ?_ | refine Rd.rd_methR ?_ | refine Rd.rd_cmeth ?_ | refine Rd.rd_fldS ?_ | refine Rd.rd_fld ?_ | (refine' Rd.rd_mkVS ?vh ?_; (case vh => with_unfolding_all rfl)) | (refine' Rd.rd_starT ?ln ?_; (case ln => with_unfolding_all walk_at "at")) | refine Rd.rd_iEnum ?_ | refine Rd.rd_iZip ?_ | (refine' Rd.rd_IE ?ln ?_; (case ln => with_unfolding_all walk_at "at")) | (refine' Rd.rd_IZ ?ln ?lm ?_; (case ln => with_unfolding_all walk_at "at"); (case lm => with_unfolding_all walk_at "at")) | (refine' Rd.rd_gTup ?ln ?lk ?_; (case ln => with_unfolding_all walk_at "at"); (case lk => with_unfolding_all rfl)) | refine Rd.rd_gCons ?_ | refine Rd.rd_gNil ?_ | refine Rd.rd_m1 ?_ | refine Rd.rd_strV ?_ | refine Rd.rd_tXiM ?_ | refine Rd.rd_tXiB ?_ | refine Rd.rd_tXiS ?_ | refine Rd.rd_bm ?_ | refine Rd.rd_bm0 ?_ | refine Rd.rd_isN ?_ | refine Rd.rd_notN ?_ | refine Rd.rd_sub ?_ | refine Rd.rd_un ?_ | refine Rd.rd_U ?_
  | (refine' Rd.rd_eq ?sc ?_; (case sc => with_unfolding_all rfl)) | (refine' Rd.rd_ne ?sc ?_; (case sc => with_unfolding_all rfl))
  | (refine' Rd.rd_I ?cc ?_; (case cc => with_unfolding_all walk_at "rdc"))
  | (refine' Rd.rd_lenL ?ln ?_; (case ln => with_unfolding_all walk_at "at")) | (refine' Rd.rd_lenT ?ln ?_; (case ln => with_unfolding_all walk_at "at"))
  | (refine' Rd.rd_ixL ?ln ?ia ?_; (case ln => with_unfolding_all walk_at "at"); (case ia => with_unfolding_all first | exact Rd.at0 | exact Rd.at1 | exact Rd.at2 | exact Rd.at3 | exact Rd.at4 | rfl)) | (refine' Rd.rd_ixT ?ln ?ia ?_; (case ln => with_unfolding_all walk_at "at"); (case ia => with_unfolding_all first | exact Rd.at0 | exact Rd.at1 | exact Rd.at2 | exact Rd.at3 | exact Rd.at4 | rfl)))
local macro_rules | `(tactic| walk_at "at") => `(tactic| first | assumption | (apply SqL.of; assumption) | (apply SqT.of; assumption) | (apply SqL.of; exact upd_same) | (apply SqT.of; exact upd_same))
local macro_rules | `(tactic| walk_at "rd") => `(tactic| repeat walk_at "rd1")
local macro_rules | `(tactic| walk_at "ne") => `(tactic| first | assumption | exact Ne.symm (by assumption) | (refine' Dice.ne ?D ?h; (case h => assumption); (case D => walk_at "fa")))
local macro_rules | `(tactic| walk_at "kp1") => `(tactic| first | exact kpS (by assumption) | exact Mut.kp (by assumption) | (refine' Rolled.kp ?r ?D; (case r => assumption); (case D => walk_at "fa")))
local macro_rules | `(tactic| walk_at "fa") => `(tactic| first
  | assumption | exact SqT.of (by assumption) | exact SqL.of (by assumption)
  | (refine' Dice.same ?h ?s; (case s => assumption); (case h => walk_at "fa")) | exact Rolled.dice (by assumption)
  | (refine' L2.Same.seq ?s ?h; (case s => assumption); (case h => walk_at "fa")) | (refine' Rolled.sqL ?r ?n ?h; (case r => assumption); (case n => walk_at "ne"); (case h => walk_at "fa"))
  | (refine' Kp.sqT ?k ?h; (case k => walk_at "kp1"); (case h => walk_at "fa")) | (refine' RowAt.kp ?k ?h; (case k => walk_at "kp1"); (case h => walk_at "fa")) | (refine' RowsAt.kp ?k ?h; (case k => walk_at "kp1"); (case h => walk_at "fa")) | (refine' ChgAt.kp ?k ?h; (case k => walk_at "kp1"); (case h => walk_at "fa")) | (refine' PlainAt.kp ?k ?h; (case k => walk_at "kp1"); (case h => walk_at "fa"))
  | (refine' GraphAt.same ?h ?s; (case s => assumption); (case h => walk_at "fa")) | (refine' GraphAt.rolled ?r ?D ?h; (case r => assumption); (case D => walk_at "fa"); (case h => walk_at "fa"))
  | (refine' Rd.Same.at ?s ?h; (case s => assumption); (case h => walk_at "fa")) | (refine' Mut.keep ?m _ _ ?n ?h; (case m => assumption); (case n => walk_at "ne"); (case h => walk_at "fa")) | (refine' Rolled.keep ?r _ _ ?n ?h; (case r => assumption); (case n => walk_at "ne"); (case h => walk_at "fa")))
local macro_rules | `(tactic| walk_at "sm") => `(tactic| first | assumption | exact Same.refl _ | (refine' L2.Same.trans ?h ?s; (case s => assumption); (case h => walk_at "sm")) | (refine' same_mutM ?a ?b ?c; (case c => assumption); (case b => walk_at "nn"); (case a => walk_at "sm")))
local macro_rules | `(tactic| walk_at "rl") => `(tactic| first | assumption | exact Rolled.refl (by walk_at "fa") | (refine' Rolled.trans ?a ?b; (case b => assumption); (case a => walk_at "rl")) | (refine' Rolled.same ?a ?b; (case b => assumption); (case a => walk_at "rl")) | (refine' Rolled.mutM ?a ?n ?e ?m; (case m => assumption); (case n => walk_at "nn"); (case e => walk_at "ne"); (case a => walk_at "rl")))
local macro_rules | `(tactic| walk_at "nn") => `(tactic| first | assumption | (refine' none_pre ?s ?h; (case h => assumption); (case s => walk_at "sm")) | (refine' none_rol ?r ?D ?h; (case h => assumption); (case D => walk_at "fa"); (case r => walk_at "rl")))
local macro_rules | `(tactic| walk_at "sz") => `(tactic| first | (simp only [List.length_cons, List.length_nil]; decide) | (refine Rd.small64 ?_; simp only [List.length_map, List.length_append, List.length_cons, List.length_nil]; omega))
local macro_rules | `(tactic| walk_at "at") => `(tactic| walk_at "fa")
local macro_rules | `(tactic| walk_at "rd1") => `(tactic| with_reducible first
  | (refine' Rd.rd_mkTup ?sz fun _ _ _ _ _ => ?_; (case sz => with_unfolding_all walk_at "sz")) | (refine' Rd.rd_mkLst ?sz fun _ _ _ _ _ => ?_; (case sz => with_unfolding_all walk_at "sz")) | (refine' Rd.rd_mkTupF ?sz fun _ _ _ _ _ => ?_; (case sz => with_unfolding_all walk_at "sz"))
  | (refine' Rd.rd_tupleL ?ln fun _ _ _ _ _ => ?_; (case ln => with_unfolding_all walk_at "at")) | (refine' Rd.rd_tupleT ?ln ?_; (case ln => with_unfolding_all walk_at "at")) | (refine' Rd.rd_listL ?ln fun _ _ _ _ _ => ?_; (case ln => with_unfolding_all walk_at "at")) | (refine' Rd.rd_listT ?ln fun _ _ _ _ _ => ?_; (case ln => with_unfolding_all walk_at "at"))
  | (refine' fld_c ?T ?h fun _ _ => ?_; (case T => assumption); (case h => with_unfolding_all walk_at "fa")) | (refine' fld_s ?T ?h fun _ _ => ?_; (case T => assumption); (case h => with_unfolding_all walk_at "fa")) | (refine' fld_n ?T ?h fun _ _ => ?_; (case T => assumption); (case h => with_unfolding_all walk_at "fa"))
  | refine Rd.rd_get2 ?_ | (refine' Rd.rd_getA ?ln ?_; (case ln => with_unfolding_all first | exact Or.inl (by walk_at "at") | exact Or.inr ⟨_, by walk_at "at"⟩)) | (refine' Rd.rd_getE ?ln ?_; (case ln => with_unfolding_all first | exact Or.inl (by walk_at "at") | exact Or.inr ⟨_, by walk_at "at"⟩)) | refine Rd.rd_daug ?_ | refine Rd.rd_items ?_ | refine Rd.rd_frz ?_ | refine Rd.rd_vals ?_ | refine Rd.rd_kw0 ?_ | refine Rd.rd_callN ?_
  | (refine' Rd.rd_isi (Rd.isi_tup ?ln Rd.kk_tup_tup) ?_; (case ln => with_unfolding_all walk_at "at")) | refine Rd.rd_isi (Rd.isi_str (b := true) kk_str_str) ?_)
local macro_rules | `(tactic| walk_at "st") => `(tactic| (simp only [List.map_cons, List.map_nil, L2.wipe, List.set_cons_zero, List.set_cons_succ]; walk_at "rd"; refine ⟨rfl, ?_⟩; walk_at "rd"))
abbrev s__law_told : Stmt := top 55
theorem sc__law_told : FnScope ["_law_call", "e"] ["_law_call"] (defScope s__law_told) := ⟨rfl, rfl, rfl, by decide +kernel, rfl, by decide +kernel, by decide +kernel⟩
abbrev s_NotEnough___init__ : Stmt := inClass (top 7) 0
theorem sc_NotEnough___init__ : FnScope ["self", "counter"] ["self", "counter"] (defScope s_NotEnough___init__) := ⟨rfl, rfl, rfl, by decide +kernel, rfl, by decide +kernel, by decide +kernel⟩
abbrev veMj : List Value := [.type "ValueError", .type "Exception", .type "BaseException", .type "object"]
abbrev ieMj : List Value := [.type "IndexError", .type "LookupError", .type "Exception", .type "BaseException", .type "object"]
abbrev aeMj : List Value := [.type "ArithmeticError", .type "Exception", .type "BaseException", .type "object"]
abbrev leMj : List Value := [.type "LookupError", .type "Exception", .type "BaseException", .type "object"]
/-- an error class with an __init__ of its own that keeps its argument as fl -/
structure XiF (K : PySem.W.Frag) (mg : Str → Option Value) (nm : Str) (bs : String) (mro : List Value) (newId iniId : String) (fl : Str) (C f : Addr) : Prop where
  g : mg nm = some (.ref C)
  gB : mg (Str.ofString bs) = none
  i : Rd.XiC K C mro newId
  n1 : PySem.W.findIn K (.ref C) "__init__" = some (some (.ref f))
  n2 : PySem.W.typeIn K (.ref f) = some (.type "function")
  b : PySem.W.subIn K (.ref C) (.type "BaseException") = some true
  t : PySem.W.typeIn K (.ref C) = some (.type "type")
  xf : XfC K C
  nf : PySem.W.findIn K (.ref C) fl = some none
  tv : PySem.W.takerIn K C fl = some none
  v0 : PySem.W.findCls K (.type bs) (.type "type") "__init__" = some (.val (.builtin iniId))
structure XoF (K : PySem.W.Frag) (mg : Str → Option Value) (nm : Str) (C : Addr) : Prop where
  p : PySem.W.excIn K C veMj "ValueError.__new__" = true
  g : mg nm = some (.ref C)
  k : PySem.W.keepIn K (.ref C) = true
  b : PySem.W.subIn K (.ref C) (.type "BaseException") = some true
  t : PySem.W.typeIn K (.ref C) = some (.type "type")
structure ErrM (K : PySem.W.Frag) (mg : Str → Option Value) (e : AdsE) : Prop where
  xG : XoF K mg "InvalidGraph" e.IG
  xO : XoF K mg "InvalidOperation" e.IO
  xU : XiF K mg "UnknownName" "KeyError" Rd.keMro "LookupError.__new__" "KeyError.__init__" "name" e.UN e.fU
  xN : XiF K mg "InvalidNumber" "IndexError" ieMj "IndexError.__new__" "IndexError.__init__" "value" e.IN e.fN
  xE : XiF K mg "NotEnough" "ArithmeticError" aeMj "ArithmeticError.__new__" "ArithmeticError.__init__" "counter" e.NE e.fE
  xH : XiF K mg "NothingToUndo" "LookupError" leMj "LookupError.__new__" "LookupError.__init__" "many" e.NU e.fH
  ex : ∀ i j, i < 6 → j < 6 → PySem.W.exmOne K (.ref (e.at i)) (.ref (e.at j)) = some (decide (i = j))
/-- an error that keeps a value is let out -/
def XV (K : PySem.W.Frag) (C : Addr) (fl pre : Str) (cls : Value) (d : Option Addr) (H : Hp) (q : Str → Prop) : Prop := cls = .ref C ∧ ∃ dd v z, d = some dd ∧ H dd = some (.xd [(fl, v)]) ∧ Rd.Dz K H v z ∧ z.showable = true ∧ z.depth ≤ 60 ∧ z.shown.length + 20 ≤ sizeLine ∧ q (pre ++ z.shown)
def EXM (K : PySem.W.Frag) (e : AdsE) (Q : VK) : XK := fun cls d H' => (cls = .ref e.IG ∧ Q (.str "graph") H') ∨ (cls = .ref e.IO ∧ Q (.str "operation") H') ∨ XV K e.UN "name" "name " cls d H' (fun z => Q (.str z) H') ∨ XV K e.IN "value" "number " cls d H' (fun z => Q (.str z) H') ∨ XV K e.NE "counter" "counter " cls d H' (fun z => Q (.str z) H') ∨ XV K e.NU "many" "undo " cls d H' (fun z => Q (.str z) H')
def TTold (K : PySem.W.Frag) (e : AdsE) : (XK → Hp → VK → Prop) → Hp → VK → Prop := fun tl H Q => tl (EXM K e Q) H Q
theorem rd_told {K : PySem.W.Frag} {e : AdsE} {T : List (Addr × Str)} {t : XK → TE} {σ : L2.St} {H : Hp} {Q : VK} (hT : LamX.Tabs T H) (q : ∀ H1, LamX.ExtN H H1 → LamX.Tabs T H1 → t (EXM K e Q) σ H1 Q) : LamX.tLam T (TTold K e) t σ H Q := ⟨hT, q⟩
theorem takes_lenJ {X : Cx} {W : WX} (t : Takes X W) : Takes X (fun c d σ H => σ.length = X.N.length → W c d σ H) := fun u s' ⟨a, B, sI, pins, σ, H, cls, d, e, I, nb, up, sky, na, os, ag, w⟩ => t u s' ⟨a, B, sI, pins, σ, H, cls, d, e, I, nb, up, sky, na, os, ag, w I.len⟩
/-- what the clause of such an error returns -/
def tHand (K : PySem.W.Frag) (a : Addr) (cls : Value) (d : Option Addr) (C : Addr) (fl pre : Str) : TS := tRet (tOp (fun x y H Q => ∃ i j, x = .str i ∧ y = .str j ∧ i.length + j.length ≤ sizeLine ∧ Q (.str (i ++ j)) H) (tC (.str pre)) (tCB (Rd.rRepV K) (tCons (tXf a cls d C fl (tVar 1)) tNil)))
theorem rd_hand {K : PySem.W.Frag} {a C : Addr} {cls : Value} {d : Option Addr} {fl pre : Str} {D : Ends} {σ : L2.St} {H : Hp} (hl : σ.length = 2) (hp : pre.length ≤ 8) (h : XV K C fl pre cls d H fun z => D.rt (.str z) H) : tHand K a cls d C fl pre D (σ.set 1 (some (V.ref a))) H := by
  obtain ⟨ec, dd, v, z, ed, hd, hz, h1, h2, h3, hq⟩ := h
  subst ed
  have l2 : (σ.set 1 (some (V.ref a)))[1]? = some (some (V.ref a)) := by rw [List.getElem?_set]; simp [hl]
  refine Rd.rd_ret ?_
  refine Rd.rd_op ?_
  refine Rd.rd_c ?_
  refine Rd.rd_cb ?_
  refine Rd.rd_cons ?_
  refine Rd.rd_var l2 ?_
  refine ⟨rfl, ec, dd, _, v, rfl, hd, by simp [List.lookup], ?_⟩
  refine Rd.rd_nil ?_
  exact Rd.rd_reprV hz h1 h2 (by omega) ⟨_, _, rfl, rfl, by omega, hq⟩
section
variable {X : Cx} {e : AdsE}
theorem told_gives {g : Addr} {cdg : Value} {q : Str} (hr0 : Rd.RoomG true (2 + 1) X.A) (GG : Glob X.mg) (TE : ErrM X.K X.mg e) :
    LamX.GivesTo X ["_law_call", "e"] "_law_told" (defScope s__law_told) g cdg (defBody s__law_told) "_law_call" q (TTold X.K e) := by
  intro f c' s H Q tl act hc h
  have hr : Rd.RoomG true 2 (cxOf C8.CX0 X.prog X.w X.K X.mg X.base ["_law_call", "e"] "_law_told" (defScope s__law_told) g cdg X.A X.stack s H C8.E0).nox.A := hr0.deeper _
  refine ⟨_, pss_one (Rd.ps_tryAs (X := (cxOf C8.CX0 X.prog X.w X.K X.mg X.base ["_law_call", "e"] "_law_told" (defScope s__law_told) g cdg X.A X.stack s H C8.E0).nox) (l := [Rd.clP (.ref e.IG) (fun _ _ _ => tRet (tC (.str "graph"))), Rd.clP (.ref e.IO) (fun _ _ _ => tRet (tC (.str "operation"))), Rd.clA (.ref e.UN) 1 (fun a cls d => tHand X.K a cls d e.UN "name" "name "), Rd.clA (.ref e.IN) 1 (fun a cls d => tHand X.K a cls d e.IN "value" "number "), Rd.clA (.ref e.NE) 1 (fun a cls d => tHand X.K a cls d e.NE "counter" "counter "), Rd.clA (.ref e.NU) 1 (fun a cls d => tHand X.K a cls d e.NU "many" "undo ")])
      (tb := fun W D σ H => ∃ Ech : XK, (∀ cls d σ' H', σ'.length = 2 → Ech cls d H' → W cls d σ' H') ∧ σ[0]? = some (some (.ref f)) ∧ H c' = some (LamX.CodeO c' q) ∧ tl Ech H D.rt)
      rfl rfl (fun W pn xe tk => ?_) (.next ⟨by rfl, by decide, .inl TE.xG.g⟩ (fun a oe cls d pn _ _ => pss_one (ps_ret pe_str)) (.next ⟨by rfl, by decide, .inl TE.xO.g⟩ (fun a oe cls d pn _ _ => pss_one (ps_ret pe_str))
        (.nextAs sc__law_told.nd rfl rfl ⟨by rfl, by decide, .inl TE.xU.g⟩ (fun a oe cls d pn hz hf => pss_one (ps_ret (pe_op op_add_str pe_str (pe_callB (Rd.c_reprV hr.gd hr.units) (by rfl) GG.repr (by decide +kernel) (pa_cons (pe_xf TE.xU.xf TE.xU.nf hz hf (pv 1)) pa_nil)))))
        (.nextAs sc__law_told.nd rfl rfl ⟨by rfl, by decide, .inl TE.xN.g⟩ (fun a oe cls d pn hz hf => pss_one (ps_ret (pe_op op_add_str pe_str (pe_callB (Rd.c_reprV hr.gd hr.units) (by rfl) GG.repr (by decide +kernel) (pa_cons (pe_xf TE.xN.xf TE.xN.nf hz hf (pv 1)) pa_nil)))))
        (.nextAs sc__law_told.nd rfl rfl ⟨by rfl, by decide, .inl TE.xE.g⟩ (fun a oe cls d pn hz hf => pss_one (ps_ret (pe_op op_add_str pe_str (pe_callB (Rd.c_reprV hr.gd hr.units) (by rfl) GG.repr (by decide +kernel) (pa_cons (pe_xf TE.xE.xf TE.xE.nf hz hf (pv 1)) pa_nil)))))
        (.nextAs sc__law_told.nd rfl rfl ⟨by rfl, by decide, .inl TE.xH.g⟩ (fun a oe cls d pn hz hf => pss_one (ps_ret (pe_op op_add_str pe_str (pe_callB (Rd.c_reprV hr.gd hr.units) (by rfl) GG.repr (by decide +kernel) (pa_cons (pe_xf TE.xH.xf TE.xH.nf hz hf (pv 1)) pa_nil))))) .rest))))))), ?_⟩
  · refine ⟨fun pins s' σ H' D I h' => ?_⟩
    obtain ⟨Ech, hW, h1, h2, h3⟩ := h'
    exact (pss_one (ps_ret (act _ pn xe Ech _ _ (takes_lenJ tk) fun cls d σ' H' he hl => hW cls d σ' H' hl he))).run pins s' σ H' D I ⟨h1, h2, h3⟩
  · refine ⟨_, fun cls d σ' H' hl hq => ?_, rfl, hc, h⟩
    have E : ∀ i j, i < 6 → j < 6 → ∀ b, decide (i = j) = b → PySem.W.exmOne X.K (.ref (e.at i)) (.ref (e.at j)) = some b := fun i j h1 h2 b hb => hb ▸ TE.ex i j h1 h2
    rcases hq with ⟨ec, hq⟩ | ⟨ec, hq⟩ | hq | hq | hq | hq
    · subst ec
      exact ⟨true, E 0 0 (by decide) (by decide) _ rfl, fun _ _ _ => hq, fun z => nomatch z⟩
    · subst ec
      exact ⟨false, E 1 0 (by decide) (by decide) _ rfl, (fun z => nomatch z), fun _ => ⟨true, E 1 1 (by decide) (by decide) _ rfl, fun _ _ _ => hq, fun z => nomatch z⟩⟩
    · obtain rfl := hq.1
      exact ⟨false, E 2 0 (by decide) (by decide) _ rfl, (fun z => nomatch z), fun _ => ⟨false, E 2 1 (by decide) (by decide) _ rfl, (fun z => nomatch z), fun _ => ⟨true, E 2 2 (by decide) (by decide) _ rfl, fun _ a ha => rd_hand hl (by decide) hq, fun z => nomatch z⟩⟩⟩
    · obtain rfl := hq.1
      exact ⟨false, E 3 0 (by decide) (by decide) _ rfl, (fun z => nomatch z), fun _ => ⟨false, E 3 1 (by decide) (by decide) _ rfl, (fun z => nomatch z), fun _ => ⟨false, E 3 2 (by decide) (by decide) _ rfl, (fun z => nomatch z), fun _ => ⟨true, E 3 3 (by decide) (by decide) _ rfl, fun _ a ha => rd_hand hl (by decide) hq, fun z => nomatch z⟩⟩⟩⟩
    · obtain rfl := hq.1
      exact ⟨false, E 4 0 (by decide) (by decide) _ rfl, (fun z => nomatch z), fun _ => ⟨false, E 4 1 (by decide) (by decide) _ rfl, (fun z => nomatch z), fun _ => ⟨false, E 4 2 (by decide) (by decide) _ rfl, (fun z => nomatch z), fun _ => ⟨false, E 4 3 (by decide) (by decide) _ rfl, (fun z => nomatch z), fun _ => ⟨true, E 4 4 (by decide) (by decide) _ rfl, fun _ a ha => rd_hand hl (by decide) hq, fun z => nomatch z⟩⟩⟩⟩⟩
    · obtain rfl := hq.1
      exact ⟨false, E 5 0 (by decide) (by decide) _ rfl, (fun z => nomatch z), fun _ => ⟨false, E 5 1 (by decide) (by decide) _ rfl, (fun z => nomatch z), fun _ => ⟨false, E 5 2 (by decide) (by decide) _ rfl, (fun z => nomatch z), fun _ => ⟨false, E 5 3 (by decide) (by decide) _ rfl, (fun z => nomatch z), fun _ => ⟨false, E 5 4 (by decide) (by decide) _ rfl, (fun z => nomatch z), fun _ => ⟨true, E 5 5 (by decide) (by decide) _ rfl, fun _ a ha => rd_hand hl (by decide) hq, fun z => nomatch z⟩⟩⟩⟩⟩⟩
/-- what is told of what a lambda does -/
theorem pe_told {T : List (Addr × Str)} {c P : Addr} {k : Nat} {params : Arguments} {body : Expr} {scope : Scope} {t : XK → TE} {p lpos pos : Pos} (hE : Rd.Has X.K X.mg "_law_told" s__law_told) (GG : Glob X.mg) (TE : ErrM X.K X.mg e) (hg : Gl X "_law_told")
    (TB : LamX.TabB X.base X.mg c P) (hcode : X.env.code = .ref c) (hmT : (P, X.env.qual ++ "<lambda>") ∈ T) (hu : ∀ p ∈ T, p.1 = P → p.2 = X.env.qual ++ "<lambda>") (hr : Rd.RoomG true (k + 3) X.A) (L : LamX.LamS X.env.scope scope) (hdef : defaultsOf params X.env = ([], []))
    (hbind : ∀ (q : Str) (cl : List (Str × Addr)) (pm cv ctv : Value), bindArgs (PySem.W.kla_fn "<lambda>" q params body scope cl pm cv ctv) ⟨[], []⟩ = pure [])
    (hbody : ∀ (A : Around) (outer : List Env) (s : Shared) (H : Hp) (E : XK) (f c' : Addr), Room (k + 1) (A.deeper (LamX.lamEnv X scope s.heap.objs.size f c')) → PE (LamX.lamCx X A outer s H E scope f c') body (t E)) :
    PE X (.Call (.Name "_law_told" p) [.Lambda params body scope lpos] [] pos) (LamX.tLam T (TTold X.K e) t) := by
  obtain ⟨g, ⟨fd, F⟩, hm, hk⟩ := hE
  obtain ⟨oc, od, dV, kV, doc, pm, an, cdv, ct, osl, e, lk, hcd, hD, hK⟩ := F.ex
  subst e
  rcases hD with ⟨_, e⟩ | ⟨e, _⟩
  · subst e
    refine LamX.pe_lamcall (a := "_law_call") (Ng := ["_law_call", "e"]) hg hm hk lk hcd (Binds.all fun us hl => match us, hl with | [_], _ => rfl) sc__law_told rfl (.inl rfl) ?_ TB hcode hmT hu hr.toRoom L hdef hbind hbody
    exact told_gives (hr.mono (by omega)) GG TE
  · exact absurd rfl e
end
end M
set_option Elab.async false
set_option linter.all false
set_option maxRecDepth 100000
set_option maxHeartbeats 4000000
namespace M
open PySem L2
local macro_rules | `(tactic| walk_at "rdc") => `(tactic| first | exact Or.inl ⟨by decide, by decide⟩ | exact Or.inr ⟨by decide, by decide⟩ | exact ⟨by decide, by decide, by decide⟩ | exact ⟨by decide, by decide⟩ | decide | omega | assumption | (refine Or.inl ⟨?_, ?_⟩ <;> omega) | (refine Or.inr ⟨?_, ?_⟩ <;> omega) | (refine ⟨?_, ?_⟩ <;> omega))
local macro_rules | `(tactic| walk_at "rd1") => `(tactic| with_reducible first
  | refine Rd.rd_seq ?_ | refine Rd.rd_asg ?_ | refine Rd.rd_op ?_ | (refine' Rd.rd_var ?vh ?_; (case vh => with_unfolding_all rfl)) | refine Rd.rd_c ?_ | refine Rd.rd_I0 ?_ | refine Rd.rd_name0 ?_ | refine Rd.rd_nameS ?_ | refine Rd.rd_fn ?_
  | refine Rd.rd_cb ?_ | refine Rd.rd_cons ?_ | refine Rd.rd_nil ?_ | refine Rd.rd_int ?_ | refine Rd.rd_intB ?_ | refine Rd.rd_abs ?_ | refine Rd.rd_max2 ?_ | refine Rd.rd_min2 ?_
  | refine Rd.rd_call ?_ | refine Rd.rd_ifE ?_ | refine Rd.rd_test ?_ | refine Rd.rd_tB ?_ | refine Rd.rd_blV ?_ | refine Rd.rd_and ?_ | refine Rd.rd_or ?_ | refine Rd.rd_not ?_
  | refine Rd.rd_andV ?_ | refine Rd.rd_orV ?_ | refine Rd.rd_notV ?_ | refine Rd.rd_next ?_ | refine Rd.rd_ret ?_ | refine Rd.rd_drop ?_ | refine Rd.rd_ifS ?_ | refine Rd.rd_nx ?_ | refine Rd.rd_rt ?_ | refine Rd.rd_tMatch ?_ | refine Rd.rd_tCO ?_ | refine Rd.rd_tRevL ?_ | refine Rd.rd_tStar ?_ | refine Rd.rd_joined ?_ | refine Rd.rd_js1 ?_ | refine Rd.rd_js0 ?_ | refine Rd.rd_fmt ?_ | refine Rd.rd_propR ?_ | refine Rd.rd_iZipA ?_ | refine Rd.rd_iEnumT ?_ | refine Rd.rd_iOwn ?_ | (refine' Rd.rd_IET ?ln ?_; (case ln => with_unfolding_all walk_at "at")) | refine Rd.rd_chain ?_ | refine Rd.rd_tPar ?_ | refine Rd.rd_par ?_ | refine Rd.rd_sl ?_ | refine Rd.rd_noPart ?_ | refine Rd.rd_part ?_ | refine Rd.rd_intV ?_ | refine Rd.rd_lc ?_ | (refine' Rd.rd_aug ?vh ?_; (case vh => with_unfolding_all rfl)) | refine Rd.rd_ipI ?_ | refine Rd.rd_for ?_ | (refine' Rd.rd_IT ?ln ?_; (case ln => with_unfolding_all walk_at "at")) | (refine' Rd.rd_IL ?ln ?_; (case ln => with_unfolding_all walk_at "at")) | refine Rd.rd_iTup ?_ | refine Rd.rd_iList ?_ | refine Rd.rd_iRng1 ?_ | refine Rd.rd_iRng2 ?_ | refine Rd.rd_isi (Rd.isi_int Rd.kk_int_int) ?_ | refine Rd.rd_isi (Rd.isi_int Rd.kk_int_bool) ?_ | refine Rd.rd_dget ?_ | refine Rd.rd_din ?_ | refine Rd.rd_dnotin ?_ | refine Rd.rd_dput ?_ | refine Rd.rd_dc ?_ | refine Rd.rd_lc2 ?_ | refine Rd.rd_ltS ?_ | refine Rd.rd_inSg ?_ | refine Rd.rd_iStr ?_ | refine Rd.rd_IS ?_ | refine Rd.rd_prC ?_ | refine Rd.rd_prN ?_ | refine Rd.rd_methR ?_ | refine Rd.rd_cmeth ?_ | refine Rd.rd_fldS ?_ | refine Rd.rd_fld ?_ | (refine' Rd.rd_mkVS ?vh ?_; (case vh => with_unfolding_all rfl)) | (refine' Rd.rd_starT ?ln ?_; (case ln => with_unfolding_all walk_at "at")) | refine Rd.rd_iEnum ?_ | refine Rd.rd_iZip ?_ | (refine' Rd.rd_IE ?ln ?_; (case ln => with_unfolding_all walk_at "at")) | (refine' Rd.rd_IZ ?ln ?lm ?_; (case ln => with_unfolding_all walk_at "at"); (case lm => with_unfolding_all walk_at "at")) | (refine' Rd.rd_gTup ?ln ?lk ?_; (case ln => with_unfolding_all walk_at "at"); (case lk => with_unfolding_all rfl)) | refine Rd.rd_gCons ?_ | refine Rd.rd_gNil ?_ | refine Rd.rd_m1 ?_ | refine Rd.rd_strV ?_ | refine Rd.rd_tXiM ?_ | refine Rd.rd_tXiB ?_ | refine Rd.rd_tXiS ?_ | refine Rd.rd_bm ?_ | refine Rd.rd_bm0 ?_ | refine Rd.rd_isN ?_ | refine Rd.rd_notN ?_ | refine Rd.rd_sub ?_ | refine Rd.rd_un ?_ | refine Rd.rd_U ?_
  | (refine' Rd.rd_eq ?sc ?_; (case sc => with_unfolding_all rfl)) | (refine' Rd.rd_ne ?sc ?_; (case sc => with_unfolding_all rfl))
  | (refine' Rd.rd_I ?cc ?_; (case cc => with_unfolding_all walk_at "rdc"))
  | (refine' Rd.rd_lenL ?ln ?_; (case ln => with_unfolding_all walk_at "at")) | (refine' Rd.rd_lenT ?ln ?_; (case ln => with_unfolding_all walk_at "at"))
  | (refine' Rd.rd_ixL ?ln ?ia ?_; (case ln => with_unfolding_all walk_at "at"); (case ia => with_unfolding_all first | exact Rd.at0 | exact Rd.at1 | exact Rd.at2 | exact Rd.at3 | exact Rd.at4 | rfl)) | (refine' Rd.rd_ixT ?ln ?ia ?_; (case ln => with_unfolding_all walk_at "at"); (case ia => with_unfolding_all first | exact Rd.at0 | exact Rd.at1 | exact Rd.at2 | exact Rd.at3 | exact Rd.at4 | rfl)))
local macro_rules | `(tactic| walk_at "at") => `(tactic| first | assumption | (apply SqL.of; assumption) | (apply SqT.of; assumption) | (apply SqL.of; exact upd_same) | (apply SqT.of; exact upd_same))
local macro_rules | `(tactic| walk_at "rd") => `(tactic| repeat walk_at "rd1")
local macro_rules | `(tactic| walk_at "ne") => `(tactic| first | assumption | exact Ne.symm (by assumption) | (refine' Dice.ne ?D ?h; (case h => assumption); (case D => walk_at "fa")))
local macro_rules | `(tactic| walk_at "kp1") => `(tactic| first | exact kpS (by assumption) | exact Mut.kp (by assumption) | (refine' Rolled.kp ?r ?D; (case r => assumption); (case D => walk_at "fa")))
local macro_rules | `(tactic| walk_at "fa") => `(tactic| first
  | assumption | exact SqT.of (by assumption) | exact SqL.of (by assumption)
  | (refine' Dice.same ?h ?s; (case s => assumption); (case h => walk_at "fa")) | exact Rolled.dice (by assumption)
  | (refine' L2.Same.seq ?s ?h; (case s => assumption); (case h => walk_at "fa")) | (refine' Rolled.sqL ?r ?n ?h; (case r => assumption); (case n => walk_at "ne"); (case h => walk_at "fa"))
  | (refine' Kp.sqT ?k ?h; (case k => walk_at "kp1"); (case h => walk_at "fa")) | (refine' RowAt.kp ?k ?h; (case k => walk_at "kp1"); (case h => walk_at "fa")) | (refine' RowsAt.kp ?k ?h; (case k => walk_at "kp1"); (case h => walk_at "fa")) | (refine' ChgAt.kp ?k ?h; (case k => walk_at "kp1"); (case h => walk_at "fa")) | (refine' PlainAt.kp ?k ?h; (case k => walk_at "kp1"); (case h => walk_at "fa"))
  | (refine' GraphAt.same ?h ?s; (case s => assumption); (case h => walk_at "fa")) | (refine' GraphAt.rolled ?r ?D ?h; (case r => assumption); (case D => walk_at "fa"); (case h => walk_at "fa"))
  | (refine' Rd.Same.at ?s ?h; (case s => assumption); (case h => walk_at "fa")) | (refine' Mut.keep ?m _ _ ?n ?h; (case m => assumption); (case n => walk_at "ne"); (case h => walk_at "fa")) | (refine' Rolled.keep ?r _ _ ?n ?h; (case r => assumption); (case n => walk_at "ne"); (case h => walk_at "fa")))
local macro_rules | `(tactic| walk_at "sm") => `(tactic| first | assumption | exact Same.refl _ | (refine' L2.Same.trans ?h ?s; (case s => assumption); (case h => walk_at "sm")) | (refine' same_mutM ?a ?b ?c; (case c => assumption); (case b => walk_at "nn"); (case a => walk_at "sm")))
local macro_rules | `(tactic| walk_at "rl") => `(tactic| first | assumption | exact Rolled.refl (by walk_at "fa") | (refine' Rolled.trans ?a ?b; (case b => assumption); (case a => walk_at "rl")) | (refine' Rolled.same ?a ?b; (case b => assumption); (case a => walk_at "rl")) | (refine' Rolled.mutM ?a ?n ?e ?m; (case m => assumption); (case n => walk_at "nn"); (case e => walk_at "ne"); (case a => walk_at "rl")))
local macro_rules | `(tactic| walk_at "nn") => `(tactic| first | assumption | (refine' none_pre ?s ?h; (case h => assumption); (case s => walk_at "sm")) | (refine' none_rol ?r ?D ?h; (case h => assumption); (case D => walk_at "fa"); (case r => walk_at "rl")))
local macro_rules | `(tactic| walk_at "sz") => `(tactic| first | (simp only [List.length_cons, List.length_nil]; decide) | (refine Rd.small64 ?_; simp only [List.length_map, List.length_append, List.length_cons, List.length_nil]; omega))
local macro_rules | `(tactic| walk_at "at") => `(tactic| walk_at "fa")
local macro_rules | `(tactic| walk_at "rd1") => `(tactic| with_reducible first
  | (refine' Rd.rd_mkTup ?sz fun _ _ _ _ _ => ?_; (case sz => with_unfolding_all walk_at "sz")) | (refine' Rd.rd_mkLst ?sz fun _ _ _ _ _ => ?_; (case sz => with_unfolding_all walk_at "sz")) | (refine' Rd.rd_mkTupF ?sz fun _ _ _ _ _ => ?_; (case sz => with_unfolding_all walk_at "sz"))
  | (refine' Rd.rd_tupleL ?ln fun _ _ _ _ _ => ?_; (case ln => with_unfolding_all walk_at "at")) | (refine' Rd.rd_tupleT ?ln ?_; (case ln => with_unfolding_all walk_at "at")) | (refine' Rd.rd_listL ?ln fun _ _ _ _ _ => ?_; (case ln => with_unfolding_all walk_at "at")) | (refine' Rd.rd_listT ?ln fun _ _ _ _ _ => ?_; (case ln => with_unfolding_all walk_at "at"))
  | (refine' fld_c ?T ?h fun _ _ => ?_; (case T => assumption); (case h => with_unfolding_all walk_at "fa")) | (refine' fld_s ?T ?h fun _ _ => ?_; (case T => assumption); (case h => with_unfolding_all walk_at "fa")) | (refine' fld_n ?T ?h fun _ _ => ?_; (case T => assumption); (case h => with_unfolding_all walk_at "fa"))
  | refine Rd.rd_get2 ?_ | (refine' Rd.rd_getA ?ln ?_; (case ln => with_unfolding_all first | exact Or.inl (by walk_at "at") | exact Or.inr ⟨_, by walk_at "at"⟩)) | (refine' Rd.rd_getE ?ln ?_; (case ln => with_unfolding_all first | exact Or.inl (by walk_at "at") | exact Or.inr ⟨_, by walk_at "at"⟩)) | refine Rd.rd_daug ?_ | refine Rd.rd_items ?_ | refine Rd.rd_frz ?_ | refine Rd.rd_vals ?_ | refine Rd.rd_kw0 ?_ | refine Rd.rd_callN ?_
  | (refine' Rd.rd_isi (Rd.isi_tup ?ln Rd.kk_tup_tup) ?_; (case ln => with_unfolding_all walk_at "at")) | refine Rd.rd_isi (Rd.isi_str (b := true) kk_str_str) ?_)
local macro_rules | `(tactic| walk_at "st") => `(tactic| (simp only [List.map_cons, List.map_nil, L2.wipe, List.set_cons_zero, List.set_cons_succ]; walk_at "rd"; refine ⟨rfl, ?_⟩; walk_at "rd"))
def spMoInit (M : Addr) : Sp := Rd.mkSp (fun (a : (Addr × Addr) × Str × Addr × Addr) => [.ref a.1.1, .str a.2.1, .ref a.2.2.1, .ref a.2.2.2]) fun a H Q _ => H a.1.1 = some (.ins M a.1.2 []) ∧ ∀ H', SameBut a.1.1 H H' → H' a.1.1 = some (.ins M a.1.2 (fldsO a.2.1 a.2.2.1 a.2.2.2)) → Q .non H'
/-- what comes of it, told -/
def AnsQ (e : AdsE) (M : Addr) (cs : List Str) (o : Mo) (H : Hp) (Q : VK) (E : XK) : Ans → Prop
  | .op => ∀ H', Same H H' → E (.ref e.IO) none H'
  | .low c => ∀ d H', H d = none → Same H H' → H' d = some (.xd [("counter", .str c)]) → E (.ref e.NE) (some d) H'
  | .to st f => ∀ p H', H p = none → Same H H' → MoAt M cs H' p (o.aft st f) → Q (.ref p) H'
def spBehind (K : PySem.W.Frag) (e : AdsE) (m : AdsM) : Sp := Rd.mkSp (fun (a : (Addr × Addr) × List Str × Mo × Tr) => [.ref a.1.1, .ref a.1.2]) fun a H Q E => MoAt m.M a.2.1 H a.1.1 a.2.2.1 ∧ RowAt K H a.1.2 a.2.2.2 ∧ TrOk a.2.2.2 ∧ (∀ kv ∈ a.2.2.2.chg, kv.1 ∈ a.2.1) ∧ Rd.Asc a.2.1 ∧ a.2.1.length ≤ 5 ∧ (∀ c ∈ a.2.1, 0 ≤ a.2.2.1.ld c) ∧ AnsQ e m.M a.2.1 a.2.2.1 H Q E (ansOf a.2.1 a.2.2.1.st a.2.2.1.ld a.2.2.2)
theorem addF_nil (f : Str → Int) : addF f [] = f := funext fun c => by unfold addF; rw [stp_nil, Int.add_zero]
/-- a dict that was locked is as before -/
theorem same_unlockJ {H H' : Hp} {b : Addr} {u o : HO} (h : H b = some u) (s : Same (upd H b o) H') : Same H (upd H' b u) := fun c v e => by
  by_cases z : c = b
  · rw [z, upd_same, ← h, ← z, e]
  · rw [upd_ne z]
    exact s _ _ (by rw [upd_ne z]; exact e)
def keyT (k : Key) : Str := match k with
  | .inr c => c
  | _ => ""
theorem mem_ldK {cs : List Str} {f : Str → Int} {kv : Key × V} (h : kv ∈ ldK cs f) : ∃ c ∈ cs, kv = (Sum.inr c, V.int (f c)) := by
  obtain ⟨c, hc, rfl⟩ := List.mem_map.mp h
  exact ⟨c, hc, rfl⟩
theorem ldK_keys {cs : List Str} {f : Str → Int} (nd : cs.Nodup) : ((ldK cs f).map (·.1)).Nodup := by
  unfold ldK
  rw [List.map_map]
  exact nd.map _ fun a b h q => h (Sum.inr.inj q)
section
variable {gd : Bool} {P : Program} {w : World} {K : PySem.W.Frag} {mg : Str → Option Value} {base : Heap} {a : AdsG} {m : AdsM} {e : AdsE}
theorem ok_xiE (h : Rd.HasAt K e.fE "__init__" "NotEnough.__init__" s_NotEnough___init__) (TE : ErrM K mg e) : Rd.FnG gd P w K mg base CX0 1 e.fE (Rd.spXr e.NE "counter") := by
  refine h.fn sc_NotEnough___init__ (fun _ => rfl) (fun _ _ _ _ _ _ us hl => match us, hl with | [_, _], _ => rfl) fun cdv A outer s H Q E a hr hp => ?_
  obtain ⟨a, v⟩ := a
  obtain ⟨h0, k⟩ := hp
  refine ⟨_, pss_cons (ps_expr (Rd.pe_xiB (Rd.ini_of PySem.F.excBase_ArithmeticError) (by decide +kernel) TE.xE.i (by rfl) TE.xE.gB (by kernel_rfl) (by decide) (by decide) (by kernel_rfl) (by decide +kernel) (by decide +kernel) TE.xE.v0 (pa_cons (pv 0) (pa_cons pe_str pa_nil)))) (pss_one (Rd.ps_xiS F.store_ArithmeticError TE.xE.i TE.xE.tv (pv 0) (pv 1))), ?_⟩
  refine Rd.rd_start [some (V.ref a), some v] rfl ?_
  walk_at "rd"
  refine ⟨a, _, rfl, by show 1 ≤ 1000; decide, h0, ?_⟩
  walk_at "rd"
  refine ⟨a, rfl, h0, fun dx hd hne => ?_⟩
  exact k dx _ hd hne upd_same (by rw [upd_ne hne, upd_same]) fun b o hb e => by rw [upd_ne hb, upd_ne (ne_of_none e hd)]; exact e
theorem ok_moinit (T : MomC K mg m) (F : Rd.HasAt K m.fm "__init__" "Moment.__init__" s_Moment___init__) : FnR P w K mg base CX0 1 m.fm (spMoInit m.M) := by
  refine Rd.FnG.toR (F.fn sc_Moment___init__ (fun _ => rfl) (fun _ _ _ _ _ _ us hl => match us, hl with | [_, _, _, _], _ => rfl) fun cdv A outer s H Q E b hr h => ?_)
  obtain ⟨⟨x, dx⟩, st, dl, dt⟩ := b
  obtain ⟨hx, k⟩ := h
  dsimp only at hx k
  refine ⟨_, (pss_cons (ps_fld (pv 0) (pv 1) rfl)
      (pss_cons (ps_fld (pv 0) (pv 2) rfl)
      (pss_one (ps_fld (pv 0) (pv 3) rfl)))), ?_⟩
  try simp only [Rd.noxK, Rd.cxK]
  refine Rd.rd_start [some (V.ref x), some (V.str st), some (V.ref dl), some (V.ref dt)] rfl ?_
  walk_at "rd"
  refine ⟨x, m.M, dx, [], rfl, hx, T.cl, T.nS, by show 0 < 1000; decide, ?_⟩
  walk_at "rd"
  refine ⟨x, m.M, dx, _, rfl, upd_same, T.cl, T.nD, by show 1 < 1000; decide, ?_⟩
  walk_at "rd"
  refine ⟨x, m.M, dx, _, rfl, upd_same, T.cl, T.nT, by show 2 < 1000; decide, ?_⟩
  walk_at "rd"
  refine k _ (fun b o hb h => ?_) upd_same
  rw [upd_ne hb, upd_ne hb, upd_ne hb]; exact h
theorem make_mo {M : Addr} {H : Hp} {Q : VK} {st : Str} {dl dt : Addr} (q : ∀ p dx H', H p = none → Same H H' → H' p = some (.ins M dx (fldsO st dl dt)) → Q (.ref p) H') : Rd.rMake M (spMoInit M) E0 [.str st, .ref dl, .ref dt] H Q := by
  intro x dx hx hdx hne
  refine Rd.rd_sp ((x, dx), st, dl, dt) rfl ⟨upd_same, fun H' s h => ⟨rfl, ?_⟩⟩
  refine q x dx H' hx (fun b o e => ?_) h
  have n1 := ne_of_none e hx
  have n2 := ne_of_none e hdx
  exact s b o n1 (by rw [upd_ne n1, upd_ne n2]; exact e)
theorem ok_behind (TM : MachC K mg m) (TE : ErrM K mg e) (F : Rd.HasAt K m.bh "behind" "Moment.behind" s_Moment_behind) (g : Glob mg) (c_init : Rd.FnG false P w K mg base CX0 1 e.fE (Rd.spXr e.NE "counter")) (c_Moment : FnR P w K mg base CX0 1 m.fm (spMoInit m.M)) : FnR P w K mg base (L2.CX P w) 3 m.bh (spBehind K e m) := by
  refine Rd.FnG.toR (F.fnX sc_Moment_behind (fun _ => rfl) (fun _ _ _ _ _ _ us hl => match us, hl with | [_, _], _ => rfl) fun cdv A outer s H Q E b hr h => ?_)
  obtain ⟨⟨p, r⟩, cs, o, t⟩ := b
  obtain ⟨hp, hrow, TO, hc, hA, c5, h0, k⟩ := h
  dsimp only at hp hrow TO hc hA c5 h0 k
  obtain ⟨c, hr4, ps, h2, hP⟩ := id hrow
  refine ⟨_, (pss_cons (ps_asg (pv 1) (pg_tup rfl (pgs_cons (pg_name (i := 2) sc_Moment_behind.nd rfl (Or.inl rfl)) (pgs_cons (pg_name (i := 3) sc_Moment_behind.nd rfl (Or.inl rfl)) (pgs_cons (pg_name (i := 4) sc_Moment_behind.nd rfl (Or.inl rfl)) (pgs_cons (pg_name (i := 5) sc_Moment_behind.nd rfl (Or.inl rfl)) pgs_nil))))))
      (pss_cons (ps_if (pt_cmpR op_ne (pv 3) (pe_fld (pv 0) rfl) (nomark _)) (pss_one (ps_raise rfl (takes_of rfl rfl rfl rfl) (pmk_own PySem.F.excBase_ValueError TE.xO.p TE.xO.g TE.xO.k (raises_own TE.xO.b TE.xO.t) (by exact rfl)))) pss_nil)
      (pss_cons (ps_set (i := 6) sc_Moment_behind.nd rfl (Or.inl rfl) (pe_callTy Rd.c_dictD (by rfl) g.dict (by decide +kernel) (pa_cons (pe_fld (pv 0) rfl) pa_nil)))
      (pss_cons (ps_for (passes_of rfl) rfl (pi_tup (pv 5)) (pg_tup rfl (pgs_cons (pg_name (i := 7) sc_Moment_behind.nd rfl (Or.inl rfl)) (pgs_cons (pg_name (i := 8) sc_Moment_behind.nd rfl (Or.inl rfl)) pgs_nil))) (pss_cons (ps_daug (hu_of hr.toRoom) (pv 6) (pv 7) (pv 8) in_add (fun _ _ _ => rfl))
      (pss_one (ps_if (pt_cmpR op_lt (pe_dget (hu_of hr.toRoom) (pv 6) (pv 7) (fun _ _ => rfl)) pe_int (nomark _)) (pss_one (ps_raise rfl (takes_of rfl rfl rfl rfl) (Rd.pmk_xi PySem.F.excBase_ArithmeticError (by decide +kernel) (by decide +kernel) (by decide +kernel) TE.xE.i TE.xE.n1 TE.xE.n2 TE.xE.b TE.xE.t c_init (hr.mono (by decide)) pass0 (by exact rfl) TE.xE.g (pa_cons (pv 7) pa_nil)))) pss_nil))))
      (pss_cons (ps_lock (Rd.ps_setDc (i := 9) (own := [("counter", 7), ("load", 10)]) (by rfl) sc_Moment_behind.nd rfl rfl (Rd.sw_trueD rfl rfl rfl (by decide +kernel)) (pi_items (pv 6)) (blkOk_by (own := [("counter", 7), ("load", 10)]) (N := ["self", "row", "name", "source", "target", "change", "loads", "counter", "number", "tops", "load"]) (sc := defScope s_Moment_behind) (by decide +kernel)) (fun _ _ _ _ _ => (Rd.pg_tupK (K := K) (n := 2) (by rfl) rfl (pgs_cons (pg_name (i := 7) sc_Moment_behind.nd rfl (Or.inl rfl)) (pgs_cons (pg_name (i := 10) sc_Moment_behind.nd rfl (Or.inl rfl)) pgs_nil)))) (fun _ _ _ _ _ => pts_nil) (fun _ _ _ _ _ => (pv 7)) (fun _ _ _ _ _ => (pe_callB (Rd.c_maxLK (K := K) (by rfl) rfl) (by rfl) g.max (by decide +kernel) (pa_cons (Rd.pe_lst (pa_cons (pv 10) (pa_cons (pe_dget (hu_of hr.toRoom) (Rd.pe_fldK (K := K) (by rfl) (pv 0) rfl) (pv 7) (fun _ _ => rfl)) pa_nil))) pa_nil)))))
      (pss_one (ps_ret (Rd.pe_mk TM.o.mk_ c_Moment (hr.mono (by decide)).toRoom (by rfl) TM.o.mgC pass0 (pa_cons (pv 4) (pa_cons (pv 6) (pa_cons (pv 9) pa_nil))))))))))), ?_⟩
  try simp only [Rd.noxK, Rd.cxK]
  refine Rd.rd_start [some (V.ref p), some (V.ref r), none, none, none, none, none, none, none, none, none] rfl ?_
  walk_at "rd"
  refine TM.o.st hp ?_
  walk_at "rd"
  unfold ansOf at k
  by_cases es : t.src = o.st
  · rw [if_pos es] at k
    refine Rd.if_f (by rw [es, decide_eq_true rfl]; rfl) ?_
    walk_at "rd"
    refine TM.o.ld hp fun dl hl => ?_
    walk_at "rd"
    refine Rd.rd_dictD hl fun L H1 nL s1 hL => ?_
    walk_at "rd"
    have hc1 := h2.same s1
    have hP1 : Paired (PairAt K H1) ps t.chg := L2.Paired.mapP hP fun _ _ q => (kpS s1).sqT q
    refine Rd.rd_IT hc1.sq ?_
    have ndc := TO.2.2.2.1.1.nodup
    refine Rd.for_tup (K := K) (xs := ps.map V.ref) (fun i σ' H' => ∃ v7 v8, σ' = [some (V.ref p), some (V.ref r), some (V.str t.nm), some (V.str t.src), some (V.str t.tgt), some (V.ref c), some (V.ref L), v7, v8, none, none] ∧ Mut L H1 H' ∧ Same H H' ∧ H' L = some (.dK (ldK cs (addF o.ld (t.chg.take i)))) ∧ ∀ j, j < i → ∀ x, t.chg[j]? = some x → 0 ≤ addF o.ld t.chg x.1)
      ⟨none, none, rfl, ⟨fun _ _ _ e => e, Kp.refl _⟩, s1, (by rw [List.take_zero, addF_nil]; exact hL), fun j hj => absurd hj (Nat.not_lt_zero j)⟩ (fun i σ' H' _ q => ?_) (fun i v σ' H2 hv q => ?_) (fun σ' H2 q => ?_)
    · obtain ⟨v7, v8, rfl, u, _⟩ := q
      exact u.kp.sqT hc1.sq
    · obtain ⟨v7, v8, rfl, u, s2, hL2, pre⟩ := q
      rw [List.getElem?_map] at hv
      obtain ⟨pr, hpr, rfl⟩ := Option.map_eq_some_iff.mp hv
      obtain ⟨kv, hkv, hq⟩ := paired_get hP1 hpr
      have hq2 : SqT K H2 pr [.str kv.1, .int kv.2] := u.kp.sqT hq
      have hm := hc kv (List.mem_of_getElem? hkv)
      refine Rd.rd_gTup hq2 rfl ?_
      walk_at "rd"
      simp only [List.set_cons_zero, List.set_cons_succ]
      refine ⟨L, _, rfl, dg_ld hL2 hm, ?_⟩
      walk_at "rd"
      refine rd_inAdd ?_
      refine ⟨_, dp_ld hL2 hm (by omega), ?_⟩
      have hi : i < t.chg.length := (List.getElem?_eq_some_iff.mp hkv).1
      have nin : kv.1 ∉ (t.chg.take i).map (·.1) := by
        have nd2 : ((t.chg.take (i + 1)).map (·.1)).Nodup := by
          rw [List.map_take]
          exact ndc.sublist (List.take_sublist _ _)
        rw [List.take_add_one, hkv, List.map_append] at nd2
        exact fun z => (List.nodup_append.mp nd2).2.2 _ z _ (List.mem_singleton.mpr rfl) rfl
      have ef : (fun x => if x = kv.1 then addF o.ld (t.chg.take i) kv.1 + kv.2 else addF o.ld (t.chg.take i) x) = addF o.ld (t.chg.take (i + 1)) := by
        funext x
        have e1 : t.chg.take (i + 1) = t.chg.take i ++ [kv] := by rw [List.take_add_one, hkv]; rfl
        unfold addF
        rw [e1, stp_app nin]
        by_cases z : x = kv.1
        · rw [if_pos z, if_pos z, z, stp_not nin]; omega
        · rw [if_neg z, if_neg z]
      have eN : addF o.ld (t.chg.take (i + 1)) kv.1 = addF o.ld t.chg kv.1 := by
        rw [← ef]
        show (if kv.1 = kv.1 then addF o.ld (t.chg.take i) kv.1 + kv.2 else _) = _
        unfold addF
        rw [if_pos rfl, stp_not nin, stp_mem ndc (List.mem_of_getElem? hkv)]; omega
      rw [ef]
      have u3 : Mut L H2 (upd H2 L (.dK (ldK cs (addF o.ld (t.chg.take (i + 1)))))) := mut_upd hL2 rfl
      have s3 : Same H (upd H2 L (.dK (ldK cs (addF o.ld (t.chg.take (i + 1)))))) := same_mutM s2 nL u3
      have hL3 : upd H2 L (.dK (ldK cs (addF o.ld (t.chg.take (i + 1))))) L = _ := upd_same
      generalize upd H2 L (.dK (ldK cs (addF o.ld (t.chg.take (i + 1))))) = H3 at u3 s3 hL3 ⊢
      have u13 : Mut L H1 H3 := ⟨fun b o hb e => u3.keep b o hb (u.keep b o hb e), u.kp.trans u3.kp⟩
      walk_at "rd"
      refine ⟨L, _, rfl, dg_ld hL3 hm, ?_⟩
      walk_at "rd"
      rw [eN]
      by_cases neg : addF o.ld t.chg kv.1 < 0
      · refine Rd.if_t (decide_eq_true neg) ?_
        obtain ⟨rest, el⟩ := low_first (cs := cs) (f := o.ld) (chg := t.chg) h0 hA TO.2.2.2.1.1 hkv hm neg pre
        rw [el] at k
        refine Rd.rd_mkXi ?_
        walk_at "rd"
        exact ⟨_, rfl, fun d H' hd s' hx => k d H' (none_pre s3 hd) (s3.trans s') hx⟩
      · refine Rd.if_f (decide_eq_false neg) ?_
        refine Rd.rd_next ?_
        refine ⟨_, _, rfl, u13, s3, hL3, fun j hj x hx => ?_⟩
        rcases Nat.lt_or_ge j i with l | l
        · exact pre j l x hx
        · obtain rfl : j = i := by omega
          rw [hkv] at hx
          cases hx
          omega
    · obtain ⟨v7, v8, rfl, u, s2, hL2, pre⟩ := q
      rw [List.length_map, hP.length] at hL2 pre
      rw [List.take_length] at hL2
      have el : lowL cs o.ld t.chg = [] := low_none h0 fun x hx hin => by
        obtain ⟨kv, hkv, rfl⟩ := List.mem_map.mp hin
        obtain ⟨j, hj⟩ := List.mem_iff_getElem?.mp hkv
        exact pre j (List.getElem?_eq_some_iff.mp hj).1 kv hj
      rw [el] at k
      refine Rd.rd_nx ?_
      walk_at "rd"
      refine ⟨L, _, hL2, trivial, fun od => ?_⟩
      have sL : Same H (upd H2 L (.frz od (.dK (ldK cs (addF o.ld t.chg))))) := same_mutM s2 nL (mut_upd hL2 rfl)
      have fL : upd H2 L (.frz od (.dK (ldK cs (addF o.ld t.chg)))) L = _ := upd_same
      refine Rd.rd_asg (Rd.rd_dc (Rd.rd_iItems (Rd.rd_var rfl ⟨L, od, _, rfl, fL, ?_⟩)))
      refine Rd.dc_items (fun kv => V.int (maxF (addF o.ld t.chg) o.tp (keyT kv.1))) (by rw [ldK_len]; omega) (ldK_keys hA.nodup) fL (fun kv T H3 N hm s3 hT hN => ?_) (fun D H4 nD s4 hD => ?_)
      · obtain ⟨x, hx, rfl⟩ := mem_ldK hm
        have hp3 := (hp.same sL).same s3
        refine Rd.rd_start' [some (V.ref p), some (V.ref r), some (V.str t.nm), some (V.str t.src), some (V.str t.tgt), some (V.ref c), some (V.ref L), none, v8, none, none] rfl ?_
        have hT' : SqT K H3 T [.str x, .int (addF o.ld t.chg x)] := SqT.of hT
        refine Rd.rd_gTup hT' rfl ?_
        walk_at "rd"
        refine ⟨rfl, ?_⟩
        walk_at "rd"
        refine TM.o.tp hp3 fun dt ht => ?_
        walk_at "rd"
        refine ⟨dt, _, rfl, dg_ld ht hx, ?_⟩
        walk_at "rd"
        rename_i l5 H5 n5 s5 h5
        refine Rd.rd_maxL2 h5 ?_
        exact hN _ s5
      · walk_at "rd"
        have hne : D ≠ L := fun z => by rw [z, fL] at nD; cases nD
        have s5 := same_unlockJ hL2 s4
        have hL5 : upd H4 L (.dK (ldK cs (addF o.ld t.chg))) L = _ := upd_same
        have hD5 : upd H4 L (.dK (ldK cs (addF o.ld t.chg))) D = some (.dK (ldK cs (maxF (addF o.ld t.chg) o.tp))) := by
          rw [upd_ne hne, hD]
          unfold ldK
          rw [List.map_map]
          rfl
        refine ⟨s4 _ _ fL, ?_⟩
        refine Rd.rd_nx ?_
        generalize upd H4 L (.dK (ldK cs (addF o.ld t.chg))) = H5 at s5 hL5 hD5 ⊢
        walk_at "rd"
        refine make_mo fun q dx H6 nq s6 h6 => ?_
        have s06 := s2.trans (s5.trans s6)
        exact k q H6 (none_pre (s2.trans s5) nq) s06 ⟨dx, L, D, h6, s6 _ _ hL5, s6 _ _ hD5⟩
  · rw [if_neg es] at k
    refine Rd.if_t (by rw [decide_eq_false fun z => es (V.str.inj z)]; rfl) ?_
    exact k H (Same.refl H)
end
end M
set_option Elab.async false
set_option linter.all false
set_option maxRecDepth 100000
set_option maxHeartbeats 4000000
namespace Rd
open PySem PySem.Spec PyProof.Rows L2
/-- the __init__ (or method) at f, its keyword-only parameter last -/
def FnKA (P : Program) (w : World) (K : PySem.W.Frag) (mg : Str → Option Value) (base : Heap) (CX : CXT) (k : Nat) (f : Addr) (kw : Str) (ps : List Str) (dv : V) (sp : Sp) : Prop :=
  ∃ fd, FnOk P w K mg base CX k f fd ps sp ∧ (∃ ds, Vals [dv] ds ∧ Binds K fd ps ds) ∧ KBn K fd ps (ps.length - 1) [kw] (fun us ws => us ++ ws) (fun vs zs => vs ++ zs)
section
variable {P : Program} {w : World} {K : PySem.W.Frag} {mg : Str → Option Value} {base : Heap} {CX : CXT} {k : Nat} {f : Addr} {x qual kw : Str} {st : Stmt} {N ps : List Str} {dv : V}
theorem HasAtK.fnKA {α : Type} {args : α → List V} {pre : α → Hp → VK → XK → Prop} (h : HasAtK K f x qual st kw dv) (S : FnScope N ps (defScope st)) (hl : ∀ a, (args a).length = ps.length) (hn : 1 ≤ ps.length)
    (hb0 : ∀ (D : Addr) (doc pm : Value) (an : Option Addr) (cdv ct : Value) (us ks : List Value), us.length = ps.length - 1 → ks.length = 1 → KwChain D (([(kw, dv)].map (·.1)).zip ks) (bindArgs (PySem.W.fnOf x qual (defArgs st) (defBody st) (defScope st) .none (.ref D) doc pm an cdv ct) ⟨us, []⟩) (ps.zip (us ++ ks)))
    (hb1 : ∀ (kV doc pm : Value) (an : Option Addr) (cdv ct : Value) (us ws : List Value), us.length = ps.length - 1 → ws.length = 1 → bindArgs (PySem.W.fnOf x qual (defArgs st) (defBody st) (defScope st) .none kV doc pm an cdv ct) ⟨us, [kw].zip ws⟩ = pure (ps.zip (us ++ ws)))
    (body : ∀ (cdv : Value) (A : Around) (outer : List Env) (s : Shared) (H : Hp) (Q : VK) (E : XK) (a : α), Room k (A.deeper (PyProof.Rows.envOfC qual (defScope st) s.heap.objs.size f cdv)) → pre a H Q E →
      ∃ t, PSs (cxOf CX P w K mg base N qual (defScope st) f cdv A outer s H E) (defBody st) t ∧ t { nx := fun _ H' => Q .non H', rt := Q } (start N (args a)) H) :
    FnKA P w K mg base CX (k + 1) f kw ps dv (mkSp args pre) := by
  obtain ⟨fd, F⟩ := h
  refine ⟨fd, F.ok S (fun vs H Q E hsp => by obtain ⟨a, rfl, _⟩ := hsp; exact hl a) fun cdv A outer s H vs Q E hr hsp => ?_, ?_, ?_⟩
  · obtain ⟨a, rfl, ha⟩ := hsp
    exact body cdv A outer s H Q E a hr ha
  · exact F.binds0 (ps.length - 1) (fun z => nomatch z) (by show ps.length - 1 + 1 = ps.length; omega) hb0
  · obtain ⟨oc, od, dV, kV, doc, pm, an, cdv, ct, osl, rfl, lk, hcd, hD, hK⟩ := F.ex
    rcases hD with ⟨_, rfl⟩ | ⟨e, _⟩
    · exact ⟨fun s us ws X l1 l2 => .of_eq (hb1 kV doc pm an cdv ct us ws l1 l2), fun r1 r2 => r1.append r2⟩
    · exact absurd rfl e
end
section
variable {X : Cx} {CX : CXT} {k n : Nat} {f C : Addr} {x kw : Str} {ps : List Str} {dv : V} {sp : Sp} {E : XK} {p pos kpos : Pos} {e e3 : Expr} {es : List Expr} {t : TA} {tk : TE}
/-- C(e, ..): the keyword is left out -/
def rMkD (C : Addr) (sp : Sp) (dv : V) (E : XK) : List V → Hp → VK → Prop := fun vs H Q => ∀ x dx, H x = Option.none → H dx = Option.none → dx ≠ x → sp (.ref x :: (vs ++ [dv])) (upd (upd H dx (.own x)) x (.ins C dx [])) (fun v H2 => v = .non ∧ Q (.ref x) H2) E
theorem pe_mkKA0 (M : Mk X.K C f) (h : FnKA X.prog X.w X.K X.mg X.base CX k f kw ps dv sp) (hr : Room (k + 1) X.A) (hg : Gl X x) (hm : X.mg x = some (.ref C)) (hx : Passes CX X E) (ha : PA X (e :: es) t) (hdb : (x == ("__debug__" : Str)) = false := by decide)
    (he : starEach (e :: es) X.env = (false, eval e X.env) :: starEach es X.env := by rfl) (hpl : (backTo pos (starEach es X.env)).any (·.1) = false := by rfl) : PE X (.Call (.Name x p) (e :: es) [] pos) (tCB (rMkD C sp dv E) t) := by
  obtain ⟨fd, F, ⟨ds, hd, hb⟩, _⟩ := h
  exact pe_make M F hr hg hm hb hd hx ha hdb he hpl
/-- C(e, .., kw = e3) -/
def rMkW (C : Addr) (sp : Sp) (n : Nat) (E : XK) (tk : TE) (σ : L2.St) (Q : VK) (vs : List V) (H1 : Hp) : Prop := tk σ H1 fun z H2 => vs.length = n ∧ [z].length = 1 ∧ ∀ x dx, H2 x = Option.none → H2 dx = Option.none → dx ≠ x → sp (.ref x :: (vs ++ [z])) (upd (upd H2 dx (.own x)) x (.ins C dx [])) (fun v H3 => v = .non ∧ Q (.ref x) H3) E
def tMkW (C : Addr) (sp : Sp) (n : Nat) (E : XK) (t : TA) (tk : TE) : TE := fun σ H Q => t σ H fun vs H1 => rMkW C sp n E tk σ Q vs H1
theorem pe_mkKA (M : Mk X.K C f) (h : FnKA X.prog X.w X.K X.mg X.base CX k f kw ps dv sp) (hn : ps.length - 1 = n + 1) (hr : Room (k + 1) X.A) (hg : Gl X x) (hm : X.mg x = some (.ref C)) (hx : Passes CX X E) (ha : PA X (e :: es) t) (hk3 : PE X e3 tk)
    (hall : (backToKw pos (keywordEach [⟨some kw, e3, kpos⟩] X.env)).all (·.1.isSome) = true := by rfl) (hks : (backToKw pos (keywordEach [⟨some kw, e3, kpos⟩] X.env)).filterMap (·.1) = [kw] := by rfl) (hdb : (x == ("__debug__" : Str)) = false := by decide)
    (he : starEach (e :: es) X.env = (false, eval e X.env) :: starEach es X.env := by rfl) (hpl : ((backTo pos (starEach (e :: es) X.env)).any (·.1) || (backToKw pos (keywordEach [⟨some kw, e3, kpos⟩] X.env)).any (·.1.isNone)) = false := by rfl) :
    PE X (.Call (.Name x p) (e :: es) [⟨some kw, e3, kpos⟩] pos) (tMkW C sp n E t tk) := by
  obtain ⟨fd, F, _, hb⟩ := h
  rw [hn] at hb
  exact pe_makeK (kws := [⟨some kw, e3, kpos⟩]) M F hr hg hm hb hx ha (pk_cons hk3 pk_nil) hall hks hdb he hpl
theorem rd_mkW {σ : L2.St} {H : Hp} {Q : VK} (q : t σ H fun vs H1 => rMkW C sp n E tk σ Q vs H1) : tMkW C sp n E t tk σ H Q := q
end
end Rd
set_option Elab.async false
set_option linter.all false
set_option maxRecDepth 100000
set_option maxHeartbeats 4000000
namespace M
open PySem L2
local macro_rules | `(tactic| walk_at "rdc") => `(tactic| first | exact Or.inl ⟨by decide, by decide⟩ | exact Or.inr ⟨by decide, by decide⟩ | exact ⟨by decide, by decide, by decide⟩ | exact ⟨by decide, by decide⟩ | decide | omega | assumption | (refine Or.inl ⟨?_, ?_⟩ <;> omega) | (refine Or.inr ⟨?_, ?_⟩ <;> omega) | (refine ⟨?_, ?_⟩ <;> omega))
local macro_rules | `(tactic| walk_at "rd1") => `(tactic| with_reducible first
  | refine Rd.rd_seq ?_ | refine Rd.rd_asg ?_ | refine Rd.rd_op ?_ | (refine' Rd.rd_var ?vh ?_; (case vh => with_unfolding_all rfl)) | refine Rd.rd_c ?_ | refine Rd.rd_I0 ?_ | refine Rd.rd_name0 ?_ | refine Rd.rd_nameS ?_ | refine Rd.rd_fn ?_
  | refine Rd.rd_cb ?_ | refine Rd.rd_cons ?_ | refine Rd.rd_nil ?_ | refine Rd.rd_int ?_ | refine Rd.rd_intB ?_ | refine Rd.rd_abs ?_ | refine Rd.rd_max2 ?_ | refine Rd.rd_min2 ?_
  | refine Rd.rd_call ?_ | refine Rd.rd_ifE ?_ | refine Rd.rd_test ?_ | refine Rd.rd_tB ?_ | refine Rd.rd_blV ?_ | refine Rd.rd_and ?_ | refine Rd.rd_or ?_ | refine Rd.rd_not ?_
  | refine Rd.rd_andV ?_ | refine Rd.rd_orV ?_ | refine Rd.rd_notV ?_ | refine Rd.rd_next ?_ | refine Rd.rd_ret ?_ | refine Rd.rd_drop ?_ | refine Rd.rd_ifS ?_ | refine Rd.rd_nx ?_ | refine Rd.rd_rt ?_ | refine Rd.rd_tMatch ?_ | refine Rd.rd_tCO ?_ | refine Rd.rd_tRevL ?_ | refine Rd.rd_tStar ?_ | refine Rd.rd_joined ?_ | refine Rd.rd_js1 ?_ | refine Rd.rd_js0 ?_ | refine Rd.rd_fmt ?_ | refine Rd.rd_propR ?_ | refine Rd.rd_iZipA ?_ | refine Rd.rd_iEnumT ?_ | refine Rd.rd_iOwn ?_ | (refine' Rd.rd_IET ?ln ?_; (case ln => with_unfolding_all walk_at "at")) | refine Rd.rd_chain ?_ | refine Rd.rd_tPar ?_ | refine Rd.rd_par ?_ | refine Rd.rd_sl ?_ | refine Rd.rd_noPart ?_ | refine Rd.rd_part ?_ | refine Rd.rd_intV ?_ | refine Rd.rd_lc ?_ | (refine' Rd.rd_aug ?vh ?_; (case vh => with_unfolding_all rfl)) | refine Rd.rd_ipI ?_ | refine Rd.rd_for ?_ | (refine' Rd.rd_IT ?ln ?_; (case ln => with_unfolding_all walk_at "at")) | (refine' Rd.rd_IL ?ln ?_; (case ln => with_unfolding_all walk_at "at")) | refine Rd.rd_iTup ?_ | refine Rd.rd_iList ?_ | refine Rd.rd_iRng1 ?_ | refine Rd.rd_iRng2 ?_ | refine Rd.rd_isi (Rd.isi_int Rd.kk_int_int) ?_ | refine Rd.rd_isi (Rd.isi_int Rd.kk_int_bool) ?_ | refine Rd.rd_dget ?_ | refine Rd.rd_din ?_ | refine Rd.rd_dnotin ?_ | refine Rd.rd_dput ?_ | refine Rd.rd_dc ?_ | refine Rd.rd_lc2 ?_ | refine Rd.rd_ltS ?_ | refine Rd.rd_inSg ?_ | refine Rd.rd_iStr ?_ | refine Rd.rd_IS ?_ | refine Rd.rd_prC ?_ | refine Rd.rd_prN ?_ | refine Rd.rd_methR ?_ | refine Rd.rd_cmeth ?_ | refine Rd.rd_fldS ?_ | refine Rd.rd_fld ?_ | (refine' Rd.rd_mkVS ?vh ?_; (case vh => with_unfolding_all rfl)) | (refine' Rd.rd_starT ?ln ?_; (case ln => with_unfolding_all walk_at "at")) | refine Rd.rd_iEnum ?_ | refine Rd.rd_iZip ?_ | (refine' Rd.rd_IE ?ln ?_; (case ln => with_unfolding_all walk_at "at")) | (refine' Rd.rd_IZ ?ln ?lm ?_; (case ln => with_unfolding_all walk_at "at"); (case lm => with_unfolding_all walk_at "at")) | (refine' Rd.rd_gTup ?ln ?lk ?_; (case ln => with_unfolding_all walk_at "at"); (case lk => with_unfolding_all rfl)) | refine Rd.rd_gCons ?_ | refine Rd.rd_gNil ?_ | refine Rd.rd_m1 ?_ | refine Rd.rd_strV ?_ | refine Rd.rd_tXiM ?_ | refine Rd.rd_tXiB ?_ | refine Rd.rd_tXiS ?_ | refine Rd.rd_bm ?_ | refine Rd.rd_bm0 ?_ | refine Rd.rd_isN ?_ | refine Rd.rd_notN ?_ | refine Rd.rd_sub ?_ | refine Rd.rd_un ?_ | refine Rd.rd_U ?_
  | (refine' Rd.rd_eq ?sc ?_; (case sc => with_unfolding_all rfl)) | (refine' Rd.rd_ne ?sc ?_; (case sc => with_unfolding_all rfl))
  | (refine' Rd.rd_I ?cc ?_; (case cc => with_unfolding_all walk_at "rdc"))
  | (refine' Rd.rd_lenL ?ln ?_; (case ln => with_unfolding_all walk_at "at")) | (refine' Rd.rd_lenT ?ln ?_; (case ln => with_unfolding_all walk_at "at"))
  | (refine' Rd.rd_ixL ?ln ?ia ?_; (case ln => with_unfolding_all walk_at "at"); (case ia => with_unfolding_all first | exact Rd.at0 | exact Rd.at1 | exact Rd.at2 | exact Rd.at3 | exact Rd.at4 | rfl)) | (refine' Rd.rd_ixT ?ln ?ia ?_; (case ln => with_unfolding_all walk_at "at"); (case ia => with_unfolding_all first | exact Rd.at0 | exact Rd.at1 | exact Rd.at2 | exact Rd.at3 | exact Rd.at4 | rfl)))
local macro_rules | `(tactic| walk_at "at") => `(tactic| first | assumption | (apply SqL.of; assumption) | (apply SqT.of; assumption) | (apply SqL.of; exact upd_same) | (apply SqT.of; exact upd_same))
local macro_rules | `(tactic| walk_at "rd") => `(tactic| repeat walk_at "rd1")
local macro_rules | `(tactic| walk_at "ne") => `(tactic| first | assumption | exact Ne.symm (by assumption) | (refine' Dice.ne ?D ?h; (case h => assumption); (case D => walk_at "fa")))
local macro_rules | `(tactic| walk_at "kp1") => `(tactic| first | exact kpS (by assumption) | exact Mut.kp (by assumption) | (refine' Rolled.kp ?r ?D; (case r => assumption); (case D => walk_at "fa")))
local macro_rules | `(tactic| walk_at "fa") => `(tactic| first
  | assumption | exact SqT.of (by assumption) | exact SqL.of (by assumption)
  | (refine' Dice.same ?h ?s; (case s => assumption); (case h => walk_at "fa")) | exact Rolled.dice (by assumption)
  | (refine' L2.Same.seq ?s ?h; (case s => assumption); (case h => walk_at "fa")) | (refine' Rolled.sqL ?r ?n ?h; (case r => assumption); (case n => walk_at "ne"); (case h => walk_at "fa"))
  | (refine' Kp.sqT ?k ?h; (case k => walk_at "kp1"); (case h => walk_at "fa")) | (refine' RowAt.kp ?k ?h; (case k => walk_at "kp1"); (case h => walk_at "fa")) | (refine' RowsAt.kp ?k ?h; (case k => walk_at "kp1"); (case h => walk_at "fa")) | (refine' ChgAt.kp ?k ?h; (case k => walk_at "kp1"); (case h => walk_at "fa")) | (refine' PlainAt.kp ?k ?h; (case k => walk_at "kp1"); (case h => walk_at "fa"))
  | (refine' GraphAt.same ?h ?s; (case s => assumption); (case h => walk_at "fa")) | (refine' GraphAt.rolled ?r ?D ?h; (case r => assumption); (case D => walk_at "fa"); (case h => walk_at "fa"))
  | (refine' Rd.Same.at ?s ?h; (case s => assumption); (case h => walk_at "fa")) | (refine' Mut.keep ?m _ _ ?n ?h; (case m => assumption); (case n => walk_at "ne"); (case h => walk_at "fa")) | (refine' Rolled.keep ?r _ _ ?n ?h; (case r => assumption); (case n => walk_at "ne"); (case h => walk_at "fa")))
local macro_rules | `(tactic| walk_at "sm") => `(tactic| first | assumption | exact Same.refl _ | (refine' L2.Same.trans ?h ?s; (case s => assumption); (case h => walk_at "sm")) | (refine' same_mutM ?a ?b ?c; (case c => assumption); (case b => walk_at "nn"); (case a => walk_at "sm")))
local macro_rules | `(tactic| walk_at "rl") => `(tactic| first | assumption | exact Rolled.refl (by walk_at "fa") | (refine' Rolled.trans ?a ?b; (case b => assumption); (case a => walk_at "rl")) | (refine' Rolled.same ?a ?b; (case b => assumption); (case a => walk_at "rl")) | (refine' Rolled.mutM ?a ?n ?e ?m; (case m => assumption); (case n => walk_at "nn"); (case e => walk_at "ne"); (case a => walk_at "rl")))
local macro_rules | `(tactic| walk_at "nn") => `(tactic| first | assumption | (refine' none_pre ?s ?h; (case h => assumption); (case s => walk_at "sm")) | (refine' none_rol ?r ?D ?h; (case h => assumption); (case D => walk_at "fa"); (case r => walk_at "rl")))
local macro_rules | `(tactic| walk_at "sz") => `(tactic| first | (simp only [List.length_cons, List.length_nil]; decide) | (refine Rd.small64 ?_; simp only [List.length_map, List.length_append, List.length_cons, List.length_nil]; omega))
local macro_rules | `(tactic| walk_at "at") => `(tactic| walk_at "fa")
local macro_rules | `(tactic| walk_at "rd1") => `(tactic| with_reducible first
  | (refine' Rd.rd_mkTup ?sz fun _ _ _ _ _ => ?_; (case sz => with_unfolding_all walk_at "sz")) | (refine' Rd.rd_mkLst ?sz fun _ _ _ _ _ => ?_; (case sz => with_unfolding_all walk_at "sz")) | (refine' Rd.rd_mkTupF ?sz fun _ _ _ _ _ => ?_; (case sz => with_unfolding_all walk_at "sz"))
  | (refine' Rd.rd_tupleL ?ln fun _ _ _ _ _ => ?_; (case ln => with_unfolding_all walk_at "at")) | (refine' Rd.rd_tupleT ?ln ?_; (case ln => with_unfolding_all walk_at "at")) | (refine' Rd.rd_listL ?ln fun _ _ _ _ _ => ?_; (case ln => with_unfolding_all walk_at "at")) | (refine' Rd.rd_listT ?ln fun _ _ _ _ _ => ?_; (case ln => with_unfolding_all walk_at "at"))
  | (refine' fld_c ?T ?h fun _ _ => ?_; (case T => assumption); (case h => with_unfolding_all walk_at "fa")) | (refine' fld_s ?T ?h fun _ _ => ?_; (case T => assumption); (case h => with_unfolding_all walk_at "fa")) | (refine' fld_n ?T ?h fun _ _ => ?_; (case T => assumption); (case h => with_unfolding_all walk_at "fa"))
  | refine Rd.rd_get2 ?_ | (refine' Rd.rd_getA ?ln ?_; (case ln => with_unfolding_all first | exact Or.inl (by walk_at "at") | exact Or.inr ⟨_, by walk_at "at"⟩)) | (refine' Rd.rd_getE ?ln ?_; (case ln => with_unfolding_all first | exact Or.inl (by walk_at "at") | exact Or.inr ⟨_, by walk_at "at"⟩)) | refine Rd.rd_daug ?_ | refine Rd.rd_items ?_ | refine Rd.rd_frz ?_ | refine Rd.rd_vals ?_ | refine Rd.rd_kw0 ?_ | refine Rd.rd_callN ?_
  | (refine' Rd.rd_isi (Rd.isi_tup ?ln Rd.kk_tup_tup) ?_; (case ln => with_unfolding_all walk_at "at")) | refine Rd.rd_isi (Rd.isi_str (b := true) kk_str_str) ?_)
local macro_rules | `(tactic| walk_at "st") => `(tactic| (simp only [List.map_cons, List.map_nil, L2.wipe, List.set_cons_zero, List.set_cons_succ]; walk_at "rd"; refine ⟨rfl, ?_⟩; walk_at "rd"))
abbrev s_Machine___init__ : Stmt := inClass (top 39) 0
theorem sc_Machine___init__ : FnScope ["self", "graph", "size", "start", "loads", "counter"] ["self", "graph", "size", "start"] (defScope s_Machine___init__) := ⟨rfl, rfl, rfl, by decide +kernel, rfl, by decide +kernel, by decide +kernel⟩
abbrev s_Machine_graph : Stmt := inClass (top 39) 1
theorem sc_Machine_graph : FnScope ["self"] ["self"] (defScope s_Machine_graph) := ⟨rfl, rfl, rfl, by decide +kernel, rfl, by decide +kernel, by decide +kernel⟩
abbrev s_Machine_state : Stmt := inClass (top 39) 2
theorem sc_Machine_state : FnScope ["self"] ["self"] (defScope s_Machine_state) := ⟨rfl, rfl, rfl, by decide +kernel, rfl, by decide +kernel, by decide +kernel⟩
abbrev s_Machine_loads : Stmt := inClass (top 39) 3
theorem sc_Machine_loads : FnScope ["self"] ["self"] (defScope s_Machine_loads) := ⟨rfl, rfl, rfl, by decide +kernel, rfl, by decide +kernel, by decide +kernel⟩
abbrev s_Machine_steps : Stmt := inClass (top 39) 4
theorem sc_Machine_steps : FnScope ["self"] ["self"] (defScope s_Machine_steps) := ⟨rfl, rfl, rfl, by decide +kernel, rfl, by decide +kernel, by decide +kernel⟩
abbrev s_Machine_log : Stmt := inClass (top 39) 5
theorem sc_Machine_log : FnScope ["self"] ["self"] (defScope s_Machine_log) := ⟨rfl, rfl, rfl, by decide +kernel, rfl, by decide +kernel, by decide +kernel⟩
abbrev s_Machine_possible : Stmt := inClass (top 39) 6
theorem sc_Machine_possible : FnScope ["self"] ["self"] (defScope s_Machine_possible) := ⟨rfl, rfl, rfl, by decide +kernel, rfl, by decide +kernel, by decide +kernel⟩
def optV : Option Str → V
  | none => .non
  | some s => .str s
def stOf (G : Gr) (o : Option Str) : Str := match o with
  | some s => s
  | none => G.ns.headD ""
/-- a new machine -/
def Mc.new (G : Gr) (z : Int) (o : Option Str) : Mc := ⟨G, ⟨stOf G o, fun _ => z, fun _ => z⟩, [], []⟩
def spMaInit (K : PySem.W.Frag) (C : Addr) (m : AdsM) : Sp := Rd.mkSp (fun (a : (Addr × Addr × Addr) × Gr × Int × Option Str) => [.ref a.1.1, .ref a.1.2.2, .int a.2.2.1, optV a.2.2.2]) fun a H Q _ => H a.1.1 = some (.ins m.C a.1.2.1 []) ∧ GraphAt K C H a.1.2.2 a.2.1 ∧ GOk a.2.1 ∧ 0 ≤ a.2.2.1 ∧ (∀ s, a.2.2.2 = some s → s ∈ a.2.1.ns) ∧
  ∀ H', SameBut a.1.1 H H' → MachAt K C m H' a.1.1 (Mc.new a.2.1 a.2.2.1 a.2.2.2) → Q .non H'
theorem GraphAt.but {K : PySem.W.Frag} {C M x y dx : Addr} {H H' : Hp} {G : Gr} {fs : List (Str × V)} (hx : H x = some (.ins M dx fs)) (hf : fs.lookup ("own_counters" : Str) = none) (s : SameBut x H H') (h : GraphAt K C H y G) : GraphAt K C H' y G := by
  obtain ⟨dy, pc, ps, pt, pn, pr, rs, h1, h2⟩ := h
  have k := s.kp hx rfl
  refine ⟨dy, pc, ps, pt, pn, pr, rs, s _ _ (fun z => ?_) h1, h2.c.kp k, h2.s.kp k, k.sqT h2.t, L2.Paired.mapP h2.tP fun _ _ q => q.kp k, h2.n.kp k, s _ _ (fun z => by have := h2.r; rw [z, hx] at this; cases this) h2.r⟩
  rw [z, hx] at h1
  obtain ⟨-, -, e⟩ := HO.ins.inj (Option.some.inj h1)
  rw [e] at hf
  cases hf
theorem head_ns {G : Gr} (h : G.ns ≠ []) : G.ns = G.ns.headD "" :: G.ns.drop 1 := by
  cases e : G.ns with
  | nil => exact absurd e h
  | cons a l => rfl
theorem rd_startV {K : PySem.W.Frag} {mg : Str → Option Value} {a : AdsG} {H : Hp} {σ : L2.St} {R : VK} {pg : Addr} {G : Gr} {o : Option Str} (T : GraphC K mg a) (hG : GraphAt K a.C H pg G) (GO : GOk G) (h1 : σ[1]? = some (some (.ref pg))) (h3 : σ[3]? = some (some (optV o))) (q : R (.str (stOf G o)) H) :
    if decide (optV o = V.non) = true then tOp (rIxT K) (tFld K (tVar 1) "own_states") (tC (V.int 0)) σ H R else tVar 3 σ H R := by
  cases o with
  | none =>
    refine Rd.if_t rfl ?_
    refine Rd.rd_op (Rd.rd_fld (Rd.rd_var h1 (fld_s T hG fun p hp => Rd.rd_c ?_)))
    have hp' : SqT K H p (V.str (G.ns.headD "") :: (G.ns.drop 1).map V.str) := by
      have := hp
      unfold TxT at this
      rw [head_ns GO.lp.ne] at this
      exact this
    exact Rd.rd_ixT hp' Rd.at0 q
  | some st =>
    refine Rd.if_f rfl ?_
    exact Rd.rd_var h3 q
section
variable {gd : Bool} {P : Program} {w : World} {K : PySem.W.Frag} {mg : Str → Option Value} {base : Heap} {a : AdsG} {m : AdsM} {e : AdsE}
theorem ok_mainit (T : GraphC K mg a) (TM : MachC K mg m) (F : Rd.HasAtK K m.fi "__init__" "Machine.__init__" s_Machine___init__ "start" .non) (g : Glob mg)
    (c_require_graph : Rd.Fn false P w K mg base CX0 1 "require_graph" (spReqG K a.C)) (c_require_many : Rd.Fn false P w K mg base CX0 3 "require_many" spReqMany) (c_require_state : Rd.Fn false P w K mg base CX0 1 "require_state" (spReqSt K a.C (·.ns))) (c_Moment : FnR P w K mg base CX0 1 m.fm (spMoInit m.M)) :
    Rd.FnKA P w K mg base CX0 4 m.fi "start" ["self", "graph", "size", "start"] .non (spMaInit K a.C m) := by
  refine F.fnKA sc_Machine___init__ (fun _ => rfl) (by decide) (fun D doc pm an cdv ct us ks hu hk => ?_) (fun kV doc pm an cdv ct us ws hu hw => ?_) fun cdv A outer s H Q E b hr h => ?_
  · match us, ks, hu, hk with | [_, _, _], [_], _, _ => exact ⟨_, _, _, _, _, _, rfl, rfl, rfl⟩
  · match us, ws, hu, hw with | [_, _, _], [_], _, _ => rfl
  obtain ⟨⟨x, dx, pg⟩, G, z, o⟩ := b
  obtain ⟨hx, hG, GO, hz, ho, k⟩ := h
  dsimp only at hx hG GO hz ho k
  refine ⟨_, ((pss_cons (ps_expr (Rd.pe_fn c_require_graph (Rd.RoomG.any (hr.mono (by decide))) (by rfl) (pa_cons (pv 1) pa_nil)))
      (pss_cons (ps_expr (Rd.pe_fn c_require_many (Rd.RoomG.any (hr.mono (by decide))) (by rfl) (pa_cons (pv 2) pa_nil)))
      (C8.pss_cut (ps_if (pt_cmpR op_notN1 (pv 3) pe_non (nomark _)) (pss_one (ps_expr (Rd.pe_fn c_require_state (Rd.RoomG.any (hr.mono (by decide))) (by rfl) (pa_cons (pv 1) (pa_cons (pv 3) pa_nil))))) pss_nil)
      (pss_cons (Rd.ps_setDc (i := 4) (own := [("counter", 5)]) (by rfl) sc_Machine___init__.nd rfl rfl (Rd.sw_trueD rfl rfl rfl (by decide +kernel)) (pi_tup (pe_fld (pv 1) rfl)) (blkOk_by (own := [("counter", 5)]) (N := ["self", "graph", "size", "start", "loads", "counter"]) (sc := defScope s_Machine___init__) (by decide +kernel)) (fun _ _ _ _ _ => (pg_name (i := 5) sc_Machine___init__.nd rfl (Or.inl rfl))) (fun _ _ _ _ _ => pts_nil) (fun _ _ _ _ _ => (pv 5)) (fun _ _ _ _ _ => (pv 2)))
      (pss_cons (ps_fld (pv 0) (pv 1) rfl)
      (pss_cons (ps_fld (pv 0) (Rd.pe_mk TM.o.mk_ c_Moment (hr.mono (by decide)) (by rfl) TM.o.mgC pass0 (pa_cons (pe_ifExp (pt_cmpR op_isN1 (pv 3) pe_non (nomark _)) (pe_ix ix_tup (pe_fld (pv 1) rfl) pe_int (fun _ _ => rfl)) (pv 3)) (pa_cons (pv 4) (pa_cons (pv 4) pa_nil)))) rfl)
      (pss_cons (ps_fld (pv 0) (Rd.pe_lst pa_nil) rfl)
      (pss_one (ps_fld (pv 0) (Rd.pe_lst pa_nil) rfl)))))))))).nox, ?_⟩
  try simp only [Rd.noxK, Rd.cxK]
  refine Rd.rd_start [some (V.ref x), some (V.ref pg), some (V.int z), some (optV o), none, none] rfl ?_
  walk_at "rd"
  refine Rd.rd_sp (pg, G) rfl ⟨hG, ?_⟩
  walk_at "rd"
  refine Rd.rd_sp z rfl ⟨hz, ?_⟩
  walk_at "rd"
  refine ⟨fun σ' H' => σ' = [some (V.ref x), some (V.ref pg), some (V.int z), some (optV o), none, none] ∧ H' = H, ?_, ?_⟩
  · walk_at "rd"
    cases o with
    | none =>
      refine Rd.if_f rfl ?_
      exact ⟨rfl, rfl⟩
    | some st =>
      refine Rd.if_t rfl ?_
      walk_at "rd"
      refine Rd.rd_sp (pg, G, st) rfl ⟨hG, ho st rfl, ?_⟩
      exact ⟨rfl, rfl⟩
  rintro _ _ ⟨rfl, rfl⟩
  walk_at "rd"
  rename_i pc hC
  have c5 := GO.c5
  refine Rd.dc_tup' keyS (fun _ => V.int z) (by rw [List.length_map]; omega) hC (fun v H1 N hv s1 hN => ?_) (fun D H1 nD s1 hD => ?_)
  · obtain ⟨c, hc, rfl⟩ := List.mem_map.mp hv
    refine Rd.rd_start' [some (V.ref x), some (V.ref pg), some (V.int z), some (optV o), none, none] rfl ?_
    walk_at "rd"
    refine ⟨rfl, ?_⟩
    walk_at "rd"
    exact hN _ (Same.refl _)
  have eD : mergeK [] ((G.cs.map V.str).map fun v => (keyS v, V.int z)) = ldK G.cs fun _ => z := by
    have : (G.cs.map V.str).map (fun v => (keyS v, V.int z)) = ldK G.cs fun _ => z := by unfold ldK; rw [List.map_map]; rfl
    rw [this, merge_ldK GO.cA.nodup]
  rw [eD] at hD
  have hDx : D ≠ x := fun q => by rw [q, hx] at nD; cases nD
  walk_at "rd"
  refine ⟨x, m.C, dx, [], rfl, s1 _ _ hx, TM.cl, TM.nG, by show 0 < 1000; decide, ?_⟩
  generalize e2 : upd H1 x _ = H2
  have b2 : SameBut x H1 H2 := e2 ▸ SameBut.upd
  have hx2 : H2 x = some (.ins m.C dx [("own_graph", .ref pg)]) := by rw [← e2]; exact upd_same
  clear e2
  have b02 := (SameBut.of s1).trans b2
  have hG2 := hG.but hx rfl b02
  have hD2 := b2 _ _ hDx hD
  walk_at "rd"
  refine rd_startV T hG2 GO rfl rfl ?_
  walk_at "rd"
  refine make_mo fun pm dm H3 npm s3 h3 => ?_
  walk_at "rd"
  have hx3 := s3 _ _ hx2
  have mx : pm ≠ x := fun q => by rw [q, hx2] at npm; cases npm
  refine ⟨x, m.C, dx, _, rfl, hx3, TM.cl, TM.nN, by show 1 < 1000; decide, ?_⟩
  generalize e4 : upd H3 x _ = H4
  have b4 : SameBut x H3 H4 := e4 ▸ SameBut.upd
  have hx4 : H4 x = some (.ins m.C dx [("own_graph", .ref pg), ("own_now", .ref pm)]) := by rw [← e4]; exact upd_same
  clear e4
  have b04 := (b02.trans (SameBut.of s3)).trans b4
  have hD4 := b4 _ _ hDx (s3 _ _ hD2)
  have h4 := b4 _ _ mx h3
  walk_at "rd"
  rename_i pp H5 npp s5 h5
  have hpx : pp ≠ x := fun q => by rw [q, hx4] at npp; cases npp
  refine ⟨x, m.C, dx, _, rfl, s5 _ _ hx4, TM.cl, TM.nP, by show 2 < 1000; decide, ?_⟩
  generalize e6 : upd H5 x _ = H6
  have b6 : SameBut x H5 H6 := e6 ▸ SameBut.upd
  have hx6 : H6 x = some (.ins m.C dx [("own_graph", .ref pg), ("own_now", .ref pm), ("own_past", .ref pp)]) := by rw [← e6]; exact upd_same
  clear e6
  have b46 := (SameBut.of s5).trans b6
  have b06 := b04.trans b46
  have hD6 := b46 _ _ hDx hD4
  have h6 := b46 _ _ mx h4
  have h56 := b6 _ _ hpx h5
  walk_at "rd"
  rename_i pl H7 npl s7 h7
  have hlx : pl ≠ x := fun q => by rw [q, hx6] at npl; cases npl
  refine ⟨x, m.C, dx, _, rfl, s7 _ _ hx6, TM.cl, TM.nL, by show 3 < 1000; decide, ?_⟩
  generalize e8 : upd H7 x _ = H8
  have b8 : SameBut x H7 H8 := e8 ▸ SameBut.upd
  have hx8 : H8 x = some (.ins m.C dx (fldsM pg pm pp pl)) := by rw [← e8]; exact upd_same
  clear e8
  have b68 := (SameBut.of s7).trans b8
  have b08 := b06.trans b68
  walk_at "rd"
  exact k H8 b08 ⟨pg, hG.but hx rfl b08, dx, pm, pp, pl, [], hx8, ⟨dm, D, D, b68 _ _ mx h6, b68 _ _ hDx hD6, b68 _ _ hDx hD6⟩, b68 _ _ hpx h56, .nil, b8 _ _ hlx h7⟩
end
end M
set_option Elab.async false
set_option linter.all false
set_option maxRecDepth 100000
set_option maxHeartbeats 4000000
namespace M
open PySem L2
local macro_rules | `(tactic| walk_at "rdc") => `(tactic| first | exact Or.inl ⟨by decide, by decide⟩ | exact Or.inr ⟨by decide, by decide⟩ | exact ⟨by decide, by decide, by decide⟩ | exact ⟨by decide, by decide⟩ | decide | omega | assumption | (refine Or.inl ⟨?_, ?_⟩ <;> omega) | (refine Or.inr ⟨?_, ?_⟩ <;> omega) | (refine ⟨?_, ?_⟩ <;> omega))
local macro_rules | `(tactic| walk_at "rd1") => `(tactic| with_reducible first
  | refine Rd.rd_seq ?_ | refine Rd.rd_asg ?_ | refine Rd.rd_op ?_ | (refine' Rd.rd_var ?vh ?_; (case vh => with_unfolding_all rfl)) | refine Rd.rd_c ?_ | refine Rd.rd_I0 ?_ | refine Rd.rd_name0 ?_ | refine Rd.rd_nameS ?_ | refine Rd.rd_fn ?_
  | refine Rd.rd_cb ?_ | refine Rd.rd_cons ?_ | refine Rd.rd_nil ?_ | refine Rd.rd_int ?_ | refine Rd.rd_intB ?_ | refine Rd.rd_abs ?_ | refine Rd.rd_max2 ?_ | refine Rd.rd_min2 ?_
  | refine Rd.rd_call ?_ | refine Rd.rd_ifE ?_ | refine Rd.rd_test ?_ | refine Rd.rd_tB ?_ | refine Rd.rd_blV ?_ | refine Rd.rd_and ?_ | refine Rd.rd_or ?_ | refine Rd.rd_not ?_
  | refine Rd.rd_andV ?_ | refine Rd.rd_orV ?_ | refine Rd.rd_notV ?_ | refine Rd.rd_next ?_ | refine Rd.rd_ret ?_ | refine Rd.rd_drop ?_ | refine Rd.rd_ifS ?_ | refine Rd.rd_nx ?_ | refine Rd.rd_rt ?_ | refine Rd.rd_tMatch ?_ | refine Rd.rd_tCO ?_ | refine Rd.rd_tRevL ?_ | refine Rd.rd_tStar ?_ | refine Rd.rd_joined ?_ | refine Rd.rd_js1 ?_ | refine Rd.rd_js0 ?_ | refine Rd.rd_fmt ?_ | refine Rd.rd_propR ?_ | refine Rd.rd_iZipA ?_ | refine Rd.rd_iEnumT ?_ | refine Rd.rd_iOwn ?_ | (refine' Rd.rd_IET ?ln ?_; (case ln => with_unfolding_all walk_at "at")) | refine Rd.rd_chain ?_ | refine Rd.rd_tPar ?_ | refine Rd.rd_par ?_ | refine Rd.rd_sl ?_ | refine Rd.rd_noPart ?_ | refine Rd.rd_part ?_ | refine Rd.rd_intV ?_ | refine Rd.rd_lc ?_ | (refine' Rd.rd_aug ?vh ?_; (case vh => with_unfolding_all rfl)) | refine Rd.rd_ipI ?_ | refine Rd.rd_for ?_ | (refine' Rd.rd_IT ?ln ?_; (case ln => with_unfolding_all walk_at "at")) | (refine' Rd.rd_IL ?ln ?_; (case ln => with_unfolding_all walk_at "at")) | refine Rd.rd_iTup ?_ | refine Rd.rd_iList ?_ | refine Rd.rd_iRng1 ?_ | refine Rd.rd_iRng2 ?_ | refine Rd.rd_isi (Rd.isi_int Rd.kk_int_int) ?_ | refine Rd.rd_isi (Rd.isi_int Rd.kk_int_bool) ?_ | refine Rd.rd_dget ?_ | refine Rd.rd_din ?_ | refine Rd.rd_dnotin ?_ | refine Rd.rd_dput ?_ | refine Rd.rd_dc ?_ | refine Rd.rd_lc2 ?_ | refine Rd.rd_ltS ?_ | refine Rd.rd_inSg ?_ | refine Rd.rd_iStr ?_ | refine Rd.rd_IS ?_ | refine Rd.rd_prC ?_ | refine Rd.rd_prN ?_ | refine Rd.rd_methR ?_ | refine Rd.rd_cmeth ?_ | refine Rd.rd_fldS ?_ | refine Rd.rd_fld ?_ | (refine' Rd.rd_mkVS ?vh ?_; (case vh => with_unfolding_all rfl)) | (refine' Rd.rd_starT ?ln ?_; (case ln => with_unfolding_all walk_at "at")) | refine Rd.rd_iEnum ?_ | refine Rd.rd_iZip ?_ | (refine' Rd.rd_IE ?ln ?_; (case ln => with_unfolding_all walk_at "at")) | (refine' Rd.rd_IZ ?ln ?lm ?_; (case ln => with_unfolding_all walk_at "at"); (case lm => with_unfolding_all walk_at "at")) | (refine' Rd.rd_gTup ?ln ?lk ?_; (case ln => with_unfolding_all walk_at "at"); (case lk => with_unfolding_all rfl)) | refine Rd.rd_gCons ?_ | refine Rd.rd_gNil ?_ | refine Rd.rd_m1 ?_ | refine Rd.rd_strV ?_ | refine Rd.rd_tXiM ?_ | refine Rd.rd_tXiB ?_ | refine Rd.rd_tXiS ?_ | refine Rd.rd_bm ?_ | refine Rd.rd_bm0 ?_ | refine Rd.rd_isN ?_ | refine Rd.rd_notN ?_ | refine Rd.rd_sub ?_ | refine Rd.rd_un ?_ | refine Rd.rd_U ?_
  | (refine' Rd.rd_eq ?sc ?_; (case sc => with_unfolding_all rfl)) | (refine' Rd.rd_ne ?sc ?_; (case sc => with_unfolding_all rfl))
  | (refine' Rd.rd_I ?cc ?_; (case cc => with_unfolding_all walk_at "rdc"))
  | (refine' Rd.rd_lenL ?ln ?_; (case ln => with_unfolding_all walk_at "at")) | (refine' Rd.rd_lenT ?ln ?_; (case ln => with_unfolding_all walk_at "at"))
  | (refine' Rd.rd_ixL ?ln ?ia ?_; (case ln => with_unfolding_all walk_at "at"); (case ia => with_unfolding_all first | exact Rd.at0 | exact Rd.at1 | exact Rd.at2 | exact Rd.at3 | exact Rd.at4 | rfl)) | (refine' Rd.rd_ixT ?ln ?ia ?_; (case ln => with_unfolding_all walk_at "at"); (case ia => with_unfolding_all first | exact Rd.at0 | exact Rd.at1 | exact Rd.at2 | exact Rd.at3 | exact Rd.at4 | rfl)))
local macro_rules | `(tactic| walk_at "at") => `(tactic| first | assumption | (apply SqL.of; assumption) | (apply SqT.of; assumption) | (apply SqL.of; exact upd_same) | (apply SqT.of; exact upd_same))
local macro_rules | `(tactic| walk_at "rd") => `(tactic| repeat walk_at "rd1")
local macro_rules | `(tactic| walk_at "ne") => `(tactic| first | assumption | exact Ne.symm (by assumption) | (refine' Dice.ne ?D ?h; (case h => assumption); (case D => walk_at "fa")))
local macro_rules | `(tactic| walk_at "kp1") => `(tactic| first | exact kpS (by assumption) | exact Mut.kp (by assumption) | (refine' Rolled.kp ?r ?D; (case r => assumption); (case D => walk_at "fa")))
local macro_rules | `(tactic| walk_at "fa") => `(tactic| first
  | assumption | exact SqT.of (by assumption) | exact SqL.of (by assumption)
  | (refine' Dice.same ?h ?s; (case s => assumption); (case h => walk_at "fa")) | exact Rolled.dice (by assumption)
  | (refine' L2.Same.seq ?s ?h; (case s => assumption); (case h => walk_at "fa")) | (refine' Rolled.sqL ?r ?n ?h; (case r => assumption); (case n => walk_at "ne"); (case h => walk_at "fa"))
  | (refine' Kp.sqT ?k ?h; (case k => walk_at "kp1"); (case h => walk_at "fa")) | (refine' RowAt.kp ?k ?h; (case k => walk_at "kp1"); (case h => walk_at "fa")) | (refine' RowsAt.kp ?k ?h; (case k => walk_at "kp1"); (case h => walk_at "fa")) | (refine' ChgAt.kp ?k ?h; (case k => walk_at "kp1"); (case h => walk_at "fa")) | (refine' PlainAt.kp ?k ?h; (case k => walk_at "kp1"); (case h => walk_at "fa"))
  | (refine' GraphAt.same ?h ?s; (case s => assumption); (case h => walk_at "fa")) | (refine' GraphAt.rolled ?r ?D ?h; (case r => assumption); (case D => walk_at "fa"); (case h => walk_at "fa"))
  | (refine' Rd.Same.at ?s ?h; (case s => assumption); (case h => walk_at "fa")) | (refine' Mut.keep ?m _ _ ?n ?h; (case m => assumption); (case n => walk_at "ne"); (case h => walk_at "fa")) | (refine' Rolled.keep ?r _ _ ?n ?h; (case r => assumption); (case n => walk_at "ne"); (case h => walk_at "fa")))
local macro_rules | `(tactic| walk_at "sm") => `(tactic| first | assumption | exact Same.refl _ | (refine' L2.Same.trans ?h ?s; (case s => assumption); (case h => walk_at "sm")) | (refine' same_mutM ?a ?b ?c; (case c => assumption); (case b => walk_at "nn"); (case a => walk_at "sm")))
local macro_rules | `(tactic| walk_at "rl") => `(tactic| first | assumption | exact Rolled.refl (by walk_at "fa") | (refine' Rolled.trans ?a ?b; (case b => assumption); (case a => walk_at "rl")) | (refine' Rolled.same ?a ?b; (case b => assumption); (case a => walk_at "rl")) | (refine' Rolled.mutM ?a ?n ?e ?m; (case m => assumption); (case n => walk_at "nn"); (case e => walk_at "ne"); (case a => walk_at "rl")))
local macro_rules | `(tactic| walk_at "nn") => `(tactic| first | assumption | (refine' none_pre ?s ?h; (case h => assumption); (case s => walk_at "sm")) | (refine' none_rol ?r ?D ?h; (case h => assumption); (case D => walk_at "fa"); (case r => walk_at "rl")))
local macro_rules | `(tactic| walk_at "sz") => `(tactic| first | (simp only [List.length_cons, List.length_nil]; decide) | (refine Rd.small64 ?_; simp only [List.length_map, List.length_append, List.length_cons, List.length_nil]; omega))
local macro_rules | `(tactic| walk_at "at") => `(tactic| walk_at "fa")
local macro_rules | `(tactic| walk_at "rd1") => `(tactic| with_reducible first
  | (refine' Rd.rd_mkTup ?sz fun _ _ _ _ _ => ?_; (case sz => with_unfolding_all walk_at "sz")) | (refine' Rd.rd_mkLst ?sz fun _ _ _ _ _ => ?_; (case sz => with_unfolding_all walk_at "sz")) | (refine' Rd.rd_mkTupF ?sz fun _ _ _ _ _ => ?_; (case sz => with_unfolding_all walk_at "sz"))
  | (refine' Rd.rd_tupleL ?ln fun _ _ _ _ _ => ?_; (case ln => with_unfolding_all walk_at "at")) | (refine' Rd.rd_tupleT ?ln ?_; (case ln => with_unfolding_all walk_at "at")) | (refine' Rd.rd_listL ?ln fun _ _ _ _ _ => ?_; (case ln => with_unfolding_all walk_at "at")) | (refine' Rd.rd_listT ?ln fun _ _ _ _ _ => ?_; (case ln => with_unfolding_all walk_at "at"))
  | (refine' fld_c ?T ?h fun _ _ => ?_; (case T => assumption); (case h => with_unfolding_all walk_at "fa")) | (refine' fld_s ?T ?h fun _ _ => ?_; (case T => assumption); (case h => with_unfolding_all walk_at "fa")) | (refine' fld_n ?T ?h fun _ _ => ?_; (case T => assumption); (case h => with_unfolding_all walk_at "fa"))
  | refine Rd.rd_get2 ?_ | (refine' Rd.rd_getA ?ln ?_; (case ln => with_unfolding_all first | exact Or.inl (by walk_at "at") | exact Or.inr ⟨_, by walk_at "at"⟩)) | (refine' Rd.rd_getE ?ln ?_; (case ln => with_unfolding_all first | exact Or.inl (by walk_at "at") | exact Or.inr ⟨_, by walk_at "at"⟩)) | refine Rd.rd_daug ?_ | refine Rd.rd_items ?_ | refine Rd.rd_frz ?_ | refine Rd.rd_vals ?_ | refine Rd.rd_kw0 ?_ | refine Rd.rd_callN ?_
  | (refine' Rd.rd_isi (Rd.isi_tup ?ln Rd.kk_tup_tup) ?_; (case ln => with_unfolding_all walk_at "at")) | refine Rd.rd_isi (Rd.isi_str (b := true) kk_str_str) ?_)
local macro_rules | `(tactic| walk_at "st") => `(tactic| (simp only [List.map_cons, List.map_nil, L2.wipe, List.set_cons_zero, List.set_cons_succ]; walk_at "rd"; refine ⟨rfl, ?_⟩; walk_at "rd"))
abbrev s_Machine_take : Stmt := inClass (top 39) 7
theorem sc_Machine_take : FnScope ["self", "names"] ["self", "names"] (defScope s_Machine_take) := ⟨rfl, rfl, rfl, by decide +kernel, rfl, by decide +kernel, by decide +kernel⟩
abbrev s_Machine_take_all : Stmt := inClass (top 39) 8
theorem sc_Machine_take_all : FnScope ["self", "names", "name", "now", "past"] ["self", "names"] (defScope s_Machine_take_all) := ⟨rfl, rfl, rfl, by decide +kernel, rfl, by decide +kernel, by decide +kernel⟩
structure MachP (K : PySem.W.Frag) (m : AdsM) : Prop where
  gr : PropOf K m.C "graph" m.pg m.gg
  st : PropOf K m.C "state" m.ps m.gs
  ld : PropOf K m.C "loads" m.pl m.gl
  sp : PropOf K m.C "steps" m.pn m.gn
  lg : PropOf K m.C "log" m.pL m.gL
  po : PropOf K m.C "possible" m.pp m.gp
def spMgr (K : PySem.W.Frag) (C : Addr) (m : AdsM) : Sp := Rd.mkSp (fun (a : Addr × Mc) => [.ref a.1]) fun a H Q _ => MachAt K C m H a.1 a.2 ∧ ∀ g, GraphAt K C H g a.2.G → Q (.ref g) H
def spMst (K : PySem.W.Frag) (C : Addr) (m : AdsM) : Sp := Rd.mkSp (fun (a : Addr × Mc) => [.ref a.1]) fun a H Q _ => MachAt K C m H a.1 a.2 ∧ Q (.str a.2.now.st) H
def spMld (K : PySem.W.Frag) (C : Addr) (m : AdsM) : Sp := Rd.mkSp (fun (a : Addr × Mc) => [.ref a.1]) fun a H Q _ => MachAt K C m H a.1 a.2 ∧ ∀ d H', H d = none → Same H H' → H' d = some (.dK (ldK a.2.G.cs a.2.now.ld)) → Q (.ref d) H'
def spMsp (K : PySem.W.Frag) (C : Addr) (m : AdsM) : Sp := Rd.mkSp (fun (a : Addr × Mc) => [.ref a.1]) fun a H Q _ => MachAt K C m H a.1 a.2 ∧ Q (.int a.2.log.length) H
def spMlg (K : PySem.W.Frag) (C : Addr) (m : AdsM) : Sp := Rd.mkSp (fun (a : Addr × Mc) => [.ref a.1]) fun a H Q _ => MachAt K C m H a.1 a.2 ∧ ∀ p H', Same H H' → TxT K H' p a.2.log → Q (.ref p) H'
section
variable {gd : Bool} {P : Program} {w : World} {K : PySem.W.Frag} {mg : Str → Option Value} {base : Heap} {a : AdsG} {m : AdsM} {e : AdsE}
theorem ok_mgr (TM : MachC K mg m) (F : Rd.HasAt K m.gg "graph" "Machine.graph" s_Machine_graph) : FnR P w K mg base CX0 1 m.gg (spMgr K a.C m) := by
  refine Rd.FnG.toR (F.fn sc_Machine_graph (fun _ => rfl) (fun _ _ _ _ _ _ us hl => match us, hl with | [_], _ => rfl) fun cdv A outer s H Q E b hr h => ?_)
  obtain ⟨x, S⟩ := b
  obtain ⟨hx, k⟩ := h
  dsimp only at hx k
  refine ⟨_, (pss_one (ps_ret (pe_fld (pv 0) rfl))), ?_⟩
  try simp only [Rd.noxK, Rd.cxK]
  refine Rd.rd_start [some (V.ref x)] rfl ?_
  walk_at "rd"
  exact TM.gr hx k
theorem ok_mst (TM : MachC K mg m) (F : Rd.HasAt K m.gs "state" "Machine.state" s_Machine_state) : FnR P w K mg base CX0 1 m.gs (spMst K a.C m) := by
  refine Rd.FnG.toR (F.fn sc_Machine_state (fun _ => rfl) (fun _ _ _ _ _ _ us hl => match us, hl with | [_], _ => rfl) fun cdv A outer s H Q E b hr h => ?_)
  obtain ⟨x, S⟩ := b
  obtain ⟨hx, k⟩ := h
  dsimp only at hx k
  refine ⟨_, (pss_one (ps_ret (pe_fld (pe_fld (pv 0) rfl) rfl))), ?_⟩
  try simp only [Rd.noxK, Rd.cxK]
  refine Rd.rd_start [some (V.ref x)] rfl ?_
  walk_at "rd"
  exact TM.nw hx fun n hn => TM.o.st hn k
theorem ok_mld (TM : MachC K mg m) (F : Rd.HasAt K m.gl "loads" "Machine.loads" s_Machine_loads) (g : Glob mg) : FnR P w K mg base CX0 1 m.gl (spMld K a.C m) := by
  refine Rd.FnG.toR (F.fn sc_Machine_loads (fun _ => rfl) (fun _ _ _ _ _ _ us hl => match us, hl with | [_], _ => rfl) fun cdv A outer s H Q E b hr h => ?_)
  obtain ⟨x, S⟩ := b
  obtain ⟨hx, k⟩ := h
  dsimp only at hx k
  refine ⟨_, (pss_one (ps_ret (pe_callTy Rd.c_dictD (by rfl) g.dict (by decide +kernel) (pa_cons (pe_fld (pe_fld (pv 0) rfl) rfl) pa_nil)))), ?_⟩
  try simp only [Rd.noxK, Rd.cxK]
  refine Rd.rd_start [some (V.ref x)] rfl ?_
  walk_at "rd"
  refine TM.nw hx fun n hn => ?_
  refine TM.o.ld hn fun d hd => ?_
  walk_at "rd"
  exact Rd.rd_dictD hd fun p H' n s' h' => k p H' n s' h'
theorem ok_msp (TM : MachC K mg m) (F : Rd.HasAt K m.gn "steps" "Machine.steps" s_Machine_steps) (g : Glob mg) : FnR P w K mg base CX0 1 m.gn (spMsp K a.C m) := by
  refine Rd.FnG.toR (F.fn sc_Machine_steps (fun _ => rfl) (fun _ _ _ _ _ _ us hl => match us, hl with | [_], _ => rfl) fun cdv A outer s H Q E b hr h => ?_)
  obtain ⟨x, S⟩ := b
  obtain ⟨hx, k⟩ := h
  dsimp only at hx k
  refine ⟨_, (pss_one (ps_ret (pe_callB Rd.c_len (by rfl) g.len (by decide +kernel) (pa_cons (pe_fld (pv 0) rfl) pa_nil)))), ?_⟩
  try simp only [Rd.noxK, Rd.cxK]
  refine Rd.rd_start [some (V.ref x)] rfl ?_
  walk_at "rd"
  refine TM.lg hx fun p hp => ?_
  walk_at "rd"
  rw [List.length_map]
  exact k
theorem ok_mlg (TM : MachC K mg m) (F : Rd.HasAt K m.gL "log" "Machine.log" s_Machine_log) (g : Glob mg) : FnR P w K mg base CX0 1 m.gL (spMlg K a.C m) := by
  refine Rd.FnG.toR (F.fn sc_Machine_log (fun _ => rfl) (fun _ _ _ _ _ _ us hl => match us, hl with | [_], _ => rfl) fun cdv A outer s H Q E b hr h => ?_)
  obtain ⟨x, S⟩ := b
  obtain ⟨hx, k⟩ := h
  dsimp only at hx k
  refine ⟨_, (pss_one (ps_ret (pe_callTy Rd.c_tuple (by rfl) g.tuple (by decide +kernel) (pa_cons (pe_fld (pv 0) rfl) pa_nil)))), ?_⟩
  try simp only [Rd.noxK, Rd.cxK]
  refine Rd.rd_start [some (V.ref x)] rfl ?_
  walk_at "rd"
  refine TM.lg hx fun p hp => ?_
  walk_at "rd"
  rename_i q H1 n1 s1 h1
  exact k q H1 s1 (SqT.of h1)
theorem ok_mpo (TM : MachC K mg m) (F : Rd.HasAt K m.gp "possible" "Machine.possible" s_Machine_possible) (c_possible_in : Rd.Fn false P w K mg base CX0 2 "possible_in" (spPoss K a.C m)) : FnR P w K mg base CX0 3 m.gp (spPoss K a.C m) := by
  refine Rd.FnG.toR (F.fn sc_Machine_possible (fun _ => rfl) (fun _ _ _ _ _ _ us hl => match us, hl with | [_], _ => rfl) fun cdv A outer s H Q E b hr h => ?_)
  obtain ⟨x, S⟩ := b
  refine ⟨_, (pss_one (ps_ret (Rd.pe_fn c_possible_in (hr.mono (by decide)) (by rfl) (pa_cons (pv 0) pa_nil)))), ?_⟩
  try simp only [Rd.noxK, Rd.cxK]
  refine Rd.rd_start [some (V.ref x)] rfl ?_
  walk_at "rd"
  exact Rd.rd_sp (x, S) rfl h
end
inductive Run
  | ok (o : Mo) (past : List Mo)
  | op
  | low (c : Str)
def rowOf (G : Gr) (n : Str) : Option Tr := G.ts.find? fun t => decide (t.nm = n)
def consR (p : List Mo) : Run → Run
  | .ok o l => .ok o (p ++ l)
  | .op => .op
  | .low c => .low c
def runL (G : Gr) : Mo → List Str → Run
  | o, [] => .ok o []
  | o, n :: r => match rowOf G n with
    | none => .op
    | some t => match ansOf G.cs o.st o.ld t with
      | .op => .op
      | .low c => .low c
      | .to st f => consR [o] (runL G (o.aft st f) r)
theorem consR_nil : ∀ r, consR [] r = r
  | .ok _ _ => rfl
  | .op => rfl
  | .low _ => rfl
theorem consR_app (p q : List Mo) : ∀ r, consR p (consR q r) = consR (p ++ q) r
  | .ok o l => by show Run.ok o (p ++ (q ++ l)) = Run.ok o ((p ++ q) ++ l); rw [List.append_assoc]
  | .op => rfl
  | .low _ => rfl
theorem rowOf_mem {G : Gr} {t : Tr} (GO : GOk G) (h : t ∈ G.ts) : rowOf G t.nm = some t := by
  unfold rowOf
  have nd := GO.tA.nodup
  revert h nd
  generalize G.ts = l
  induction l with
  | nil => intro h; cases h
  | cons u l ih =>
    intro h nd
    rw [List.map_cons, List.nodup_cons] at nd
    rcases List.mem_cons.mp h with z | z
    · rw [z, List.find?_cons_of_pos (by simp)]
    · rw [List.find?_cons_of_neg (by simp only [decide_eq_true_eq]; exact fun q => nd.1 (q ▸ List.mem_map_of_mem z))]
      exact ih z nd.2
theorem ansOf_to {cs : List Str} {st st' : Str} {f f' : Str → Int} {t : Tr} (h : ansOf cs st f t = .to st' f') : t.src = st ∧ st' = t.tgt ∧ f' = addF f t.chg ∧ ∀ c ∈ cs, 0 ≤ f' c := by
  unfold ansOf at h
  by_cases e : t.src = st
  · rw [if_pos e] at h
    cases el : lowL cs f t.chg with
    | cons c r => rw [el] at h; cases h
    | nil =>
      rw [el] at h
      cases h
      refine ⟨e, rfl, rfl, fun c hc => ?_⟩
      refine Int.not_lt.mp fun q => ?_
      have : c ∈ lowL cs f t.chg := mem_low.mpr ⟨hc, q⟩
      rw [el] at this
      cases this
  · rw [if_neg e] at h; cases h
def RunQ (K : PySem.W.Frag) (C : Addr) (e : AdsE) (m : AdsM) (x : Addr) (S : Mc) (ns : List Str) (H : Hp) (Q : VK) (E : XK) : Run → Prop
  | .ok o past => ∀ H', SameBut x H H' → MachAt K C m H' x ⟨S.G, o, S.past ++ past, S.log ++ ns⟩ → Q (.int (S.log.length + ns.length : Nat)) H'
  | .op => ∀ H', Same H H' → E (.ref e.IO) none H'
  | .low c => ∀ d H', H d = none → Same H H' → H' d = some (.xd [("counter", .str c)]) → E (.ref e.NE) (some d) H'
def spTakeAll (K : PySem.W.Frag) (C : Addr) (e : AdsE) (m : AdsM) : Sp := Rd.mkSp (fun (a : (Addr × Addr) × Mc × List Str) => [.ref a.1.1, .ref a.1.2]) fun a H Q E => MachAt K C m H a.1.1 a.2.1 ∧ GOk a.2.1.G ∧ (∀ c ∈ a.2.1.G.cs, 0 ≤ a.2.1.now.ld c) ∧ TxT K H a.1.2 a.2.2 ∧ (∀ n ∈ a.2.2, n ∈ a.2.1.G.ts.map (·.nm)) ∧ a.2.2.length ≤ 20000 ∧ a.2.1.past.length ≤ 20000 ∧ a.2.1.log.length ≤ 20000 ∧
  RunQ K C e m a.1.1 a.2.1 a.2.2 H Q E (runL a.2.1.G a.2.1.now a.2.2)
section
variable {gd : Bool} {P : Program} {w : World} {K : PySem.W.Frag} {mg : Str → Option Value} {base : Heap} {a : AdsG} {m : AdsM} {e : AdsE}
theorem MoAt.mutL {M L p : Addr} {cs : List Str} {o : Mo} {H H' : Hp} {xs : List V} (hL : H L = some (.lst xs)) (u : Mut L H H') (h : MoAt M cs H p o) : MoAt M cs H' p o := by
  obtain ⟨dy, dl, dt, h1, h2, h3⟩ := h
  exact ⟨dy, dl, dt, u.keep _ _ (fun z => by rw [z, hL] at h1; cases h1) h1, u.keep _ _ (fun z => by rw [z, hL] at h2; cases h2) h2, u.keep _ _ (fun z => by rw [z, hL] at h3; cases h3) h3⟩
theorem MoAt.but {M M' x p dx : Addr} {cs : List Str} {o : Mo} {H H' : Hp} {fs : List (Str × V)} (hx : H x = some (.ins M' dx fs)) (hf : fs.lookup ("own_state" : Str) = none) (s : SameBut x H H') (h : MoAt M cs H p o) : MoAt M cs H' p o := by
  obtain ⟨dy, dl, dt, h1, h2, h3⟩ := h
  refine ⟨dy, dl, dt, s _ _ (fun z => ?_) h1, s _ _ (fun z => by rw [z, hx] at h2; cases h2) h2, s _ _ (fun z => by rw [z, hx] at h3; cases h3) h3⟩
  rw [z, hx] at h1
  obtain ⟨-, -, e⟩ := HO.ins.inj (Option.some.inj h1)
  rw [e] at hf
  cases hf
theorem lst_but {M' x p dx : Addr} {xs : List V} {H H' : Hp} {fs : List (Str × V)} (hx : H x = some (.ins M' dx fs)) (s : SameBut x H H') (h : H p = some (.lst xs)) : H' p = some (.lst xs) := s _ _ (fun z => by rw [z, hx] at h; cases h) h
theorem ok_take_all (T : GraphC K mg a) (TM : MachC K mg m) (TE : ErrM K mg e) (F : Rd.HasAt K m.ta "take_all" "Machine.take_all" s_Machine_take_all) (g : Glob mg) (c_require_name : Rd.Fn false P w K mg base CX0 1 "require_name" (spReqSt K a.C (fun G => G.ts.map (·.nm)))) (c_Moment_behind : FnR P w K mg base (L2.CX P w) 3 m.bh (spBehind K e m)) :
    FnR P w K mg base (L2.CX P w) 4 m.ta (spTakeAll K a.C e m) := by
  refine Rd.FnG.toR (F.fnX sc_Machine_take_all (fun _ => rfl) (fun _ _ _ _ _ _ us hl => match us, hl with | [_, _], _ => rfl) fun cdv A outer s H Q E b hr h => ?_)
  obtain ⟨⟨x, p⟩, S, ns⟩ := b
  obtain ⟨hx, GO, h0, hp, hn, ln, lp, ll, k⟩ := h
  dsimp only at hx GO h0 hp hn ln lp ll k
  refine ⟨_, (pss_cons (ps_if (pt_not (pt_val (pe_callB Rd.c_isi (by rfl) g.isinstance (by decide +kernel) (pa_cons (pv 1) (pa_cons (pe_bltn (v := .ty "tuple") (by rfl) g.tuple (by decide +kernel) rfl) pa_nil))))) (pss_one (ps_raise rfl (takes_of rfl rfl rfl rfl) (pmk_own PySem.F.excBase_ValueError TE.xO.p TE.xO.g TE.xO.k (raises_own TE.xO.b TE.xO.t) (by exact rfl)))) pss_nil)
      (pss_cons (ps_for (passes_of rfl) rfl (pi_tup (pv 1)) (pg_name (i := 2) sc_Machine_take_all.nd rfl (Or.inl rfl)) (pss_one (ps_expr (Rd.pe_fn c_require_name (hr.mono (by decide)) (by rfl) (pa_cons (pe_fld (pv 0) rfl) (pa_cons (pv 2) pa_nil))))))
      (pss_cons (ps_set (i := 3) sc_Machine_take_all.nd rfl (Or.inl rfl) (pe_fld (pv 0) rfl))
      (pss_cons (ps_set (i := 4) sc_Machine_take_all.nd rfl (Or.inl rfl) (Rd.pe_lst pa_nil))
      (pss_cons (ps_for (passes_of rfl) rfl (pi_tup (pv 1)) (pg_name (i := 2) sc_Machine_take_all.nd rfl (Or.inl rfl)) (pss_cons (ps_expr (pe_bm PySem.F.plainAttrs_list PySem.F.slot_list_append PySem.F.type_list_append mt_append (pv 4) (pa_cons (pv 3) pa_nil)))
      (pss_one (ps_set (i := 3) sc_Machine_take_all.nd rfl (Or.inl rfl) (pe_methR (pv 3) TM.o.cl TM.o.m_behind c_Moment_behind (hr.mono (by decide)).toRoom (passes_call (takes_of rfl rfl rfl rfl) fun _ _ _ _ h => h) (pa_cons (pe_dget (hu_of hr.toRoom) (pe_fld (pe_fld (pv 0) rfl) rfl) (pv 2) (fun _ _ => rfl)) pa_nil))))))
      (pss_cons (ps_fld (pv 0) (pv 3) rfl)
      (pss_cons (ps_fld (pv 0) (pe_op op_cat (pe_fld (pv 0) rfl) (pv 4)) rfl)
      (pss_cons (ps_fld (pv 0) (pe_op op_cat (pe_fld (pv 0) rfl) (pe_callTy Rd.c_list (by rfl) g.list (by decide +kernel) (pa_cons (pv 1) pa_nil))) rfl)
      (pss_one (ps_ret (pe_callB Rd.c_len (by rfl) g.len (by decide +kernel) (pa_cons (pe_fld (pv 0) rfl) pa_nil)))))))))))), ?_⟩
  try simp only [Rd.noxK, Rd.cxK]
  refine Rd.rd_start [some (V.ref x), some (V.ref p), none, none, none] rfl ?_
  walk_at "rd"
  refine Rd.if_f rfl ?_
  walk_at "rd"
  have hp' : SqT K H p (ns.map V.str) := hp
  try refine Rd.rd_IT hp' ?_
  refine Rd.for_tup (K := K) (xs := ns.map V.str) (fun i σ' H' => H = H' ∧ ∃ v2, σ' = [some (V.ref x), some (V.ref p), v2, none, none]) ⟨rfl, none, rfl⟩ (fun i σ' H' _ q => by obtain ⟨rfl, _⟩ := q; exact hp') (fun i v σ' H' hv q => ?_) (fun σ' H' q => ?_)
  · obtain ⟨rfl, v2, rfl⟩ := q
    obtain ⟨n, hm, rfl⟩ := List.mem_map.mp (List.mem_of_getElem? hv)
    walk_at "rd"
    refine TM.gr hx fun pg hG => ?_
    walk_at "rd"
    refine Rd.rd_sp (pg, S.G, n) rfl ⟨hG, hn n hm, ?_⟩
    exact ⟨rfl, _, rfl⟩
  obtain ⟨rfl, v2, rfl⟩ := q
  walk_at "rd"
  refine TM.nw hx fun pm hm => ?_
  walk_at "rd"
  rename_i L H1 nL s1 hL1
  try refine Rd.rd_IT (Rd.Same.sqT s1 hp') ?_
  obtain ⟨dxx, pgx, pmx, ppx, plx, ixx⟩ := hx.ins
  refine Rd.for_tup (K := K) (xs := ns.map V.str) (fun i σ' H' => ∃ v2 q o pasts ms, σ' = [some (V.ref x), some (V.ref p), v2, some (V.ref q), some (V.ref L)] ∧ Same H H' ∧ MoAt m.M S.G.cs H' q o ∧ H' L = some (.lst (ms.map V.ref)) ∧ Paired (MoAt m.M S.G.cs H') ms pasts ∧ ms.length = i ∧ (∀ c ∈ S.G.cs, 0 ≤ o.ld c) ∧ runL S.G S.now ns = consR pasts (runL S.G o (ns.drop i)))
    ⟨_, pm, S.now, [], [], rfl, s1, hm.same s1, hL1, .nil, rfl, h0, by rw [consR_nil, List.drop_zero]⟩ (fun i σ' H' _ q => ?_) (fun i v σ' H2 hv q => ?_) (fun σ' H2 q => ?_)
  · obtain ⟨v2, q, o, pasts, ms, rfl, s2, _⟩ := q
    exact Rd.Same.sqT s2 hp'
  · obtain ⟨v2, q, o, pasts, ms, rfl, s2, hq, hL2, hP2, lm, hnn, er⟩ := q
    rw [List.getElem?_map] at hv
    obtain ⟨n, hni, rfl⟩ := Option.map_eq_some_iff.mp hv
    have hi : i < ns.length := (List.getElem?_eq_some_iff.mp hni).1
    obtain ⟨t, ht, rfl⟩ := List.mem_map.mp (hn n (List.mem_of_getElem? hni))
    have ed : ns.drop i = t.nm :: ns.drop (i + 1) := by
      rw [List.drop_eq_getElem_cons hi]
      rw [List.getElem?_eq_getElem hi] at hni
      rw [Option.some.inj hni]
    have eR : runL S.G o (ns.drop i) = match ansOf S.G.cs o.st o.ld t with
      | .op => .op
      | .low c => .low c
      | .to st f => consR [o] (runL S.G (o.aft st f) (ns.drop (i + 1))) := by
      rw [ed]
      show (match rowOf S.G t.nm with | none => _ | some t => _) = _
      rw [rowOf_mem GO ht]
    walk_at "rd"
    refine ⟨Rd.tyL (SqL.of hL2), ?_⟩
    walk_at "rd"
    refine Rd.rd_append hL2 (by rw [List.length_map, lm]; exact Nat.lt_of_lt_of_le hi (Rd.small64 (by omega))) ?_
    have u3 : Mut L H2 (upd H2 L (.lst (ms.map V.ref ++ [V.ref q]))) := mut_upd hL2 rfl
    have s3 : Same H (upd H2 L (.lst (ms.map V.ref ++ [V.ref q]))) := same_mutM s2 nL u3
    have hL3 : upd H2 L (.lst (ms.map V.ref ++ [V.ref q])) L = some (.lst ((ms ++ [q]).map V.ref)) := by rw [upd_same, List.map_append]; rfl
    generalize upd H2 L (.lst (ms.map V.ref ++ [V.ref q])) = H3 at u3 s3 hL3 ⊢
    have hx3 := hx.same s3
    have hq3 := hq.mutL hL2 u3
    have hP3 : Paired (MoAt m.M S.G.cs H3) ms pasts := L2.Paired.mapP hP2 fun _ _ z => z.mutL hL2 u3
    walk_at "rd"
    obtain ⟨dq, dlq, dtq, iq, _, _⟩ := id hq3
    refine ⟨q, dq, _, rfl, iq, rfl, ?_⟩
    walk_at "rd"
    refine TM.gr hx3 fun pg hG => ?_
    refine fld_r T hG fun pr rs hpr hP => ?_
    walk_at "rd"
    obtain ⟨r, hv, hrow⟩ := val_rows hP GO.tA.nodup t ht
    refine ⟨pr, V.ref r, rfl, hv ▸ Rd.dg_s hpr, ?_⟩
    walk_at "rd"
    refine Rd.rd_sp ((q, r), S.G.cs, o, t) rfl ⟨hq3, hrow, GO.tO t ht, GO.tK t ht, GO.cA, GO.c5, hnn, ?_⟩
    try dsimp only
    cases ea : ansOf S.G.cs o.st o.ld t with
    | op =>
      rw [eR, ea] at er
      rw [er] at k
      exact fun H' s' => k H' (s3.trans s')
    | low c =>
      rw [eR, ea] at er
      rw [er] at k
      exact fun d H' hd s' hxd => k d H' (none_pre s3 hd) (s3.trans s') hxd
    | to st f =>
      rw [eR, ea] at er
      intro q' H4 nq' s4 hq4
      walk_at "rd"
      obtain ⟨_, _, _, hf⟩ := ansOf_to ea
      refine ⟨_, q', o.aft st f, pasts ++ [o], ms ++ [q], rfl, s3.trans s4, hq4, s4 _ _ hL3, ?_, by rw [List.length_append, lm]; rfl, hf, ?_⟩
      · exact paired_app (L2.Paired.mapP hP3 fun _ _ z => z.same s4) (.cons (hq3.same s4) .nil)
      · rw [er]
        exact consR_app _ _ _
  · obtain ⟨v2, q, o, pasts, ms, rfl, s2, hq, hL2, hP2, lm, hnn, er⟩ := q
    rw [List.length_map, List.drop_length] at er
    rw [er] at k
    refine Rd.rd_nx ?_
    walk_at "rd"
    have hx2 := hx.same s2
    obtain ⟨pg, hG, dx, pm', pp, pl, ms0, ix2, hm2, hpp, hPP, hpl⟩ := id hx2
    refine ⟨x, m.C, dx, _, rfl, ix2, TM.cl, TM.nN, by show 4 < 1000; decide, ?_⟩
    generalize e3 : upd H2 x _ = H3
    have b3 : SameBut x H2 H3 := e3 ▸ SameBut.upd
    have ix3 : H3 x = some (.ins m.C dx (fldsM pg q pp pl)) := by rw [← e3]; exact upd_same
    clear e3
    have l0 : ms0.length = S.past.length := hPP.length
    have l1 : ms.length ≤ 20000 := by rw [lm, List.length_map]; exact ln
    walk_at "rd"
    refine ⟨x, m.C, dx, _, V.ref pp, rfl, ix3, TM.cl, TM.nP, rfl, ?_⟩
    walk_at "rd"
    refine Rd.rd_cat (lst_but ix2 b3 hpp) (lst_but ix2 b3 hL2) (by rw [List.length_map, List.length_map]; exact Rd.small64 (by omega)) fun L4 H4 nL4 s4 hL4 => ?_
    rw [← List.map_append] at hL4
    walk_at "rd"
    have ix4 := s4 _ _ ix3
    have b24 := b3.trans (SameBut.of s4)
    refine ⟨x, m.C, dx, _, rfl, ix4, TM.cl, TM.nP, by show 4 < 1000; decide, ?_⟩
    generalize e5 : upd H4 x _ = H5
    have b5 : SameBut x H4 H5 := e5 ▸ SameBut.upd
    have ix5 : H5 x = some (.ins m.C dx (fldsM pg q L4 pl)) := by rw [← e5]; exact upd_same
    clear e5
    have b25 := b24.trans b5
    have hL5 := lst_but ix4 b5 hL4
    have hp5 : SqT K H5 p (ns.map V.str) := (b25.kp ix2 rfl).sqT (Rd.Same.sqT s2 hp')
    walk_at "rd"
    refine ⟨x, m.C, dx, _, V.ref pl, rfl, ix5, TM.cl, TM.nL, rfl, ?_⟩
    walk_at "rd"
    rename_i L6 H6 nL6 s6 hL6
    refine Rd.rd_cat (s6 _ _ (lst_but ix2 b25 hpl)) hL6 (by rw [List.length_map, List.length_map]; exact Rd.small64 (by omega)) fun L7 H7 nL7 s7 hL7 => ?_
    rw [← List.map_append] at hL7
    walk_at "rd"
    have ix7 := s7 _ _ (s6 _ _ ix5)
    have b27 := b25.trans (SameBut.of (s6.trans s7))
    refine ⟨x, m.C, dx, _, rfl, ix7, TM.cl, TM.nL, by show 4 < 1000; decide, ?_⟩
    generalize e8 : upd H7 x _ = H8
    have b8 : SameBut x H7 H8 := e8 ▸ SameBut.upd
    have ix8 : H8 x = some (.ins m.C dx (fldsM pg q L4 L7)) := by rw [← e8]; exact upd_same
    clear e8
    have b28 := b27.trans b8
    have hL8 := lst_but ix7 b8 hL7
    walk_at "rd"
    refine ⟨x, m.C, dx, _, V.ref L7, rfl, ix8, TM.cl, TM.nL, rfl, ?_⟩
    walk_at "rd"
    rw [List.length_map, List.length_append]
    refine k H8 ((SameBut.of s2).trans b28) ⟨pg, hG.but ix2 rfl b28, dx, q, L4, L7, ms0 ++ ms, ix8, hq.but ix2 rfl b28, ?_, ?_, hL8⟩
    · exact lst_but ix7 b8 ((s6.trans s7) _ _ hL5)
    · rw [List.append_nil]
      exact paired_app (L2.Paired.mapP hPP fun _ _ z => z.but ix2 rfl b28) (L2.Paired.mapP hP2 fun _ _ z => z.but ix2 rfl b28)
end
end M
set_option Elab.async false
set_option linter.all false
set_option maxRecDepth 100000
set_option maxHeartbeats 4000000
namespace M
open PySem L2
local macro_rules | `(tactic| walk_at "rdc") => `(tactic| first | exact Or.inl ⟨by decide, by decide⟩ | exact Or.inr ⟨by decide, by decide⟩ | exact ⟨by decide, by decide, by decide⟩ | exact ⟨by decide, by decide⟩ | decide | omega | assumption | (refine Or.inl ⟨?_, ?_⟩ <;> omega) | (refine Or.inr ⟨?_, ?_⟩ <;> omega) | (refine ⟨?_, ?_⟩ <;> omega))
local macro_rules | `(tactic| walk_at "rd1") => `(tactic| with_reducible first
  | refine Rd.rd_seq ?_ | refine Rd.rd_asg ?_ | refine Rd.rd_op ?_ | (refine' Rd.rd_var ?vh ?_; (case vh => with_unfolding_all rfl)) | refine Rd.rd_c ?_ | refine Rd.rd_I0 ?_ | refine Rd.rd_name0 ?_ | refine Rd.rd_nameS ?_ | refine Rd.rd_fn ?_
  | refine Rd.rd_cb ?_ | refine Rd.rd_cons ?_ | refine Rd.rd_nil ?_ | refine Rd.rd_int ?_ | refine Rd.rd_intB ?_ | refine Rd.rd_abs ?_ | refine Rd.rd_max2 ?_ | refine Rd.rd_min2 ?_
  | refine Rd.rd_call ?_ | refine Rd.rd_ifE ?_ | refine Rd.rd_test ?_ | refine Rd.rd_tB ?_ | refine Rd.rd_blV ?_ | refine Rd.rd_and ?_ | refine Rd.rd_or ?_ | refine Rd.rd_not ?_
  | refine Rd.rd_andV ?_ | refine Rd.rd_orV ?_ | refine Rd.rd_notV ?_ | refine Rd.rd_next ?_ | refine Rd.rd_ret ?_ | refine Rd.rd_drop ?_ | refine Rd.rd_ifS ?_ | refine Rd.rd_nx ?_ | refine Rd.rd_rt ?_ | refine Rd.rd_tMatch ?_ | refine Rd.rd_tCO ?_ | refine Rd.rd_tRevL ?_ | refine Rd.rd_tStar ?_ | refine Rd.rd_joined ?_ | refine Rd.rd_js1 ?_ | refine Rd.rd_js0 ?_ | refine Rd.rd_fmt ?_ | refine Rd.rd_propR ?_ | refine Rd.rd_iZipA ?_ | refine Rd.rd_iEnumT ?_ | refine Rd.rd_iOwn ?_ | (refine' Rd.rd_IET ?ln ?_; (case ln => with_unfolding_all walk_at "at")) | refine Rd.rd_chain ?_ | refine Rd.rd_tPar ?_ | refine Rd.rd_par ?_ | refine Rd.rd_sl ?_ | refine Rd.rd_noPart ?_ | refine Rd.rd_part ?_ | refine Rd.rd_intV ?_ | refine Rd.rd_lc ?_ | (refine' Rd.rd_aug ?vh ?_; (case vh => with_unfolding_all rfl)) | refine Rd.rd_ipI ?_ | refine Rd.rd_for ?_ | (refine' Rd.rd_IT ?ln ?_; (case ln => with_unfolding_all walk_at "at")) | (refine' Rd.rd_IL ?ln ?_; (case ln => with_unfolding_all walk_at "at")) | refine Rd.rd_iTup ?_ | refine Rd.rd_iList ?_ | refine Rd.rd_iRng1 ?_ | refine Rd.rd_iRng2 ?_ | refine Rd.rd_isi (Rd.isi_int Rd.kk_int_int) ?_ | refine Rd.rd_isi (Rd.isi_int Rd.kk_int_bool) ?_ | refine Rd.rd_dget ?_ | refine Rd.rd_din ?_ | refine Rd.rd_dnotin ?_ | refine Rd.rd_dput ?_ | refine Rd.rd_dc ?_ | refine Rd.rd_lc2 ?_ | refine Rd.rd_ltS ?_ | refine Rd.rd_inSg ?_ | refine Rd.rd_iStr ?_ | refine Rd.rd_IS ?_ | refine Rd.rd_prC ?_ | refine Rd.rd_prN ?_ | refine Rd.rd_methR ?_ | refine Rd.rd_cmeth ?_ | refine Rd.rd_fldS ?_ | refine Rd.rd_fld ?_ | (refine' Rd.rd_mkVS ?vh ?_; (case vh => with_unfolding_all rfl)) | (refine' Rd.rd_starT ?ln ?_; (case ln => with_unfolding_all walk_at "at")) | refine Rd.rd_iEnum ?_ | refine Rd.rd_iZip ?_ | (refine' Rd.rd_IE ?ln ?_; (case ln => with_unfolding_all walk_at "at")) | (refine' Rd.rd_IZ ?ln ?lm ?_; (case ln => with_unfolding_all walk_at "at"); (case lm => with_unfolding_all walk_at "at")) | (refine' Rd.rd_gTup ?ln ?lk ?_; (case ln => with_unfolding_all walk_at "at"); (case lk => with_unfolding_all rfl)) | refine Rd.rd_gCons ?_ | refine Rd.rd_gNil ?_ | refine Rd.rd_m1 ?_ | refine Rd.rd_strV ?_ | refine Rd.rd_tXiM ?_ | refine Rd.rd_tXiB ?_ | refine Rd.rd_tXiS ?_ | refine Rd.rd_bm ?_ | refine Rd.rd_bm0 ?_ | refine Rd.rd_isN ?_ | refine Rd.rd_notN ?_ | refine Rd.rd_sub ?_ | refine Rd.rd_un ?_ | refine Rd.rd_U ?_
  | (refine' Rd.rd_eq ?sc ?_; (case sc => with_unfolding_all rfl)) | (refine' Rd.rd_ne ?sc ?_; (case sc => with_unfolding_all rfl))
  | (refine' Rd.rd_I ?cc ?_; (case cc => with_unfolding_all walk_at "rdc"))
  | (refine' Rd.rd_lenL ?ln ?_; (case ln => with_unfolding_all walk_at "at")) | (refine' Rd.rd_lenT ?ln ?_; (case ln => with_unfolding_all walk_at "at"))
  | (refine' Rd.rd_ixL ?ln ?ia ?_; (case ln => with_unfolding_all walk_at "at"); (case ia => with_unfolding_all first | exact Rd.at0 | exact Rd.at1 | exact Rd.at2 | exact Rd.at3 | exact Rd.at4 | rfl)) | (refine' Rd.rd_ixT ?ln ?ia ?_; (case ln => with_unfolding_all walk_at "at"); (case ia => with_unfolding_all first | exact Rd.at0 | exact Rd.at1 | exact Rd.at2 | exact Rd.at3 | exact Rd.at4 | rfl)))
local macro_rules | `(tactic| walk_at "at") => `(tactic| first | assumption | (apply SqL.of; assumption) | (apply SqT.of; assumption) | (apply SqL.of; exact upd_same) | (apply SqT.of; exact upd_same))
local macro_rules | `(tactic| walk_at "rd") => `(tactic| repeat walk_at "rd1")
local macro_rules | `(tactic| walk_at "ne") => `(tactic| first | assumption | exact Ne.symm (by assumption) | (refine' Dice.ne ?D ?h; (case h => assumption); (case D => walk_at "fa")))
local macro_rules | `(tactic| walk_at "kp1") => `(tactic| first | exact kpS (by assumption) | exact Mut.kp (by assumption) | (refine' Rolled.kp ?r ?D; (case r => assumption); (case D => walk_at "fa")))
local macro_rules | `(tactic| walk_at "fa") => `(tactic| first
  | assumption | exact SqT.of (by assumption) | exact SqL.of (by assumption)
  | (refine' Dice.same ?h ?s; (case s => assumption); (case h => walk_at "fa")) | exact Rolled.dice (by assumption)
  | (refine' L2.Same.seq ?s ?h; (case s => assumption); (case h => walk_at "fa")) | (refine' Rolled.sqL ?r ?n ?h; (case r => assumption); (case n => walk_at "ne"); (case h => walk_at "fa"))
  | (refine' Kp.sqT ?k ?h; (case k => walk_at "kp1"); (case h => walk_at "fa")) | (refine' RowAt.kp ?k ?h; (case k => walk_at "kp1"); (case h => walk_at "fa")) | (refine' RowsAt.kp ?k ?h; (case k => walk_at "kp1"); (case h => walk_at "fa")) | (refine' ChgAt.kp ?k ?h; (case k => walk_at "kp1"); (case h => walk_at "fa")) | (refine' PlainAt.kp ?k ?h; (case k => walk_at "kp1"); (case h => walk_at "fa"))
  | (refine' GraphAt.same ?h ?s; (case s => assumption); (case h => walk_at "fa")) | (refine' GraphAt.rolled ?r ?D ?h; (case r => assumption); (case D => walk_at "fa"); (case h => walk_at "fa"))
  | (refine' Rd.Same.at ?s ?h; (case s => assumption); (case h => walk_at "fa")) | (refine' Mut.keep ?m _ _ ?n ?h; (case m => assumption); (case n => walk_at "ne"); (case h => walk_at "fa")) | (refine' Rolled.keep ?r _ _ ?n ?h; (case r => assumption); (case n => walk_at "ne"); (case h => walk_at "fa")))
local macro_rules | `(tactic| walk_at "sm") => `(tactic| first | assumption | exact Same.refl _ | (refine' L2.Same.trans ?h ?s; (case s => assumption); (case h => walk_at "sm")) | (refine' same_mutM ?a ?b ?c; (case c => assumption); (case b => walk_at "nn"); (case a => walk_at "sm")))
local macro_rules | `(tactic| walk_at "rl") => `(tactic| first | assumption | exact Rolled.refl (by walk_at "fa") | (refine' Rolled.trans ?a ?b; (case b => assumption); (case a => walk_at "rl")) | (refine' Rolled.same ?a ?b; (case b => assumption); (case a => walk_at "rl")) | (refine' Rolled.mutM ?a ?n ?e ?m; (case m => assumption); (case n => walk_at "nn"); (case e => walk_at "ne"); (case a => walk_at "rl")))
local macro_rules | `(tactic| walk_at "nn") => `(tactic| first | assumption | (refine' none_pre ?s ?h; (case h => assumption); (case s => walk_at "sm")) | (refine' none_rol ?r ?D ?h; (case h => assumption); (case D => walk_at "fa"); (case r => walk_at "rl")))
local macro_rules | `(tactic| walk_at "sz") => `(tactic| first | (simp only [List.length_cons, List.length_nil]; decide) | (refine Rd.small64 ?_; simp only [List.length_map, List.length_append, List.length_cons, List.length_nil]; omega))
local macro_rules | `(tactic| walk_at "at") => `(tactic| walk_at "fa")
local macro_rules | `(tactic| walk_at "rd1") => `(tactic| with_reducible first
  | (refine' Rd.rd_mkTup ?sz fun _ _ _ _ _ => ?_; (case sz => with_unfolding_all walk_at "sz")) | (refine' Rd.rd_mkLst ?sz fun _ _ _ _ _ => ?_; (case sz => with_unfolding_all walk_at "sz")) | (refine' Rd.rd_mkTupF ?sz fun _ _ _ _ _ => ?_; (case sz => with_unfolding_all walk_at "sz"))
  | (refine' Rd.rd_tupleL ?ln fun _ _ _ _ _ => ?_; (case ln => with_unfolding_all walk_at "at")) | (refine' Rd.rd_tupleT ?ln ?_; (case ln => with_unfolding_all walk_at "at")) | (refine' Rd.rd_listL ?ln fun _ _ _ _ _ => ?_; (case ln => with_unfolding_all walk_at "at")) | (refine' Rd.rd_listT ?ln fun _ _ _ _ _ => ?_; (case ln => with_unfolding_all walk_at "at"))
  | (refine' fld_c ?T ?h fun _ _ => ?_; (case T => assumption); (case h => with_unfolding_all walk_at "fa")) | (refine' fld_s ?T ?h fun _ _ => ?_; (case T => assumption); (case h => with_unfolding_all walk_at "fa")) | (refine' fld_n ?T ?h fun _ _ => ?_; (case T => assumption); (case h => with_unfolding_all walk_at "fa"))
  | refine Rd.rd_get2 ?_ | (refine' Rd.rd_getA ?ln ?_; (case ln => with_unfolding_all first | exact Or.inl (by walk_at "at") | exact Or.inr ⟨_, by walk_at "at"⟩)) | (refine' Rd.rd_getE ?ln ?_; (case ln => with_unfolding_all first | exact Or.inl (by walk_at "at") | exact Or.inr ⟨_, by walk_at "at"⟩)) | refine Rd.rd_daug ?_ | refine Rd.rd_items ?_ | refine Rd.rd_frz ?_ | refine Rd.rd_vals ?_ | refine Rd.rd_kw0 ?_ | refine Rd.rd_callN ?_
  | (refine' Rd.rd_isi (Rd.isi_tup ?ln Rd.kk_tup_tup) ?_; (case ln => with_unfolding_all walk_at "at")) | refine Rd.rd_isi (Rd.isi_str (b := true) kk_str_str) ?_)
local macro_rules | `(tactic| walk_at "st") => `(tactic| (simp only [List.map_cons, List.map_nil, L2.wipe, List.set_cons_zero, List.set_cons_succ]; walk_at "rd"; refine ⟨rfl, ?_⟩; walk_at "rd"))
abbrev s_Machine_taken : Stmt := inClass (top 39) 10
theorem sc_Machine_taken : FnScope ["self", "name"] ["self", "name"] (defScope s_Machine_taken) := ⟨rfl, rfl, rfl, by decide +kernel, rfl, by decide +kernel, by decide +kernel⟩
abbrev s_Machine_highest : Stmt := inClass (top 39) 11
theorem sc_Machine_highest : FnScope ["self", "counter"] ["self", "counter"] (defScope s_Machine_highest) := ⟨rfl, rfl, rfl, by decide +kernel, rfl, by decide +kernel, by decide +kernel⟩
abbrev s_Machine___contains__ : Stmt := inClass (top 39) 16
theorem sc_Machine___contains__ : FnScope ["self", "value"] ["self", "value"] (defScope s_Machine___contains__) := ⟨rfl, rfl, rfl, by decide +kernel, rfl, by decide +kernel, by decide +kernel⟩
abbrev s_Machine___str__ : Stmt := inClass (top 39) 18
theorem sc_Machine___str__ : FnScope ["self", "loads", "told", "counter"] ["self"] (defScope s_Machine___str__) := ⟨rfl, rfl, rfl, by decide +kernel, rfl, by decide +kernel, by decide +kernel⟩
structure MachS (K : PySem.W.Frag) (m : AdsM) : Prop where
  m_taken : Meth K m.C "taken" m.tn
  m_highest : Meth K m.C "highest" m.hg
  ct : PySem.W.findIn K (.ref m.C) "__contains__" = some (some (.ref m.ct))
  ctf : PySem.W.isFn K (.ref m.ct) = true
  st : PySem.W.findIn K (.ref m.C) "__str__" = some (some (.ref m.st))
  stf : PySem.W.isFn K (.ref m.st) = true
def strZ (i : Int) : Str := Str.ofString (toString i)
def ldT (ld : Str → Int) (c : Str) : Str := c ++ (" " : Str) ++ strZ (ld c)
def machT (cs : List Str) (o : Mo) : Str := ("machine at " : Str) ++ o.st ++ (": " : Str) ++ Txt.join ", " (cs.map (ldT o.ld))
/-- numbers that can be shown -/
def LdOk (cs : List Str) (f : Str → Int) : Prop := ∀ c ∈ cs, 0 ≤ f c ∧ (f c).natAbs.log2 < 400
def spMtn (K : PySem.W.Frag) (C : Addr) (m : AdsM) : Sp := Rd.mkSp (fun (a : Addr × Mc × Str) => [.ref a.1, .str a.2.2]) fun a H Q _ => MachAt K C m H a.1 a.2.1 ∧ a.2.2 ∈ a.2.1.G.ts.map (·.nm) ∧ Q (.int (a.2.1.log.count a.2.2 : Nat)) H
def spMhg (K : PySem.W.Frag) (C : Addr) (m : AdsM) : Sp := Rd.mkSp (fun (a : Addr × Mc × Str) => [.ref a.1, .str a.2.2]) fun a H Q _ => MachAt K C m H a.1 a.2.1 ∧ a.2.2 ∈ a.2.1.G.cs ∧ Q (.int (a.2.1.now.tp a.2.2)) H
def spMct (K : PySem.W.Frag) (C : Addr) (m : AdsM) : Sp := Rd.mkSp (fun (a : Addr × Mc × Str) => [.ref a.1, .str a.2.2]) fun a H Q _ => MachAt K C m H a.1 a.2.1 ∧ GOk a.2.1.G ∧ ∀ H', Same H H' → Q (.bl (decide (a.2.2 ∈ posL a.2.1.G a.2.1.now.st a.2.1.now.ld))) H'
def spMstr (K : PySem.W.Frag) (C : Addr) (m : AdsM) : Sp := Rd.mkSp (fun (a : Addr × Mc) => [.ref a.1]) fun a H Q _ => MachAt K C m H a.1 a.2 ∧ GOk a.2.G ∧ LdOk a.2.G.cs a.2.now.ld ∧ a.2.now.st.length ≤ 8 ∧ ∀ H', Same H H' → Q (.str (machT a.2.G.cs a.2.now)) H'
theorem emp_app (x : Str) : Str.empty ++ x = x := by
  cases x
  show Str.mk (#[] ++ _) = _
  rw [Array.empty_append]
theorem app_len (x y : Str) : (x ++ y).length = x.length + y.length := by
  show (x.cps ++ y.cps).size = x.cps.size + y.cps.size
  exact Array.size_append
theorem strZ_len {i : Int} (h : i.natAbs.log2 < 400) : (strZ i).length ≤ 401 := by
  unfold strZ
  rw [PySem.ofString_length]
  exact int_text_length_le (by decide) h
theorem ldT_len {f : Str → Int} {c : Str} (h : (f c).natAbs.log2 < 400) (hc : c.length ≤ 8) : (ldT f c).length ≤ 410 := by
  unfold ldT
  rw [app_len, app_len]
  have := strZ_len h
  have e : (" " : Str).length = 1 := by decide +kernel
  omega
theorem join_len (f : Str → Str) {n : Nat} : ∀ {l : List Str}, (∀ c ∈ l, (f c).length ≤ n) → ((l.map f).map (·.length)).sum ≤ l.length * n
  | [], _ => Nat.zero_le _
  | c :: l, h => by
    have h1 := join_len f (l := l) fun x hx => h x (List.mem_cons_of_mem _ hx)
    have h2 := h c List.mem_cons_self
    simp only [List.map_cons, List.sum_cons, List.length_cons]
    rw [Nat.succ_mul]
    omega
theorem join_length (y : Str) : ∀ parts : List Str, (Txt.join y parts).length ≤ (parts.map (·.length)).sum + parts.length * y.length
  | [] => by rw [TL.join_eq]; exact Nat.zero_le _
  | [x] => by
    rw [TL.join_eq]
    show x.length ≤ _
    simp
  | x :: z :: r => by
    have ih := join_length y (z :: r)
    rw [TL.join_eq] at ih ⊢
    show (x ++ y ++ Str.join y (z :: r)).length ≤ _
    rw [app_len, app_len]
    simp only [List.map_cons, List.sum_cons, List.length_cons, Nat.succ_mul] at ih ⊢
    omega
theorem dg_ldF {H : Hp} {d : Addr} {o : Obj} {cs : List Str} {f : Str → Int} {n : Str} (h : H d = some (.frz o (.dK (ldK cs f)))) (hn : n ∈ cs) : DGet H d (.str n) (some (V.int (f n))) := .inl ⟨_, Sum.inr n, .inr ⟨o, h⟩, rfl, (val_ldK hn).symm⟩
section
variable {gd : Bool} {P : Program} {w : World} {K : PySem.W.Frag} {mg : Str → Option Value} {base : Heap} {a : AdsG} {m : AdsM} {e : AdsE}
theorem ok_mtn (TM : MachC K mg m) (F : Rd.HasAt K m.tn "taken" "Machine.taken" s_Machine_taken) (g : Glob mg) (c_require_name : Rd.Fn false P w K mg base CX0 1 "require_name" (spReqSt K a.C (fun G => G.ts.map (·.nm)))) : FnR P w K mg base CX0 2 m.tn (spMtn K a.C m) := by
  refine Rd.FnG.toR (F.fn sc_Machine_taken (fun _ => rfl) (fun _ _ _ _ _ _ us hl => match us, hl with | [_, _], _ => rfl) fun cdv A outer s H Q E b hr h => ?_)
  obtain ⟨x, S, n⟩ := b
  obtain ⟨hx, hn, k⟩ := h
  dsimp only at hx hn k
  refine ⟨_, (pss_cons (ps_expr (Rd.pe_fn c_require_name (hr.mono (by decide)) (by rfl) (pa_cons (pe_fld (pv 0) rfl) (pa_cons (pv 1) pa_nil))))
      (pss_one (ps_ret (pe_bm PySem.F.plainAttrs_list PySem.F.slot_list_count PySem.F.type_list_count Rd.mt_countS (pe_fld (pv 0) rfl) (pa_cons (pv 1) pa_nil))))), ?_⟩
  try simp only [Rd.noxK, Rd.cxK]
  refine Rd.rd_start [some (V.ref x), some (V.str n)] rfl ?_
  walk_at "rd"
  refine TM.gr hx fun pg hG => ?_
  walk_at "rd"
  refine Rd.rd_sp (pg, S.G, n) rfl ⟨hG, hn, ?_⟩
  walk_at "rd"
  refine TM.lg hx fun p hp => ?_
  refine ⟨Rd.tyL (SqL.of hp), ?_⟩
  walk_at "rd"
  exact Rd.rd_countS (SqL.of hp) k
theorem ok_mhg (TM : MachC K mg m) (F : Rd.HasAt K m.hg "highest" "Machine.highest" s_Machine_highest) (g : Glob mg) (c_require_counter : Rd.Fn false P w K mg base CX0 1 "require_counter" (spReqSt K a.C (·.cs))) : FnR P w K mg base CX0 2 m.hg (spMhg K a.C m) := by
  refine Rd.FnG.toR (F.fn sc_Machine_highest (fun _ => rfl) (fun _ _ _ _ _ _ us hl => match us, hl with | [_, _], _ => rfl) fun cdv A outer s H Q E b hr h => ?_)
  obtain ⟨x, S, n⟩ := b
  obtain ⟨hx, hn, k⟩ := h
  dsimp only at hx hn k
  refine ⟨_, (pss_cons (ps_expr (Rd.pe_fn c_require_counter (hr.mono (by decide)) (by rfl) (pa_cons (pe_fld (pv 0) rfl) (pa_cons (pv 1) pa_nil))))
      (pss_one (ps_ret (pe_dget (hu_of hr.toRoom) (pe_fld (pe_fld (pv 0) rfl) rfl) (pv 1) (fun _ _ => rfl))))), ?_⟩
  try simp only [Rd.noxK, Rd.cxK]
  refine Rd.rd_start [some (V.ref x), some (V.str n)] rfl ?_
  walk_at "rd"
  refine TM.gr hx fun pg hG => ?_
  walk_at "rd"
  refine Rd.rd_sp (pg, S.G, n) rfl ⟨hG, hn, ?_⟩
  walk_at "rd"
  refine TM.nw hx fun pm hm => ?_
  refine TM.o.tp hm fun d hd => ?_
  walk_at "rd"
  exact ⟨d, _, rfl, dg_ld hd hn, k⟩
theorem ok_mct (TM : MachC K mg m) (F : Rd.HasAt K m.ct "__contains__" "Machine.__contains__" s_Machine___contains__) (g : Glob mg) (c_possible_in : Rd.Fn false P w K mg base CX0 2 "possible_in" (spPoss K a.C m)) : FnR P w K mg base CX0 3 m.ct (spMct K a.C m) := by
  refine Rd.FnG.toR (F.fn sc_Machine___contains__ (fun _ => rfl) (fun _ _ _ _ _ _ us hl => match us, hl with | [_, _], _ => rfl) fun cdv A outer s H Q E b hr h => ?_)
  obtain ⟨x, S, n⟩ := b
  obtain ⟨hx, GO, k⟩ := h
  dsimp only at hx GO k
  refine ⟨_, (pss_one (ps_ret (pe_and (pe_callB Rd.c_isi (by rfl) g.isinstance (by decide +kernel) (pa_cons (pv 1) (pa_cons (pe_bltn (v := .ty "str") (by rfl) g.str (by decide +kernel) rfl) pa_nil))) (pe_one (pe_cmpR op_in_seq (pv 1) (Rd.pe_fn c_possible_in (hr.mono (by decide)) (by rfl) (pa_cons (pv 0) pa_nil)) (by rfl)))))), ?_⟩
  try simp only [Rd.noxK, Rd.cxK]
  refine Rd.rd_start [some (V.ref x), some (V.str n)] rfl ?_
  walk_at "rd"
  refine Rd.if_t rfl ?_
  walk_at "rd"
  refine Rd.rd_sp (x, S) rfl ⟨hx, GO, fun p H' s' hp => ?_⟩
  refine Rd.rd_inTx (.inl hp) ?_
  exact k H' s'
theorem ok_mstr (TM : MachC K mg m) (F : Rd.HasAt K m.st "__str__" "Machine.__str__" s_Machine___str__) (g : Glob mg) : FnR P w K mg base CX0 1 m.st (spMstr K a.C m) := by
  refine Rd.FnG.toR (F.fn sc_Machine___str__ (fun _ => rfl) (fun _ _ _ _ _ _ us hl => match us, hl with | [_], _ => rfl) fun cdv A outer s H Q E b hr h => ?_)
  obtain ⟨x, S⟩ := b
  obtain ⟨hx, GO, LO, ls, k⟩ := h
  dsimp only at hx GO LO ls k
  refine ⟨_, (pss_cons (ps_set (i := 1) sc_Machine___str__.nd rfl (Or.inr rfl) (pe_fld (pe_fld (pv 0) rfl) rfl))
      (pss_cons (ps_set (i := 2) sc_Machine___str__.nd rfl (Or.inl rfl) (Rd.pe_join pe_str (pe_lock (pe_lc (own := [("counter", 3)]) (by rfl) sc_Machine___str__.nd (pi_keys (pv 1)) (blkOk_by (own := [("counter", 3)]) (N := ["self", "loads", "told", "counter"]) (sc := defScope s_Machine___str__) (by decide +kernel)) (fun _ _ _ _ _ => (pg_name (i := 3) sc_Machine___str__.nd rfl (Or.inl rfl))) (fun _ _ _ _ _ => pts_nil) (fun _ _ _ _ _ => (Rd.pe_js (PJ.cons (pe_fmt (pv 3)) (PJ.cons pe_str (PJ.cons (pe_fmt (pe_dget (hu_of hr.toRoom) (pv 1) (pv 3) (fun _ _ => rfl))) PJ.nil)))))))))
      (pss_one (ps_ret (Rd.pe_js (PJ.cons pe_str (PJ.cons (pe_fmt (pe_fld (pe_fld (pv 0) rfl) rfl)) (PJ.cons pe_str (PJ.cons (pe_fmt (pv 2)) PJ.nil))))))))), ?_⟩
  try simp only [Rd.noxK, Rd.cxK]
  refine Rd.rd_start [some (V.ref x), none, none, none] rfl ?_
  walk_at "rd"
  refine TM.nw hx fun pm hm => ?_
  refine TM.o.ld hm fun d hd => ?_
  walk_at "rd"
  refine ⟨d, _, hd, trivial, fun od => ?_⟩
  have fd : upd H d (.frz od (.dK (ldK S.G.cs S.now.ld))) d = some (.frz od (.dK (ldK S.G.cs S.now.ld))) := upd_same
  have hcs := GO.c5
  refine Rd.rd_lc (Rd.rd_keysD (Rd.rd_var rfl ⟨d, od, rfl, .inl ⟨_, fd, ?_⟩⟩))
  refine Rd.lc_keysD (fun kv => V.str (ldT S.now.ld (keyT kv.1))) (by rw [ldK_len]; omega) fd (fun kv H2 M hkv s2 hM => ?_) (fun D H2 nD s2 hD => ?_)
  · obtain ⟨c, hc, rfl⟩ := mem_ldK hkv
    have lc : c.length ≤ 8 := (name_len (GO.cN c hc)).2
    have lv := (LO c hc).2
    have e1 : Str.empty ++ c = c := emp_app c
    refine Rd.rd_start' [some (V.ref x), some (V.ref d), none, none] rfl ?_
    walk_at "rd"
    refine ⟨rfl, ?_⟩
    walk_at "rd"
    refine Rd.rd_fmtS (Nat.le_trans lc (by decide)) ?_
    refine Rd.rd_js (by rw [e1]; exact Nat.le_trans lc (by decide)) ?_
    rw [e1]
    walk_at "rd"
    have e2 : (c ++ (" " : Str)).length ≤ 9 := by
      rw [app_len]
      have e : (" " : Str).length = 1 := by decide +kernel
      omega
    refine Rd.rd_js (Nat.le_trans e2 (by decide)) ?_
    walk_at "rd"
    refine ⟨d, _, rfl, dg_ldF (s2 _ _ fd) hc, ?_⟩
    refine Rd.rd_fmtI (Nat.lt_trans lv (by decide)) ?_
    have e3 := ldT_len (f := S.now.ld) lv lc
    refine Rd.rd_js (Nat.le_trans e3 (by decide)) ?_
    walk_at "rd"
    exact hM _ (Same.refl _)
  refine ⟨s2 _ _ fd, ?_⟩
  have s3 := same_unlockJ hd s2
  have hD3 : upd H2 d (.dK (ldK S.G.cs S.now.ld)) D = some (.lst ((S.G.cs.map (ldT S.now.ld)).map V.str)) := by
    rw [upd_ne (fun z => by rw [z, fd] at nD; cases nD), hD]
    unfold ldK
    rw [List.map_map, List.map_map]
    rfl
  generalize upd H2 d (.dK (ldK S.G.cs S.now.ld)) = H3 at s3 hD3 ⊢
  have lj : ((S.G.cs.map (ldT S.now.ld)).map (·.length)).sum ≤ S.G.cs.length * 410 := join_len _ fun c hc => ldT_len (LO c hc).2 (name_len (GO.cN c hc)).2
  refine Rd.rd_joinL (SqL.of hD3) ?_ ?_
  · have e : (", " : Str).length = 2 := by decide +kernel
    rw [List.length_map, e]
    have : S.G.cs.length * 410 ≤ 5 * 410 := Nat.mul_le_mul_right _ hcs
    omega
  walk_at "rd"
  have f1 : Str.empty ++ ("machine at " : Str) = ("machine at " : Str) := emp_app _
  have m1 : ("machine at " : Str).length = 11 := by decide +kernel
  have m2 : (": " : Str).length = 2 := by decide +kernel
  have jl : (Txt.join (", " : Str) (S.G.cs.map (ldT S.now.ld))).length ≤ 5000 := by
    refine Nat.le_trans (join_length _ _) ?_
    have e : (", " : Str).length = 2 := by decide +kernel
    rw [List.length_map, e]
    have : S.G.cs.length * 410 ≤ 5 * 410 := Nat.mul_le_mul_right _ hcs
    omega
  have big : 6000 ≤ sizeLine := by decide
  refine Rd.rd_js (by rw [f1, m1]; decide) ?_
  rw [f1]
  walk_at "rd"
  refine TM.nw (hx.same s3) fun pm2 hm2 => ?_
  refine TM.o.st hm2 ?_
  refine Rd.rd_fmtS (Nat.le_trans ls (by decide)) ?_
  refine Rd.rd_js (by rw [app_len, m1]; omega) ?_
  walk_at "rd"
  refine Rd.rd_js (by rw [app_len, app_len, m1, m2]; omega) ?_
  walk_at "rd"
  refine Rd.rd_fmtS (by omega) ?_
  refine Rd.rd_js (by rw [app_len, app_len, app_len, m1, m2]; omega) ?_
  walk_at "rd"
  exact k H3 s3
theorem ok_take (TM : MachC K mg m) (F : Rd.HasAt K m.tk "take" "Machine.take" s_Machine_take) (c_Machine_take_all : FnR P w K mg base (L2.CX P w) 4 m.ta (spTakeAll K a.C e m)) : FnR P w K mg base (L2.CX P w) 6 m.tk (Rd.spStar 1 (spTakeAll K a.C e m)) := by
  refine Rd.FnG.toR (F.starX (ps := ["self"]) sc_Machine_take StX.cxUp (fun _ _ _ _ _ _ us rest hl => match us, hl, rest with | [_], _, [] => rfl | [_], _, _ :: _ => rfl) fun cdv A outer s H Q E b hr h => ?_)
  obtain ⟨⟨x, p⟩, S, ns⟩ := b
  obtain ⟨hx, hrest⟩ := id h
  dsimp only at hx
  obtain ⟨dx, pg, pm, pp, pl, ix⟩ := hx.ins
  refine ⟨_, (pss_one (ps_ret (pe_methR (pv 0) TM.cl TM.m_take_all c_Machine_take_all (hr.mono (by decide)).toRoom (passes_call (takes_of rfl rfl rfl rfl) fun _ _ _ _ h => h) (pa_cons (pv 1) pa_nil)))), ?_⟩
  try simp only [Rd.noxK, Rd.cxK]
  refine Rd.rd_start [some (V.ref x), some (V.ref p)] rfl ?_
  walk_at "rd"
  refine ⟨x, dx, _, rfl, ix, rfl, ?_⟩
  walk_at "rd"
  exact Rd.rd_sp ((x, p), S, ns) rfl h
end
end M
set_option Elab.async false
set_option linter.all false
set_option maxRecDepth 100000
set_option maxHeartbeats 4000000
namespace Rd
open PySem PySem.Spec PyProof.Rows L2
section
variable {X : Cx} {K : PySem.W.Frag} {H : Hp} {Q : VK}
def rNeE (K : PySem.W.Frag) : R2 := fun x y H Q => ∃ a b xs, x = V.ref a ∧ y = V.ref b ∧ SqL K H a xs ∧ SqL K H b [] ∧ Q (.bl (!xs.isEmpty)) H
theorem op_neE (hu : X.A.units + 64 < cLine) : OpR X (compareOp .NotEq) (rNeE X.K) := by
  intro pins s σ H x y v u Q I rx ry h
  obtain ⟨a, b, xs, rfl, rfl, ha, hb, q⟩ := h
  obtain rfl : v = Value.ref a := rx
  obtain rfl : u = Value.ref b := ry
  obtain ⟨its, rv, hl, _⟩ := I.list ha
  obtain ⟨its2, rv2, hl2, _⟩ := I.list hb
  have e2 : its2 = [] := by
    cases rv2
    rfl
  subst e2
  have l1 := rv.length
  have un : X.A.units < cLine := by omega
  cases xs with
  | nil =>
    have e1 : its = [] := by
      cases rv
      rfl
    subst e1
    have := SeqAt.RcNeAt.lists (A := X.A) (e := fun _ => true) hl.isList hl2.isList rfl un (fun j h1 => absurd h1 (by simp))
    exact this X.prog X.w _ _ ⟨.bl _, H, I, rfl, q⟩
  | cons x r =>
    have := SeqAt.RcNeAt.lists_lengths (A := X.A) hl.isList hl2.isList (by rw [bne_iff_ne, List.size_toArray, List.size_toArray, ← l1]; exact Nat.succ_ne_zero _) un
    exact this X.prog X.w _ _ ⟨.bl _, H, I, rfl, q⟩
theorem rd_neE {a b : Addr} {xs : List V} (ha : SqL K H a xs) (hb : SqL K H b []) (q : Q (.bl (!xs.isEmpty)) H) : rNeE K (.ref a) (.ref b) H Q := ⟨a, b, xs, rfl, rfl, ha, hb, q⟩
end
end Rd
set_option Elab.async false
set_option linter.all false
set_option maxRecDepth 100000
set_option maxHeartbeats 4000000
namespace M
open PySem L2
local macro_rules | `(tactic| walk_at "rdc") => `(tactic| first | exact Or.inl ⟨by decide, by decide⟩ | exact Or.inr ⟨by decide, by decide⟩ | exact ⟨by decide, by decide, by decide⟩ | exact ⟨by decide, by decide⟩ | decide | omega | assumption | (refine Or.inl ⟨?_, ?_⟩ <;> omega) | (refine Or.inr ⟨?_, ?_⟩ <;> omega) | (refine ⟨?_, ?_⟩ <;> omega))
local macro_rules | `(tactic| walk_at "rd1") => `(tactic| with_reducible first
  | refine Rd.rd_seq ?_ | refine Rd.rd_asg ?_ | refine Rd.rd_op ?_ | (refine' Rd.rd_var ?vh ?_; (case vh => with_unfolding_all rfl)) | refine Rd.rd_c ?_ | refine Rd.rd_I0 ?_ | refine Rd.rd_name0 ?_ | refine Rd.rd_nameS ?_ | refine Rd.rd_fn ?_
  | refine Rd.rd_cb ?_ | refine Rd.rd_cons ?_ | refine Rd.rd_nil ?_ | refine Rd.rd_int ?_ | refine Rd.rd_intB ?_ | refine Rd.rd_abs ?_ | refine Rd.rd_max2 ?_ | refine Rd.rd_min2 ?_
  | refine Rd.rd_call ?_ | refine Rd.rd_ifE ?_ | refine Rd.rd_test ?_ | refine Rd.rd_tB ?_ | refine Rd.rd_blV ?_ | refine Rd.rd_and ?_ | refine Rd.rd_or ?_ | refine Rd.rd_not ?_
  | refine Rd.rd_andV ?_ | refine Rd.rd_orV ?_ | refine Rd.rd_notV ?_ | refine Rd.rd_next ?_ | refine Rd.rd_ret ?_ | refine Rd.rd_drop ?_ | refine Rd.rd_ifS ?_ | refine Rd.rd_nx ?_ | refine Rd.rd_rt ?_ | refine Rd.rd_tMatch ?_ | refine Rd.rd_tCO ?_ | refine Rd.rd_tRevL ?_ | refine Rd.rd_tStar ?_ | refine Rd.rd_joined ?_ | refine Rd.rd_js1 ?_ | refine Rd.rd_js0 ?_ | refine Rd.rd_fmt ?_ | refine Rd.rd_propR ?_ | refine Rd.rd_iZipA ?_ | refine Rd.rd_iEnumT ?_ | refine Rd.rd_iOwn ?_ | (refine' Rd.rd_IET ?ln ?_; (case ln => with_unfolding_all walk_at "at")) | refine Rd.rd_chain ?_ | refine Rd.rd_tPar ?_ | refine Rd.rd_par ?_ | refine Rd.rd_sl ?_ | refine Rd.rd_noPart ?_ | refine Rd.rd_part ?_ | refine Rd.rd_intV ?_ | refine Rd.rd_lc ?_ | (refine' Rd.rd_aug ?vh ?_; (case vh => with_unfolding_all rfl)) | refine Rd.rd_ipI ?_ | refine Rd.rd_for ?_ | (refine' Rd.rd_IT ?ln ?_; (case ln => with_unfolding_all walk_at "at")) | (refine' Rd.rd_IL ?ln ?_; (case ln => with_unfolding_all walk_at "at")) | refine Rd.rd_iTup ?_ | refine Rd.rd_iList ?_ | refine Rd.rd_iRng1 ?_ | refine Rd.rd_iRng2 ?_ | refine Rd.rd_isi (Rd.isi_int Rd.kk_int_int) ?_ | refine Rd.rd_isi (Rd.isi_int Rd.kk_int_bool) ?_ | refine Rd.rd_dget ?_ | refine Rd.rd_din ?_ | refine Rd.rd_dnotin ?_ | refine Rd.rd_dput ?_ | refine Rd.rd_dc ?_ | refine Rd.rd_lc2 ?_ | refine Rd.rd_ltS ?_ | refine Rd.rd_inSg ?_ | refine Rd.rd_iStr ?_ | refine Rd.rd_IS ?_ | refine Rd.rd_prC ?_ | refine Rd.rd_prN ?_ | refine Rd.rd_methR ?_ | refine Rd.rd_cmeth ?_ | refine Rd.rd_fldS ?_ | refine Rd.rd_fld ?_ | (refine' Rd.rd_mkVS ?vh ?_; (case vh => with_unfolding_all rfl)) | (refine' Rd.rd_starT ?ln ?_; (case ln => with_unfolding_all walk_at "at")) | refine Rd.rd_iEnum ?_ | refine Rd.rd_iZip ?_ | (refine' Rd.rd_IE ?ln ?_; (case ln => with_unfolding_all walk_at "at")) | (refine' Rd.rd_IZ ?ln ?lm ?_; (case ln => with_unfolding_all walk_at "at"); (case lm => with_unfolding_all walk_at "at")) | (refine' Rd.rd_gTup ?ln ?lk ?_; (case ln => with_unfolding_all walk_at "at"); (case lk => with_unfolding_all rfl)) | refine Rd.rd_gCons ?_ | refine Rd.rd_gNil ?_ | refine Rd.rd_m1 ?_ | refine Rd.rd_strV ?_ | refine Rd.rd_tXiM ?_ | refine Rd.rd_tXiB ?_ | refine Rd.rd_tXiS ?_ | refine Rd.rd_bm ?_ | refine Rd.rd_bm0 ?_ | refine Rd.rd_isN ?_ | refine Rd.rd_notN ?_ | refine Rd.rd_sub ?_ | refine Rd.rd_un ?_ | refine Rd.rd_U ?_
  | (refine' Rd.rd_eq ?sc ?_; (case sc => with_unfolding_all rfl)) | (refine' Rd.rd_ne ?sc ?_; (case sc => with_unfolding_all rfl))
  | (refine' Rd.rd_I ?cc ?_; (case cc => with_unfolding_all walk_at "rdc"))
  | (refine' Rd.rd_lenL ?ln ?_; (case ln => with_unfolding_all walk_at "at")) | (refine' Rd.rd_lenT ?ln ?_; (case ln => with_unfolding_all walk_at "at"))
  | (refine' Rd.rd_ixL ?ln ?ia ?_; (case ln => with_unfolding_all walk_at "at"); (case ia => with_unfolding_all first | exact Rd.at0 | exact Rd.at1 | exact Rd.at2 | exact Rd.at3 | exact Rd.at4 | rfl)) | (refine' Rd.rd_ixT ?ln ?ia ?_; (case ln => with_unfolding_all walk_at "at"); (case ia => with_unfolding_all first | exact Rd.at0 | exact Rd.at1 | exact Rd.at2 | exact Rd.at3 | exact Rd.at4 | rfl)))
local macro_rules | `(tactic| walk_at "at") => `(tactic| first | assumption | (apply SqL.of; assumption) | (apply SqT.of; assumption) | (apply SqL.of; exact upd_same) | (apply SqT.of; exact upd_same))
local macro_rules | `(tactic| walk_at "rd") => `(tactic| repeat walk_at "rd1")
local macro_rules | `(tactic| walk_at "ne") => `(tactic| first | assumption | exact Ne.symm (by assumption) | (refine' Dice.ne ?D ?h; (case h => assumption); (case D => walk_at "fa")))
local macro_rules | `(tactic| walk_at "kp1") => `(tactic| first | exact kpS (by assumption) | exact Mut.kp (by assumption) | (refine' Rolled.kp ?r ?D; (case r => assumption); (case D => walk_at "fa")))
local macro_rules | `(tactic| walk_at "fa") => `(tactic| first
  | assumption | exact SqT.of (by assumption) | exact SqL.of (by assumption)
  | (refine' Dice.same ?h ?s; (case s => assumption); (case h => walk_at "fa")) | exact Rolled.dice (by assumption)
  | (refine' L2.Same.seq ?s ?h; (case s => assumption); (case h => walk_at "fa")) | (refine' Rolled.sqL ?r ?n ?h; (case r => assumption); (case n => walk_at "ne"); (case h => walk_at "fa"))
  | (refine' Kp.sqT ?k ?h; (case k => walk_at "kp1"); (case h => walk_at "fa")) | (refine' RowAt.kp ?k ?h; (case k => walk_at "kp1"); (case h => walk_at "fa")) | (refine' RowsAt.kp ?k ?h; (case k => walk_at "kp1"); (case h => walk_at "fa")) | (refine' ChgAt.kp ?k ?h; (case k => walk_at "kp1"); (case h => walk_at "fa")) | (refine' PlainAt.kp ?k ?h; (case k => walk_at "kp1"); (case h => walk_at "fa"))
  | (refine' GraphAt.same ?h ?s; (case s => assumption); (case h => walk_at "fa")) | (refine' GraphAt.rolled ?r ?D ?h; (case r => assumption); (case D => walk_at "fa"); (case h => walk_at "fa"))
  | (refine' Rd.Same.at ?s ?h; (case s => assumption); (case h => walk_at "fa")) | (refine' Mut.keep ?m _ _ ?n ?h; (case m => assumption); (case n => walk_at "ne"); (case h => walk_at "fa")) | (refine' Rolled.keep ?r _ _ ?n ?h; (case r => assumption); (case n => walk_at "ne"); (case h => walk_at "fa")))
local macro_rules | `(tactic| walk_at "sm") => `(tactic| first | assumption | exact Same.refl _ | (refine' L2.Same.trans ?h ?s; (case s => assumption); (case h => walk_at "sm")) | (refine' same_mutM ?a ?b ?c; (case c => assumption); (case b => walk_at "nn"); (case a => walk_at "sm")))
local macro_rules | `(tactic| walk_at "rl") => `(tactic| first | assumption | exact Rolled.refl (by walk_at "fa") | (refine' Rolled.trans ?a ?b; (case b => assumption); (case a => walk_at "rl")) | (refine' Rolled.same ?a ?b; (case b => assumption); (case a => walk_at "rl")) | (refine' Rolled.mutM ?a ?n ?e ?m; (case m => assumption); (case n => walk_at "nn"); (case e => walk_at "ne"); (case a => walk_at "rl")))
local macro_rules | `(tactic| walk_at "nn") => `(tactic| first | assumption | (refine' none_pre ?s ?h; (case h => assumption); (case s => walk_at "sm")) | (refine' none_rol ?r ?D ?h; (case h => assumption); (case D => walk_at "fa"); (case r => walk_at "rl")))
local macro_rules | `(tactic| walk_at "sz") => `(tactic| first | (simp only [List.length_cons, List.length_nil]; decide) | (refine Rd.small64 ?_; simp only [List.length_map, List.length_append, List.length_cons, List.length_nil]; omega))
local macro_rules | `(tactic| walk_at "at") => `(tactic| walk_at "fa")
local macro_rules | `(tactic| walk_at "rd1") => `(tactic| with_reducible first
  | (refine' Rd.rd_mkTup ?sz fun _ _ _ _ _ => ?_; (case sz => with_unfolding_all walk_at "sz")) | (refine' Rd.rd_mkLst ?sz fun _ _ _ _ _ => ?_; (case sz => with_unfolding_all walk_at "sz")) | (refine' Rd.rd_mkTupF ?sz fun _ _ _ _ _ => ?_; (case sz => with_unfolding_all walk_at "sz"))
  | (refine' Rd.rd_tupleL ?ln fun _ _ _ _ _ => ?_; (case ln => with_unfolding_all walk_at "at")) | (refine' Rd.rd_tupleT ?ln ?_; (case ln => with_unfolding_all walk_at "at")) | (refine' Rd.rd_listL ?ln fun _ _ _ _ _ => ?_; (case ln => with_unfolding_all walk_at "at")) | (refine' Rd.rd_listT ?ln fun _ _ _ _ _ => ?_; (case ln => with_unfolding_all walk_at "at"))
  | (refine' fld_c ?T ?h fun _ _ => ?_; (case T => assumption); (case h => with_unfolding_all walk_at "fa")) | (refine' fld_s ?T ?h fun _ _ => ?_; (case T => assumption); (case h => with_unfolding_all walk_at "fa")) | (refine' fld_n ?T ?h fun _ _ => ?_; (case T => assumption); (case h => with_unfolding_all walk_at "fa"))
  | refine Rd.rd_get2 ?_ | (refine' Rd.rd_getA ?ln ?_; (case ln => with_unfolding_all first | exact Or.inl (by walk_at "at") | exact Or.inr ⟨_, by walk_at "at"⟩)) | (refine' Rd.rd_getE ?ln ?_; (case ln => with_unfolding_all first | exact Or.inl (by walk_at "at") | exact Or.inr ⟨_, by walk_at "at"⟩)) | refine Rd.rd_daug ?_ | refine Rd.rd_items ?_ | refine Rd.rd_frz ?_ | refine Rd.rd_vals ?_ | refine Rd.rd_kw0 ?_ | refine Rd.rd_callN ?_
  | (refine' Rd.rd_isi (Rd.isi_tup ?ln Rd.kk_tup_tup) ?_; (case ln => with_unfolding_all walk_at "at")) | refine Rd.rd_isi (Rd.isi_str (b := true) kk_str_str) ?_)
local macro_rules | `(tactic| walk_at "st") => `(tactic| (simp only [List.map_cons, List.map_nil, L2.wipe, List.set_cons_zero, List.set_cons_succ]; walk_at "rd"; refine ⟨rfl, ?_⟩; walk_at "rd"))
abbrev s__law_row : Stmt := top 52
theorem sc__law_row : FnScope ["_law_plain", "_law_name_here", "_law_row_here"] ["_law_plain", "_law_name_here"] (defScope s__law_row) := ⟨rfl, rfl, rfl, by decide +kernel, rfl, by decide +kernel, by decide +kernel⟩
abbrev s__law_step : Stmt := top 53
theorem sc__law_step : FnScope ["_law_row_here", "_law_counter", "_law_one", "_law_number"] ["_law_row_here", "_law_counter"] (defScope s__law_step) := ⟨rfl, rfl, rfl, by decide +kernel, rfl, by decide +kernel, by decide +kernel⟩
abbrev s__law_behind : Stmt := top 54
theorem sc__law_behind : FnScope ["_law_plain", "_law_spot_here", "_law_row_here", "_law_counters", "_law_values", "_law_counter", "_law_number"] ["_law_plain", "_law_spot_here", "_law_row_here", "_law_counters"] (defScope s__law_behind) := ⟨rfl, rfl, rfl, by decide +kernel, rfl, by decide +kernel, by decide +kernel⟩
abbrev s__law_start : Stmt := top 56
theorem sc__law_start : FnScope ["_law_dice_here", "_law_plain"] ["_law_dice_here", "_law_plain"] (defScope s__law_start) := ⟨rfl, rfl, rfl, by decide +kernel, rfl, by decide +kernel, by decide +kernel⟩
abbrev s__law_spot : Stmt := top 57
theorem sc__law_spot : FnScope ["_law_plain", "_law_size", "_law_begin"] ["_law_plain", "_law_size", "_law_begin"] (defScope s__law_spot) := ⟨rfl, rfl, rfl, by decide +kernel, rfl, by decide +kernel, by decide +kernel⟩
abbrev s__law_loads : Stmt := top 58
theorem sc__law_loads : FnScope ["_law_plain", "_law_spot_here"] ["_law_plain", "_law_spot_here"] (defScope s__law_loads) := ⟨rfl, rfl, rfl, by decide +kernel, rfl, by decide +kernel, by decide +kernel⟩
abbrev s__law_possible : Stmt := top 59
theorem sc__law_possible : FnScope ["_law_plain", "_law_spot_here", "_law_row_here"] ["_law_plain", "_law_spot_here"] (defScope s__law_possible) := ⟨rfl, rfl, rfl, by decide +kernel, rfl, by decide +kernel, by decide +kernel⟩
abbrev s__law_due : Stmt := top 60
theorem sc__law_due : FnScope ["_law_plain", "_law_spot_here", "_law_name_here", "_law_row_here", "_law_low", "_law_counter", "_law_load"] ["_law_plain", "_law_spot_here", "_law_name_here"] (defScope s__law_due) := ⟨rfl, rfl, rfl, by decide +kernel, rfl, by decide +kernel, by decide +kernel⟩
abbrev s__law_name : Stmt := top 61
theorem sc__law_name : FnScope ["_law_dice_here", "_law_plain", "_law_spot_here", "_law_some"] ["_law_dice_here", "_law_plain", "_law_spot_here"] (defScope s__law_name) := ⟨rfl, rfl, rfl, by decide +kernel, rfl, by decide +kernel, by decide +kernel⟩
abbrev s__law_tops : Stmt := top 62
theorem sc__law_tops : FnScope ["_law_tops_here", "_law_spot_here", "_law_one", "_law_other"] ["_law_tops_here", "_law_spot_here"] (defScope s__law_tops) := ⟨rfl, rfl, rfl, by decide +kernel, rfl, by decide +kernel, by decide +kernel⟩
/-- a state and loads, as the law keeps them -/
def ValsAt (K : PySem.W.Frag) (H : Hp) (v : Addr) (cs : List Str) (f : Str → Int) : Prop := SqT K H v (cs.map fun c => V.int (f c))
def SpotAt (K : PySem.W.Frag) (H : Hp) (s : Addr) (cs : List Str) (st : Str) (f : Str → Int) : Prop := ∃ v, SqT K H s [.str st, .ref v] ∧ ValsAt K H v cs f
theorem SpotAt.kp {K : PySem.W.Frag} {H H' : Hp} {s : Addr} {cs : List Str} {st : Str} {f : Str → Int} (k : Kp H H') (h : SpotAt K H s cs st f) : SpotAt K H' s cs st f := let ⟨v, h1, h2⟩ := h; ⟨v, k.sqT h1, k.sqT h2⟩
theorem ValsAt.ext {K : PySem.W.Frag} {H : Hp} {v : Addr} {cs : List Str} {f g : Str → Int} (h : ValsAt K H v cs f) (e : ∀ c ∈ cs, f c = g c) : ValsAt K H v cs g := by
  unfold ValsAt at h ⊢
  rwa [List.map_congr_left (f := fun c => V.int (f c)) (g := fun c => V.int (g c)) fun c hc => by rw [e c hc]] at h
def spLrow (K : PySem.W.Frag) : Sp := Rd.mkSp (fun (a : Addr × Gr × Tr) => [.ref a.1, .str a.2.2.nm]) fun a H Q _ => PlainAt K H a.1 a.2.1 ∧ GOk a.2.1 ∧ a.2.2 ∈ a.2.1.ts ∧ ∀ r H', Same H H' → RowAt K H' r a.2.2 → Q (.ref r) H'
def spLstep (K : PySem.W.Frag) : Sp := Rd.mkSp (fun (a : Addr × Tr × Str) => [.ref a.1, .str a.2.2]) fun a H Q _ => RowAt K H a.1 a.2.1 ∧ Q (.int (stp a.2.1.chg a.2.2)) H
/-- what comes behind: a spot, or None -/
def BehQ (K : PySem.W.Frag) (cs : List Str) (H : Hp) (Q : VK) : Ans → Prop
  | .to st f => ∀ s H', Same H H' → SpotAt K H' s cs st f → Q (.ref s) H'
  | _ => ∀ H', Same H H' → Q .non H'
def spLbeh (K : PySem.W.Frag) : Sp := Rd.mkSp (fun (a : (Addr × Addr × Addr × Addr) × Gr × Str × (Str → Int) × Tr) => [.ref a.1.1, .ref a.1.2.1, .ref a.1.2.2.1, .ref a.1.2.2.2]) fun a H Q _ => SpotAt K H a.1.2.1 a.2.1.cs a.2.2.1 a.2.2.2.1 ∧ RowAt K H a.1.2.2.1 a.2.2.2.2 ∧ TxT K H a.1.2.2.2 a.2.1.cs ∧ a.2.1.cs.length ≤ 5 ∧ BehQ K a.2.1.cs H Q (ansOf a.2.1.cs a.2.2.1 a.2.2.2.1 a.2.2.2.2)
theorem stp_skip {c : Str} : ∀ {pre l : List (Str × Int)}, c ∉ pre.map (·.1) → stp (pre ++ l) c = stp l c
  | [], _, _ => rfl
  | x :: pre, l, h => by
    rw [List.map_cons, List.mem_cons] at h
    rw [List.cons_append, stp_cons, if_neg fun e => h (.inl e.symm), stp_skip fun q => h (.inr q)]
theorem filter_nm {t : Tr} : ∀ {ts : List Tr}, (ts.map (·.nm)).Nodup → t ∈ ts → ts.filter (fun u => decide (u.nm = t.nm)) = [t]
  | u :: ts, nd, h => by
    rw [List.map_cons, List.nodup_cons] at nd
    rcases List.mem_cons.mp h with e | e
    · subst e
      rw [List.filter_cons_of_pos (by simp)]
      congr 1
      refine List.filter_eq_nil_iff.mpr fun v hv => ?_
      simp only [decide_eq_true_eq]
      exact fun z => nd.1 (z ▸ List.mem_map_of_mem hv)
    · rw [List.filter_cons_of_neg (by simp only [decide_eq_true_eq]; exact fun z => nd.1 (z ▸ List.mem_map_of_mem e)), filter_nm nd.2 e]
theorem zip_vals (cs : List Str) (f : Str → Int) : (cs.map V.str).zip (cs.map fun c => V.int (f c)) = cs.map fun c => (V.str c, V.int (f c)) := by
  induction cs with
  | nil => rfl
  | cons c cs ih => rw [List.map_cons, List.map_cons, List.zip_cons_cons, ih]; rfl
theorem paired_f {α : Type} (f : α → V) : ∀ l : List α, Paired (fun v c => v = f c) (l.map f) l
  | [] => .nil
  | _ :: l => .cons rfl (paired_f f l)
def strT (v : V) : Str := match v with
  | .str c => c
  | _ => ""
section
variable {gd : Bool} {P : Program} {w : World} {K : PySem.W.Frag} {mg : Str → Option Value} {base : Heap} {a : AdsG} {m : AdsM} {e : AdsE}
theorem ok_lawrow (F : Rd.Has K mg "_law_row" s__law_row) (g : Glob mg) : Rd.Fn gd P w K mg base CX0 1 "_law_row" (spLrow K) := by
  refine F.fn sc__law_row (fun _ => rfl) (fun _ _ _ _ _ _ us hl => match us, hl with | [_, _], _ => rfl) fun f cdv A outer s H Q E b hr h => ?_
  obtain ⟨p, G, t⟩ := b
  obtain ⟨hp, GO, ht, k⟩ := h
  dsimp only at hp GO ht k
  obtain ⟨pc, pn, pt, h0, hC, hN, rs, hT, hP⟩ := hp
  refine ⟨_, (pss_one (ps_ret (pe_ix ix_list (pe_lc (own := [("_law_row_here", 2)]) (by rfl) sc__law_row.nd (pi_tup (pe_ix ix_tup (pv 0) pe_int (fun _ _ => rfl))) (blkOk_by (own := [("_law_row_here", 2)]) (N := ["_law_plain", "_law_name_here", "_law_row_here"]) (sc := defScope s__law_row) (by decide +kernel)) (fun _ _ _ _ _ => (pg_name (i := 2) sc__law_row.nd rfl (Or.inl rfl))) (fun _ _ _ _ _ => (pts_one (pt_cmpR op_eq (pe_ix (Rd.ix_tupK (K := K) (by rfl)) (pv 2) pe_int (fun _ _ => rfl)) (pv 1) (nomark _)))) (fun _ _ _ _ _ => (pv 2))) pe_int (fun _ _ => rfl)))), ?_⟩
  try simp only [Rd.noxK, Rd.cxK]
  refine Rd.rd_start [some (V.ref p), some (V.str t.nm), none] rfl ?_
  walk_at "rd"
  have t16 := GO.t16
  refine lc_rowsR (fun u => decide (u.nm = t.nm)) (by omega) hT hP (fun u r H1 N M hu s1 hrow hN hM => ?_) (fun D H1 us nD s1 hD hU => ?_)
  · obtain ⟨c, hr4, _⟩ := id hrow
    refine Rd.rd_start' [some (V.ref p), some (V.str t.nm), none] rfl ?_
    walk_at "rd"
    refine ⟨rfl, ?_⟩
    walk_at "rd"
    by_cases e : u.nm = t.nm
    · refine Rd.if_t (decide_eq_true (by rw [e])) ?_
      walk_at "rd"
      exact hM (decide_eq_true e) _ (Same.refl _)
    · refine Rd.if_f (decide_eq_false fun z => e (V.str.inj z)) ?_
      exact hN (decide_eq_false e) _ (Same.refl _)
  rw [filter_nm GO.tA.nodup ht] at hU
  match us, hU with
  | [r], .cons hr0 .nil =>
    walk_at "rd"
    exact k r H1 s1 hr0
theorem ok_lawstep (F : Rd.Has K mg "_law_step" s__law_step) (g : Glob mg) : Rd.Fn gd P w K mg base CX0 1 "_law_step" (spLstep K) := by
  refine F.fn sc__law_step (fun _ => rfl) (fun _ _ _ _ _ _ us hl => match us, hl with | [_, _], _ => rfl) fun f cdv A outer s H Q E b hr h => ?_
  obtain ⟨r, t, c⟩ := b
  obtain ⟨hrow, k⟩ := h
  dsimp only at hrow k
  obtain ⟨pc, hr4, ps, h2, hP⟩ := id hrow
  refine ⟨_, (pss_cons (ps_for PassesOwn.never rfl (pi_tup (pe_ix ix_tup (pv 0) pe_int (fun _ _ => rfl))) (pg_tup rfl (pgs_cons (pg_name (i := 2) sc__law_step.nd rfl (Or.inl rfl)) (pgs_cons (pg_name (i := 3) sc__law_step.nd rfl (Or.inl rfl)) pgs_nil))) (pss_one (ps_if (pt_cmpR op_eq (pv 2) (pv 1) (nomark _)) (pss_one (ps_ret (pv 3))) pss_nil)))
      (pss_one (ps_ret pe_int))), ?_⟩
  try simp only [Rd.noxK, Rd.cxK]
  refine Rd.rd_start [some (V.ref r), some (V.str c), none, none] rfl ?_
  walk_at "rd"
  refine Rd.rd_IT h2.sq ?_
  refine Rd.for_tup (K := K) (xs := ps.map V.ref) (fun i σ' H' => H = H' ∧ ∃ v2 v3, σ' = [some (V.ref r), some (V.str c), v2, v3] ∧ c ∉ (t.chg.take i).map (·.1)) ⟨rfl, none, none, rfl, by simp⟩ (fun i σ' H' _ q => by obtain ⟨rfl, _⟩ := q; exact h2.sq) (fun i v σ' H' hv q => ?_) (fun σ' H' q => ?_)
  · obtain ⟨rfl, v2, v3, rfl, nin⟩ := q
    rw [List.getElem?_map] at hv
    obtain ⟨pr, hpr, rfl⟩ := Option.map_eq_some_iff.mp hv
    obtain ⟨kv, hkv, hq⟩ := paired_get hP hpr
    have hq2 : SqT K H pr [.str kv.1, .int kv.2] := hq
    refine Rd.rd_gTup hq2 rfl ?_
    walk_at "rd"
    simp only [List.set_cons_zero, List.set_cons_succ]
    by_cases e : kv.1 = c
    · refine Rd.if_t (decide_eq_true (by rw [e])) ?_
      walk_at "rd"
      have es : stp t.chg c = kv.2 := by
        have hi : i < t.chg.length := (List.getElem?_eq_some_iff.mp hkv).1
        have e1 : t.chg = t.chg.take i ++ kv :: t.chg.drop (i + 1) := by
          have : kv = t.chg[i] := by rw [List.getElem?_eq_getElem hi] at hkv; exact (Option.some.inj hkv).symm
          rw [this, ← List.drop_eq_getElem_cons hi, List.take_append_drop]
        rw [e1, stp_skip nin, stp_cons, if_pos e]
      rw [es] at k
      exact k
    · refine Rd.if_f (decide_eq_false fun z => e (V.str.inj z)) ?_
      refine Rd.rd_next ?_
      refine ⟨rfl, _, _, rfl, ?_⟩
      rw [List.take_add_one, hkv, List.map_append, List.mem_append]
      rintro (z | z)
      · exact nin z
      · exact e (List.mem_singleton.mp z).symm
  · obtain ⟨rfl, v2, v3, rfl, nin⟩ := q
    rw [List.length_map, hP.length, List.take_length] at nin
    rw [stp_not nin] at k
    refine Rd.rd_nx ?_
    walk_at "rd"
    exact k
theorem ok_lawbeh (F : Rd.Has K mg "_law_behind" s__law_behind) (g : Glob mg) (c__law_step : Rd.Fn gd P w K mg base CX0 1 "_law_step" (spLstep K)) : Rd.Fn gd P w K mg base CX0 2 "_law_behind" (spLbeh K) := by
  refine F.fn sc__law_behind (fun _ => rfl) (fun _ _ _ _ _ _ us hl => match us, hl with | [_, _, _, _], _ => rfl) fun f cdv A outer s H Q E b hr h => ?_
  obtain ⟨⟨p, s0, r, pc⟩, G, st, ld, t⟩ := b
  obtain ⟨hs, hrow, hC, c5, k⟩ := h
  dsimp only at hs hrow hC c5 k
  obtain ⟨v, h1, hv⟩ := id hs
  obtain ⟨ch, hr4, _⟩ := id hrow
  refine ⟨_, (pss_cons (ps_if (pt_cmpR op_ne (pe_ix ix_tup (pv 2) pe_int (fun _ _ => rfl)) (pe_ix ix_tup (pv 1) pe_int (fun _ _ => rfl)) (nomark _)) (pss_one (ps_ret pe_non)) pss_nil)
      (pss_cons (ps_set (i := 4) sc__law_behind.nd rfl (Or.inl rfl) (pe_callTy Rd.c_tuple (by rfl) g.tuple (by decide +kernel) (pa_cons (pe_lc (own := [("_law_counter", 5), ("_law_number", 6)]) (by rfl) sc__law_behind.nd (RZ.pi_zipA (by rfl) g.zip (pa_cons (pv 3) (pa_cons (pe_ix ix_tup (pv 1) pe_int (fun _ _ => rfl)) pa_nil))) (blkOk_by (own := [("_law_counter", 5), ("_law_number", 6)]) (N := ["_law_plain", "_law_spot_here", "_law_row_here", "_law_counters", "_law_values", "_law_counter", "_law_number"]) (sc := defScope s__law_behind) (by decide +kernel)) (fun _ _ _ _ _ => (Rd.pg_tupK (K := K) (n := 2) (by rfl) rfl (pgs_cons (pg_name (i := 5) sc__law_behind.nd rfl (Or.inl rfl)) (pgs_cons (pg_name (i := 6) sc__law_behind.nd rfl (Or.inl rfl)) pgs_nil)))) (fun _ _ _ _ _ => pts_nil) (fun _ _ _ _ _ => (pe_op op_add (pv 6) (Rd.pe_fn c__law_step (hr.mono (by decide)) (by rfl) (pa_cons (pv 2) (pa_cons (pv 5) pa_nil)))))) pa_nil)))
      (pss_one (ps_ret (pe_ifExp (pt_cmpR (Rd.op_neE hr.units) (pe_lc (own := [("_law_number", 6)]) (by rfl) sc__law_behind.nd (pi_tup (pv 4)) (blkOk_by (own := [("_law_number", 6)]) (N := ["_law_plain", "_law_spot_here", "_law_row_here", "_law_counters", "_law_values", "_law_counter", "_law_number"]) (sc := defScope s__law_behind) (by decide +kernel)) (fun _ _ _ _ _ => (pg_name (i := 6) sc__law_behind.nd rfl (Or.inl rfl))) (fun _ _ _ _ _ => (pts_one (pt_cmpR op_lt (pv 6) pe_int (nomark _)))) (fun _ _ _ _ _ => pe_int)) (Rd.pe_lst pa_nil) (nomark _)) pe_non (Rd.pe_tup (pa_cons (pe_ix ix_tup (pv 2) pe_int (fun _ _ => rfl)) (pa_cons (pv 4) pa_nil)))))))), ?_⟩
  try simp only [Rd.noxK, Rd.cxK]
  refine Rd.rd_start [some (V.ref p), some (V.ref s0), some (V.ref r), some (V.ref pc), none, none, none] rfl ?_
  walk_at "rd"
  unfold ansOf at k
  by_cases es : t.src = st
  · rw [if_pos es] at k
    refine Rd.if_f (by rw [es, decide_eq_true rfl]; rfl) ?_
    walk_at "rd"
    have hC' : SqT K H pc (G.cs.map V.str) := hC
    have hv' : SqT K H v (G.cs.map fun c => V.int (ld c)) := hv
    refine Rd.rd_IZT hC' hv' ?_
    refine Rd.lc_zipT (by rw [List.length_map, List.length_map]) (fun z => V.int (addF ld t.chg (strT z.1))) (by rw [List.length_map]; omega) hC' hv' (fun z T H1 M hz s1 hT hM => ?_) (fun D H1 nD s1 hD => ?_)
    · rw [zip_vals] at hz
      obtain ⟨c, hc, rfl⟩ := List.mem_map.mp hz
      have hT' : SqT K H1 T [.str c, .int (ld c)] := SqT.of hT
      refine Rd.rd_start' [some (V.ref p), some (V.ref s0), some (V.ref r), some (V.ref pc), none, none, none] rfl ?_
      refine Rd.rd_gTup hT' rfl ?_
      walk_at "rd"
      refine ⟨rfl, ?_⟩
      walk_at "rd"
      refine Rd.rd_sp (r, t, c) rfl ⟨hrow.kp (kpS s1), ?_⟩
      walk_at "rd"
      exact hM _ (Same.refl _)
    rw [zip_vals, List.map_map] at hD
    replace hD : H1 D = some (.lst (G.cs.map fun c => V.int (addF ld t.chg c))) := hD
    walk_at "rd"
    rename_i p2 H2 n2 s2 h2
    have hp2 : SqT K H2 p2 (G.cs.map fun c => V.int (addF ld t.chg c)) := SqT.of h2
    try refine Rd.rd_IT hp2 ?_
    refine Rd.lc_prT (zs := G.cs) (fun _ v c => v = V.int (addF ld t.chg c)) (fun _ _ _ _ _ e => e) (fun c => decide (addF ld t.chg c < 0)) (fun _ => V.int 1) (by omega) hp2 (paired_f (fun c => V.int (addF ld t.chg c)) G.cs) (fun c v H3 N M hm s3 hv hN hM => ?_) (fun D3 H3 nD3 s3 hD3 => ?_)
    · subst hv
      refine Rd.rd_start' [some (V.ref p), some (V.ref s0), some (V.ref r), some (V.ref pc), some (V.ref p2), none, none] rfl ?_
      walk_at "rd"
      refine ⟨rfl, ?_⟩
      walk_at "rd"
      by_cases e : addF ld t.chg c < 0
      · refine Rd.if_t (decide_eq_true e) ?_
        walk_at "rd"
        exact hM (decide_eq_true e) _ (Same.refl _)
      · refine Rd.if_f (decide_eq_false e) ?_
        exact hN (decide_eq_false e) _ (Same.refl _)
    walk_at "rd"
    rename_i l4 H4 n4 s4 h4
    refine Rd.rd_neE (SqL.of (s4 _ _ hD3)) (SqL.of h4) ?_
    have eL : (G.cs.filter fun c => decide (addF ld t.chg c < 0)) = lowL G.cs ld t.chg := rfl
    rw [eL, List.isEmpty_map]
    have s04 := ((s1.trans s2).trans s3).trans s4
    cases el : lowL G.cs ld t.chg with
    | cons c rest =>
      rw [el] at k
      refine ⟨_, rfl, ?_⟩
      refine Rd.if_t rfl ?_
      walk_at "rd"
      exact k H4 s04
    | nil =>
      rw [el] at k
      refine ⟨_, rfl, ?_⟩
      refine Rd.if_f rfl ?_
      walk_at "rd"
      rename_i q5 H5 n5 s5 h5
      exact k q5 H5 (s04.trans s5) ⟨p2, SqT.of h5, (kpS ((s3.trans s4).trans s5)).sqT hp2⟩
  · rw [if_neg es] at k
    refine Rd.if_t (by rw [decide_eq_false fun z => es (V.str.inj z)]; rfl) ?_
    walk_at "rd"
    exact k H (Same.refl H)
end
end M
set_option Elab.async false
set_option linter.all false
set_option maxRecDepth 100000
set_option maxHeartbeats 4000000
namespace M
open PySem L2
local macro_rules | `(tactic| walk_at "rdc") => `(tactic| first | exact Or.inl ⟨by decide, by decide⟩ | exact Or.inr ⟨by decide, by decide⟩ | exact ⟨by decide, by decide, by decide⟩ | exact ⟨by decide, by decide⟩ | decide | omega | assumption | (refine Or.inl ⟨?_, ?_⟩ <;> omega) | (refine Or.inr ⟨?_, ?_⟩ <;> omega) | (refine ⟨?_, ?_⟩ <;> omega))
local macro_rules | `(tactic| walk_at "rd1") => `(tactic| with_reducible first
  | refine Rd.rd_seq ?_ | refine Rd.rd_asg ?_ | refine Rd.rd_op ?_ | (refine' Rd.rd_var ?vh ?_; (case vh => with_unfolding_all rfl)) | refine Rd.rd_c ?_ | refine Rd.rd_I0 ?_ | refine Rd.rd_name0 ?_ | refine Rd.rd_nameS ?_ | refine Rd.rd_fn ?_
  | refine Rd.rd_cb ?_ | refine Rd.rd_cons ?_ | refine Rd.rd_nil ?_ | refine Rd.rd_int ?_ | refine Rd.rd_intB ?_ | refine Rd.rd_abs ?_ | refine Rd.rd_max2 ?_ | refine Rd.rd_min2 ?_
  | refine Rd.rd_call ?_ | refine Rd.rd_ifE ?_ | refine Rd.rd_test ?_ | refine Rd.rd_tB ?_ | refine Rd.rd_blV ?_ | refine Rd.rd_and ?_ | refine Rd.rd_or ?_ | refine Rd.rd_not ?_
  | refine Rd.rd_andV ?_ | refine Rd.rd_orV ?_ | refine Rd.rd_notV ?_ | refine Rd.rd_next ?_ | refine Rd.rd_ret ?_ | refine Rd.rd_drop ?_ | refine Rd.rd_ifS ?_ | refine Rd.rd_nx ?_ | refine Rd.rd_rt ?_ | refine Rd.rd_tMatch ?_ | refine Rd.rd_tCO ?_ | refine Rd.rd_tRevL ?_ | refine Rd.rd_tStar ?_ | refine Rd.rd_joined ?_ | refine Rd.rd_js1 ?_ | refine Rd.rd_js0 ?_ | refine Rd.rd_fmt ?_ | refine Rd.rd_propR ?_ | refine Rd.rd_iZipA ?_ | refine Rd.rd_iEnumT ?_ | refine Rd.rd_iOwn ?_ | (refine' Rd.rd_IET ?ln ?_; (case ln => with_unfolding_all walk_at "at")) | refine Rd.rd_chain ?_ | refine Rd.rd_tPar ?_ | refine Rd.rd_par ?_ | refine Rd.rd_sl ?_ | refine Rd.rd_noPart ?_ | refine Rd.rd_part ?_ | refine Rd.rd_intV ?_ | refine Rd.rd_lc ?_ | (refine' Rd.rd_aug ?vh ?_; (case vh => with_unfolding_all rfl)) | refine Rd.rd_ipI ?_ | refine Rd.rd_for ?_ | (refine' Rd.rd_IT ?ln ?_; (case ln => with_unfolding_all walk_at "at")) | (refine' Rd.rd_IL ?ln ?_; (case ln => with_unfolding_all walk_at "at")) | refine Rd.rd_iTup ?_ | refine Rd.rd_iList ?_ | refine Rd.rd_iRng1 ?_ | refine Rd.rd_iRng2 ?_ | refine Rd.rd_isi (Rd.isi_int Rd.kk_int_int) ?_ | refine Rd.rd_isi (Rd.isi_int Rd.kk_int_bool) ?_ | refine Rd.rd_dget ?_ | refine Rd.rd_din ?_ | refine Rd.rd_dnotin ?_ | refine Rd.rd_dput ?_ | refine Rd.rd_dc ?_ | refine Rd.rd_lc2 ?_ | refine Rd.rd_ltS ?_ | refine Rd.rd_inSg ?_ | refine Rd.rd_iStr ?_ | refine Rd.rd_IS ?_ | refine Rd.rd_prC ?_ | refine Rd.rd_prN ?_ | refine Rd.rd_methR ?_ | refine Rd.rd_cmeth ?_ | refine Rd.rd_fldS ?_ | refine Rd.rd_fld ?_ | (refine' Rd.rd_mkVS ?vh ?_; (case vh => with_unfolding_all rfl)) | (refine' Rd.rd_starT ?ln ?_; (case ln => with_unfolding_all walk_at "at")) | refine Rd.rd_iEnum ?_ | refine Rd.rd_iZip ?_ | (refine' Rd.rd_IE ?ln ?_; (case ln => with_unfolding_all walk_at "at")) | (refine' Rd.rd_IZ ?ln ?lm ?_; (case ln => with_unfolding_all walk_at "at"); (case lm => with_unfolding_all walk_at "at")) | (refine' Rd.rd_gTup ?ln ?lk ?_; (case ln => with_unfolding_all walk_at "at"); (case lk => with_unfolding_all rfl)) | refine Rd.rd_gCons ?_ | refine Rd.rd_gNil ?_ | refine Rd.rd_m1 ?_ | refine Rd.rd_strV ?_ | refine Rd.rd_tXiM ?_ | refine Rd.rd_tXiB ?_ | refine Rd.rd_tXiS ?_ | refine Rd.rd_bm ?_ | refine Rd.rd_bm0 ?_ | refine Rd.rd_isN ?_ | refine Rd.rd_notN ?_ | refine Rd.rd_sub ?_ | refine Rd.rd_un ?_ | refine Rd.rd_U ?_
  | (refine' Rd.rd_eq ?sc ?_; (case sc => with_unfolding_all rfl)) | (refine' Rd.rd_ne ?sc ?_; (case sc => with_unfolding_all rfl))
  | (refine' Rd.rd_I ?cc ?_; (case cc => with_unfolding_all walk_at "rdc"))
  | (refine' Rd.rd_lenL ?ln ?_; (case ln => with_unfolding_all walk_at "at")) | (refine' Rd.rd_lenT ?ln ?_; (case ln => with_unfolding_all walk_at "at"))
  | (refine' Rd.rd_ixL ?ln ?ia ?_; (case ln => with_unfolding_all walk_at "at"); (case ia => with_unfolding_all first | exact Rd.at0 | exact Rd.at1 | exact Rd.at2 | exact Rd.at3 | exact Rd.at4 | rfl)) | (refine' Rd.rd_ixT ?ln ?ia ?_; (case ln => with_unfolding_all walk_at "at"); (case ia => with_unfolding_all first | exact Rd.at0 | exact Rd.at1 | exact Rd.at2 | exact Rd.at3 | exact Rd.at4 | rfl)))
local macro_rules | `(tactic| walk_at "at") => `(tactic| first | assumption | (apply SqL.of; assumption) | (apply SqT.of; assumption) | (apply SqL.of; exact upd_same) | (apply SqT.of; exact upd_same))
local macro_rules | `(tactic| walk_at "rd") => `(tactic| repeat walk_at "rd1")
local macro_rules | `(tactic| walk_at "ne") => `(tactic| first | assumption | exact Ne.symm (by assumption) | (refine' Dice.ne ?D ?h; (case h => assumption); (case D => walk_at "fa")))
local macro_rules | `(tactic| walk_at "kp1") => `(tactic| first | exact kpS (by assumption) | exact Mut.kp (by assumption) | (refine' Rolled.kp ?r ?D; (case r => assumption); (case D => walk_at "fa")))
local macro_rules | `(tactic| walk_at "fa") => `(tactic| first
  | assumption | exact SqT.of (by assumption) | exact SqL.of (by assumption)
  | (refine' Dice.same ?h ?s; (case s => assumption); (case h => walk_at "fa")) | exact Rolled.dice (by assumption)
  | (refine' L2.Same.seq ?s ?h; (case s => assumption); (case h => walk_at "fa")) | (refine' Rolled.sqL ?r ?n ?h; (case r => assumption); (case n => walk_at "ne"); (case h => walk_at "fa"))
  | (refine' Kp.sqT ?k ?h; (case k => walk_at "kp1"); (case h => walk_at "fa")) | (refine' RowAt.kp ?k ?h; (case k => walk_at "kp1"); (case h => walk_at "fa")) | (refine' RowsAt.kp ?k ?h; (case k => walk_at "kp1"); (case h => walk_at "fa")) | (refine' ChgAt.kp ?k ?h; (case k => walk_at "kp1"); (case h => walk_at "fa")) | (refine' PlainAt.kp ?k ?h; (case k => walk_at "kp1"); (case h => walk_at "fa"))
  | (refine' GraphAt.same ?h ?s; (case s => assumption); (case h => walk_at "fa")) | (refine' GraphAt.rolled ?r ?D ?h; (case r => assumption); (case D => walk_at "fa"); (case h => walk_at "fa"))
  | (refine' Rd.Same.at ?s ?h; (case s => assumption); (case h => walk_at "fa")) | (refine' Mut.keep ?m _ _ ?n ?h; (case m => assumption); (case n => walk_at "ne"); (case h => walk_at "fa")) | (refine' Rolled.keep ?r _ _ ?n ?h; (case r => assumption); (case n => walk_at "ne"); (case h => walk_at "fa")))
local macro_rules | `(tactic| walk_at "sm") => `(tactic| first | assumption | exact Same.refl _ | (refine' L2.Same.trans ?h ?s; (case s => assumption); (case h => walk_at "sm")) | (refine' same_mutM ?a ?b ?c; (case c => assumption); (case b => walk_at "nn"); (case a => walk_at "sm")))
local macro_rules | `(tactic| walk_at "rl") => `(tactic| first | assumption | exact Rolled.refl (by walk_at "fa") | (refine' Rolled.trans ?a ?b; (case b => assumption); (case a => walk_at "rl")) | (refine' Rolled.same ?a ?b; (case b => assumption); (case a => walk_at "rl")) | (refine' Rolled.mutM ?a ?n ?e ?m; (case m => assumption); (case n => walk_at "nn"); (case e => walk_at "ne"); (case a => walk_at "rl")))
local macro_rules | `(tactic| walk_at "nn") => `(tactic| first | assumption | (refine' none_pre ?s ?h; (case h => assumption); (case s => walk_at "sm")) | (refine' none_rol ?r ?D ?h; (case h => assumption); (case D => walk_at "fa"); (case r => walk_at "rl")))
local macro_rules | `(tactic| walk_at "sz") => `(tactic| first | (simp only [List.length_cons, List.length_nil]; decide) | (refine Rd.small64 ?_; simp only [List.length_map, List.length_append, List.length_cons, List.length_nil]; omega))
local macro_rules | `(tactic| walk_at "at") => `(tactic| walk_at "fa")
local macro_rules | `(tactic| walk_at "rd1") => `(tactic| with_reducible first
  | (refine' Rd.rd_mkTup ?sz fun _ _ _ _ _ => ?_; (case sz => with_unfolding_all walk_at "sz")) | (refine' Rd.rd_mkLst ?sz fun _ _ _ _ _ => ?_; (case sz => with_unfolding_all walk_at "sz")) | (refine' Rd.rd_mkTupF ?sz fun _ _ _ _ _ => ?_; (case sz => with_unfolding_all walk_at "sz"))
  | (refine' Rd.rd_tupleL ?ln fun _ _ _ _ _ => ?_; (case ln => with_unfolding_all walk_at "at")) | (refine' Rd.rd_tupleT ?ln ?_; (case ln => with_unfolding_all walk_at "at")) | (refine' Rd.rd_listL ?ln fun _ _ _ _ _ => ?_; (case ln => with_unfolding_all walk_at "at")) | (refine' Rd.rd_listT ?ln fun _ _ _ _ _ => ?_; (case ln => with_unfolding_all walk_at "at"))
  | (refine' fld_c ?T ?h fun _ _ => ?_; (case T => assumption); (case h => with_unfolding_all walk_at "fa")) | (refine' fld_s ?T ?h fun _ _ => ?_; (case T => assumption); (case h => with_unfolding_all walk_at "fa")) | (refine' fld_n ?T ?h fun _ _ => ?_; (case T => assumption); (case h => with_unfolding_all walk_at "fa"))
  | refine Rd.rd_get2 ?_ | (refine' Rd.rd_getA ?ln ?_; (case ln => with_unfolding_all first | exact Or.inl (by walk_at "at") | exact Or.inr ⟨_, by walk_at "at"⟩)) | (refine' Rd.rd_getE ?ln ?_; (case ln => with_unfolding_all first | exact Or.inl (by walk_at "at") | exact Or.inr ⟨_, by walk_at "at"⟩)) | refine Rd.rd_daug ?_ | refine Rd.rd_items ?_ | refine Rd.rd_frz ?_ | refine Rd.rd_vals ?_ | refine Rd.rd_kw0 ?_ | refine Rd.rd_callN ?_
  | (refine' Rd.rd_isi (Rd.isi_tup ?ln Rd.kk_tup_tup) ?_; (case ln => with_unfolding_all walk_at "at")) | refine Rd.rd_isi (Rd.isi_str (b := true) kk_str_str) ?_)
local macro_rules | `(tactic| walk_at "st") => `(tactic| (simp only [List.map_cons, List.map_nil, L2.wipe, List.set_cons_zero, List.set_cons_succ]; walk_at "rd"; refine ⟨rfl, ?_⟩; walk_at "rd"))
def spLstart (K : PySem.W.Frag) : Sp := Rd.mkSp (fun (a : Addr × Addr × Gr) => [.ref a.1, .ref a.2.1]) fun a H Q _ => Dice H a.1 ∧ PlainAt K H a.2.1 a.2.2 ∧ GOk a.2.2 ∧ ∀ (s : Addr) (H' : Hp) (z : Int) (o : Option Str), Rolled a.1 H H' → SqT K H' s [.int z, optV o] → 0 ≤ z → z ≤ 10 ^ 30 → (∀ st, o = some st → st ∈ a.2.2.ns) → Q (.ref s) H'
def spLspot (K : PySem.W.Frag) : Sp := Rd.mkSp (fun (a : Addr × Gr × Int × Option Str) => [.ref a.1, .int a.2.2.1, optV a.2.2.2]) fun a H Q _ => PlainAt K H a.1 a.2.1 ∧ GOk a.2.1 ∧ ∀ s H', Same H H' → SpotAt K H' s a.2.1.cs (stOf a.2.1 a.2.2.2) (fun _ => a.2.2.1) → Q (.ref s) H'
def spLloads (K : PySem.W.Frag) : Sp := Rd.mkSp (fun (a : (Addr × Addr) × Gr × Str × (Str → Int)) => [.ref a.1.1, .ref a.1.2]) fun a H Q _ => PlainAt K H a.1.1 a.2.1 ∧ GOk a.2.1 ∧ SpotAt K H a.1.2 a.2.1.cs a.2.2.1 a.2.2.2 ∧ ∀ d H', H d = none → Same H H' → H' d = some (.dK (ldK a.2.1.cs a.2.2.2)) → Q (.ref d) H'
def spLposs (K : PySem.W.Frag) : Sp := Rd.mkSp (fun (a : (Addr × Addr) × Gr × Str × (Str → Int)) => [.ref a.1.1, .ref a.1.2]) fun a H Q _ => PlainAt K H a.1.1 a.2.1 ∧ GOk a.2.1 ∧ SpotAt K H a.1.2 a.2.1.cs a.2.2.1 a.2.2.2 ∧ (∀ c ∈ a.2.1.cs, 0 ≤ a.2.2.2 c) ∧ ∀ p H', Same H H' → TxT K H' p (posL a.2.1 a.2.2.1 a.2.2.2) → Q (.ref p) H'
/-- what is due, told by the law -/
def DueQ (K : PySem.W.Frag) (cs : List Str) (H : Hp) (Q : VK) : Ans → Prop
  | .op => ∀ H', Same H H' → Q (.str "operation") H'
  | .low c => ∀ H', Same H H' → Q (.str ("counter " ++ (PyData.str c).shown)) H'
  | .to st f => ∀ s H', Same H H' → SpotAt K H' s cs st f → Q (.ref s) H'
def spLdue (K : PySem.W.Frag) : Sp := Rd.mkSp (fun (a : (Addr × Addr) × Gr × Str × (Str → Int) × Tr) => [.ref a.1.1, .ref a.1.2, .str a.2.2.2.2.nm]) fun a H Q _ => PlainAt K H a.1.1 a.2.1 ∧ GOk a.2.1 ∧ SpotAt K H a.1.2 a.2.1.cs a.2.2.1 a.2.2.2.1 ∧ a.2.2.2.2 ∈ a.2.1.ts ∧ DueQ K a.2.1.cs H Q (ansOf a.2.1.cs a.2.2.1 a.2.2.2.1 a.2.2.2.2)
def spLname (K : PySem.W.Frag) : Sp := Rd.mkSp (fun (a : (Addr × Addr × Addr) × Gr × Str × (Str → Int)) => [.ref a.1.1, .ref a.1.2.1, .ref a.1.2.2]) fun a H Q _ => Dice H a.1.1 ∧ PlainAt K H a.1.2.1 a.2.1 ∧ GOk a.2.1 ∧ a.2.1.ts ≠ [] ∧ SpotAt K H a.1.2.2 a.2.1.cs a.2.2.1 a.2.2.2 ∧ (∀ c ∈ a.2.1.cs, 0 ≤ a.2.2.2 c) ∧ ∀ t H', t ∈ a.2.1.ts → Rolled a.1.1 H H' → Q (.str t.nm) H'
def spLtops (K : PySem.W.Frag) : Sp := Rd.mkSp (fun (a : (Addr × Addr) × List Str × Str × (Str → Int) × (Str → Int)) => [.ref a.1.1, .ref a.1.2]) fun a H Q _ => ValsAt K H a.1.1 a.2.1 a.2.2.2.2 ∧ SpotAt K H a.1.2 a.2.1 a.2.2.1 a.2.2.2.1 ∧ a.2.1.length ≤ 5 ∧ ∀ p H', Same H H' → ValsAt K H' p a.2.1 (maxF a.2.2.2.1 a.2.2.2.2) → Q (.ref p) H'
theorem rd_startP {K : PySem.W.Frag} {H : Hp} {σ : L2.St} {R : VK} {p : Addr} {G : Gr} {o : Option Str} (hp : PlainAt K H p G) (GO : GOk G) (h1 : σ[0]? = some (some (.ref p))) (h3 : σ[2]? = some (some (optV o))) (q : R (.str (stOf G o)) H) :
    if decide (optV o = V.non) = true then tOp (rIxT K) (tOp (rIxT K) (tVar 0) (tC (V.int 1))) (tC (V.int 0)) σ H R else tVar 2 σ H R := by
  cases o with
  | none =>
    obtain ⟨pc, pn, pt, h0, hC, hN, hT⟩ := hp
    refine Rd.if_t rfl ?_
    have hp' : SqT K H pn (V.str (G.ns.headD "") :: (G.ns.drop 1).map V.str) := by
      have := hN
      unfold TxT at this
      rw [head_ns GO.lp.ne] at this
      exact this
    exact Rd.rd_op (Rd.rd_op (Rd.rd_var h1 (Rd.rd_c (Rd.rd_ixT h0 Rd.at1 (Rd.rd_c (Rd.rd_ixT hp' Rd.at0 q))))))
  | some st =>
    refine Rd.if_f rfl ?_
    exact Rd.rd_var h3 q
theorem canB_to {cs : List Str} {st : Str} {f : Str → Int} {t : Tr} (hf : ∀ c ∈ cs, 0 ≤ f c) (TO : TrOk t) (hk : ∀ kv ∈ t.chg, kv.1 ∈ cs) : canB st f t = (match ansOf cs st f t with | .to _ _ => true | _ => false) := by
  have nd := TO.2.2.2.1.1.nodup
  unfold canB ansOf
  by_cases e : t.src = st
  · rw [decide_eq_true e, Bool.true_and, if_pos e]
    cases el : lowL cs f t.chg with
    | nil =>
      refine List.all_eq_true.mpr fun kv hkv => decide_eq_true ?_
      refine Int.not_lt.mp fun q => ?_
      have : kv.1 ∈ lowL cs f t.chg := mem_low.mpr ⟨hk kv hkv, by unfold addF; rw [stp_mem nd hkv]; exact q⟩
      rw [el] at this
      cases this
    | cons c r =>
      have hm : c ∈ lowL cs f t.chg := by rw [el]; exact List.mem_cons_self
      obtain ⟨kv, hkv, rfl⟩ := List.mem_map.mp (low_in hf hm)
      refine Bool.eq_false_iff.mpr fun q => ?_
      have h1 := of_decide_eq_true (List.all_eq_true.mp q kv hkv)
      have h2 := (mem_low.mp hm).2
      unfold addF at h2
      rw [stp_mem nd hkv] at h2
      omega
  · rw [decide_eq_false e, if_neg e]; rfl
theorem zip_vals2 (cs : List Str) (f g : Str → Int) : (cs.map fun c => V.int (f c)).zip (cs.map fun c => V.int (g c)) = cs.map fun c => (V.int (f c), V.int (g c)) := by
  induction cs with
  | nil => rfl
  | cons c cs ih => rw [List.map_cons, List.map_cons, List.zip_cons_cons, ih]; rfl
theorem paired_ld {K : PySem.W.Frag} {H : Hp} : ∀ (cs : List Str) (f : Str → Int) {ts : List Addr}, Paired (fun (t : Addr) (q : V × V) => H t = some (.tup [q.1, q.2])) ts (cs.map fun c => (V.str c, V.int (f c))) → Paired (fun p (kv : Key × V) => SqT K H p [kV kv.1, kv.2]) ts (ldK cs f)
  | [], _, _, .nil => .nil
  | _ :: cs, f, _, .cons r t => .cons (SqT.of r) (paired_ld cs f t)
theorem rep_map : ∀ (cs : List Str) (z : Int), (List.replicate cs.length [V.int z]).flatten = cs.map fun _ => V.int z
  | [], _ => rfl
  | c :: cs, z => by rw [List.length_cons, List.replicate_succ, List.flatten_cons, rep_map cs z]; rfl
def intT (v : V) : Int := match v with
  | .int c => c
  | _ => 0
/-- [.. for x, y in zip(..) if ..] of two tuples -/
theorem lc_zipP {K : PySem.W.Frag} {σ : L2.St} {H : Hp} {Q : VK} {g : TG} {te : TE} {tt : TT} {vs : List Nat} {a b : Addr} {xs ys : List V} (pr : V × V → Bool) (f : V × V → V) (hl : xs.length = ys.length) (hz : xs.length ≤ 100000) (h1 : SqT K H a xs) (h2 : SqT K H b ys)
    (step : ∀ (z : V × V) T H1 (N : Hp → Prop) (M : V → Hp → Prop), z ∈ xs.zip ys → Same H H1 → H1 T = some (.tup [z.1, z.2]) → (pr z = false → ∀ H2, Same H1 H2 → N H2) → (pr z = true → ∀ H2, Same H1 H2 → M (f z) H2) → g (.ref T) (wipe σ vs) H1 fun σ2 H2 => wipe σ2 vs = wipe σ vs ∧ tt σ2 H2 fun b H3 => if b = true then te σ2 H3 M else N H3)
    (done : ∀ D H', H D = none → Same H H' → H' D = some (.lst (((xs.zip ys).filter pr).map f)) → Q (.ref D) H') : Rd.rLc g tt te vs σ Q (RZ.ItzT K a b) H := by
  have lz : (xs.zip ys).length = xs.length := by rw [List.length_zip]; omega
  refine Rd.lc_gen (xs.zip ys) (fun z v H2 => ∃ T, v = .ref T ∧ H2 T = some (.tup [z.1, z.2])) pr f (by omega) (fun i H1 hi s1 => ?_) (fun H1 s1 => ?_) (fun i H1 x H2 z ez s1 y => ?_) (fun z x H1 N M hz' s1 hx hN hM => ?_) done
  · exact ⟨xs, ys, xs[i]'(by omega), ys[i]'(by omega), Rd.Same.sqT s1 h1, Rd.Same.sqT s1 h2, List.getElem?_eq_getElem _, List.getElem?_eq_getElem _⟩
  · exact ⟨xs, ys, Rd.Same.sqT s1 h1, Rd.Same.sqT s1 h2, .inl (by omega)⟩
  · obtain ⟨T, u, v, rfl, hT, rfl, hu, hv⟩ := y
    have e1 := hu xs (Rd.Same.sqT s1 h1)
    have e2 := hv ys (Rd.Same.sqT s1 h2)
    have : (xs.zip ys)[i]? = some (u, v) := by rw [List.getElem?_zip_eq_some]; exact ⟨e1, e2⟩
    rw [this] at ez
    injection ez with ez
    subst ez
    exact ⟨Rd.same_new hT, T, rfl, upd_same⟩
  · obtain ⟨T, rfl, hT⟩ := hx
    exact step z T H1 N M hz' s1 hT hN hM
section
variable {gd : Bool} {P : Program} {w : World} {K : PySem.W.Frag} {mg : Str → Option Value} {base : Heap} {a : AdsG} {m : AdsM} {e : AdsE}
theorem ok_lawstart (F : Rd.Has K mg "_law_start" s__law_start) (g : Glob mg) (c__law_one_of : Rd.Fn gd P w K mg base CX0 2 "_law_one_of" (spOneOfS K)) : Rd.Fn gd P w K mg base CX0 3 "_law_start" (spLstart K) := by
  refine F.fn sc__law_start (fun _ => rfl) (fun _ _ _ _ _ _ us hl => match us, hl with | [_, _], _ => rfl) fun f cdv A outer s H Q E b hr h => ?_
  obtain ⟨d, p, G⟩ := b
  obtain ⟨hD, hp, GO, k⟩ := h
  dsimp only at hD hp GO k
  obtain ⟨pc, pn, pt, h0, hC, hN, hT⟩ := id hp
  refine ⟨_, (pss_one (ps_ret (Rd.pe_tup (pa_cons (Rd.pe_fn c__law_one_of (hr.mono (by decide)) (by rfl) (pa_cons (pv 0) (pa_cons (Rd.pe_lst (pa_cons pe_int (pa_cons pe_int (pa_cons pe_int (pa_cons pe_int (pa_cons pe_int (pa_cons (pe_op op_pow pe_int pe_int) pa_nil))))))) pa_nil))) (pa_cons (Rd.pe_fn c__law_one_of (hr.mono (by decide)) (by rfl) (pa_cons (pv 0) (pa_cons (pe_op op_cat (pe_callTy Rd.c_list (by rfl) g.list (by decide +kernel) (pa_cons (pe_ix ix_tup (pv 1) pe_int (fun _ _ => rfl)) pa_nil)) (Rd.pe_lst (pa_cons pe_non pa_nil))) pa_nil))) pa_nil))))), ?_⟩
  try simp only [Rd.noxK, Rd.cxK]
  refine Rd.rd_start [some (V.ref d), some (V.ref p)] rfl ?_
  walk_at "rd"
  rename_i l1 H1 n1 s1 h1
  have ne1 : l1 ≠ d := hD.ne n1
  have D1 := hD.same s1
  refine rd_oneS D1 (.inl ⟨SqL.of h1, ne1⟩) (by show 0 < 6; decide) (by show 6 < 1000; decide) fun v H2 hv R2 => ?_
  obtain ⟨z, rfl, z0, z1⟩ : ∃ z : Int, v = .int z ∧ 0 ≤ z ∧ z ≤ 10 ^ 30 := by
    simp only [List.mem_cons, List.not_mem_nil, or_false] at hv
    rcases hv with rfl | rfl | rfl | rfl | rfl | rfl
    · exact ⟨_, rfl, by decide, by decide⟩
    · exact ⟨_, rfl, by decide, by decide⟩
    · exact ⟨_, rfl, by decide, by decide⟩
    · exact ⟨_, rfl, by decide, by decide⟩
    · exact ⟨_, rfl, by decide, by decide⟩
    · exact ⟨_, rfl, by decide, by decide⟩
  have R02 := (Rolled.pre s1 R2)
  have kp2 := R02.kp hD
  have h02 : SqT K H2 p [.ref pc, .ref pn, .ref pt] := kp2.sqT h0
  have hN2 : SqT K H2 pn (G.ns.map V.str) := kp2.sqT hN
  have n8 := GO.n8
  walk_at "rd"
  rename_i l3 H3 n3 s3 h3 l4 H4 n4 s4 h4
  refine Rd.rd_cat (s4 _ _ h3) h4 (by rw [List.length_map]; exact Rd.small64 (show G.ns.length + 1 ≤ _ by omega)) fun l5 H5 n5 s5 h5 => ?_
  have s25 := (s3.trans s4).trans s5
  have R05 := R02.same s25
  walk_at "rd"
  refine rd_oneS R05.dice (.inl ⟨SqL.of h5, (R02.dice.same (s3.trans s4)).ne n5⟩) (by rw [List.length_append]; show 0 < _ + 1; omega) (by rw [List.length_append, List.length_map]; show _ + 1 < _; omega) fun v H6 hv R6 => ?_
  obtain ⟨o, rfl, ho⟩ : ∃ o : Option Str, v = optV o ∧ ∀ st, o = some st → st ∈ G.ns := by
    rcases List.mem_append.mp hv with q | q
    · obtain ⟨st, hst, rfl⟩ := List.mem_map.mp q
      exact ⟨some st, rfl, fun x e => by cases e; exact hst⟩
    · exact ⟨none, List.mem_singleton.mp q, fun x e => nomatch e⟩
  walk_at "rd"
  rename_i q7 H7 n7 s7 h7
  exact k q7 H7 z o ((R05.trans R6).same s7) (SqT.of h7) z0 z1 ho
theorem ok_lawspot (F : Rd.Has K mg "_law_spot" s__law_spot) (g : Glob mg) : Rd.Fn gd P w K mg base CX0 1 "_law_spot" (spLspot K) := by
  refine F.fn sc__law_spot (fun _ => rfl) (fun _ _ _ _ _ _ us hl => match us, hl with | [_, _, _], _ => rfl) fun f cdv A outer s H Q E b hr h => ?_
  obtain ⟨p, G, z, o⟩ := b
  obtain ⟨hp, GO, k⟩ := h
  dsimp only at hp GO k
  obtain ⟨pc, pn, pt, h0, hC, hN, hT⟩ := id hp
  refine ⟨_, (pss_one (ps_ret (Rd.pe_tup (pa_cons (pe_ifExp (pt_cmpR op_isN1 (pv 2) pe_non (nomark _)) (pe_ix ix_tup (pe_ix ix_tup (pv 0) pe_int (fun _ _ => rfl)) pe_int (fun _ _ => rfl)) (pv 2)) (pa_cons (pe_op Rd.op_mulT (Rd.pe_tup (pa_cons (pv 1) pa_nil)) (pe_callB Rd.c_len (by rfl) g.len (by decide +kernel) (pa_cons (pe_ix ix_tup (pv 0) pe_int (fun _ _ => rfl)) pa_nil))) pa_nil))))), ?_⟩
  try simp only [Rd.noxK, Rd.cxK]
  refine Rd.rd_start [some (V.ref p), some (V.int z), some (optV o)] rfl ?_
  walk_at "rd"
  refine rd_startP hp GO rfl rfl ?_
  have c5 := GO.c5
  have hC' : SqT K H pc (G.cs.map V.str) := hC
  walk_at "rd"
  rename_i q1 H1 n1 s1 h1
  have hC1 : SqT K H1 pc (G.cs.map V.str) := Rd.Same.sqT s1 hC'
  try walk_at "rd"
  refine Rd.rd_mulT (SqT.of h1) (nofun : [V.int z] ≠ []) (by omega) (by rw [List.length_map]; omega) (by show 1 ≤ 1000; decide) fun q2 H2 s2 h2 => ?_
  walk_at "rd"
  rename_i q3 H3 n3 s3 h3
  have e2 : (List.replicate (((G.cs.map V.str).length : Nat) : Int).toNat [V.int z]).flatten = G.cs.map fun _ => V.int z := by
    rw [Int.toNat_natCast, List.length_map]
    exact rep_map G.cs z
  rw [e2] at h2
  exact k q3 H3 ((s1.trans s2).trans s3) ⟨q2, SqT.of h3, Rd.Same.sqT s3 h2⟩
theorem ok_lawloads (F : Rd.Has K mg "_law_loads" s__law_loads) (g : Glob mg) : Rd.Fn gd P w K mg base CX0 1 "_law_loads" (spLloads K) := by
  refine F.fn sc__law_loads (fun _ => rfl) (fun _ _ _ _ _ _ us hl => match us, hl with | [_, _], _ => rfl) fun f cdv A outer s H Q E b hr h => ?_
  obtain ⟨⟨p, s0⟩, G, st, ld⟩ := b
  obtain ⟨hp, GO, hs, k⟩ := h
  dsimp only at hp GO hs k
  obtain ⟨pc, pn, pt, h0, hC, hN, hT⟩ := id hp
  obtain ⟨v, hs2, hv⟩ := id hs
  refine ⟨_, (pss_one (ps_ret (pe_callTy (Rd.c_dictL rfl) (by rfl) g.dict (by decide +kernel) (pa_cons (Rd.pe_listZip rfl (by rfl) g.list (by decide +kernel) (by rfl) g.zip (pa_cons (pe_ix ix_tup (pv 0) pe_int (fun _ _ => rfl)) (pa_cons (pe_ix ix_tup (pv 1) pe_int (fun _ _ => rfl)) pa_nil))) pa_nil)))), ?_⟩
  try simp only [Rd.noxK, Rd.cxK]
  refine Rd.rd_start [some (V.ref p), some (V.ref s0)] rfl ?_
  walk_at "rd"
  have hC' : SqT K H pc (G.cs.map V.str) := hC
  have hv' : SqT K H v (G.cs.map fun c => V.int (ld c)) := hv
  refine ⟨pc, v, _, _, rfl, .inr hC', .inr hv', fun l1 H1 ts n1 s1 h1 hP1 => ?_⟩
  rw [zip_vals] at hP1
  walk_at "rd"
  refine Rd.rd_dictL (kvs := ldK G.cs ld) (SqL.of h1) (paired_ld G.cs ld hP1) fun d2 H2 n2 s2 h2 => ?_
  rw [merge_ldK GO.cA.nodup] at h2
  exact k d2 H2 (none_pre s1 n2) (s1.trans s2) h2
theorem ok_lawposs (F : Rd.Has K mg "_law_possible" s__law_possible) (g : Glob mg) (c__law_behind : Rd.Fn gd P w K mg base CX0 2 "_law_behind" (spLbeh K)) : Rd.Fn gd P w K mg base CX0 3 "_law_possible" (spLposs K) := by
  refine F.fn sc__law_possible (fun _ => rfl) (fun _ _ _ _ _ _ us hl => match us, hl with | [_, _], _ => rfl) fun f cdv A outer s H Q E b hr h => ?_
  obtain ⟨⟨p, s0⟩, G, st, ld⟩ := b
  obtain ⟨hp, GO, hs, hnn, k⟩ := h
  dsimp only at hp GO hs hnn k
  obtain ⟨pc, pn, pt, h0, hC, hN, rs, hT, hP⟩ := id hp
  refine ⟨_, (pss_one (ps_ret (pe_callTy Rd.c_tuple (by rfl) g.tuple (by decide +kernel) (pa_cons (pe_lc (own := [("_law_row_here", 2)]) (by rfl) sc__law_possible.nd (pi_tup (pe_ix ix_tup (pv 0) pe_int (fun _ _ => rfl))) (blkOk_by (own := [("_law_row_here", 2)]) (N := ["_law_plain", "_law_spot_here", "_law_row_here"]) (sc := defScope s__law_possible) (by decide +kernel)) (fun _ _ _ _ _ => (pg_name (i := 2) sc__law_possible.nd rfl (Or.inl rfl))) (fun _ _ _ _ _ => (pts_one (pt_cmpR op_notN1 (Rd.pe_fn c__law_behind (hr.mono (by decide)) (by rfl) (pa_cons (pv 0) (pa_cons (pv 1) (pa_cons (pv 2) (pa_cons (pe_ix (Rd.ix_tupK (K := K) (by rfl)) (pv 0) pe_int (fun _ _ => rfl)) pa_nil))))) pe_non (nomark _)))) (fun _ _ _ _ _ => (pe_ix (Rd.ix_tupK (K := K) (by rfl)) (pv 2) pe_int (fun _ _ => rfl)))) pa_nil)))), ?_⟩
  try simp only [Rd.noxK, Rd.cxK]
  refine Rd.rd_start [some (V.ref p), some (V.ref s0), none] rfl ?_
  walk_at "rd"
  have t16 := GO.t16
  refine lc_rowsP (fun t => canB st ld t) (fun t => V.str t.nm) (by omega) hT hP (fun t r H1 N M ht s1 hrow hN2 hM => ?_) (fun D H1 nD s1 hD => ?_)
  · have h01 : SqT K H1 p [.ref pc, .ref pn, .ref pt] := Rd.Same.sqT s1 h0
    refine Rd.rd_start' [some (V.ref p), some (V.ref s0), none] rfl ?_
    walk_at "rd"
    refine ⟨rfl, ?_⟩
    walk_at "rd"
    refine Rd.rd_sp ((p, s0, r, pc), G, st, ld, t) rfl ⟨hs.kp (kpS s1), hrow, hC.kp (kpS s1), GO.c5, ?_⟩
    have eb := canB_to (st := st) hnn (GO.tO t ht) (GO.tK t ht)
    try dsimp only
    cases ea : ansOf G.cs st ld t with
    | op =>
      rw [ea] at eb
      intro H2 s2
      walk_at "rd"
      refine Rd.if_f rfl ?_
      exact hN2 eb _ s2
    | low c =>
      rw [ea] at eb
      intro H2 s2
      walk_at "rd"
      refine Rd.if_f rfl ?_
      exact hN2 eb _ s2
    | to st' f' =>
      rw [ea] at eb
      intro s' H2 s2 _
      walk_at "rd"
      refine Rd.if_t rfl ?_
      obtain ⟨cc, hr4, _⟩ := hrow.kp (kpS s2)
      walk_at "rd"
      exact hM eb _ s2
  walk_at "rd"
  rename_i q2 H2 n2 s2 h2
  have e2 : ((G.ts.filter fun t => canB st ld t).map fun t => V.str t.nm) = (posL G st ld).map V.str := by unfold posL; rw [List.map_map]; rfl
  rw [e2] at h2
  exact k q2 H2 (s1.trans s2) (SqT.of h2)
theorem ok_lawdue (F : Rd.Has K mg "_law_due" s__law_due) (g : Glob mg) (c__law_row : Rd.Fn true P w K mg base CX0 1 "_law_row" (spLrow K)) (c__law_step : Rd.Fn true P w K mg base CX0 1 "_law_step" (spLstep K)) (c__law_behind : Rd.Fn true P w K mg base CX0 2 "_law_behind" (spLbeh K)) : Rd.Fn true P w K mg base CX0 3 "_law_due" (spLdue K) := by
  refine F.fn sc__law_due (fun _ => rfl) (fun _ _ _ _ _ _ us hl => match us, hl with | [_, _, _], _ => rfl) fun f cdv A outer s H Q E b hr h => ?_
  obtain ⟨⟨p, s0⟩, G, st, ld, t⟩ := b
  obtain ⟨hp, GO, hs, ht, k⟩ := h
  dsimp only at hp GO hs ht k
  obtain ⟨pc, pn, pt, h0, hC, hN, hT⟩ := id hp
  obtain ⟨v, hs2, hv⟩ := id hs
  refine ⟨_, (pss_cons (ps_set (i := 3) sc__law_due.nd rfl (Or.inr rfl) (Rd.pe_fn c__law_row (hr.mono (by decide)) (by rfl) (pa_cons (pv 0) (pa_cons (pv 2) pa_nil))))
      (pss_cons (ps_if (pt_cmpR op_ne (pe_ix ix_tup (pv 3) pe_int (fun _ _ => rfl)) (pe_ix ix_tup (pv 1) pe_int (fun _ _ => rfl)) (nomark _)) (pss_one (ps_ret pe_str)) pss_nil)
      (pss_cons (ps_setLc (i := 4) (own := [("_law_counter", 5), ("_law_load", 6)]) (by rfl) sc__law_due.nd rfl rfl (sw_true rfl rfl rfl (by decide +kernel)) (RZ.pi_zipA (by rfl) g.zip (pa_cons (pe_ix ix_tup (pv 0) pe_int (fun _ _ => rfl)) (pa_cons (pe_ix ix_tup (pv 1) pe_int (fun _ _ => rfl)) pa_nil))) (blkOk_by (own := [("_law_counter", 5), ("_law_load", 6)]) (N := ["_law_plain", "_law_spot_here", "_law_name_here", "_law_row_here", "_law_low", "_law_counter", "_law_load"]) (sc := defScope s__law_due) (by decide +kernel)) (fun _ _ _ _ _ => (Rd.pg_tupK (K := K) (n := 2) (by rfl) rfl (pgs_cons (pg_name (i := 5) sc__law_due.nd rfl (Or.inl rfl)) (pgs_cons (pg_name (i := 6) sc__law_due.nd rfl (Or.inl rfl)) pgs_nil)))) (fun _ _ _ _ _ => (pts_one (pt_cmpR op_lt (pe_op op_add (pv 6) (Rd.pe_fn c__law_step (hr.mono (by decide)) (by rfl) (pa_cons (pv 3) (pa_cons (pv 5) pa_nil)))) pe_int (nomark _)))) (fun _ _ _ _ _ => (pv 5)))
      (pss_one (ps_ret (pe_ifExp (pt_cmpR (Rd.op_neE hr.units) (pv 4) (Rd.pe_lst pa_nil) (nomark _)) (pe_op op_add_str pe_str (pe_callB (Rd.c_reprV hr.gd hr.units) (by rfl) g.repr (by decide +kernel) (pa_cons (pe_ix ix_list (pv 4) pe_int (fun _ _ => rfl)) pa_nil))) (Rd.pe_fn c__law_behind (hr.mono (by decide)) (by rfl) (pa_cons (pv 0) (pa_cons (pv 1) (pa_cons (pv 3) (pa_cons (pe_ix ix_tup (pv 0) pe_int (fun _ _ => rfl)) pa_nil))))))))))), ?_⟩
  try simp only [Rd.noxK, Rd.cxK]
  refine Rd.rd_start [some (V.ref p), some (V.ref s0), some (V.str t.nm), none, none, none, none] rfl ?_
  walk_at "rd"
  refine Rd.rd_sp (p, G, t) rfl ⟨hp, GO, ht, fun r H1 s1 hrow => ?_⟩
  have h01 : SqT K H1 p [.ref pc, .ref pn, .ref pt] := Rd.Same.sqT s1 h0
  have hs21 : SqT K H1 s0 [.str st, .ref v] := Rd.Same.sqT s1 hs2
  have hC1 : SqT K H1 pc (G.cs.map V.str) := Rd.Same.sqT s1 hC
  have hv1 : SqT K H1 v (G.cs.map fun c => V.int (ld c)) := Rd.Same.sqT s1 hv
  have c5 := GO.c5
  obtain ⟨cc, hr4, _⟩ := id hrow
  walk_at "rd"
  unfold ansOf at k
  by_cases es : t.src = st
  · rw [if_pos es] at k
    refine Rd.if_f (by rw [es, decide_eq_true rfl]; rfl) ?_
    walk_at "rd"
    refine Rd.rd_IZT hC1 hv1 ?_
    refine lc_zipP (fun z => decide (addF ld t.chg (strT z.1) < 0)) (fun z => z.1) (by rw [List.length_map, List.length_map]) (by rw [List.length_map]; omega) hC1 hv1 (fun z T H2 N M hz s2 hT hN2 hM => ?_) (fun D H2 nD s2 hD => ?_)
    · rw [zip_vals] at hz
      obtain ⟨c, hc, rfl⟩ := List.mem_map.mp hz
      have hT' : SqT K H2 T [.str c, .int (ld c)] := SqT.of hT
      refine Rd.rd_start' [some (V.ref p), some (V.ref s0), some (V.str t.nm), some (V.ref r), none, none, none] rfl ?_
      refine Rd.rd_gTup hT' rfl ?_
      walk_at "rd"
      refine ⟨rfl, ?_⟩
      walk_at "rd"
      refine Rd.rd_sp (r, t, c) rfl ⟨hrow.kp (kpS s2), ?_⟩
      walk_at "rd"
      by_cases e : addF ld t.chg c < 0
      · refine Rd.if_t (decide_eq_true e) ?_
        walk_at "rd"
        exact hM (decide_eq_true e) _ (Same.refl _)
      · refine Rd.if_f (decide_eq_false e) ?_
        exact hN2 (decide_eq_false e) _ (Same.refl _)
    rw [zip_vals] at hD
    have eD : (((G.cs.map fun c => (V.str c, V.int (ld c))).filter fun z => decide (addF ld t.chg (strT z.1) < 0)).map fun z => z.1) = (lowL G.cs ld t.chg).map V.str := by
      unfold lowL
      rw [List.filter_map, List.map_map]
      rfl
    rw [eD] at hD
    walk_at "rd"
    rename_i l3 H3 n3 s3 h3
    have hD3 := s3 _ _ hD
    refine Rd.rd_neE (SqL.of hD3) (SqL.of h3) ?_
    rw [List.isEmpty_map]
    have s13 := s2.trans s3
    cases el : lowL G.cs ld t.chg with
    | nil =>
      rw [el] at k
      refine ⟨_, rfl, ?_⟩
      refine Rd.if_f rfl ?_
      walk_at "rd"
      refine Rd.rd_sp ((p, s0, r, pc), G, st, ld, t) rfl ⟨hs.kp (kpS (s1.trans s13)), hrow.kp (kpS s13), hC.kp (kpS (s1.trans s13)), GO.c5, ?_⟩
      try dsimp only
      have ea : ansOf G.cs st ld t = .to t.tgt (addF ld t.chg) := by unfold ansOf; rw [if_pos es, el]
      rw [ea]
      exact fun s' H4 s4 hs4 => k s' H4 ((s1.trans s13).trans s4) hs4
    | cons c rest =>
      rw [el] at k hD3
      have hc : c ∈ G.cs := (mem_low.mp (show c ∈ lowL G.cs ld t.chg by rw [el]; exact List.mem_cons_self)).1
      refine ⟨_, rfl, ?_⟩
      refine Rd.if_t rfl ?_
      have sw := shw_name (GO.cN c hc)
      have hD3' : H3 D = some (.lst (V.str c :: rest.map V.str)) := hD3
      walk_at "rd"
      refine Rd.rd_reprV (.base (.str _)) sw.sh (Nat.le_trans sw.dp (by decide)) (sw.len (by decide)) ?_
      have sl : (PyData.str c).shown.length ≤ 302 * 8 + 302 := by
        have := PyData.shown_le 300 (by decide) (.str c) sw.lf
        have := sw.wt
        omega
      have e8 : ("counter " : Str).length = 8 := by decide +kernel
      refine ⟨_, _, rfl, rfl, ?_, k H3 (s1.trans s13)⟩
      rw [e8]
      exact Nat.le_trans (show 8 + (PyData.str c).shown.length ≤ 3000 by omega) (by decide)
  · rw [if_neg es] at k
    refine Rd.if_t (by rw [decide_eq_false fun z => es (V.str.inj z)]; rfl) ?_
    walk_at "rd"
    exact k H1 s1
theorem ok_lawname (F : Rd.Has K mg "_law_name" s__law_name) (g : Glob mg) (c__law_roll : Rd.Fn gd P w K mg base CX0 1 "_law_roll" spRoll) (c__law_one_of : Rd.Fn gd P w K mg base CX0 2 "_law_one_of" (spOneOfS K)) (c__law_possible : Rd.Fn gd P w K mg base CX0 3 "_law_possible" (spLposs K)) : Rd.Fn gd P w K mg base CX0 4 "_law_name" (spLname K) := by
  refine F.fn sc__law_name (fun _ => rfl) (fun _ _ _ _ _ _ us hl => match us, hl with | [_, _, _], _ => rfl) fun f cdv A outer s H Q E b hr h => ?_
  obtain ⟨⟨d, p, s0⟩, G, st, ld⟩ := b
  obtain ⟨hD, hp, GO, hne, hs, hnn, k⟩ := h
  dsimp only at hD hp GO hne hs hnn k
  refine ⟨_, (pss_cons (ps_set (i := 3) sc__law_name.nd rfl (Or.inl rfl) (Rd.pe_fn c__law_possible (hr.mono (by decide)) (by rfl) (pa_cons (pv 1) (pa_cons (pv 2) pa_nil))))
      (pss_one (ps_ret (pe_ifExp (PW.pt (pw_and (pt_cmpR (op_neD hr.units) (pv 3) (Rd.pe_tup pa_nil) (nomark _)) (pw_and1 (pt_cmpR op_gt (Rd.pe_fn c__law_roll (hr.mono (by decide)) (by rfl) (pa_cons (pv 0) (pa_cons pe_int pa_nil))) pe_int (nomark _))))) (Rd.pe_fn c__law_one_of (hr.mono (by decide)) (by rfl) (pa_cons (pv 0) (pa_cons (pv 3) pa_nil))) (pe_ix ix_tup (Rd.pe_fn c__law_one_of (hr.mono (by decide)) (by rfl) (pa_cons (pv 0) (pa_cons (pe_ix ix_tup (pv 1) pe_int (fun _ _ => rfl)) pa_nil))) pe_int (fun _ _ => rfl)))))), ?_⟩
  try simp only [Rd.noxK, Rd.cxK]
  refine Rd.rd_start [some (V.ref d), some (V.ref p), some (V.ref s0), none] rfl ?_
  walk_at "rd"
  refine Rd.rd_sp ((p, s0), G, st, ld) rfl ⟨hp, GO, hs, hnn, fun q1 H1 s1 h1 => ?_⟩
  have posN : ∀ z ∈ posL G st ld, ∃ t ∈ G.ts, z = t.nm := fun z hz => by
    obtain ⟨t, ht, e⟩ := List.mem_map.mp hz
    exact ⟨t, (List.mem_filter.mp ht).1, e.symm⟩
  have okN : ∀ z ∈ posL G st ld, isName z = true := fun z hz => by
    obtain ⟨t, ht, rfl⟩ := posN z hz
    exact (GO.tO t ht).1
  have pl : (posL G st ld).length ≤ 16 := by
    unfold posL
    rw [List.length_map]
    exact Nat.le_trans (List.length_filter_le _ _) GO.t16
  have D1 := hD.same s1
  have hp1 := hp.kp (kpS s1)
  walk_at "rd"
  rename_i q2 H2 n2 s2 h2
  have D2 := D1.same s2
  have h12 := h1.kp (kpS s2)
  have alt : ∀ H3, Rolled d H2 H3 → Rd.tFn (spOneOfS K) E0 (tCons (tVar 0) (tCons (tOp (rIxT K) (tVar 1) (tC (V.int 2))) tNil)) [some (V.ref d), some (V.ref p), some (V.ref s0), some (V.ref q1)] H3 (fun x H4 => tC (V.int 0) [some (V.ref d), some (V.ref p), some (V.ref s0), some (V.ref q1)] H4 fun y H5 => rIxT K x y H5 Q) := fun H3 R3 => by
    have hp3 := (hp1.kp (kpS s2)).kp (R3.kp D2)
    obtain ⟨pc, pn, pt, h0, hC, hN, rs, hT, hP⟩ := hp3
    have lr : rs.length = G.ts.length := hP.length
    have l16 := GO.t16
    walk_at "rd"
    refine rd_oneS R3.dice (.inr hT) (by rw [List.length_map, lr]; exact List.length_pos_iff.mpr hne) (by rw [List.length_map]; omega) fun v H4 hv R4 => ?_
    obtain ⟨r, hr0, rfl⟩ := List.mem_map.mp hv
    obtain ⟨t, ht, hrow⟩ := paired_mem hP r hr0
    obtain ⟨cc, hr4, _⟩ := hrow.kp (R4.kp R3.dice)
    walk_at "rd"
    exact k t H4 ht (Rolled.pre (s1.trans s2) (R3.trans R4))
  refine Rd.rd_neD (Rd.Dt.dp _ _ h12.dt) (.tup (SqT.of h2) .nil) (shaped_of (can_strs okN) (by decide)) (show SeqAt.shaped (.tuple []) = true by decide +kernel) ?_
  have altR : ∀ H3, Rolled d H2 H3 → tOp (rIxT K) (Rd.tFn (spOneOfS K) E0 (tCons (tVar 0) (tCons (tOp (rIxT K) (tVar 1) (tC (V.int 2))) tNil))) (tC (V.int 0)) [some (V.ref d), some (V.ref p), some (V.ref s0), some (V.ref q1)] H3 Q := fun H3 R3 => Rd.rd_op (alt H3 R3)
  cases eL : posL G st ld with
  | nil =>
    refine ⟨false, rfl, ?_⟩
    refine Rd.if_f rfl ?_
    refine Rd.if_f rfl ?_
    exact altR H2 (Rolled.refl D2)
  | cons n rest =>
    refine ⟨true, rfl, ?_⟩
    refine Rd.if_t rfl ?_
    walk_at "rd"
    refine rd_roll D2 (by decide) (by decide) fun r H3 r0 r1 R3 => ?_
    walk_at "rd"
    refine ite2 (fun hc => ?_) (fun hc => ?_)
    · have hq3 : SqT K H3 q1 ((posL G st ld).map V.str) := (R3.kp D2).sqT h12
      walk_at "rd"
      refine rd_oneS R3.dice (.inr hq3) (by rw [List.length_map, eL]; exact Nat.succ_pos _) (by rw [List.length_map]; omega) fun v H4 hv R4 => ?_
      obtain ⟨z, hz, rfl⟩ := List.mem_map.mp hv
      obtain ⟨t, ht, rfl⟩ := posN z hz
      exact k t H4 ht (Rolled.pre (s1.trans s2) (R3.trans R4))
    · exact altR H3 R3
theorem ok_lawtops (F : Rd.Has K mg "_law_tops" s__law_tops) (g : Glob mg) : Rd.Fn gd P w K mg base CX0 1 "_law_tops" (spLtops K) := by
  refine F.fn sc__law_tops (fun _ => rfl) (fun _ _ _ _ _ _ us hl => match us, hl with | [_, _], _ => rfl) fun f cdv A outer s H Q E b hr h => ?_
  obtain ⟨⟨p, s0⟩, cs, st, ld, tp⟩ := b
  obtain ⟨hp, hs, c5, k⟩ := h
  dsimp only at hp hs c5 k
  obtain ⟨v, hs2, hv⟩ := id hs
  refine ⟨_, (pss_one (ps_ret (pe_callTy Rd.c_tuple (by rfl) g.tuple (by decide +kernel) (pa_cons (pe_lc (own := [("_law_one", 2), ("_law_other", 3)]) (by rfl) sc__law_tops.nd (RZ.pi_zipA (by rfl) g.zip (pa_cons (pv 0) (pa_cons (pe_ix ix_tup (pv 1) pe_int (fun _ _ => rfl)) pa_nil))) (blkOk_by (own := [("_law_one", 2), ("_law_other", 3)]) (N := ["_law_tops_here", "_law_spot_here", "_law_one", "_law_other"]) (sc := defScope s__law_tops) (by decide +kernel)) (fun _ _ _ _ _ => (Rd.pg_tupK (K := K) (n := 2) (by rfl) rfl (pgs_cons (pg_name (i := 2) sc__law_tops.nd rfl (Or.inl rfl)) (pgs_cons (pg_name (i := 3) sc__law_tops.nd rfl (Or.inl rfl)) pgs_nil)))) (fun _ _ _ _ _ => pts_nil) (fun _ _ _ _ _ => (pe_callB (Rd.c_max2 rfl) (by rfl) g.max (by decide +kernel) (pa_cons (pv 2) (pa_cons (pv 3) pa_nil))))) pa_nil)))), ?_⟩
  try simp only [Rd.noxK, Rd.cxK]
  refine Rd.rd_start [some (V.ref p), some (V.ref s0), none, none] rfl ?_
  walk_at "rd"
  have hp' : SqT K H p (cs.map fun c => V.int (tp c)) := hp
  have hv' : SqT K H v (cs.map fun c => V.int (ld c)) := hv
  refine Rd.rd_IZT hp' hv' ?_
  refine Rd.lc_zipT (by rw [List.length_map, List.length_map]) (fun z => V.int (if intT z.2 > intT z.1 then intT z.2 else intT z.1)) (by rw [List.length_map]; omega) hp' hv' (fun z T H1 M hz s1 hT hM => ?_) (fun D H1 nD s1 hD => ?_)
  · rw [zip_vals2] at hz
    obtain ⟨c, hc, rfl⟩ := List.mem_map.mp hz
    have hT' : SqT K H1 T [.int (tp c), .int (ld c)] := SqT.of hT
    refine Rd.rd_start' [some (V.ref p), some (V.ref s0), none, none] rfl ?_
    refine Rd.rd_gTup hT' rfl ?_
    walk_at "rd"
    refine ⟨rfl, ?_⟩
    walk_at "rd"
    exact hM _ (Same.refl _)
  rw [zip_vals2, List.map_map] at hD
  have eD : (cs.map ((fun z : V × V => V.int (if intT z.2 > intT z.1 then intT z.2 else intT z.1)) ∘ fun c => (V.int (tp c), V.int (ld c)))) = cs.map fun c => V.int (maxF ld tp c) := by
    refine List.map_congr_left fun c _ => ?_
    show V.int (if ld c > tp c then ld c else tp c) = V.int (if ld c < tp c then tp c else ld c)
    congr 1
    split <;> split <;> omega
  rw [eD] at hD
  walk_at "rd"
  rename_i q2 H2 n2 s2 h2
  exact k q2 H2 (s1.trans s2) (SqT.of h2)
end
end M
set_option Elab.async false
set_option linter.all false
set_option maxRecDepth 100000
set_option maxHeartbeats 4000000
namespace M
open PySem L2
local macro_rules | `(tactic| walk_at "rdc") => `(tactic| first | exact Or.inl ⟨by decide, by decide⟩ | exact Or.inr ⟨by decide, by decide⟩ | exact ⟨by decide, by decide, by decide⟩ | exact ⟨by decide, by decide⟩ | decide | omega | assumption | (refine Or.inl ⟨?_, ?_⟩ <;> omega) | (refine Or.inr ⟨?_, ?_⟩ <;> omega) | (refine ⟨?_, ?_⟩ <;> omega))
local macro_rules | `(tactic| walk_at "rd1") => `(tactic| with_reducible first
  | refine Rd.rd_seq ?_ | refine Rd.rd_asg ?_ | refine Rd.rd_op ?_ | (refine' Rd.rd_var ?vh ?_; (case vh => with_unfolding_all rfl)) | refine Rd.rd_c ?_ | refine Rd.rd_I0 ?_ | refine Rd.rd_name0 ?_ | refine Rd.rd_nameS ?_ | refine Rd.rd_fn ?_
  | refine Rd.rd_cb ?_ | refine Rd.rd_cons ?_ | refine Rd.rd_nil ?_ | refine Rd.rd_int ?_ | refine Rd.rd_intB ?_ | refine Rd.rd_abs ?_ | refine Rd.rd_max2 ?_ | refine Rd.rd_min2 ?_
  | refine Rd.rd_call ?_ | refine Rd.rd_ifE ?_ | refine Rd.rd_test ?_ | refine Rd.rd_tB ?_ | refine Rd.rd_blV ?_ | refine Rd.rd_and ?_ | refine Rd.rd_or ?_ | refine Rd.rd_not ?_
  | refine Rd.rd_andV ?_ | refine Rd.rd_orV ?_ | refine Rd.rd_notV ?_ | refine Rd.rd_next ?_ | refine Rd.rd_ret ?_ | refine Rd.rd_drop ?_ | refine Rd.rd_ifS ?_ | refine Rd.rd_nx ?_ | refine Rd.rd_rt ?_ | refine Rd.rd_tMatch ?_ | refine Rd.rd_tCO ?_ | refine Rd.rd_tRevL ?_ | refine Rd.rd_tStar ?_ | refine Rd.rd_joined ?_ | refine Rd.rd_js1 ?_ | refine Rd.rd_js0 ?_ | refine Rd.rd_fmt ?_ | refine Rd.rd_propR ?_ | refine Rd.rd_iZipA ?_ | refine Rd.rd_iEnumT ?_ | refine Rd.rd_iOwn ?_ | (refine' Rd.rd_IET ?ln ?_; (case ln => with_unfolding_all walk_at "at")) | refine Rd.rd_chain ?_ | refine Rd.rd_tPar ?_ | refine Rd.rd_par ?_ | refine Rd.rd_sl ?_ | refine Rd.rd_noPart ?_ | refine Rd.rd_part ?_ | refine Rd.rd_intV ?_ | refine Rd.rd_lc ?_ | (refine' Rd.rd_aug ?vh ?_; (case vh => with_unfolding_all rfl)) | refine Rd.rd_ipI ?_ | refine Rd.rd_for ?_ | (refine' Rd.rd_IT ?ln ?_; (case ln => with_unfolding_all walk_at "at")) | (refine' Rd.rd_IL ?ln ?_; (case ln => with_unfolding_all walk_at "at")) | refine Rd.rd_iTup ?_ | refine Rd.rd_iList ?_ | refine Rd.rd_iRng1 ?_ | refine Rd.rd_iRng2 ?_ | refine Rd.rd_isi (Rd.isi_int Rd.kk_int_int) ?_ | refine Rd.rd_isi (Rd.isi_int Rd.kk_int_bool) ?_ | refine Rd.rd_dget ?_ | refine Rd.rd_din ?_ | refine Rd.rd_dnotin ?_ | refine Rd.rd_dput ?_ | refine Rd.rd_dc ?_ | refine Rd.rd_lc2 ?_ | refine Rd.rd_ltS ?_ | refine Rd.rd_inSg ?_ | refine Rd.rd_iStr ?_ | refine Rd.rd_IS ?_ | refine Rd.rd_prC ?_ | refine Rd.rd_prN ?_ | refine Rd.rd_methR ?_ | refine Rd.rd_cmeth ?_ | refine Rd.rd_fldS ?_ | refine Rd.rd_fld ?_ | (refine' Rd.rd_mkVS ?vh ?_; (case vh => with_unfolding_all rfl)) | (refine' Rd.rd_starT ?ln ?_; (case ln => with_unfolding_all walk_at "at")) | refine Rd.rd_iEnum ?_ | refine Rd.rd_iZip ?_ | (refine' Rd.rd_IE ?ln ?_; (case ln => with_unfolding_all walk_at "at")) | (refine' Rd.rd_IZ ?ln ?lm ?_; (case ln => with_unfolding_all walk_at "at"); (case lm => with_unfolding_all walk_at "at")) | (refine' Rd.rd_gTup ?ln ?lk ?_; (case ln => with_unfolding_all walk_at "at"); (case lk => with_unfolding_all rfl)) | refine Rd.rd_gCons ?_ | refine Rd.rd_gNil ?_ | refine Rd.rd_m1 ?_ | refine Rd.rd_strV ?_ | refine Rd.rd_tXiM ?_ | refine Rd.rd_tXiB ?_ | refine Rd.rd_tXiS ?_ | refine Rd.rd_bm ?_ | refine Rd.rd_bm0 ?_ | refine Rd.rd_isN ?_ | refine Rd.rd_notN ?_ | refine Rd.rd_sub ?_ | refine Rd.rd_un ?_ | refine Rd.rd_U ?_
  | (refine' Rd.rd_eq ?sc ?_; (case sc => with_unfolding_all rfl)) | (refine' Rd.rd_ne ?sc ?_; (case sc => with_unfolding_all rfl))
  | (refine' Rd.rd_I ?cc ?_; (case cc => with_unfolding_all walk_at "rdc"))
  | (refine' Rd.rd_lenL ?ln ?_; (case ln => with_unfolding_all walk_at "at")) | (refine' Rd.rd_lenT ?ln ?_; (case ln => with_unfolding_all walk_at "at"))
  | (refine' Rd.rd_ixL ?ln ?ia ?_; (case ln => with_unfolding_all walk_at "at"); (case ia => with_unfolding_all first | exact Rd.at0 | exact Rd.at1 | exact Rd.at2 | exact Rd.at3 | exact Rd.at4 | rfl)) | (refine' Rd.rd_ixT ?ln ?ia ?_; (case ln => with_unfolding_all walk_at "at"); (case ia => with_unfolding_all first | exact Rd.at0 | exact Rd.at1 | exact Rd.at2 | exact Rd.at3 | exact Rd.at4 | rfl)))
local macro_rules | `(tactic| walk_at "at") => `(tactic| first | assumption | (apply SqL.of; assumption) | (apply SqT.of; assumption) | (apply SqL.of; exact upd_same) | (apply SqT.of; exact upd_same))
local macro_rules | `(tactic| walk_at "rd") => `(tactic| repeat walk_at "rd1")
local macro_rules | `(tactic| walk_at "ne") => `(tactic| first | assumption | exact Ne.symm (by assumption) | (refine' Dice.ne ?D ?h; (case h => assumption); (case D => walk_at "fa")))
local macro_rules | `(tactic| walk_at "kp1") => `(tactic| first | exact kpS (by assumption) | exact Mut.kp (by assumption) | (refine' Rolled.kp ?r ?D; (case r => assumption); (case D => walk_at "fa")))
local macro_rules | `(tactic| walk_at "fa") => `(tactic| first
  | assumption | exact SqT.of (by assumption) | exact SqL.of (by assumption)
  | (refine' Dice.same ?h ?s; (case s => assumption); (case h => walk_at "fa")) | exact Rolled.dice (by assumption)
  | (refine' L2.Same.seq ?s ?h; (case s => assumption); (case h => walk_at "fa")) | (refine' Rolled.sqL ?r ?n ?h; (case r => assumption); (case n => walk_at "ne"); (case h => walk_at "fa"))
  | (refine' Kp.sqT ?k ?h; (case k => walk_at "kp1"); (case h => walk_at "fa")) | (refine' RowAt.kp ?k ?h; (case k => walk_at "kp1"); (case h => walk_at "fa")) | (refine' RowsAt.kp ?k ?h; (case k => walk_at "kp1"); (case h => walk_at "fa")) | (refine' ChgAt.kp ?k ?h; (case k => walk_at "kp1"); (case h => walk_at "fa")) | (refine' PlainAt.kp ?k ?h; (case k => walk_at "kp1"); (case h => walk_at "fa"))
  | (refine' GraphAt.same ?h ?s; (case s => assumption); (case h => walk_at "fa")) | (refine' GraphAt.rolled ?r ?D ?h; (case r => assumption); (case D => walk_at "fa"); (case h => walk_at "fa"))
  | (refine' Rd.Same.at ?s ?h; (case s => assumption); (case h => walk_at "fa")) | (refine' Mut.keep ?m _ _ ?n ?h; (case m => assumption); (case n => walk_at "ne"); (case h => walk_at "fa")) | (refine' Rolled.keep ?r _ _ ?n ?h; (case r => assumption); (case n => walk_at "ne"); (case h => walk_at "fa")))
local macro_rules | `(tactic| walk_at "sm") => `(tactic| first | assumption | exact Same.refl _ | (refine' L2.Same.trans ?h ?s; (case s => assumption); (case h => walk_at "sm")) | (refine' same_mutM ?a ?b ?c; (case c => assumption); (case b => walk_at "nn"); (case a => walk_at "sm")))
local macro_rules | `(tactic| walk_at "rl") => `(tactic| first | assumption | exact Rolled.refl (by walk_at "fa") | (refine' Rolled.trans ?a ?b; (case b => assumption); (case a => walk_at "rl")) | (refine' Rolled.same ?a ?b; (case b => assumption); (case a => walk_at "rl")) | (refine' Rolled.mutM ?a ?n ?e ?m; (case m => assumption); (case n => walk_at "nn"); (case e => walk_at "ne"); (case a => walk_at "rl")))
local macro_rules | `(tactic| walk_at "nn") => `(tactic| first | assumption | (refine' none_pre ?s ?h; (case h => assumption); (case s => walk_at "sm")) | (refine' none_rol ?r ?D ?h; (case h => assumption); (case D => walk_at "fa"); (case r => walk_at "rl")))
local macro_rules | `(tactic| walk_at "sz") => `(tactic| first | (simp only [List.length_cons, List.length_nil]; decide) | (refine Rd.small64 ?_; simp only [List.length_map, List.length_append, List.length_cons, List.length_nil]; omega))
local macro_rules | `(tactic| walk_at "at") => `(tactic| walk_at "fa")
local macro_rules | `(tactic| walk_at "rd1") => `(tactic| with_reducible first
  | (refine' Rd.rd_mkTup ?sz fun _ _ _ _ _ => ?_; (case sz => with_unfolding_all walk_at "sz")) | (refine' Rd.rd_mkLst ?sz fun _ _ _ _ _ => ?_; (case sz => with_unfolding_all walk_at "sz")) | (refine' Rd.rd_mkTupF ?sz fun _ _ _ _ _ => ?_; (case sz => with_unfolding_all walk_at "sz"))
  | (refine' Rd.rd_tupleL ?ln fun _ _ _ _ _ => ?_; (case ln => with_unfolding_all walk_at "at")) | (refine' Rd.rd_tupleT ?ln ?_; (case ln => with_unfolding_all walk_at "at")) | (refine' Rd.rd_listL ?ln fun _ _ _ _ _ => ?_; (case ln => with_unfolding_all walk_at "at")) | (refine' Rd.rd_listT ?ln fun _ _ _ _ _ => ?_; (case ln => with_unfolding_all walk_at "at"))
  | (refine' fld_c ?T ?h fun _ _ => ?_; (case T => assumption); (case h => with_unfolding_all walk_at "fa")) | (refine' fld_s ?T ?h fun _ _ => ?_; (case T => assumption); (case h => with_unfolding_all walk_at "fa")) | (refine' fld_n ?T ?h fun _ _ => ?_; (case T => assumption); (case h => with_unfolding_all walk_at "fa"))
  | refine Rd.rd_get2 ?_ | (refine' Rd.rd_getA ?ln ?_; (case ln => with_unfolding_all first | exact Or.inl (by walk_at "at") | exact Or.inr ⟨_, by walk_at "at"⟩)) | (refine' Rd.rd_getE ?ln ?_; (case ln => with_unfolding_all first | exact Or.inl (by walk_at "at") | exact Or.inr ⟨_, by walk_at "at"⟩)) | refine Rd.rd_daug ?_ | refine Rd.rd_items ?_ | refine Rd.rd_frz ?_ | refine Rd.rd_vals ?_ | refine Rd.rd_kw0 ?_ | refine Rd.rd_callN ?_
  | (refine' Rd.rd_isi (Rd.isi_tup ?ln Rd.kk_tup_tup) ?_; (case ln => with_unfolding_all walk_at "at")) | refine Rd.rd_isi (Rd.isi_str (b := true) kk_str_str) ?_)
local macro_rules | `(tactic| walk_at "st") => `(tactic| (simp only [List.map_cons, List.map_nil, L2.wipe, List.set_cons_zero, List.set_cons_succ]; walk_at "rd"; refine ⟨rfl, ?_⟩; walk_at "rd"))
abbrev s__law_stands : Stmt := top 63
theorem sc__law_stands : FnScope ["_law_machine", "_law_plain", "_law_spot_here", "_law_log", "_law_tops_here", "_law_row_here", "_law_told_here", "_law_loads_here", "_law_counter", "_law_load"] ["_law_machine", "_law_plain", "_law_spot_here", "_law_log", "_law_tops_here"] (defScope s__law_stands) := ⟨rfl, rfl, rfl, by decide +kernel, rfl, by decide +kernel, by decide +kernel⟩
theorem big_intJ {i : Int} (h : i.natAbs < 2 ^ 720) : PyData.showable (.int i) = true ∧ PyData.leavesShort 721 (.int i) = true ∧ PyData.weight (.int i) ≤ 720 := by
  have hl : i.natAbs.log2 < 720 := by
    by_cases h0 : i.natAbs = 0
    · rw [h0]; decide
    · exact (Nat.log2_lt h0).mpr h
  refine ⟨decide_eq_true (by omega), decide_eq_true ?_, ?_⟩
  · have e := PySem.int_text_length_le (k := 720) (by decide) hl
    have e2 : (PyData.shown (.int i)).length = (toString i).length := by
      show (Str.ofString (toString i)).length = _
      exact PySem.ofString_length _
    rw [e2]
    omega
  · show (if i == 0 then 0 else i.natAbs.log2 + 1) ≤ 720
    split <;> omega
theorem leaf_nameJ {x : Str} (h : isName x = true) : PyData.leavesShort 721 (.str x) = true := (shw_name h).lf
theorem big_dictJ : ∀ am : List (Str × Int), (∀ kv ∈ am, isName kv.1 = true ∧ kv.2.natAbs < 2 ^ 720) → PyData.showableKv (am.map fun kv => (PyData.str kv.1, PyData.int kv.2)) = true ∧ PyData.depthKv (am.map fun kv => (PyData.str kv.1, PyData.int kv.2)) = 0 ∧ PyData.leavesShortKv 721 (am.map fun kv => (PyData.str kv.1, PyData.int kv.2)) = true ∧ PyData.weightKv (am.map fun kv => (PyData.str kv.1, PyData.int kv.2)) ≤ 730 * am.length
  | [], _ => ⟨rfl, rfl, rfl, Nat.zero_le _⟩
  | kv :: r, h => by
    obtain ⟨i1, i2, i3, i4⟩ := big_dictJ r fun y hy => h y (List.mem_cons_of_mem _ hy)
    obtain ⟨k1, k2⟩ := h kv List.mem_cons_self
    have a := shw_name k1
    obtain ⟨b1, b2, b3⟩ := big_intJ k2
    refine ⟨?_, ?_, ?_, ?_⟩
    · show (PyData.showable (.str kv.1) && PyData.showable (.int kv.2) && PyData.showableKv (r.map fun kv => (PyData.str kv.1, PyData.int kv.2))) = true
      rw [a.sh, b1, i1]; rfl
    · show max (max 0 0) (PyData.depthKv (r.map fun kv => (PyData.str kv.1, PyData.int kv.2))) = 0
      rw [i2]; rfl
    · show (PyData.leavesShort 721 (.str kv.1) && PyData.leavesShort 721 (.int kv.2) && PyData.leavesShortKv 721 (r.map fun kv => (PyData.str kv.1, PyData.int kv.2))) = true
      rw [leaf_nameJ k1, b2, i3]; rfl
    · show PyData.weight (.str kv.1) + PyData.weight (.int kv.2) + 2 + PyData.weightKv (r.map fun kv => (PyData.str kv.1, PyData.int kv.2)) ≤ 730 * (r.length + 1)
      have := a.wt
      omega
theorem rd_repMJ {K : PySem.W.Frag} {H : Hp} {Q : VK} {a : Addr} {am : List (Str × Int)} (h : H a = some (.dK (chgK am))) (hn : ∀ kv ∈ am, isName kv.1 = true ∧ kv.2.natAbs < 2 ^ 720) (hl : am.length ≤ 16) (q : Q (.str (chgDt am).shown) H) : Rd.rRepZ K [.ref a] H Q := by
  obtain ⟨h1, h2, h3, h4⟩ := big_dictJ am hn
  refine Rd.rd_reprZ (dz_chgK h) h1 ?_ ?_ q
  · show PyData.depthKv (am.map fun kv => (PyData.str kv.1, PyData.int kv.2)) + 1 ≤ 60
    rw [h2]; decide
  · have := PyData.shown_le 721 (by decide) (chgDt am) h3
    have e := sizeLine_eq
    have e4 : PyData.weight (chgDt am) ≤ 730 * 16 := Nat.le_trans h4 (Nat.mul_le_mul (Nat.le_refl _) hl)
    have h5 : (721 + 2) * PyData.weight (chgDt am) ≤ 723 * (730 * 16) := Nat.mul_le_mul (Nat.le_refl _) e4
    omega
theorem can_ints (l : List Int) : PyData.canLay0 (.tuple (l.map PyData.int)) = true ∧ PyData.depth (.tuple (l.map PyData.int)) ≤ 1 := can_tup PyData.int 0 fun _ _ => ⟨rfl, Nat.le_refl _⟩
theorem dt_ints {K : PySem.W.Frag} {H : Hp} : ∀ l : List Int, Rd.DtAll K H (l.map V.int) (l.map PyData.int)
  | [] => .nil
  | x :: l => .cons (.int x) (dt_ints l)
theorem ldK_chgK (cs : List Str) (f : Str → Int) : ldK cs f = chgK (cs.map fun c => (c, f c)) := by unfold ldK chgK; rw [List.map_map]; rfl
theorem rd_repLd {K : PySem.W.Frag} {H : Hp} {Q : VK} {a : Addr} {cs : List Str} {f : Str → Int} (h : H a = some (.dK (ldK cs f))) (hn : ∀ c ∈ cs, isName c = true) (hl : cs.length ≤ 16) (LO : LdOk cs f) (q : Q (.str (chgDt (cs.map fun c => (c, f c))).shown) H) : Rd.rRepZ K [.ref a] H Q := by
  rw [ldK_chgK] at h
  refine rd_repMJ h (fun kv hkv => ?_) (by rw [List.length_map]; exact hl) q
  obtain ⟨c, hc, rfl⟩ := List.mem_map.mp hkv
  refine ⟨hn c hc, ?_⟩
  have := (LO c hc).2
  show (f c).natAbs < 2 ^ 720
  by_cases z : (f c).natAbs = 0
  · rw [z]; decide
  · exact Nat.lt_of_lt_of_le ((Nat.log2_lt z).mp this) (Nat.pow_le_pow_right (by decide) (by decide))
/-- all that a law asks of how a machine stands -/
structure StandAt (K : PySem.W.Frag) (C : Addr) (m : AdsM) (H : Hp) (x p s0 l t0 : Addr) (S : Mc) : Prop where
  ma : MachAt K C m H x S
  pl : PlainAt K H p S.G
  go : GOk S.G
  sp : SpotAt K H s0 S.G.cs S.now.st S.now.ld
  lg : H l = some (.lst (S.log.map V.str))
  tp : ValsAt K H t0 S.G.cs S.now.tp
  ld : LdOk S.G.cs S.now.ld
  st : S.now.st ∈ S.G.ns
  ln : ∀ n ∈ S.log, n ∈ S.G.ts.map (·.nm)
  lz : S.log.length ≤ 1000
theorem StandAt.same {K : PySem.W.Frag} {C : Addr} {m : AdsM} {H H' : Hp} {x p s0 l t0 : Addr} {S : Mc} (h : StandAt K C m H x p s0 l t0 S) (s : Same H H') : StandAt K C m H' x p s0 l t0 S :=
  ⟨h.ma.same s, h.pl.kp (kpS s), h.go, h.sp.kp (kpS s), s _ _ h.lg, (kpS s).sqT h.tp, h.ld, h.st, h.ln, h.lz⟩
def spStands (K : PySem.W.Frag) (C : Addr) (m : AdsM) : Sp := Rd.mkSp (fun (a : (Addr × Addr × Addr × Addr × Addr) × Mc) => [.ref a.1.1, .ref a.1.2.1, .ref a.1.2.2.1, .ref a.1.2.2.2.1, .ref a.1.2.2.2.2]) fun a H Q _ => StandAt K C m H a.1.1 a.1.2.1 a.1.2.2.1 a.1.2.2.2.1 a.1.2.2.2.2 a.2 ∧ ∀ H', Same H H' → Q (.bl true) H'
section
variable {P : Program} {w : World} {K : PySem.W.Frag} {mg : Str → Option Value} {base : Heap} {a : AdsG} {m : AdsM} {e : AdsE}
set_option maxHeartbeats 40000000 in
theorem ok_stands (TM : MachC K mg m) (TP : MachP K m) (TS : MachS K m) (F : Rd.Has K mg "_law_stands" s__law_stands) (g : Glob mg) (c_state : FnR P w K mg base CX0 1 m.gs (spMst K a.C m)) (c_loads : FnR P w K mg base CX0 1 m.gl (spMld K a.C m)) (c_steps : FnR P w K mg base CX0 1 m.gn (spMsp K a.C m)) (c_log : FnR P w K mg base CX0 1 m.gL (spMlg K a.C m)) (c_possible : FnR P w K mg base CX0 3 m.gp (spPoss K a.C m))
    (c_Machine_taken : FnR P w K mg base CX0 2 m.tn (spMtn K a.C m)) (c_Machine_highest : FnR P w K mg base CX0 2 m.hg (spMhg K a.C m)) (c_in : FnR P w K mg base CX0 3 m.ct (spMct K a.C m)) (c_str : FnR P w K mg base CX0 1 m.st (spMstr K a.C m)) (c__law_loads : Rd.Fn true P w K mg base CX0 1 "_law_loads" (spLloads K)) (c__law_possible : Rd.Fn true P w K mg base CX0 3 "_law_possible" (spLposs K)) :
    Rd.Fn true P w K mg base CX0 5 "_law_stands" (spStands K a.C m) := by
  refine F.fn sc__law_stands (fun _ => rfl) (fun _ _ _ _ _ _ us hl => match us, hl with | [_, _, _, _, _], _ => rfl) fun f cdv A outer s H Q E b hr h => ?_
  obtain ⟨⟨x, p, s0, l, t0⟩, S⟩ := b
  obtain ⟨ST, k⟩ := h
  dsimp only at ST k
  refine ⟨_, (pss_cons (ps_if (PW.pt (pw_or (pt_cmpR op_ne (Rd.pe_propR (pv 0) TM.cl TP.st c_state (hr.mono (by decide)).toRoom pass0) (pe_ix ix_tup (pv 2) pe_int (fun _ _ => rfl)) (nomark _)) (pw_or1 (pt_cmpR op_ne (pe_callB (Rd.c_reprZ hr.gd (hu64 hr)) (by rfl) g.repr (by decide +kernel) (pa_cons (Rd.pe_propR (pv 0) TM.cl TP.ld c_loads (hr.mono (by decide)).toRoom pass0) pa_nil)) (pe_callB (Rd.c_reprZ hr.gd (hu64 hr)) (by rfl) g.repr (by decide +kernel) (pa_cons (Rd.pe_fn c__law_loads (hr.mono (by decide)) (by rfl) (pa_cons (pv 1) (pa_cons (pv 2) pa_nil))) pa_nil)) (nomark _))))) (pss_one (ps_ret pe_bl)) pss_nil)
      (pss_cons (ps_if (PW.pt (pw_or (pt_cmpR op_ne (Rd.pe_propR (pv 0) TM.cl TP.sp c_steps (hr.mono (by decide)).toRoom pass0) (pe_callB Rd.c_len (by rfl) g.len (by decide +kernel) (pa_cons (pv 3) pa_nil)) (nomark _)) (pw_or (pt_cmpR (op_neD hr.units) (Rd.pe_propR (pv 0) TM.cl TP.lg c_log (hr.mono (by decide)).toRoom pass0) (pe_callTy Rd.c_tuple (by rfl) g.tuple (by decide +kernel) (pa_cons (pv 3) pa_nil)) (nomark _)) (pw_or1 (pt_cmpR (op_neD hr.units) (Rd.pe_propR (pv 0) TM.cl TP.po c_possible (hr.mono (by decide)).toRoom pass0) (Rd.pe_fn c__law_possible (hr.mono (by decide)) (by rfl) (pa_cons (pv 1) (pa_cons (pv 2) pa_nil))) (nomark _)))))) (pss_one (ps_ret pe_bl)) pss_nil)
      (pss_cons (ps_for PassesOwn.never rfl (pi_tup (pe_ix ix_tup (pv 1) pe_int (fun _ _ => rfl))) (pg_name (i := 5) sc__law_stands.nd rfl (Or.inl rfl)) (pss_one (ps_if (PW.pt (pw_or (pt_cmpR op_ne (pe_methR (pv 0) TM.cl TS.m_taken c_Machine_taken (hr.mono (by decide)).toRoom pass0 (pa_cons (pe_ix ix_tup (pv 5) pe_int (fun _ _ => rfl)) pa_nil)) (pe_bm PySem.F.plainAttrs_list PySem.F.slot_list_count PySem.F.type_list_count Rd.mt_countS (pv 3) (pa_cons (pe_ix ix_tup (pv 5) pe_int (fun _ _ => rfl)) pa_nil)) (nomark _)) (pw_or1 (pt_cmpR op_ne (pe_cmpR (Rd.op_inO TS.ct TS.ctf c_in (hr.mono (by decide)).toRoom pass0) (pe_ix ix_tup (pv 5) pe_int (fun _ _ => rfl)) (pv 0) (by rfl)) (pe_cmpR op_in_seq (pe_ix ix_tup (pv 5) pe_int (fun _ _ => rfl)) (Rd.pe_propR (pv 0) TM.cl TP.po c_possible (hr.mono (by decide)).toRoom pass0) (by rfl)) (nomark _))))) (pss_one (ps_ret pe_bl)) pss_nil)))
      (pss_cons (ps_set (i := 6) sc__law_stands.nd rfl (Or.inl rfl) (pe_callTy Rd.c_tuple (by rfl) g.tuple (by decide +kernel) (pa_cons (pe_lc (own := [("_law_counter", 8)]) (by rfl) sc__law_stands.nd (pi_tup (pe_ix ix_tup (pv 1) pe_int (fun _ _ => rfl))) (blkOk_by (own := [("_law_counter", 8)]) (N := ["_law_machine", "_law_plain", "_law_spot_here", "_law_log", "_law_tops_here", "_law_row_here", "_law_told_here", "_law_loads_here", "_law_counter", "_law_load"]) (sc := defScope s__law_stands) (by decide +kernel)) (fun _ _ _ _ _ => (pg_name (i := 8) sc__law_stands.nd rfl (Or.inl rfl))) (fun _ _ _ _ _ => pts_nil) (fun _ _ _ _ _ => (pe_methR (pv 0) TM.cl TS.m_highest c_Machine_highest (hr.mono (by decide)).toRoom pass0 (pa_cons (pv 8) pa_nil)))) pa_nil)))
      (pss_cons (ps_set (i := 7) sc__law_stands.nd rfl (Or.inl rfl) (Rd.pe_join pe_str (pe_lc (own := [("_law_counter", 8), ("_law_load", 9)]) (by rfl) sc__law_stands.nd (RZ.pi_zipA (by rfl) g.zip (pa_cons (pe_ix ix_tup (pv 1) pe_int (fun _ _ => rfl)) (pa_cons (pe_ix ix_tup (pv 2) pe_int (fun _ _ => rfl)) pa_nil))) (blkOk_by (own := [("_law_counter", 8), ("_law_load", 9)]) (N := ["_law_machine", "_law_plain", "_law_spot_here", "_law_log", "_law_tops_here", "_law_row_here", "_law_told_here", "_law_loads_here", "_law_counter", "_law_load"]) (sc := defScope s__law_stands) (by decide +kernel)) (fun _ _ _ _ _ => (Rd.pg_tupK (K := K) (n := 2) (by rfl) rfl (pgs_cons (pg_name (i := 8) sc__law_stands.nd rfl (Or.inl rfl)) (pgs_cons (pg_name (i := 9) sc__law_stands.nd rfl (Or.inl rfl)) pgs_nil)))) (fun _ _ _ _ _ => pts_nil) (fun _ _ _ _ _ => (pe_op op_add_str (pe_op op_add_str (pv 8) pe_str) (pe_callTy Rd.c_strI (by rfl) g.str (by decide +kernel) (pa_cons (pv 9) pa_nil)))))))
      (pss_one (ps_ret (pe_and (pe_cmpR (op_eqD hr.units) (pv 6) (pv 4) (nomark _)) (pe_one (pe_cmpR op_eq (pe_callTy (Rd.c_strO TS.st TS.stf c_str (hr.mono (by decide)).toRoom pass0) (by rfl) g.str (by decide +kernel) (pa_cons (pv 0) pa_nil)) (pe_op op_add_str (pe_op op_add_str (pe_op op_add_str pe_str (pe_ix ix_tup (pv 2) pe_int (fun _ _ => rfl))) pe_str) (pv 7)) (nomark _))))))))))), ?_⟩
  try simp only [Rd.noxK, Rd.cxK]
  refine Rd.rd_start [some (V.ref x), some (V.ref p), some (V.ref s0), some (V.ref l), some (V.ref t0), none, none, none, none, none] rfl ?_
  have GO := ST.go
  have hnn : ∀ c ∈ S.G.cs, 0 ≤ S.now.ld c := fun c hc => (ST.ld c hc).1
  have hlog : SqL K H l (S.log.map V.str) := SqL.of ST.lg
  obtain ⟨dx, pg, pm, pp, pl', ix⟩ := ST.ma.ins
  obtain ⟨v, hs2, hv⟩ := id ST.sp
  obtain ⟨pc, pn, pt, h0, hC, hN, rs, hT, hP⟩ := id ST.pl
  walk_at "rd"
  refine ⟨x, dx, _, rfl, ix, Rd.rd_sp (x, S) rfl ⟨ST.ma, ?_⟩⟩
  walk_at "rd"
  refine Rd.if_f (by rw [decide_eq_true rfl]; rfl) ?_
  walk_at "rd"
  refine ⟨x, dx, _, rfl, ix, Rd.rd_sp (x, S) rfl ⟨ST.ma, fun d1 H1 n1 s1 h1 => ?_⟩⟩
  walk_at "rd"
  refine rd_repLd h1 GO.cN (Nat.le_trans GO.c5 (by decide)) ST.ld ?_
  walk_at "rd"
  refine Rd.rd_sp ((p, s0), S.G, S.now.st, S.now.ld) rfl ⟨ST.pl.kp (kpS s1), GO, ST.sp.kp (kpS s1), fun d2 H2 n2 s2 h2 => ?_⟩
  walk_at "rd"
  refine rd_repLd h2 GO.cN (Nat.le_trans GO.c5 (by decide)) ST.ld ?_
  walk_at "rd"
  refine Rd.if_f (by rw [decide_eq_true rfl]; rfl) ?_
  walk_at "rd"
  have s02 := s1.trans s2
  have ST2 := ST.same s02
  have ix2 := s02 _ _ ix
  clear h1 h2 n1 n2
  refine ⟨x, dx, _, rfl, ix2, Rd.rd_sp (x, S) rfl ⟨ST2.ma, ?_⟩⟩
  have hlog2 : SqL K H2 l (S.log.map V.str) := SqL.of ST2.lg
  walk_at "rd"
  rw [List.length_map]
  refine Rd.if_f (by rw [decide_eq_true rfl]; rfl) ?_
  walk_at "rd"
  refine ⟨x, dx, _, rfl, ix2, Rd.rd_sp (x, S) rfl ⟨ST2.ma, fun q3 H3 s3 h3 => ?_⟩⟩
  have hlog3 : SqL K H3 l (S.log.map V.str) := SqL.of (ST2.same s3).lg
  walk_at "rd"
  rename_i q4 H4 n4 s4 h4
  have okL : ∀ z ∈ S.log, isName z = true := fun z hz => by
    obtain ⟨t, ht, rfl⟩ := List.mem_map.mp (ST.ln z hz)
    exact (GO.tO t ht).1
  have shL : SeqAt.shaped (.tuple (S.log.map PyData.str)) = true := shaped_of (can_strs okL) (by decide)
  refine Rd.rd_neD (Rd.Dt.dp _ _ (h3.kp (kpS s4)).dt) (Rd.Dt.dp _ _ (show TxT K H4 q4 S.log from SqT.of h4).dt) shL shL ?_
  rw [SeqAt.eqv_refl _ (SeqAt.canLay_of_shaped shL)]
  refine ⟨false, rfl, ?_⟩
  refine Rd.if_f rfl ?_
  walk_at "rd"
  have s24 := s3.trans s4
  have ST4 := ST2.same s24
  have ix4 := s24 _ _ ix2
  clear h3 h4 n4
  refine ⟨x, dx, _, rfl, ix4, Rd.rd_sp (x, S) rfl ⟨ST4.ma, GO, fun q5 H5 s5 h5 => ?_⟩⟩
  walk_at "rd"
  refine Rd.rd_sp ((p, s0), S.G, S.now.st, S.now.ld) rfl ⟨ST4.pl.kp (kpS s5), GO, ST4.sp.kp (kpS s5), hnn, fun q6 H6 s6 h6 => ?_⟩
  have okP : ∀ z ∈ posL S.G S.now.st S.now.ld, isName z = true := fun z hz => by
    obtain ⟨t, ht, e⟩ := List.mem_map.mp hz
    rw [← e]
    exact (GO.tO t (List.mem_filter.mp ht).1).1
  have shP : SeqAt.shaped (.tuple ((posL S.G S.now.st S.now.ld).map PyData.str)) = true := shaped_of (can_strs okP) (by decide)
  refine Rd.rd_neD (Rd.Dt.dp _ _ (h5.kp (kpS s6)).dt) (Rd.Dt.dp _ _ h6.dt) shP shP ?_
  rw [SeqAt.eqv_refl _ (SeqAt.canLay_of_shaped shP)]
  refine ⟨false, rfl, ?_⟩
  refine Rd.if_f rfl ?_
  refine Rd.rd_next ?_
  refine Rd.rd_nx ?_
  have s06 := (s02.trans s24).trans (s5.trans s6)
  have ST6 := ST.same s06
  have ix6 := s06 _ _ ix
  clear h5 h6 ST2 ST4 ix2 ix4 hlog2 hlog3
  obtain ⟨pc6, pn6, pt6, h06, hC6, hN6, rs6, hT6, hP6⟩ := id ST6.pl
  walk_at "rd"
  refine Rd.for_tup (K := K) (xs := rs6.map V.ref) (fun i σ' H' => Same H6 H' ∧ ∃ v5, σ' = [some (V.ref x), some (V.ref p), some (V.ref s0), some (V.ref l), some (V.ref t0), v5, none, none, none, none]) ⟨Same.refl _, none, rfl⟩ (fun i σ' H' _ q => Rd.Same.sqT q.1 hT6) (fun i u σ' H7 hu q => ?_) (fun σ' H7 q => ?_)
  · obtain ⟨s7, v5, rfl⟩ := q
    rw [List.getElem?_map] at hu
    obtain ⟨r, hr0, rfl⟩ := Option.map_eq_some_iff.mp hu
    obtain ⟨t, ht, hrow⟩ := paired_get hP6 hr0
    have htm : t ∈ S.G.ts := List.mem_of_getElem? ht
    have hnm : t.nm ∈ S.G.ts.map (·.nm) := List.mem_map_of_mem htm
    have ST7 := ST6.same s7
    have ix7 := s7 _ _ ix6
    obtain ⟨cc, hr4, _⟩ := hrow.kp (kpS s7)
    have hlog7 : SqL K H7 l (S.log.map V.str) := SqL.of ST7.lg
    walk_at "rd"
    refine ⟨x, dx, _, rfl, ix7, rfl, ?_⟩
    walk_at "rd"
    refine Rd.rd_sp (x, S, t.nm) rfl ⟨ST7.ma, hnm, ?_⟩
    walk_at "rd"
    refine ⟨Rd.tyL hlog7, ?_⟩
    walk_at "rd"
    refine Rd.rd_countS hlog7 ?_
    walk_at "rd"
    refine Rd.if_f (by rw [decide_eq_true rfl]; rfl) ?_
    walk_at "rd"
    refine Rd.rd_inO ix7 ?_
    refine Rd.rd_sp (x, S, t.nm) rfl ⟨ST7.ma, GO, fun H8 s8 => ⟨_, rfl, ?_⟩⟩
    have ST8 := ST7.same s8
    have ix8 := s8 _ _ ix7
    have hr48 := Rd.Same.sqT s8 hr4
    walk_at "rd"
    refine ⟨x, dx, _, rfl, ix8, Rd.rd_sp (x, S) rfl ⟨ST8.ma, GO, fun q9 H9 s9 h9 => ?_⟩⟩
    refine Rd.rd_inTx (.inl h9) ?_
    walk_at "rd"
    refine Rd.if_f (by simp) ?_
    refine Rd.rd_next ?_
    exact ⟨(s7.trans s8).trans s9, _, rfl⟩
  · obtain ⟨s7, v5, rfl⟩ := q
    have ST7 := ST6.same s7
    have ix7 := s7 _ _ ix6
    have hC7 : SqT K H7 pc6 (S.G.cs.map V.str) := Rd.Same.sqT s7 hC6
    have h07 := Rd.Same.sqT s7 h06
    have c5 := GO.c5
    refine Rd.rd_nx ?_
    walk_at "rd"
    refine Rd.lc_prT1 (zs := S.G.cs) (fun _ v c => v = V.str c) (fun _ _ _ _ _ e => e) (fun c => V.int (S.now.tp c)) (by omega) hC7 (paired_f V.str S.G.cs) (fun c v H8 M hm s8 hv8 hM => ?_) (fun D H8 nD s8 hD => ?_)
    · subst hv8
      refine Rd.rd_start' [some (V.ref x), some (V.ref p), some (V.ref s0), some (V.ref l), some (V.ref t0), v5, none, none, none, none] rfl ?_
      walk_at "rd"
      refine ⟨rfl, ?_⟩
      walk_at "rd"
      refine ⟨x, dx, _, rfl, s8 _ _ ix7, rfl, ?_⟩
      walk_at "rd"
      refine Rd.rd_sp (x, S, c) rfl ⟨(ST7.ma).same s8, hm, ?_⟩
      exact hM _ (Same.refl _)
    walk_at "rd"
    rename_i q9 H9 n9 s9 h9
    have s79 := s8.trans s9
    have ST9 := ST7.same s79
    have ix9 := s79 _ _ ix7
    obtain ⟨v9, hs9, hv9⟩ := id ST9.sp
    have hC9 := Rd.Same.sqT s79 hC7
    have h09 := Rd.Same.sqT s79 h07
    walk_at "rd"
    have s09 := s06.trans (s7.trans s79)
    have hv9' : SqT K H9 v (S.G.cs.map fun c => V.int (S.now.ld c)) := (kpS s09).sqT hv
    refine Rd.rd_IZT hC9 hv9' ?_
    have e1 : (" " : Str).length = 1 := by decide +kernel
    refine Rd.lc_zipT (by rw [List.length_map, List.length_map]) (fun z => V.str (ldT S.now.ld (strT z.1))) (by rw [List.length_map]; omega) hC9 hv9' (fun z T H10 M hz s10 hT hM => ?_) (fun D2 H10 nD2 s10 hD2 => ?_)
    · rw [zip_vals] at hz
      obtain ⟨c, hc, rfl⟩ := List.mem_map.mp hz
      have hT' : SqT K H10 T [.str c, .int (S.now.ld c)] := SqT.of hT
      have lc : c.length ≤ 8 := (name_len (GO.cN c hc)).2
      have lv := (ST.ld c hc).2
      have lz := strZ_len lv
      refine Rd.rd_start' [some (V.ref x), some (V.ref p), some (V.ref s0), some (V.ref l), some (V.ref t0), v5, some (V.ref q9), none, none, none] rfl ?_
      refine Rd.rd_gTup hT' rfl ?_
      walk_at "rd"
      refine ⟨rfl, ?_⟩
      walk_at "rd"
      refine ⟨_, _, rfl, rfl, by rw [e1]; exact Nat.le_trans (show c.length + 1 ≤ 9 by omega) (by decide), ?_⟩
      walk_at "rd"
      refine Rd.rd_strI (Nat.lt_trans lv (by decide)) ?_
      refine ⟨_, _, rfl, rfl, ?_, hM _ (Same.refl _)⟩
      rw [app_len, e1]
      exact Nat.le_trans (show c.length + 1 + (strZ (S.now.ld c)).length ≤ 500 by omega) (by decide)
    rw [zip_vals, List.map_map] at hD2
    replace hD2 : H10 D2 = some (.lst ((S.G.cs.map (ldT S.now.ld)).map V.str)) := by rw [hD2, List.map_map]; rfl
    have lj : ((S.G.cs.map (ldT S.now.ld)).map (·.length)).sum ≤ S.G.cs.length * 410 := join_len _ fun c hc => ldT_len (ST.ld c hc).2 (name_len (GO.cN c hc)).2
    have lj2 : S.G.cs.length * 410 ≤ 5 * 410 := Nat.mul_le_mul_right _ c5
    have e2 : (", " : Str).length = 2 := by decide +kernel
    refine Rd.rd_joinL (SqL.of hD2) (by rw [List.length_map, e2]; omega) ?_
    have jl : (Txt.join (", " : Str) (S.G.cs.map (ldT S.now.ld))).length ≤ 5000 := by
      refine Nat.le_trans (join_length _ _) ?_
      rw [List.length_map, e2]
      omega
    have h910 : SqT K H10 q9 (S.G.cs.map fun c => V.int (S.now.tp c)) := Rd.Same.sqT s10 (SqT.of h9)
    have ST10 := ST9.same s10
    have ix10 := s10 _ _ ix9
    have hs10 := Rd.Same.sqT s10 hs9
    walk_at "rd"
    have ei : ∀ f : Str → Int, (S.G.cs.map fun c => V.int (f c)) = (S.G.cs.map f).map V.int := fun f => by rw [List.map_map]; rfl
    have tp10 := ST10.tp
    unfold ValsAt at tp10
    rw [ei] at h910 tp10
    have shI : SeqAt.shaped (.tuple ((S.G.cs.map S.now.tp).map PyData.int)) = true := shaped_of (can_ints _) (by decide)
    refine Rd.rd_eqD (Rd.Dt.dp _ _ (.tup h910 (dt_ints _))) (Rd.Dt.dp _ _ (.tup tp10 (dt_ints _))) shI shI ?_
    rw [SeqAt.eqv_refl _ (SeqAt.canLay_of_shaped shI)]
    refine ⟨true, rfl, ?_⟩
    refine Rd.if_t rfl ?_
    walk_at "rd"
    have sl : S.now.st.length ≤ 8 := (name_len (GO.nN _ ST.st)).2
    refine Rd.rd_strO (σ := []) ix10 ?_
    refine Rd.rd_sp (x, S) rfl ⟨ST10.ma, GO, ST.ld, sl, fun H11 s11 => ⟨_, rfl, ?_⟩⟩
    have hs11 := Rd.Same.sqT s11 hs10
    have m1 : ("machine at " : Str).length = 11 := by decide +kernel
    have m2 : (": " : Str).length = 2 := by decide +kernel
    have big : 6000 ≤ sizeLine := by decide
    walk_at "rd"
    refine ⟨_, _, rfl, rfl, by rw [m1]; omega, ?_⟩
    walk_at "rd"
    refine ⟨_, _, rfl, rfl, by rw [app_len, m1, m2]; omega, ?_⟩
    walk_at "rd"
    refine ⟨_, _, rfl, rfl, by rw [app_len, app_len, m1, m2]; omega, ?_⟩
    have em : decide (V.str (machT S.G.cs S.now) = V.str (("machine at " : Str) ++ S.now.st ++ (": " : Str) ++ Txt.join (", " : Str) (S.G.cs.map (ldT S.now.ld)))) = true := decide_eq_true rfl
    refine Rd.rd_eq rfl ?_
    dsimp only
    rw [em]
    exact k H11 (s09.trans (s10.trans s11))
end
end M
set_option Elab.async false
set_option linter.all false
set_option maxRecDepth 100000
set_option maxHeartbeats 4000000
namespace M
open PySem L2
local macro_rules | `(tactic| walk_at "rdc") => `(tactic| first | exact Or.inl ⟨by decide, by decide⟩ | exact Or.inr ⟨by decide, by decide⟩ | exact ⟨by decide, by decide, by decide⟩ | exact ⟨by decide, by decide⟩ | decide | omega | assumption | (refine Or.inl ⟨?_, ?_⟩ <;> omega) | (refine Or.inr ⟨?_, ?_⟩ <;> omega) | (refine ⟨?_, ?_⟩ <;> omega))
local macro_rules | `(tactic| walk_at "rd1") => `(tactic| with_reducible first
  | refine Rd.rd_seq ?_ | refine Rd.rd_asg ?_ | refine Rd.rd_op ?_ | (refine' Rd.rd_var ?vh ?_; (case vh => with_unfolding_all rfl)) | refine Rd.rd_c ?_ | refine Rd.rd_I0 ?_ | refine Rd.rd_name0 ?_ | refine Rd.rd_nameS ?_ | refine Rd.rd_fn ?_
  | refine Rd.rd_cb ?_ | refine Rd.rd_cons ?_ | refine Rd.rd_nil ?_ | refine Rd.rd_int ?_ | refine Rd.rd_intB ?_ | refine Rd.rd_abs ?_ | refine Rd.rd_max2 ?_ | refine Rd.rd_min2 ?_
  | refine Rd.rd_call ?_ | refine Rd.rd_ifE ?_ | refine Rd.rd_test ?_ | refine Rd.rd_tB ?_ | refine Rd.rd_blV ?_ | refine Rd.rd_and ?_ | refine Rd.rd_or ?_ | refine Rd.rd_not ?_
  | refine Rd.rd_andV ?_ | refine Rd.rd_orV ?_ | refine Rd.rd_notV ?_ | refine Rd.rd_next ?_ | refine Rd.rd_ret ?_ | refine Rd.rd_drop ?_ | refine Rd.rd_ifS ?_ | refine Rd.rd_nx ?_ | refine Rd.rd_rt ?_ | refine Rd.rd_tMatch ?_ | refine Rd.rd_tCO ?_ | refine Rd.rd_tRevL ?_ | refine Rd.rd_tStar ?_ | refine Rd.rd_joined ?_ | refine Rd.rd_js1 ?_ | refine Rd.rd_js0 ?_ | refine Rd.rd_fmt ?_ | refine Rd.rd_propR ?_ | refine Rd.rd_iZipA ?_ | refine Rd.rd_iEnumT ?_ | refine Rd.rd_iOwn ?_ | (refine' Rd.rd_IET ?ln ?_; (case ln => with_unfolding_all walk_at "at")) | refine Rd.rd_chain ?_ | refine Rd.rd_tPar ?_ | refine Rd.rd_par ?_ | refine Rd.rd_sl ?_ | refine Rd.rd_noPart ?_ | refine Rd.rd_part ?_ | refine Rd.rd_intV ?_ | refine Rd.rd_lc ?_ | (refine' Rd.rd_aug ?vh ?_; (case vh => with_unfolding_all rfl)) | refine Rd.rd_ipI ?_ | refine Rd.rd_for ?_ | (refine' Rd.rd_IT ?ln ?_; (case ln => with_unfolding_all walk_at "at")) | (refine' Rd.rd_IL ?ln ?_; (case ln => with_unfolding_all walk_at "at")) | refine Rd.rd_iTup ?_ | refine Rd.rd_iList ?_ | refine Rd.rd_iRng1 ?_ | refine Rd.rd_iRng2 ?_ | refine Rd.rd_isi (Rd.isi_int Rd.kk_int_int) ?_ | refine Rd.rd_isi (Rd.isi_int Rd.kk_int_bool) ?_ | refine Rd.rd_dget ?_ | refine Rd.rd_din ?_ | refine Rd.rd_dnotin ?_ | refine Rd.rd_dput ?_ | refine Rd.rd_dc ?_ | refine Rd.rd_lc2 ?_ | refine Rd.rd_ltS ?_ | refine Rd.rd_inSg ?_ | refine Rd.rd_iStr ?_ | refine Rd.rd_IS ?_ | refine Rd.rd_prC ?_ | refine Rd.rd_prN ?_ | refine Rd.rd_methR ?_ | refine Rd.rd_cmeth ?_ | refine Rd.rd_fldS ?_ | refine Rd.rd_fld ?_ | (refine' Rd.rd_mkVS ?vh ?_; (case vh => with_unfolding_all rfl)) | (refine' Rd.rd_starT ?ln ?_; (case ln => with_unfolding_all walk_at "at")) | refine Rd.rd_iEnum ?_ | refine Rd.rd_iZip ?_ | (refine' Rd.rd_IE ?ln ?_; (case ln => with_unfolding_all walk_at "at")) | (refine' Rd.rd_IZ ?ln ?lm ?_; (case ln => with_unfolding_all walk_at "at"); (case lm => with_unfolding_all walk_at "at")) | (refine' Rd.rd_gTup ?ln ?lk ?_; (case ln => with_unfolding_all walk_at "at"); (case lk => with_unfolding_all rfl)) | refine Rd.rd_gCons ?_ | refine Rd.rd_gNil ?_ | refine Rd.rd_m1 ?_ | refine Rd.rd_strV ?_ | refine Rd.rd_tXiM ?_ | refine Rd.rd_tXiB ?_ | refine Rd.rd_tXiS ?_ | refine Rd.rd_bm ?_ | refine Rd.rd_bm0 ?_ | refine Rd.rd_isN ?_ | refine Rd.rd_notN ?_ | refine Rd.rd_sub ?_ | refine Rd.rd_un ?_ | refine Rd.rd_U ?_
  | (refine' Rd.rd_eq ?sc ?_; (case sc => with_unfolding_all rfl)) | (refine' Rd.rd_ne ?sc ?_; (case sc => with_unfolding_all rfl))
  | (refine' Rd.rd_I ?cc ?_; (case cc => with_unfolding_all walk_at "rdc"))
  | (refine' Rd.rd_lenL ?ln ?_; (case ln => with_unfolding_all walk_at "at")) | (refine' Rd.rd_lenT ?ln ?_; (case ln => with_unfolding_all walk_at "at"))
  | (refine' Rd.rd_ixL ?ln ?ia ?_; (case ln => with_unfolding_all walk_at "at"); (case ia => with_unfolding_all first | exact Rd.at0 | exact Rd.at1 | exact Rd.at2 | exact Rd.at3 | exact Rd.at4 | rfl)) | (refine' Rd.rd_ixT ?ln ?ia ?_; (case ln => with_unfolding_all walk_at "at"); (case ia => with_unfolding_all first | exact Rd.at0 | exact Rd.at1 | exact Rd.at2 | exact Rd.at3 | exact Rd.at4 | rfl)))
local macro_rules | `(tactic| walk_at "at") => `(tactic| first | assumption | (apply SqL.of; assumption) | (apply SqT.of; assumption) | (apply SqL.of; exact upd_same) | (apply SqT.of; exact upd_same))
local macro_rules | `(tactic| walk_at "rd") => `(tactic| repeat walk_at "rd1")
local macro_rules | `(tactic| walk_at "ne") => `(tactic| first | assumption | exact Ne.symm (by assumption) | (refine' Dice.ne ?D ?h; (case h => assumption); (case D => walk_at "fa")))
local macro_rules | `(tactic| walk_at "kp1") => `(tactic| first | exact kpS (by assumption) | exact Mut.kp (by assumption) | (refine' Rolled.kp ?r ?D; (case r => assumption); (case D => walk_at "fa")))
local macro_rules | `(tactic| walk_at "fa") => `(tactic| first
  | assumption | exact SqT.of (by assumption) | exact SqL.of (by assumption)
  | (refine' Dice.same ?h ?s; (case s => assumption); (case h => walk_at "fa")) | exact Rolled.dice (by assumption)
  | (refine' L2.Same.seq ?s ?h; (case s => assumption); (case h => walk_at "fa")) | (refine' Rolled.sqL ?r ?n ?h; (case r => assumption); (case n => walk_at "ne"); (case h => walk_at "fa"))
  | (refine' Kp.sqT ?k ?h; (case k => walk_at "kp1"); (case h => walk_at "fa")) | (refine' RowAt.kp ?k ?h; (case k => walk_at "kp1"); (case h => walk_at "fa")) | (refine' RowsAt.kp ?k ?h; (case k => walk_at "kp1"); (case h => walk_at "fa")) | (refine' ChgAt.kp ?k ?h; (case k => walk_at "kp1"); (case h => walk_at "fa")) | (refine' PlainAt.kp ?k ?h; (case k => walk_at "kp1"); (case h => walk_at "fa"))
  | (refine' GraphAt.same ?h ?s; (case s => assumption); (case h => walk_at "fa")) | (refine' GraphAt.rolled ?r ?D ?h; (case r => assumption); (case D => walk_at "fa"); (case h => walk_at "fa"))
  | (refine' Rd.Same.at ?s ?h; (case s => assumption); (case h => walk_at "fa")) | (refine' Mut.keep ?m _ _ ?n ?h; (case m => assumption); (case n => walk_at "ne"); (case h => walk_at "fa")) | (refine' Rolled.keep ?r _ _ ?n ?h; (case r => assumption); (case n => walk_at "ne"); (case h => walk_at "fa")))
local macro_rules | `(tactic| walk_at "sm") => `(tactic| first | assumption | exact Same.refl _ | (refine' L2.Same.trans ?h ?s; (case s => assumption); (case h => walk_at "sm")) | (refine' same_mutM ?a ?b ?c; (case c => assumption); (case b => walk_at "nn"); (case a => walk_at "sm")))
local macro_rules | `(tactic| walk_at "rl") => `(tactic| first | assumption | exact Rolled.refl (by walk_at "fa") | (refine' Rolled.trans ?a ?b; (case b => assumption); (case a => walk_at "rl")) | (refine' Rolled.same ?a ?b; (case b => assumption); (case a => walk_at "rl")) | (refine' Rolled.mutM ?a ?n ?e ?m; (case m => assumption); (case n => walk_at "nn"); (case e => walk_at "ne"); (case a => walk_at "rl")))
local macro_rules | `(tactic| walk_at "nn") => `(tactic| first | assumption | (refine' none_pre ?s ?h; (case h => assumption); (case s => walk_at "sm")) | (refine' none_rol ?r ?D ?h; (case h => assumption); (case D => walk_at "fa"); (case r => walk_at "rl")))
local macro_rules | `(tactic| walk_at "sz") => `(tactic| first | (simp only [List.length_cons, List.length_nil]; decide) | (refine Rd.small64 ?_; simp only [List.length_map, List.length_append, List.length_cons, List.length_nil]; omega))
local macro_rules | `(tactic| walk_at "at") => `(tactic| walk_at "fa")
local macro_rules | `(tactic| walk_at "rd1") => `(tactic| with_reducible first
  | (refine' Rd.rd_mkTup ?sz fun _ _ _ _ _ => ?_; (case sz => with_unfolding_all walk_at "sz")) | (refine' Rd.rd_mkLst ?sz fun _ _ _ _ _ => ?_; (case sz => with_unfolding_all walk_at "sz")) | (refine' Rd.rd_mkTupF ?sz fun _ _ _ _ _ => ?_; (case sz => with_unfolding_all walk_at "sz"))
  | (refine' Rd.rd_tupleL ?ln fun _ _ _ _ _ => ?_; (case ln => with_unfolding_all walk_at "at")) | (refine' Rd.rd_tupleT ?ln ?_; (case ln => with_unfolding_all walk_at "at")) | (refine' Rd.rd_listL ?ln fun _ _ _ _ _ => ?_; (case ln => with_unfolding_all walk_at "at")) | (refine' Rd.rd_listT ?ln fun _ _ _ _ _ => ?_; (case ln => with_unfolding_all walk_at "at"))
  | (refine' fld_c ?T ?h fun _ _ => ?_; (case T => assumption); (case h => with_unfolding_all walk_at "fa")) | (refine' fld_s ?T ?h fun _ _ => ?_; (case T => assumption); (case h => with_unfolding_all walk_at "fa")) | (refine' fld_n ?T ?h fun _ _ => ?_; (case T => assumption); (case h => with_unfolding_all walk_at "fa"))
  | refine Rd.rd_get2 ?_ | (refine' Rd.rd_getA ?ln ?_; (case ln => with_unfolding_all first | exact Or.inl (by walk_at "at") | exact Or.inr ⟨_, by walk_at "at"⟩)) | (refine' Rd.rd_getE ?ln ?_; (case ln => with_unfolding_all first | exact Or.inl (by walk_at "at") | exact Or.inr ⟨_, by walk_at "at"⟩)) | refine Rd.rd_daug ?_ | refine Rd.rd_items ?_ | refine Rd.rd_frz ?_ | refine Rd.rd_vals ?_ | refine Rd.rd_kw0 ?_ | refine Rd.rd_callN ?_
  | (refine' Rd.rd_isi (Rd.isi_tup ?ln Rd.kk_tup_tup) ?_; (case ln => with_unfolding_all walk_at "at")) | refine Rd.rd_isi (Rd.isi_str (b := true) kk_str_str) ?_)
local macro_rules | `(tactic| walk_at "st") => `(tactic| (simp only [List.map_cons, List.map_nil, L2.wipe, List.set_cons_zero, List.set_cons_succ]; walk_at "rd"; refine ⟨rfl, ?_⟩; walk_at "rd"))
abbrev s__law_right : Stmt := top 64
theorem sc__law_right : FnScope ["_law_dice_here", "_law_plain", "_law_size", "_law_begin", "_law_asked", "_law_machine", "_law_spot_here", "_law_log", "_law_tops_here", "_law_turn", "_law_name_here", "_law_due_here", "_law_told_here"] ["_law_dice_here"] (defScope s__law_right) := ⟨rfl, rfl, rfl, by decide +kernel, rfl, by decide +kernel, by decide +kernel⟩
section
variable {K : PySem.W.Frag} {C M x d : Addr} {m : AdsM} {cs : List Str} {H H' : Hp} {G : Gr} {o : Mo} {p : Addr} {S : Mc}
theorem kpNJ (e : LamX.ExtN H H') : Kp H H' := fun b o h i => e b o h fun ps z => by rw [z] at i; cases i
theorem GraphAt.extNJ (h : GraphAt K C H x G) (e : LamX.ExtN H H') : GraphAt K C H' x G := by
  obtain ⟨dx, pc, ps, pt, pn, pr, rs, h1, h2⟩ := h
  have kk := kpNJ e
  exact ⟨dx, pc, ps, pt, pn, pr, rs, e _ _ h1 (fun _ z => nomatch z), h2.c.kp kk, h2.s.kp kk, kk.sqT h2.t, L2.Paired.mapP h2.tP fun _ _ q => q.kp kk, h2.n.kp kk, e _ _ h2.r (fun _ z => nomatch z)⟩
theorem MoAt.extN (h : MoAt M cs H p o) (e : LamX.ExtN H H') : MoAt M cs H' p o := by
  obtain ⟨dx, dl, dt, h1, h2, h3⟩ := h
  exact ⟨dx, dl, dt, e _ _ h1 (fun _ z => nomatch z), e _ _ h2 (fun _ z => nomatch z), e _ _ h3 (fun _ z => nomatch z)⟩
theorem MachAt.extN (h : MachAt K C m H x S) (e : LamX.ExtN H H') : MachAt K C m H' x S := by
  obtain ⟨pg, hG, dx, pm, pp, pl, ms, h1, h2, h3, h4, h5⟩ := h
  exact ⟨pg, hG.extNJ e, dx, pm, pp, pl, ms, e _ _ h1 (fun _ z => nomatch z), h2.extN e, e _ _ h3 (fun _ z => nomatch z), L2.Paired.mapP h4 fun _ _ q => q.extN e, e _ _ h5 (fun _ z => nomatch z)⟩
/-- but for the dice at d and the tables all is as it was -/
structure KeptJ (d : Addr) (H H' : Hp) : Prop where
  keep : ∀ b o, b ≠ d → H b = some o → (∀ ps, o ≠ .tbl ps) → H' b = some o
  dice : Dice H' d
theorem KeptJ.refl (hD : Dice H d) : KeptJ d H H := ⟨fun _ _ _ e _ => e, hD⟩
theorem Rolled.keptJ (r : Rolled d H H') : KeptJ d H H' := ⟨fun b o hb e _ => r.keep b o hb e, r.dice⟩
theorem dice_NJ (h : Dice H d) (e : LamX.ExtN H H') : Dice H' d := by
  obtain ⟨x, y, z, h⟩ := h
  exact ⟨x, y, z, e _ _ h fun ps q => by cases q⟩
theorem KeptJ.same {H1 H2 : Hp} (k : KeptJ d H H1) (s : Same H1 H2) : KeptJ d H H2 := ⟨fun b o hb e n => s _ _ (k.keep b o hb e n), k.dice.same s⟩
theorem KeptJ.trans {H1 H2 : Hp} (k : KeptJ d H H1) (k' : KeptJ d H1 H2) : KeptJ d H H2 := ⟨fun b o hb e n => k'.keep b o hb (k.keep b o hb e n) n, k'.dice⟩
theorem KeptJ.extN {H1 H2 : Hp} (k : KeptJ d H H1) (e : LamX.ExtN H1 H2) : KeptJ d H H2 := ⟨fun b o hb q n => e _ _ (k.keep b o hb q n) n, dice_NJ k.dice e⟩
theorem KeptJ.rolled {H1 H2 : Hp} (k : KeptJ d H H1) (r : Rolled d H1 H2) : KeptJ d H H2 := k.trans r.keptJ
/-- the object at x is new and changes -/
theorem KeptJ.but {H1 H2 : Hp} {dx : Addr} {fs : List (Str × V)} (k : KeptJ d H H1) (n : H x = none) (hx : H1 x = some (.ins M dx fs)) (s : SameBut x H1 H2) : KeptJ d H H2 := by
  refine ⟨fun b o hb e h => s _ _ (ne_of_none e n) (k.keep b o hb e h), ?_⟩
  obtain ⟨a, b, c, q⟩ := k.dice
  exact ⟨a, b, c, s _ _ (fun z => by rw [z, hx] at q; cases q) q⟩
theorem tabs_but {T : List (Addr × Str)} {dx : Addr} {fs : List (Str × V)} (h : LamX.Tabs T H) (hx : H x = some (.ins M dx fs)) (k : SameBut x H H') : LamX.Tabs T H' := by
  intro z hz
  obtain ⟨ps, h1, h2, h3⟩ := h z hz
  refine ⟨ps, k _ _ (fun q => by rw [q, hx] at h1; cases h1) h1, h2, fun pos cv hc => ?_⟩
  obtain ⟨c, e1, e2⟩ := h3 pos cv hc
  exact ⟨c, e1, k _ _ (fun q => by rw [q, hx] at e2; unfold LamX.CodeO at e2; cases e2) e2⟩
theorem tabs_rolledJ {T : List (Addr × Str)} (h : LamX.Tabs T H) (hD : Dice H d) (r : Rolled d H H') : LamX.Tabs T H' := by
  obtain ⟨x, y, z, e⟩ := hD
  exact Rd.tabs_keep h e r.keep
theorem StandAt.rolled {p s0 l t0 : Addr} (h : StandAt K C m H x p s0 l t0 S) (hD : Dice H d) (r : Rolled d H H') : StandAt K C m H' x p s0 l t0 S :=
  have kp := r.kp hD
  ⟨h.ma.rolled r hD, h.pl.kp kp, h.go, h.sp.kp kp, r.keep _ _ (hD.nll h.lg (strs_ne3 S.log)) h.lg, kp.sqT h.tp, h.ld, h.st, h.ln, h.lz⟩
theorem StandAt.extN {p s0 l t0 : Addr} (h : StandAt K C m H x p s0 l t0 S) (e : LamX.ExtN H H') : StandAt K C m H' x p s0 l t0 S :=
  have kp := kpNJ e
  ⟨h.ma.extN e, h.pl.kp kp, h.go, h.sp.kp kp, e _ _ h.lg (fun _ z => nomatch z), kp.sqT h.tp, h.ld, h.st, h.ln, h.lz⟩
end
/-- the loads are at most z -/
def LdB (cs : List Str) (f : Str → Int) (z : Int) : Prop := ∀ c ∈ cs, 0 ≤ f c ∧ f c ≤ z
theorem LdB.ok {cs : List Str} {f : Str → Int} {z : Int} (h : LdB cs f z) (hz : z ≤ 10 ^ 31) : LdOk cs f := fun c hc => by
  obtain ⟨h0, h1⟩ := h c hc
  refine ⟨h0, ?_⟩
  have e : (f c).natAbs ≤ 10 ^ 31 := by
    have : ((10 ^ 31 : Nat) : Int) = 10 ^ 31 := by norm_cast
    omega
  by_cases q : (f c).natAbs = 0
  · rw [q]; decide
  · exact (Nat.log2_lt q).mpr (Nat.lt_of_le_of_lt e (by decide +kernel))
theorem stp_le {chg : List (Str × Int)} (h : ChgOk chg) (c : Str) : stp chg c ≤ 9 := by
  by_cases q : c ∈ chg.map (·.1)
  · obtain ⟨kv, hkv, rfl⟩ := List.mem_map.mp q
    rw [stp_mem h.1.nodup hkv]
    exact (h.2 kv hkv).2.2.1
  · rw [stp_not q]; decide
theorem LdB.step {cs : List Str} {st st' : Str} {f f' : Str → Int} {t : Tr} {z : Int} (h : LdB cs f z) (TO : TrOk t) (ha : ansOf cs st f t = .to st' f') : LdB cs f' (z + 9) := fun c hc => by
  obtain ⟨_, _, rfl, hn⟩ := ansOf_to ha
  refine ⟨hn c hc, ?_⟩
  have := (h c hc).2
  have := stp_le TO.2.2.2.1 c
  unfold addF
  omega
theorem ldB_mono {cs : List Str} {f : Str → Int} {z z' : Int} (h : LdB cs f z) (hz : z ≤ z') : LdB cs f z' := fun c hc => ⟨(h c hc).1, Int.le_trans (h c hc).2 hz⟩
theorem rd_geqJ {K : PySem.W.Frag} {C x y : Addr} {H : Hp} {Q : VK} {G : Gr} {neg : Bool} (hx : GraphAt K C H x G) (hy : GraphAt K C H y G) (GO : GOk G) (q : Q (.bl (true != neg)) H) : Rd.rEqO C (spGEq K C) E0 neg (.ref x) (.ref y) H Q := by
  obtain ⟨dx, _, _, _, _, _, e⟩ := hx.ins
  obtain ⟨dy, _, _, _, _, _, e'⟩ := hy.ins
  exact ⟨⟨x, dx, _, rfl, e⟩, ⟨y, dy, _, rfl, e'⟩, Rd.rd_sp (x, y, G) rfl ⟨hx, hy, GO, _, rfl, q⟩⟩
theorem runL_one {G : Gr} {o : Mo} {t : Tr} (GO : GOk G) (ht : t ∈ G.ts) : runL G o [t.nm] = (match ansOf G.cs o.st o.ld t with | .op => .op | .low c => .low c | .to st f => .ok (o.aft st f) [o]) := by
  show (match rowOf G t.nm with | none => _ | some t => _) = _
  rw [rowOf_mem GO ht]
  try dsimp only
  all_goals (cases ansOf G.cs o.st o.ld t <;> rfl)
theorem make_ma {K : PySem.W.Frag} {C pg : Addr} {m : AdsM} {H : Hp} {Q : VK} {G : Gr} {z : Int} {o : Option Str} {E : XK} (hG : GraphAt K C H pg G) (GO : GOk G) (hz : 0 ≤ z) (ho : ∀ st, o = some st → st ∈ G.ns) (q : ∀ x H', H x = none → Same H H' → MachAt K C m H' x (Mc.new G z o) → Q (.ref x) H') (x dx : Addr) (hx : H x = none) (hdx : H dx = none) (hne : dx ≠ x) :
    spMaInit K C m [.ref x, .ref pg, .int z, optV o] (upd (upd H dx (.own x)) x (.ins m.C dx [])) (fun v H2 => v = .non ∧ Q (.ref x) H2) E := by
  have s0 : Same H (upd (upd H dx (.own x)) x (.ins m.C dx [])) := fun b o e => by
    rw [upd_ne (ne_of_none e hx), upd_ne (ne_of_none e hdx)]
    exact e
  exact Rd.rd_sp ((x, dx, pg), G, z, o) rfl ⟨upd_same, hG.same s0, GO, hz, ho, fun H' s hm => ⟨rfl, q x H' hx (fun b o e => s b o (ne_of_none e hx) (s0 _ _ e)) hm⟩⟩
def lamQ (x : Str) : Str := (PyProof.Rows.envOfC x (defScope s__law_right) 0 0 .none).qual ++ "<lambda>"
def spRightJ (TL : List (Addr × Str)) : Sp := Rd.mkSp (fun (a : Addr) => [.ref a]) fun a H Q _ => Dice H a ∧ LamX.Tabs TL H ∧ ∀ H', KeptJ a H H' → LamX.Tabs TL H' → Q (.bl true) H'
section
variable {P : Program} {w : World} {K : PySem.W.Frag} {mg : Str → Option Value} {base : Heap} {a : AdsG} {m : AdsM} {e : AdsE} {c Pt : Addr} {TL : List (Addr × Str)}
set_option maxHeartbeats 40000000 in
theorem ok_right (T : GraphC K mg a) (TM : MachC K mg m) (TP : MachP K m) (TE : ErrM K mg e) (F : Rd.HasC K mg "_law_right" s__law_right c) (g : Glob mg) (hE : Rd.Has K mg "_law_told" s__law_told) (TB : LamX.TabB base mg c Pt) (mT : (Pt, lamQ "_law_right") ∈ TL) (uT : ∀ p ∈ TL, p.1 = Pt → p.2 = lamQ "_law_right")
    (c_eq : FnR P w K mg base CX0 1 a.eq (spGEq K a.C)) (c_graph : FnR P w K mg base CX0 1 m.gg (spMgr K a.C m)) (c_Machine : Rd.FnKA P w K mg base CX0 4 m.fi "start" ["self", "graph", "size", "start"] .non (spMaInit K a.C m)) (c_Machine_take : FnR P w K mg base (L2.CX P w) 6 m.tk (Rd.spStar 1 (spTakeAll K a.C e m)))
    (c__law_graph : Rd.Fn true P w K mg base CX0 5 "_law_graph" (spGraph K)) (c__law_built : Rd.Fn true P w K mg base CX0 11 "_law_built" (spBuilt K a.C)) (c__law_start : Rd.Fn true P w K mg base CX0 3 "_law_start" (spLstart K)) (c__law_spot : Rd.Fn true P w K mg base CX0 1 "_law_spot" (spLspot K)) (c__law_stands : Rd.Fn true P w K mg base CX0 5 "_law_stands" (spStands K a.C m)) (c__law_name : Rd.Fn true P w K mg base CX0 4 "_law_name" (spLname K)) (c__law_due : Rd.Fn true P w K mg base CX0 3 "_law_due" (spLdue K)) (c__law_tops : Rd.Fn true P w K mg base CX0 1 "_law_tops" (spLtops K)) :
    Rd.Fn true P w K mg base CX0 12 "_law_right" (spRightJ TL) := by
  refine F.fn sc__law_right (fun _ => rfl) (fun _ _ _ _ _ _ us hl => match us, hl with | [_], _ => rfl) fun f A outer s H Q E d hr h => ?_
  obtain ⟨hD, hT, k⟩ := h
  refine ⟨_, (pss_cons (ps_set (i := 1) sc__law_right.nd rfl (Or.inl rfl) (Rd.pe_fn c__law_graph (hr.mono (by decide)) (by rfl) (pa_cons (pv 0) (pa_cons pe_int (pa_cons pe_int (pa_cons pe_int pa_nil))))))
      (pss_cons (ps_asg (Rd.pe_fn c__law_start (hr.mono (by decide)) (by rfl) (pa_cons (pv 0) (pa_cons (pv 1) pa_nil))) (pg_tup rfl (pgs_cons (pg_name (i := 2) sc__law_right.nd rfl (Or.inl rfl)) (pgs_cons (pg_name (i := 3) sc__law_right.nd rfl (Or.inl rfl)) pgs_nil))))
      (pss_cons (ps_set (i := 4) sc__law_right.nd rfl (Or.inl rfl) (Rd.pe_fn c__law_built (hr.mono (by decide)) (by rfl) (pa_cons (pv 1) pa_nil)))
      (pss_cons (ps_set (i := 5) sc__law_right.nd rfl (Or.inr rfl) (pe_ifExp (pt_cmpR op_isN1 (pv 3) pe_non (nomark _)) (Rd.pe_mkKA0 TM.mk_ c_Machine (hr.mono (by decide)).toRoom (by rfl) TM.mgC pass0 (pa_cons (pv 4) (pa_cons (pv 2) pa_nil))) (Rd.pe_mkKA (n := 2) TM.mk_ c_Machine rfl (hr.mono (by decide)).toRoom (by rfl) TM.mgC pass0 (pa_cons (pv 4) (pa_cons (pv 2) pa_nil)) (pv 3))))
      (pss_cons (ps_par (i := 6) (j := 7) (by rfl) sc__law_right.nd rfl rfl (by decide) rfl rfl (pa_cons (Rd.pe_fn c__law_spot (hr.mono (by decide)) (by rfl) (pa_cons (pv 1) (pa_cons (pv 2) (pa_cons (pv 3) pa_nil)))) (pa_cons (Rd.pe_lst pa_nil) pa_nil)) (by rfl))
      (pss_cons (ps_set (i := 8) sc__law_right.nd rfl (Or.inl rfl) (pe_ix ix_tup (pv 6) pe_int (fun _ _ => rfl)))
      (pss_cons (ps_if (PW.pt (pw_or (pt_not (pt_val (Rd.pe_fn c__law_stands (hr.mono (by decide)) (by rfl) (pa_cons (pv 5) (pa_cons (pv 1) (pa_cons (pv 6) (pa_cons (pv 7) (pa_cons (pv 8) pa_nil)))))))) (pw_or1 (pt_cmpR (Rd.op_neO T.eq c_eq (hr.mono (by decide)).toRoom pass0) (Rd.pe_propR (pv 5) TM.cl TP.gr c_graph (hr.mono (by decide)).toRoom pass0) (pv 4) (nomark _))))) (pss_one (ps_ret pe_bl)) pss_nil)
      (pss_cons (ps_for PassesOwn.never rfl (pi_range1 (by rfl) g.range (pa_cons pe_int pa_nil)) (pg_name (i := 9) sc__law_right.nd rfl (Or.inl rfl)) (pss_cons (ps_set (i := 10) sc__law_right.nd rfl (Or.inr rfl) (Rd.pe_fn c__law_name (hr.mono (by decide)) (by rfl) (pa_cons (pv 0) (pa_cons (pv 1) (pa_cons (pv 6) pa_nil)))))
      (pss_cons (ps_set (i := 11) sc__law_right.nd rfl (Or.inl rfl) (Rd.pe_fn c__law_due (hr.mono (by decide)) (by rfl) (pa_cons (pv 1) (pa_cons (pv 6) (pa_cons (pv 10) pa_nil)))))
      (pss_cons (ps_set (i := 12) sc__law_right.nd rfl (Or.inl rfl) (pe_told (T := TL) (k := 7) hE g TE (by rfl) TB rfl mT uT (hr.mono (by decide)) (LamX.lamS_by (sc := defScope s__law_right) (by decide +kernel)) rfl (fun _ _ _ _ _ => rfl) (fun A outer s H E f c hr2 => (pe_methR (pv 5) TM.cl TM.m_take c_Machine_take (hr2.mono (by decide)) (passes_call (takes_of rfl rfl rfl rfl) fun _ _ _ _ h => h) (pa_cons (pv 10) pa_nil)))))
      (pss_cons (ps_if (pt_val (pe_callB Rd.c_isi (by rfl) g.isinstance (by decide +kernel) (pa_cons (pv 11) (pa_cons (pe_bltn (v := .ty "str") (by rfl) g.str (by decide +kernel) rfl) pa_nil)))) (pss_one (ps_if (pt_cmpR op_ne (pv 12) (pv 11) (nomark _)) (pss_one (ps_ret pe_bl)) pss_nil)) (pss_cons (ps_set (i := 6) sc__law_right.nd rfl (Or.inl rfl) (pv 11))
      (pss_cons (ps_set (i := 7) sc__law_right.nd rfl (Or.inl rfl) (pe_op op_cat (pv 7) (Rd.pe_lst (pa_cons (pv 10) pa_nil))))
      (pss_cons (ps_set (i := 8) sc__law_right.nd rfl (Or.inl rfl) (Rd.pe_fn c__law_tops (hr.mono (by decide)) (by rfl) (pa_cons (pv 8) (pa_cons (pv 6) pa_nil))))
      (pss_one (ps_if (pt_cmpR op_ne (pv 12) (pe_callB Rd.c_len (by rfl) g.len (by decide +kernel) (pa_cons (pv 7) pa_nil)) (nomark _)) (pss_one (ps_ret pe_bl)) pss_nil))))))
      (pss_one (ps_if (pt_not (pt_val (Rd.pe_fn c__law_stands (hr.mono (by decide)) (by rfl) (pa_cons (pv 5) (pa_cons (pv 1) (pa_cons (pv 6) (pa_cons (pv 7) (pa_cons (pv 8) pa_nil)))))))) (pss_one (ps_ret pe_bl)) pss_nil)))))))
      (pss_one (ps_ret (pe_cmpR (Rd.op_eqO T.eq c_eq (hr.mono (by decide)).toRoom pass0) (Rd.pe_propR (pv 5) TM.cl TP.gr c_graph (hr.mono (by decide)).toRoom pass0) (pv 4) (nomark _)))))))))))), ?_⟩
  try simp only [Rd.noxK, Rd.cxK]
  generalize (cxOf CX0 P w K mg base ["_law_dice_here", "_law_plain", "_law_size", "_law_begin", "_law_asked", "_law_machine", "_law_spot_here", "_law_log", "_law_tops_here", "_law_turn", "_law_name_here", "_law_due_here", "_law_told_here"] "_law_right" (defScope s__law_right) f (.ref c) A outer s H E).nox = X0
  refine Rd.rd_start [some (V.ref d), none, none, none, none, none, none, none, none, none, none, none, none] rfl ?_
  walk_at "rd"
  refine Rd.rd_sp (d, 4, 5, 8) rfl ⟨hD, ⟨by show 1 ≤ 4; decide, by show 4 ≤ 4; decide⟩, ⟨by show 1 ≤ 5; decide, by show 5 ≤ 5; decide⟩, ⟨by show 1 ≤ 8; decide, by show 8 ≤ 12; decide⟩, fun p H1 G R1 hp GO DG => ?_⟩
  have D1 := R1.dice
  have T1 := tabs_rolledJ hT hD R1
  walk_at "rd"
  refine Rd.rd_sp (d, p, G) rfl ⟨D1, hp, GO, fun s2 H2 z o R2 h2 z0 z1 ho => ?_⟩
  have D2 := R2.dice
  have T2 := tabs_rolledJ T1 D1 R2
  have hp2 := hp.kp (R2.kp D1)
  refine Rd.rd_gTup h2 rfl ?_
  walk_at "rd"
  refine Rd.rd_sp (p, G) rfl ⟨hp2, GO, fun pg H3 s3 hG3 => ?_⟩
  have D3 := D2.same s3
  have T3 := Rd.tabs_same T2 s3
  have hp3 := hp2.kp (kpS s3)
  have K3 : KeptJ d H H3 := (R1.keptJ.trans R2.keptJ).same s3
  walk_at "rd"
  have mk : ∀ R : VK, (∀ x H', H3 x = none → Same H3 H' → MachAt K a.C m H' x (Mc.new G z o) → R (.ref x) H') →
      (if decide (optV o = V.non) = true then tCB (Rd.rMkD m.C (spMaInit K a.C m) .non E0) (tCons (tVar 4) (tCons (tVar 2) tNil)) [some (V.ref d), some (V.ref p), some (V.int z), some (optV o), some (V.ref pg), none, none, none, none, none, none, none, none] H3 R
       else Rd.tMkW m.C (spMaInit K a.C m) 2 E0 (tCons (tVar 4) (tCons (tVar 2) tNil)) (tVar 3) [some (V.ref d), some (V.ref p), some (V.int z), some (optV o), some (V.ref pg), none, none, none, none, none, none, none, none] H3 R) := fun R hR => by
    cases o with
    | none =>
      refine Rd.if_t rfl ?_
      walk_at "rd"
      exact make_ma (o := none) hG3 GO z0 ho hR
    | some st =>
      refine Rd.if_f rfl ?_
      refine Rd.rd_mkW ?_
      walk_at "rd"
      refine ⟨_, rfl, rfl, rfl, ?_⟩
      exact make_ma (o := some st) hG3 GO z0 ho hR
  refine mk _ fun x H4 nx s4 hx4 => ?_
  walk_at "rd"
  refine Rd.rd_sp (p, G, z, o) rfl ⟨hp3.kp (kpS s4), GO, fun q5 H5 s5 hs5 => ?_⟩
  walk_at "rd"
  rename_i l6 H6 n6 s6 h6
  obtain ⟨v6, hs6, hv6⟩ := hs5.kp (kpS s6)
  simp only [List.set_cons_zero, List.set_cons_succ]
  try walk_at "rd"
  have s36 := (s4.trans s5).trans s6
  have s46 := s5.trans s6
  have stn : stOf G o ∈ G.ns := by
    cases o with
    | none =>
      show G.ns.headD "" ∈ G.ns
      rw [head_ns GO.lp.ne]
      exact List.mem_cons_self
    | some st => exact ho st rfl
  have B0 : LdB G.cs (fun _ => z) (10 ^ 30) := fun c hc => ⟨z0, z1⟩
  have ST6 : StandAt K a.C m H6 x p q5 l6 v6 (Mc.new G z o) := ⟨hx4.same s46, hp3.kp (kpS s36), GO, ⟨v6, hs6, hv6⟩, h6, hv6, B0.ok (by decide), stn, (fun n hn => by cases hn), Nat.zero_le _⟩
  have T6 := Rd.tabs_same T3 s36
  have K6 : KeptJ d H3 H6 := (KeptJ.refl D3).same s36
  refine Rd.rd_sp ((x, p, q5, l6, v6), Mc.new G z o) rfl ⟨ST6, fun H7 s7 => ?_⟩
  have ST7 := ST6.same s7
  walk_at "rd"
  refine Rd.if_f rfl ?_
  walk_at "rd"
  obtain ⟨dx7, pg7, pm7, pp7, pl7, ix7⟩ := ST7.ma.ins
  refine ⟨x, dx7, _, rfl, ix7, Rd.rd_sp (x, Mc.new G z o) rfl ⟨ST7.ma, fun g7 hg7 => ?_⟩⟩
  walk_at "rd"
  refine rd_geqJ hg7 (hG3.same (s36.trans s7)) GO ?_
  refine ⟨_, rfl, ?_⟩
  refine Rd.if_f rfl ?_
  refine Rd.rd_next ?_
  refine Rd.rd_nx ?_
  walk_at "rd"
  refine Rd.rd_IR1 (by decide) (by decide) ?_
  refine Rd.for_range (fun i σ' H' => ∃ (S : Mc) (q l t0 : Addr) (v9 v10 v11 v12 : Option V), σ' = [some (V.ref d), some (V.ref p), some (V.int z), some (optV o), some (V.ref pg), some (V.ref x), some (V.ref q), some (V.ref l), some (V.ref t0), v9, v10, v11, v12] ∧ KeptJ d H3 H' ∧ LamX.Tabs TL H' ∧ StandAt K a.C m H' x p q l t0 S ∧ S.G = G ∧ LdB G.cs S.now.ld (10 ^ 30 + 9 * i) ∧ S.log.length ≤ i ∧ S.past.length ≤ i)
    ⟨Mc.new G z o, q5, l6, v6, none, none, none, none, rfl, K6.same s7, Rd.tabs_same T6 s7, ST7, rfl, ldB_mono B0 (by omega), Nat.zero_le _, Nat.zero_le _⟩ ?_ ?_
  · rintro i σ' H8 hi ⟨S, q, l, t0, v9, v10, v11, v12, rfl, K8, T8, ST8, eG, B8, ll, lp⟩
    subst eG
    have hi16 : i < 16 := hi
    have nn8 : ∀ c ∈ S.G.cs, 0 ≤ S.now.ld c := fun c hc => (B8 c hc).1
    walk_at "rd"
    refine Rd.rd_sp ((d, p, q), S.G, S.now.st, S.now.ld) rfl ⟨K8.dice, ST8.pl, GO, DG.tn, ST8.sp, nn8, fun t H9 ht R9 => ?_⟩
    have K9 := K8.rolled R9
    have T9 := tabs_rolledJ T8 K8.dice R9
    have ST9 := ST8.rolled K8.dice R9
    walk_at "rd"
    have nmt : t.nm ∈ S.G.ts.map (·.nm) := List.mem_map_of_mem ht
    have sn := ST9.go.tO t ht
    have eR := runL_one (o := S.now) ST9.go ht
    refine Rd.rd_sp ((p, q), S.G, S.now.st, S.now.ld, t) rfl ⟨ST9.pl, GO, ST9.sp, ht, ?_⟩
    -- the call, at any heap behind
    have call : ∀ (H10 : Hp) (v11 : V) (E' : XK) (R : VK), Same H9 H10 → (∀ p' H12, LamX.ExtN H10 H12 → LamX.Tabs TL H12 → RunQ K a.C e m x S [t.nm] H12 R E' (runL S.G S.now [t.nm])) → ∀ H11, LamX.ExtN H10 H11 → LamX.Tabs TL H11 →
        tMethR m.C "take" (Rd.spStar 1 (spTakeAll K a.C e m)) E' (tVar 5) (tCons (tVar 10) tNil) [some (V.ref d), some (V.ref p), some (V.int z), some (optV o), some (V.ref pg), some (V.ref x), some (V.ref q), some (V.ref l), some (V.ref t0), some (V.int (0 + (i : Nat))), some (V.str t.nm), some v11, v12] H11 R := fun H10 v11 E' R s10 hR H11 x11 T11 => by
      have ST11 := (ST9.same s10).extN x11
      obtain ⟨dx, pg1, pm1, pp1, pl1, ix⟩ := ST11.ma.ins
      refine Rd.rd_methR (Rd.rd_var rfl ⟨x, dx, _, rfl, ix, rfl, ?_⟩)
      walk_at "rd"
      refine ⟨[.ref x], [.str t.nm], rfl, rfl, by show 1 ≤ sizeLine; decide, fun p' H12 np' s12 h12 => ?_⟩
      have ST12 := ST11.same s12
      exact Rd.rd_sp ((x, p'), S, [t.nm]) rfl ⟨ST12.ma, GO, nn8, SqT.of h12, (fun n hn => by rw [List.mem_singleton.mp hn]; exact nmt), by show 1 ≤ 20000; decide, by show S.past.length ≤ 20000; omega, by show S.log.length ≤ 20000; omega, hR p' H12 (x11.trans (LamX.ExtN.of s12)) (Rd.tabs_same T11 s12)⟩
    cases ea : ansOf S.G.cs S.now.st S.now.ld t with
    | op =>
      rw [ea] at eR
      intro H10 s10
      walk_at "rd"
      refine rd_told (Rd.tabs_same T9 s10) fun H11 x11 T11 => ?_
      refine call H10 _ _ _ s10 (fun p' H12 y12 T12 => ?_) H11 x11 T11
      have x12 := (LamX.ExtN.of s10).trans y12
      rw [eR]
      refine fun H13 s13 => .inr (.inl ⟨rfl, ?_⟩)
      walk_at "rd"
      refine Rd.if_t rfl ?_
      walk_at "rd"
      refine Rd.if_f (by rw [decide_eq_true rfl]; rfl) ?_
      refine Rd.rd_next ?_
      refine Rd.rd_nx ?_
      have ST13 := (ST9.extN x12).same s13
      have K13 := (K9.extN x12).same s13
      have T13 := Rd.tabs_same T12 s13
      walk_at "rd"
      refine Rd.rd_sp ((x, p, q, l, t0), S) rfl ⟨ST13, fun H14 s14 => ?_⟩
      walk_at "rd"
      refine Rd.if_f rfl ?_
      refine Rd.rd_next ?_
      exact ⟨S, q, l, t0, _, _, _, _, rfl, K13.same s14, Rd.tabs_same T13 s14, ST13.same s14, rfl, ldB_mono B8 (by omega), by omega, by omega⟩
    | low cc =>
      rw [ea] at eR
      have hcc : cc ∈ S.G.cs := by
        unfold ansOf at ea
        by_cases e1 : t.src = S.now.st
        · rw [if_pos e1] at ea
          cases el : lowL S.G.cs S.now.ld t.chg with
          | nil => rw [el] at ea; cases ea
          | cons c1 r1 =>
            rw [el] at ea
            cases ea
            exact (mem_low.mp (show cc ∈ lowL S.G.cs S.now.ld t.chg by rw [el]; exact List.mem_cons_self)).1
        · rw [if_neg e1] at ea; cases ea
      have sw := shw_name (GO.cN cc hcc)
      have sl := sw.len (by decide)
      have sl2 : (PyData.str cc).shown.length ≤ 302 * 8 + 302 := by
        have := PyData.shown_le 300 (by decide) (.str cc) sw.lf
        have := sw.wt
        omega
      have big : 4000 ≤ sizeLine := by decide
      intro H10 s10
      walk_at "rd"
      refine rd_told (Rd.tabs_same T9 s10) fun H11 x11 T11 => ?_
      refine call H10 _ _ _ s10 (fun p' H12 y12 T12 => ?_) H11 x11 T11
      have x12 := (LamX.ExtN.of s10).trans y12
      rw [eR]
      refine fun d13 H13 nd13 s13 hx13 => .inr (.inr (.inr (.inr (.inl ⟨rfl, d13, .str cc, .str cc, rfl, hx13, .base (.str cc), sw.sh, Nat.le_trans sw.dp (by decide), by omega, ?_⟩))))
      walk_at "rd"
      refine Rd.if_t rfl ?_
      walk_at "rd"
      refine Rd.if_f (by rw [decide_eq_true rfl]; rfl) ?_
      refine Rd.rd_next ?_
      refine Rd.rd_nx ?_
      have ST13 := (ST9.extN x12).same s13
      have K13 := (K9.extN x12).same s13
      have T13 := Rd.tabs_same T12 s13
      walk_at "rd"
      refine Rd.rd_sp ((x, p, q, l, t0), S) rfl ⟨ST13, fun H14 s14 => ?_⟩
      walk_at "rd"
      refine Rd.if_f rfl ?_
      refine Rd.rd_next ?_
      exact ⟨S, q, l, t0, _, _, _, _, rfl, K13.same s14, Rd.tabs_same T13 s14, ST13.same s14, rfl, ldB_mono B8 (by omega), by omega, by omega⟩
    | to st' f' =>
      rw [ea] at eR
      obtain ⟨est, est', ef', nn'⟩ := ansOf_to ea
      intro s' H10 s10 hs10
      walk_at "rd"
      refine rd_told (Rd.tabs_same T9 s10) fun H11 x11 T11 => ?_
      refine call H10 _ _ _ s10 (fun p' H12 y12 T12 => ?_) H11 x11 T11
      have x12 := (LamX.ExtN.of s10).trans y12
      rw [eR]
      refine fun H13 b13 hx13 => ?_
      have ST12 := ST9.extN x12
      obtain ⟨dx12, pg12, pm12, pp12, pl12, ix12⟩ := ST12.ma.ins
      have u13 : Mut x H12 H13 := ⟨fun b o hb e => b13 b o hb e, b13.kp ix12 rfl⟩
      have K13 := (K9.extN x12).but nx ix12 b13
      have T13 := tabs_but T12 ix12 b13
      have kp13 : Kp H10 H13 := (kpNJ y12).trans u13.kp
      have hs13 := hs10.kp kp13
      obtain ⟨v13, hs13', hv13⟩ := id hs13
      have lg13 : H13 l = some (.lst (S.log.map V.str)) := b13 _ _ (fun w => by have := ST12.lg; rw [w, ix12] at this; cases this) ST12.lg
      have pl13 := ST12.pl.kp u13.kp
      have tp13 : ValsAt K H13 t0 S.G.cs S.now.tp := u13.kp.sqT ST12.tp
      walk_at "rd"
      refine Rd.rd_isi (Rd.isi_tup hs13' (b := false) (by decide +kernel)) ?_
      refine ⟨false, rfl, ?_⟩
      refine Rd.if_f rfl ?_
      walk_at "rd"
      rename_i l14 H14 n14 s14 h14
      refine Rd.rd_cat (s14 _ _ lg13) h14 (by rw [List.length_map]; exact Rd.small64 (show S.log.length + 1 ≤ _ by omega)) fun l15 H15 n15 s15 h15 => ?_
      have e15 : S.log.map V.str ++ [V.str t.nm] = (S.log ++ [t.nm]).map V.str := by rw [List.map_append]; rfl
      rw [e15] at h15
      have s1315 := s14.trans s15
      walk_at "rd"
      refine Rd.rd_sp ((t0, s'), S.G.cs, st', f', S.now.tp) rfl ⟨(kpS s1315).sqT tp13, hs13.kp (kpS s1315), GO.c5, fun t16 H16 s16 h16 => ?_⟩
      have hl16 : SqL K H16 l15 ((S.log ++ [t.nm]).map V.str) := SqL.of (s16 _ _ h15)
      walk_at "rd"
      rw [List.length_map, List.length_append]
      refine Rd.if_f (by rw [decide_eq_true rfl]; rfl) ?_
      refine Rd.rd_next ?_
      refine Rd.rd_nx ?_
      have s1316 := s1315.trans s16
      have B16 := (B8.step sn ea)
      have ST16 : StandAt K a.C m H16 x p s' l15 t16 ⟨S.G, S.now.aft st' f', S.past ++ [S.now], S.log ++ [t.nm]⟩ := ⟨hx13.same s1316, pl13.kp (kpS s1316), GO, hs13.kp (kpS s1316), s16 _ _ h15, h16, B16.ok (by omega), by rw [est']; exact (GO.lp.ends t ht).2, fun n hn => by
        rcases List.mem_append.mp hn with w | w
        · exact ST9.ln n w
        · rw [List.mem_singleton.mp w]; exact nmt, by rw [List.length_append]; show S.log.length + 1 ≤ 1000; omega⟩
      walk_at "rd"
      refine Rd.rd_sp ((x, p, s', l15, t16), ⟨S.G, S.now.aft st' f', S.past ++ [S.now], S.log ++ [t.nm]⟩) rfl ⟨ST16, fun H17 s17 => ?_⟩
      walk_at "rd"
      refine Rd.if_f rfl ?_
      refine Rd.rd_next ?_
      have s1317 := s1316.trans s17
      exact ⟨_, s', l15, t16, _, _, _, _, rfl, K13.same s1317, Rd.tabs_same T13 s1317, ST16.same s17, rfl, ldB_mono B16 (by omega), by rw [List.length_append]; show S.log.length + 1 ≤ i + 1; omega, by rw [List.length_append]; show S.past.length + 1 ≤ i + 1; omega⟩
  · rintro σ' H8 ⟨S, q, l, t0, v9, v10, v11, v12, rfl, K8, T8, ST8, eG, B8, ll, lp⟩
    subst eG
    obtain ⟨dx8, pg8, pm8, pp8, pl8, ix8⟩ := ST8.ma.ins
    refine Rd.rd_nx ?_
    walk_at "rd"
    refine ⟨x, dx8, _, rfl, ix8, Rd.rd_sp (x, S) rfl ⟨ST8.ma, fun g8 hg8 => ?_⟩⟩
    walk_at "rd"
    have hG8 : GraphAt K a.C H8 pg S.G := by
      obtain ⟨dy, pc, ps, pt, pn, pr, rs, h1, h2⟩ := hG3
      obtain ⟨a1, a2, a3, q3⟩ := D3
      have kp : Kp H3 H8 := fun b o hb hi => K8.keep b o (fun w => by rw [w, q3] at hb; rw [← Option.some.inj hb] at hi; cases hi) hb fun ps w => by rw [w] at hi; cases hi
      exact ⟨dy, pc, ps, pt, pn, pr, rs, K8.keep _ _ (fun w => by rw [w, q3] at h1; cases h1) h1 (fun _ w => nomatch w), h2.c.kp kp, h2.s.kp kp, kp.sqT h2.t, L2.Paired.mapP h2.tP fun _ _ q => q.kp kp, h2.n.kp kp, K8.keep _ _ (fun w => by have := h2.r; rw [w, q3] at this; cases this) h2.r (fun _ w => nomatch w)⟩
    refine rd_geqJ hg8 hG8 GO ?_
    exact k H8 (K3.trans K8) T8
end
end M
set_option Elab.async false
set_option linter.all false
set_option maxRecDepth 100000
set_option maxHeartbeats 4000000
namespace PySem.SeqAt
open AutoSeq1 (wpAny_loadPart')
open MeetsSeq MeetsSeq2 MeetsSeq3 SeqRoads2
section
variable {prog : Program} {w : World}
theorem ne_loopZ (l b : Addr) (us vs : Array Value) (n n2 : Nat) (d1 d2 : Option Addr) (z1 z2 : Array (Option Value)) (hn : us.size = vs.size) (e : Nat → Bool) (k : Nat) :
    ∀ i : Nat, us.size - i = k → MeetsIn prog w (Builtin.«list.__eq__.loop» ⟨[.ref l, .ref b, rawInt i, rawInt 3], []⟩)
      (fun A R s => s.heap.get? l = some { cls := .type "list", dict := d1, data := .seq us n, slots := z1 } ∧ s.heap.get? b = some { cls := .type "list", dict := d2, data := .seq vs n2, slots := z2 } ∧
        (∀ j (h1 : j < us.size) (h2 : j < vs.size), EqP prog w A.in1 s us[j] vs[j] (e j)) ∧ R (.ok (.ret (.bool (!((List.range us.size).drop i).all e)))) s) := by
  induction k with
  | zero =>
    intro i hk A R s h
    obtain ⟨hp, g, d, tk, os⟩ := s
    obtain ⟨hl, hb, he, h⟩ := h
    wp_walk using wpAny_loadPart' hl, wpAny_loadPart' hb
    have q1 : us[((i : Nat) : Int).toNat]? = none := by simp; omega
    have q2 : vs[((i : Nat) : Int).toNat]? = none := by simp; omega
    have q3 : (List.range us.size).drop i = [] := by simp; omega
    rw [q3] at h
    rw [q1, q2]
    wp_walk using wpAny_loadPart' hl, wpAny_loadPart' hb
    show R (.ok (.ret (.bool (us.size != vs.size)))) _
    rw [hn]
    simpa using h
  | succ k ih =>
    intro i hk A R s h
    obtain ⟨hp, g, d, tk, os⟩ := s
    obtain ⟨hl, hb, he, h⟩ := h
    wp_walk using wpAny_loadPart' hl, wpAny_loadPart' hb
    have l1 : i < us.size := by omega
    have l2 : i < vs.size := by omega
    have q1 : us[((i : Nat) : Int).toNat]? = some us[i] := by simp [l1]
    have q2 : vs[((i : Nat) : Int).toNat]? = some vs[i] := by simp [l2]
    have q3 : (List.range us.size).drop i = i :: (List.range us.size).drop (i + 1) := by simp [List.drop_eq_getElem_cons, l1]
    have q4 : ((i : Int) + 1) = ((i + 1 : Nat) : Int) := by push_cast; rfl
    rw [q3, List.all_cons] at h
    rw [q1, q2]
    refine wpAny_bind (he i l1 l2 _ _ ?_)
    cases hb' : e i with
    | true =>
      rw [hb'] at h
      wp_walk
      rw [q4]
      exact ⟨plainId_quiet plain_eq_loop _, codeAny_builtin entry_eq_loop (by
        rw [Around.under_plainId plain_eq_loop _]
        exact ih (i + 1) (by omega) A R _ ⟨hl, hb, he, by simpa using h⟩)⟩
    | false =>
      rw [hb'] at h
      wp_walk using wpAny_loadPart' hl, wpAny_loadPart' hb
      rw [q1, q2]
      wp_walk
      simpa using h
theorem list_neZ (l b : Addr) (us vs : Array Value) (n n2 : Nat) (d1 d2 : Option Addr) (z1 z2 : Array (Option Value)) (hn : us.size = vs.size) (e : Nat → Bool) : MeetsIn prog w (Builtin.«list.__ne__» ⟨[.ref l, .ref b], []⟩)
    (fun A R s => s.heap.get? l = some { cls := .type "list", dict := d1, data := .seq us n, slots := z1 } ∧ s.heap.get? b = some { cls := .type "list", dict := d2, data := .seq vs n2, slots := z2 } ∧
      (∀ j (h1 : j < us.size) (h2 : j < vs.size), EqP prog w A.in1 s us[j] vs[j] (e j)) ∧ R (.ok (.ret (.bool (!(List.range us.size).all e)))) s) := by
  intro A R s h
  obtain ⟨hp, g, d, tk, os⟩ := s
  obtain ⟨hl, hb, he, h⟩ := h
  have f3 := AutoSeq1.sub_list_list
  have hne : ¬ (us.size != vs.size) = true := by simp [hn]
  wp_walk using wpAny_loadPart' hl, wpAny_loadPart' hb
  exact ⟨plainId_quiet plain_eq_loop _, codeAny_builtin entry_eq_loop (by
    rw [Around.under_plainId plain_eq_loop _]
    exact ne_loopZ l b us vs n n2 d1 d2 z1 z2 hn e _ 0 rfl A R _ ⟨hl, hb, he, by simpa using h⟩)⟩
theorem rcP_neZ {A : Around} {s : Shared} {l b : Addr} {us vs : Array Value} {e : Nat → Bool} (hl : s.heap.IsList l us) (hb : s.heap.IsList b vs) (hn : us.size = vs.size) (hu : A.units < cLine)
    (he : ∀ j (h1 : j < us.size) (h2 : j < vs.size), EqP prog w A.in1 s us[j] vs[j] (e j)) (E Q : Value → Shared → Prop) (h : Q (.bool (!(List.range us.size).all e)) s) : wpAny (model prog w) A (richCompare .NotEq (.ref l) (.ref b)) Q E s := by
  obtain ⟨⟨c1, d1, data, z1⟩, ho, hc, n, hd⟩ := id hl
  obtain ⟨⟨c2, d2, data2, z2⟩, ho2, hc2, n2, hd2⟩ := id hb
  simp only at hc hd hc2 hd2
  subst hc hd hc2 hd2
  have ta : s.TypeIs (.ref l) "list" := ⟨_, ho, rfl⟩
  have tb : s.TypeIs (.ref b) "list" := ⟨_, ho2, rfl⟩
  exact wpAny_richCompare_same_room (op := .NotEq) ta tb F.slot_list_ne (call_meetsIn F.slot_list_ne ta F.entry_list_ne (F.args_list_ne_2 _ _) (list_neZ l b us vs n n2 d1 d2 z1 z2 hn e)
    ⟨ho, ho2, he, show Value.bool (!(List.range us.size).all e) ≠ Value.notImplemented ∧ Q (.bool (!(List.range us.size).all e)) s from ⟨(fun x => nomatch x), h⟩⟩) hu
end
end PySem.SeqAt
namespace Rd
open PySem PySem.Spec PyProof.Rows L2
/-- equal things: data; lists and dicts of equal things -/
def EqZ (K : PySem.W.Frag) (H : Hp) : Nat → V → V → Prop
  | 0 => fun x y => ∃ d, Dp K H x d ∧ Dp K H y d ∧ SeqAt.shaped d = true ∧ PyData.eqv d d = true
  | n + 1 => fun x y => (∃ d, Dp K H x d ∧ Dp K H y d ∧ SeqAt.shaped d = true ∧ PyData.eqv d d = true) ∨ EqR K H (EqZ K H n) x y
section
variable {X : Cx} {pins : List (Addr × Obj)} {σ : L2.St} {H : Hp} {s : Shared}
theorem eqZ_data (I : Inv X pins σ H s) {A : Around} (hu : A.units + 64 < cLine) {x y : V} {v u : Value} {d : PyData} (h1 : Dp X.K H x d) (h2 : Dp X.K H y d) (hs : SeqAt.shaped d = true) (he : PyData.eqv d d = true) (rx : RelV x v) (ry : RelV y u) : SeqAt.EqP X.prog X.w A s v u true := by
  obtain ⟨as, r1⟩ := Dp.reads I d x v h1 rx
  obtain ⟨bs, r2⟩ := Dp.reads I d y u h2 ry
  have k := SeqAt.eqAt_reads d d A s v u as bs r1 r2 (SeqAt.canLay_of_shaped hs) (SeqAt.canLay_of_shaped hs) (SeqAt.room_of_shaped hs hu)
  rw [he] at k
  exact k.eqP
theorem eqZ_run (I : Inv X pins σ H s) : ∀ (n : Nat) (A : Around), A.units + n + 64 < cLine → ∀ (x y : V) (v u : Value), EqZ X.K H n x y → RelV x v → RelV y u → SeqAt.EqP X.prog X.w A s v u true
  | 0, A, hu, x, y, v, u, h, rx, ry => by
    obtain ⟨d, h1, h2, hs, he⟩ := h
    exact eqZ_data I (by omega) h1 h2 hs he rx ry
  | n + 1, A, hu, x, y, v, u, h, rx, ry => by
    rcases h with ⟨d, h1, h2, hs, he⟩ | h
    · exact eqZ_data I (by omega) h1 h2 hs he rx ry
    · have step := eqR_run I (A := A) (by omega) (eqZ_run I n A.in1 (by show A.units + 1 + n + 64 < cLine; omega)) h rx ry
      obtain ⟨a, b, rfl, rfl⟩ : ∃ a b, x = .ref a ∧ y = .ref b := by
        rcases h with ⟨a, b, _, _, e1, e2, _⟩ | ⟨a, b, _, _, e1, e2, _⟩
        · exact ⟨a, b, e1, e2⟩
        · exact ⟨a, b, e1, e2⟩
      cases (show v = Value.ref a from rx)
      cases (show u = Value.ref b from ry)
      by_cases e : a = b
      · subst e
        exact (SeqAt.EqAt.same _).eqP
      · exact SeqAt.eqP_refs e step
end
section
variable {X : Cx}
/-- x != y of two lists -/
def rNeZ (K : PySem.W.Frag) : R2 := fun x y H Q => ∃ n, n ≤ 20 ∧ ∃ a b xs ys, x = .ref a ∧ y = .ref b ∧ SqL K H a xs ∧ SqL K H b ys ∧ Paired (EqZ K H n) xs ys ∧ Q (.bl false) H
theorem op_neZ (hu : X.A.units + 128 < cLine) : OpR X (compareOp .NotEq) (rNeZ X.K) := by
  intro pins s σ H x y v u Q I rx ry h
  obtain ⟨n, hn, a, b, xs, ys, rfl, rfl, ha, hb, hp, q⟩ := h
  cases (show v = Value.ref a from rx)
  cases (show u = Value.ref b from ry)
  obtain ⟨us, r1, p1, _⟩ := I.list ha
  obtain ⟨ws, r2, p2, _⟩ := I.list hb
  have hsz : us.toArray.size = ws.toArray.size := by
    rw [List.size_toArray, List.size_toArray, ← r1.length, ← r2.length]
    exact Paired.length hp
  refine SeqAt.rcP_neZ (e := fun _ => true) p1.isList p2.isList hsz (by omega) (fun j h1 h2 => ?_) _ _ ?_
  · have k := items_run (eqZ_run I n X.A.in1 (by show X.A.units + 1 + n + 64 < cLine; omega)) hp r1 r2 j (by simpa using h1) (by simpa using h2)
    simpa using k
  · rw [show ((List.range us.toArray.size).all fun _ => true) = true from List.all_eq_true.mpr fun _ _ => rfl]
    exact ⟨.bl false, H, I, rfl, q⟩
theorem rd_neZ {K : PySem.W.Frag} {H : Hp} {Q : VK} {a b : Addr} {xs ys : List V} (n : Nat) (hn : n ≤ 20) (ha : SqL K H a xs) (hb : SqL K H b ys) (hp : Paired (EqZ K H n) xs ys) (q : Q (.bl false) H) : rNeZ K (.ref a) (.ref b) H Q := ⟨n, hn, a, b, xs, ys, rfl, rfl, ha, hb, hp, q⟩
theorem EqZ.d {K : PySem.W.Frag} {H : Hp} {n : Nat} {x y : V} {d : PyData} (h1 : Dp K H x d) (h2 : Dp K H y d) (hs : SeqAt.shaped d = true) (he : PyData.eqv d d = true) : EqZ K H n x y := by
  cases n with
  | zero => exact ⟨d, h1, h2, hs, he⟩
  | succ n => exact .inl ⟨d, h1, h2, hs, he⟩
theorem EqZ.dict {K : PySem.W.Frag} {H : Hp} {n : Nat} {a b : Addr} {ks ls : List (Key × V)} (h1 : H a = some (.dK ks)) (h2 : H b = some (.dK ls)) (hl : ks.length = ls.length) (hv : ∀ p ∈ ks, ∃ u, valV ls p.1 = some u ∧ EqZ K H n p.2 u) : EqZ K H (n + 1) (.ref a) (.ref b) := .inr (.inr ⟨a, b, ks, ls, rfl, rfl, h1, h2, hl, hv⟩)
end
end Rd
namespace Rd
open PySem PySem.Spec PyProof.Rows L2
/-- o.m(), by a promise of any kind -/
theorem pe_methR0 {X : Cx} {CX : CXT} {k : Nat} {C f : Addr} {m : Str} {sp : Sp} {E : XK} {o : Expr} {ta : TE} {apos pos : Pos} {pl : Sem Bool} (he : PE X o ta) (c : Cls X.K C) (hm : Meth X.K C m f)
    (F : FnR X.prog X.w X.K X.mg X.base CX k f sp) (hr : Room k X.A) (hx : Passes CX X E)
    (ht : eval (.Call (.Attribute o m apos) [] [] pos) X.env = (do
      let z ← eval o X.env
      standAt apos.atName
      let (g, fs) ← holding [z] (getMethod z m pl)
      callWith pos g fs (backTo pos (starEach [] X.env)) (backToKw pos (keywordEach [] X.env))) := by rfl) : PE X (.Call (.Attribute o m apos) [] [] pos) (tMethR C m sp E ta tNil) := by
  refine ⟨fun pins s σ H Q I h => ?_⟩
  refine PySem.W.methodCall_KW (pl := pl) (thn (he.run pins s σ H _ I h) fun u s1 ⟨x, H1, I1, rx, a, dx, fs, ex, ea, l, q⟩ => ?_) ht
  cases ex
  cases (show u = Value.ref a from rx)
  exact getmeth_ok I1 ea c hm l (PySem.W.callWith_K0 (first := [.ref a]) I1.kIn hm.kp (wpAny_call (run_fnR (us := [.ref a]) (vs := [.ref a]) F hr hx I1 (.cons rfl .nil) q)))
end Rd
set_option Elab.async false
set_option linter.all false
set_option maxRecDepth 100000
set_option maxHeartbeats 4000000
namespace M
open PySem L2
local macro_rules | `(tactic| walk_at "rdc") => `(tactic| first | exact Or.inl ⟨by decide, by decide⟩ | exact Or.inr ⟨by decide, by decide⟩ | exact ⟨by decide, by decide, by decide⟩ | exact ⟨by decide, by decide⟩ | decide | omega | assumption | (refine Or.inl ⟨?_, ?_⟩ <;> omega) | (refine Or.inr ⟨?_, ?_⟩ <;> omega) | (refine ⟨?_, ?_⟩ <;> omega))
local macro_rules | `(tactic| walk_at "rd1") => `(tactic| with_reducible first
  | refine Rd.rd_seq ?_ | refine Rd.rd_asg ?_ | refine Rd.rd_op ?_ | (refine' Rd.rd_var ?vh ?_; (case vh => with_unfolding_all rfl)) | refine Rd.rd_c ?_ | refine Rd.rd_I0 ?_ | refine Rd.rd_name0 ?_ | refine Rd.rd_nameS ?_ | refine Rd.rd_fn ?_
  | refine Rd.rd_cb ?_ | refine Rd.rd_cons ?_ | refine Rd.rd_nil ?_ | refine Rd.rd_int ?_ | refine Rd.rd_intB ?_ | refine Rd.rd_abs ?_ | refine Rd.rd_max2 ?_ | refine Rd.rd_min2 ?_
  | refine Rd.rd_call ?_ | refine Rd.rd_ifE ?_ | refine Rd.rd_test ?_ | refine Rd.rd_tB ?_ | refine Rd.rd_blV ?_ | refine Rd.rd_and ?_ | refine Rd.rd_or ?_ | refine Rd.rd_not ?_
  | refine Rd.rd_andV ?_ | refine Rd.rd_orV ?_ | refine Rd.rd_notV ?_ | refine Rd.rd_next ?_ | refine Rd.rd_ret ?_ | refine Rd.rd_drop ?_ | refine Rd.rd_ifS ?_ | refine Rd.rd_nx ?_ | refine Rd.rd_rt ?_ | refine Rd.rd_tMatch ?_ | refine Rd.rd_tCO ?_ | refine Rd.rd_tRevL ?_ | refine Rd.rd_tStar ?_ | refine Rd.rd_joined ?_ | refine Rd.rd_js1 ?_ | refine Rd.rd_js0 ?_ | refine Rd.rd_fmt ?_ | refine Rd.rd_propR ?_ | refine Rd.rd_iZipA ?_ | refine Rd.rd_iEnumT ?_ | refine Rd.rd_iOwn ?_ | (refine' Rd.rd_IET ?ln ?_; (case ln => with_unfolding_all walk_at "at")) | refine Rd.rd_chain ?_ | refine Rd.rd_tPar ?_ | refine Rd.rd_par ?_ | refine Rd.rd_sl ?_ | refine Rd.rd_noPart ?_ | refine Rd.rd_part ?_ | refine Rd.rd_intV ?_ | refine Rd.rd_lc ?_ | (refine' Rd.rd_aug ?vh ?_; (case vh => with_unfolding_all rfl)) | refine Rd.rd_ipI ?_ | refine Rd.rd_for ?_ | (refine' Rd.rd_IT ?ln ?_; (case ln => with_unfolding_all walk_at "at")) | (refine' Rd.rd_IL ?ln ?_; (case ln => with_unfolding_all walk_at "at")) | refine Rd.rd_iTup ?_ | refine Rd.rd_iList ?_ | refine Rd.rd_iRng1 ?_ | refine Rd.rd_iRng2 ?_ | refine Rd.rd_isi (Rd.isi_int Rd.kk_int_int) ?_ | refine Rd.rd_isi (Rd.isi_int Rd.kk_int_bool) ?_ | refine Rd.rd_dget ?_ | refine Rd.rd_din ?_ | refine Rd.rd_dnotin ?_ | refine Rd.rd_dput ?_ | refine Rd.rd_dc ?_ | refine Rd.rd_lc2 ?_ | refine Rd.rd_ltS ?_ | refine Rd.rd_inSg ?_ | refine Rd.rd_iStr ?_ | refine Rd.rd_IS ?_ | refine Rd.rd_prC ?_ | refine Rd.rd_prN ?_ | refine Rd.rd_methR ?_ | refine Rd.rd_cmeth ?_ | refine Rd.rd_fldS ?_ | refine Rd.rd_fld ?_ | (refine' Rd.rd_mkVS ?vh ?_; (case vh => with_unfolding_all rfl)) | (refine' Rd.rd_starT ?ln ?_; (case ln => with_unfolding_all walk_at "at")) | refine Rd.rd_iEnum ?_ | refine Rd.rd_iZip ?_ | (refine' Rd.rd_IE ?ln ?_; (case ln => with_unfolding_all walk_at "at")) | (refine' Rd.rd_IZ ?ln ?lm ?_; (case ln => with_unfolding_all walk_at "at"); (case lm => with_unfolding_all walk_at "at")) | (refine' Rd.rd_gTup ?ln ?lk ?_; (case ln => with_unfolding_all walk_at "at"); (case lk => with_unfolding_all rfl)) | refine Rd.rd_gCons ?_ | refine Rd.rd_gNil ?_ | refine Rd.rd_m1 ?_ | refine Rd.rd_strV ?_ | refine Rd.rd_tXiM ?_ | refine Rd.rd_tXiB ?_ | refine Rd.rd_tXiS ?_ | refine Rd.rd_bm ?_ | refine Rd.rd_bm0 ?_ | refine Rd.rd_isN ?_ | refine Rd.rd_notN ?_ | refine Rd.rd_sub ?_ | refine Rd.rd_un ?_ | refine Rd.rd_U ?_
  | (refine' Rd.rd_eq ?sc ?_; (case sc => with_unfolding_all rfl)) | (refine' Rd.rd_ne ?sc ?_; (case sc => with_unfolding_all rfl))
  | (refine' Rd.rd_I ?cc ?_; (case cc => with_unfolding_all walk_at "rdc"))
  | (refine' Rd.rd_lenL ?ln ?_; (case ln => with_unfolding_all walk_at "at")) | (refine' Rd.rd_lenT ?ln ?_; (case ln => with_unfolding_all walk_at "at"))
  | (refine' Rd.rd_ixL ?ln ?ia ?_; (case ln => with_unfolding_all walk_at "at"); (case ia => with_unfolding_all first | exact Rd.at0 | exact Rd.at1 | exact Rd.at2 | exact Rd.at3 | exact Rd.at4 | rfl)) | (refine' Rd.rd_ixT ?ln ?ia ?_; (case ln => with_unfolding_all walk_at "at"); (case ia => with_unfolding_all first | exact Rd.at0 | exact Rd.at1 | exact Rd.at2 | exact Rd.at3 | exact Rd.at4 | rfl)))
local macro_rules | `(tactic| walk_at "at") => `(tactic| first | assumption | (apply SqL.of; assumption) | (apply SqT.of; assumption) | (apply SqL.of; exact upd_same) | (apply SqT.of; exact upd_same))
local macro_rules | `(tactic| walk_at "rd") => `(tactic| repeat walk_at "rd1")
local macro_rules | `(tactic| walk_at "ne") => `(tactic| first | assumption | exact Ne.symm (by assumption) | (refine' Dice.ne ?D ?h; (case h => assumption); (case D => walk_at "fa")))
local macro_rules | `(tactic| walk_at "kp1") => `(tactic| first | exact kpS (by assumption) | exact Mut.kp (by assumption) | (refine' Rolled.kp ?r ?D; (case r => assumption); (case D => walk_at "fa")))
local macro_rules | `(tactic| walk_at "fa") => `(tactic| first
  | assumption | exact SqT.of (by assumption) | exact SqL.of (by assumption)
  | (refine' Dice.same ?h ?s; (case s => assumption); (case h => walk_at "fa")) | exact Rolled.dice (by assumption)
  | (refine' L2.Same.seq ?s ?h; (case s => assumption); (case h => walk_at "fa")) | (refine' Rolled.sqL ?r ?n ?h; (case r => assumption); (case n => walk_at "ne"); (case h => walk_at "fa"))
  | (refine' Kp.sqT ?k ?h; (case k => walk_at "kp1"); (case h => walk_at "fa")) | (refine' RowAt.kp ?k ?h; (case k => walk_at "kp1"); (case h => walk_at "fa")) | (refine' RowsAt.kp ?k ?h; (case k => walk_at "kp1"); (case h => walk_at "fa")) | (refine' ChgAt.kp ?k ?h; (case k => walk_at "kp1"); (case h => walk_at "fa")) | (refine' PlainAt.kp ?k ?h; (case k => walk_at "kp1"); (case h => walk_at "fa"))
  | (refine' GraphAt.same ?h ?s; (case s => assumption); (case h => walk_at "fa")) | (refine' GraphAt.rolled ?r ?D ?h; (case r => assumption); (case D => walk_at "fa"); (case h => walk_at "fa"))
  | (refine' Rd.Same.at ?s ?h; (case s => assumption); (case h => walk_at "fa")) | (refine' Mut.keep ?m _ _ ?n ?h; (case m => assumption); (case n => walk_at "ne"); (case h => walk_at "fa")) | (refine' Rolled.keep ?r _ _ ?n ?h; (case r => assumption); (case n => walk_at "ne"); (case h => walk_at "fa")))
local macro_rules | `(tactic| walk_at "sm") => `(tactic| first | assumption | exact Same.refl _ | (refine' L2.Same.trans ?h ?s; (case s => assumption); (case h => walk_at "sm")) | (refine' same_mutM ?a ?b ?c; (case c => assumption); (case b => walk_at "nn"); (case a => walk_at "sm")))
local macro_rules | `(tactic| walk_at "rl") => `(tactic| first | assumption | exact Rolled.refl (by walk_at "fa") | (refine' Rolled.trans ?a ?b; (case b => assumption); (case a => walk_at "rl")) | (refine' Rolled.same ?a ?b; (case b => assumption); (case a => walk_at "rl")) | (refine' Rolled.mutM ?a ?n ?e ?m; (case m => assumption); (case n => walk_at "nn"); (case e => walk_at "ne"); (case a => walk_at "rl")))
local macro_rules | `(tactic| walk_at "nn") => `(tactic| first | assumption | (refine' none_pre ?s ?h; (case h => assumption); (case s => walk_at "sm")) | (refine' none_rol ?r ?D ?h; (case h => assumption); (case D => walk_at "fa"); (case r => walk_at "rl")))
local macro_rules | `(tactic| walk_at "sz") => `(tactic| first | (simp only [List.length_cons, List.length_nil]; decide) | (refine Rd.small64 ?_; simp only [List.length_map, List.length_append, List.length_cons, List.length_nil]; omega))
local macro_rules | `(tactic| walk_at "at") => `(tactic| walk_at "fa")
local macro_rules | `(tactic| walk_at "rd1") => `(tactic| with_reducible first
  | (refine' Rd.rd_mkTup ?sz fun _ _ _ _ _ => ?_; (case sz => with_unfolding_all walk_at "sz")) | (refine' Rd.rd_mkLst ?sz fun _ _ _ _ _ => ?_; (case sz => with_unfolding_all walk_at "sz")) | (refine' Rd.rd_mkTupF ?sz fun _ _ _ _ _ => ?_; (case sz => with_unfolding_all walk_at "sz"))
  | (refine' Rd.rd_tupleL ?ln fun _ _ _ _ _ => ?_; (case ln => with_unfolding_all walk_at "at")) | (refine' Rd.rd_tupleT ?ln ?_; (case ln => with_unfolding_all walk_at "at")) | (refine' Rd.rd_listL ?ln fun _ _ _ _ _ => ?_; (case ln => with_unfolding_all walk_at "at")) | (refine' Rd.rd_listT ?ln fun _ _ _ _ _ => ?_; (case ln => with_unfolding_all walk_at "at"))
  | (refine' fld_c ?T ?h fun _ _ => ?_; (case T => assumption); (case h => with_unfolding_all walk_at "fa")) | (refine' fld_s ?T ?h fun _ _ => ?_; (case T => assumption); (case h => with_unfolding_all walk_at "fa")) | (refine' fld_n ?T ?h fun _ _ => ?_; (case T => assumption); (case h => with_unfolding_all walk_at "fa"))
  | refine Rd.rd_get2 ?_ | (refine' Rd.rd_getA ?ln ?_; (case ln => with_unfolding_all first | exact Or.inl (by walk_at "at") | exact Or.inr ⟨_, by walk_at "at"⟩)) | (refine' Rd.rd_getE ?ln ?_; (case ln => with_unfolding_all first | exact Or.inl (by walk_at "at") | exact Or.inr ⟨_, by walk_at "at"⟩)) | refine Rd.rd_daug ?_ | refine Rd.rd_items ?_ | refine Rd.rd_frz ?_ | refine Rd.rd_vals ?_ | refine Rd.rd_kw0 ?_ | refine Rd.rd_callN ?_
  | (refine' Rd.rd_isi (Rd.isi_tup ?ln Rd.kk_tup_tup) ?_; (case ln => with_unfolding_all walk_at "at")) | refine Rd.rd_isi (Rd.isi_str (b := true) kk_str_str) ?_)
local macro_rules | `(tactic| walk_at "st") => `(tactic| (simp only [List.map_cons, List.map_nil, L2.wipe, List.set_cons_zero, List.set_cons_succ]; walk_at "rd"; refine ⟨rfl, ?_⟩; walk_at "rd"))
abbrev s_law : Stmt := top 65
theorem sc_law : FnScope ["_law_script", "_law_at", "_law_dice_here", "_law_turn", "_law_bare", "_law_told_here", "_law_two", "_law_one", "_law_none"] ["_law_script"] (defScope s_law) := ⟨rfl, rfl, rfl, by decide +kernel, rfl, by decide +kernel, by decide +kernel⟩
theorem hu128 {k : Nat} {A : Around} (hr : Room k A) : A.units + 128 < cLine := by have := hr.un; omega
def spLaw (K : PySem.W.Frag) (TL : List (Addr × Str)) : Sp := Rd.mkSp (fun (a : Addr × List Int) => [.ref a.1]) fun a H Q _ => SqL K H a.1 (a.2.map V.int) ∧ a.2.length ≤ 63 ∧ LamX.Tabs TL H ∧ ∀ H', Q (.bl true) H'
/-- Graph(cs, *rows), the states left out -/
theorem make_graphDJ {K : PySem.W.Frag} {C pc dv : Addr} {H : Hp} {Q : VK} {rs : List Addr} {cs0 : List Str} {ts0 : List Tr} {G : Gr} (NM : Norm cs0 [] ts0 G) (GO : GOk G) (hd : ∀ H, TxT K H dv []) (hC : TxT K H pc cs0) (hP : Paired (RowAt K H) rs ts0) (q : ∀ x H', Same H H' → GraphAt K C H' x G → Q (.ref x) H') :
    Rd.rMake C (Rd.spStarD (.ref dv) (spGInit K C)) E0 (.ref pc :: rs.map V.ref) H Q := by
  intro x dx hx hdx hne
  have s0 : Same H (upd (upd H dx (.own x)) x (.ins C dx [])) := fun b o e => by
    rw [upd_ne (ne_of_none e hx), upd_ne (ne_of_none e hdx)]
    exact e
  have lt : rs.length ≤ 16 := by rw [hP.length, ← NM.tp.length_eq]; exact GO.t16
  refine ⟨.ref x, .ref pc, rs.map V.ref, rfl, by rw [List.length_map]; exact Rd.small64 (by omega), fun p H1 hp s1 h1 => ?_⟩
  have s01 := s0.trans s1
  refine Rd.rd_sp ((x, dx, pc, dv, p), (cs0, [], ts0), G) rfl ⟨s1 _ _ upd_same, hC.kp (kpS s01), hd _, ⟨rs, SqT.of h1, L2.Paired.mapP hP fun _ _ q => q.kp (kpS s01)⟩, NM, GO, fun H2 b2 h2 => ⟨rfl, ?_⟩⟩
  exact q x H2 (fun b o e => b2 b o (ne_of_none e hx) (s01 _ _ e)) h2
theorem loop_oneJ (n : Str) : Loop1 [] [n] := ⟨nofun, (by simp), fun _ h => (List.not_mem_nil h).elim, fun _ S s0 _ x hx => by rw [List.mem_singleton.mp hx]; exact s0, fun _ S s0 _ x hx => by rw [List.mem_singleton.mp hx]; exact s0⟩
def bareG : Gr := ⟨["x"], ["s"], []⟩
theorem bare_ok : GOk bareG := by
  refine ⟨by unfold bareG; decide, by decide, List.pairwise_singleton _ _, by decide +kernel, by decide, List.pairwise_singleton _ _, by decide +kernel, by decide, .nil, fun t ht => (List.not_mem_nil ht).elim, fun t ht => (List.not_mem_nil ht).elim, fun t ht => (List.not_mem_nil ht).elim, loop_oneJ _⟩
theorem bare_norm : Norm ["x"] ["s"] [] bareG := ⟨fun z => by simp [bareG], by decide, fun z => by simp [bareG], by decide, List.Perm.refl _⟩
def twA : Tr := ⟨"a", "p", "p", [("x", -1), ("y", -1)]⟩
def twB : Tr := ⟨"b", "p", "p", [("x", 2)]⟩
def twoG : Gr := ⟨["x", "y"], ["p"], [twA, twB]⟩
theorem two_ok : GOk twoG := by
  have nm : ∀ x ∈ (["x", "y", "p", "a", "b"] : List Str), isName x = true := by decide +kernel
  have a := nm "a" (by simp)
  have b := nm "b" (by simp)
  have p := nm "p" (by simp)
  have x := nm "x" (by simp)
  have y := nm "y" (by simp)
  refine ⟨by unfold twoG; decide, by decide, ?_, fun z hz => ?_, by decide, ?_, fun z hz => ?_, by decide, ?_, fun t ht => ?_, fun t ht kv hkv => ?_, fun t ht => ?_, ?_⟩
  · exact List.Pairwise.cons (fun y hy => by rw [List.mem_singleton.mp hy]; decide +kernel) (List.pairwise_singleton _ _)
  · simp only [twoG, List.mem_cons, List.not_mem_nil, or_false] at hz
    rcases hz with rfl | rfl
    · exact x
    · exact y
  · exact List.pairwise_singleton _ _
  · simp only [twoG, List.mem_cons, List.not_mem_nil, or_false] at hz
    rw [hz]; exact p
  · exact List.Pairwise.cons (fun y hy => by rw [List.mem_singleton.mp hy]; decide +kernel) (List.pairwise_singleton _ _)
  · simp only [twoG, List.mem_cons, List.not_mem_nil, or_false] at ht
    rcases ht with rfl | rfl
    · refine ⟨a, p, p, ⟨?_, fun kv hkv => ?_⟩, by decide⟩
      · exact List.Pairwise.cons (fun y hy => by rw [List.mem_singleton.mp hy]; decide +kernel) (List.pairwise_singleton _ _)
      · simp only [twA, List.mem_cons, List.not_mem_nil, or_false] at hkv
        rcases hkv with rfl | rfl
        · exact ⟨x, by decide, by decide, by decide⟩
        · exact ⟨y, by decide, by decide, by decide⟩
    · refine ⟨b, p, p, ⟨?_, fun kv hkv => ?_⟩, by decide⟩
      · exact List.pairwise_singleton _ _
      · simp only [twB, List.mem_cons, List.not_mem_nil, or_false] at hkv
        rw [hkv]
        exact ⟨x, by decide, by decide, by decide⟩
  · simp only [twoG, List.mem_cons, List.not_mem_nil, or_false] at ht ⊢
    rcases ht with rfl | rfl
    · simp only [twA, List.mem_cons, List.not_mem_nil, or_false] at hkv
      rcases hkv with rfl | rfl
      · exact .inl rfl
      · exact .inr rfl
    · simp only [twB, List.mem_cons, List.not_mem_nil, or_false] at hkv
      rw [hkv]
      exact .inl rfl
  · simp only [twoG, List.mem_cons, List.not_mem_nil, or_false] at ht ⊢
    rcases ht with rfl | rfl <;> decide +kernel
  · refine ring_rows (sts := [("p", "p"), ("p", "p")]) (by decide) (List.pairwise_singleton _ _) rfl fun st hst => ?_
    simp only [List.mem_cons, List.not_mem_nil, or_false, or_self] at hst
    rw [hst]
    exact ⟨List.mem_cons_self, List.mem_cons_self⟩
theorem two_norm : Norm ["x", "y"] [] [twA, twB] twoG := by
  refine ⟨fun z => Iff.rfl, by decide, fun z => ?_, by decide, List.Perm.refl _⟩
  simp only [twoG, List.mem_cons, List.not_mem_nil, or_false, false_or]
  refine ⟨fun e => ⟨_, .inl rfl, .inl e⟩, fun ⟨t, ht, e⟩ => ?_⟩
  rcases ht with rfl | rfl <;> rcases e with e | e <;> exact e
theorem ans_to {cs : List Str} {st : Str} {f : Str → Int} {t : Tr} (h1 : t.src = st) (h2 : lowL cs f t.chg = []) : ansOf cs st f t = .to t.tgt (addF f t.chg) := by
  unfold ansOf
  rw [if_pos h1, h2]
theorem ans_low {cs : List Str} {st c : Str} {r : List Str} {f : Str → Int} {t : Tr} (h1 : t.src = st) (h2 : lowL cs f t.chg = c :: r) : ansOf cs st f t = .low c := by
  unfold ansOf
  rw [if_pos h1, h2]
theorem runL_cons {G : Gr} {o : Mo} {t : Tr} {ns : List Str} (GO : GOk G) (ht : t ∈ G.ts) : runL G o (t.nm :: ns) = (match ansOf G.cs o.st o.ld t with | .op => .op | .low c => .low c | .to st f => consR [o] (runL G (o.aft st f) ns)) := by
  show (match rowOf G t.nm with | none => _ | some t => _) = _
  rw [rowOf_mem GO ht]
  try dsimp only
  all_goals (cases ansOf G.cs o.st o.ld t <;> rfl)
def tw0 : Mo := ⟨"p", fun _ => 1, fun _ => 1⟩
def tw1 : Mo := tw0.aft "p" (addF tw0.ld twB.chg)
def tw2 : Mo := tw1.aft "p" (addF tw1.ld twA.chg)
def twN : Mo := ⟨"p", fun _ => 0, fun _ => 0⟩
theorem two_run : runL twoG tw0 ["b", "a"] = .ok tw2 [tw0, tw1] := by
  have e1 : ansOf twoG.cs tw0.st tw0.ld twB = .to twB.tgt (addF tw0.ld twB.chg) := ans_to rfl (by decide +kernel)
  have e2 : ansOf twoG.cs tw1.st tw1.ld twA = .to twA.tgt (addF tw1.ld twA.chg) := ans_to rfl (by decide +kernel)
  have k := runL_cons (o := tw0) (ns := [twA.nm]) two_ok (show twB ∈ twoG.ts from List.mem_cons_of_mem _ List.mem_cons_self)
  have k2 := runL_cons (o := tw1) (ns := []) two_ok (show twA ∈ twoG.ts from List.mem_cons_self)
  rw [e1] at k
  rw [e2] at k2
  refine k.trans ?_
  show consR [tw0] (runL twoG tw1 [twA.nm]) = _
  rw [k2]
  rfl
theorem two_low : runL twoG tw2 ["a"] = .low "y" := by
  have e1 : ansOf twoG.cs tw2.st tw2.ld twA = .low "y" := ans_low (r := []) rfl (by decide +kernel)
  have k := runL_cons (o := tw2) (ns := []) two_ok (show twA ∈ twoG.ts from List.mem_cons_self)
  rw [e1] at k
  exact k
theorem none_low : runL twoG twN ["a"] = .low "x" := by
  have e1 : ansOf twoG.cs twN.st twN.ld twA = .low "x" := ans_low (r := ["y"]) rfl (by decide +kernel)
  have k := runL_cons (o := twN) (ns := []) two_ok (show twA ∈ twoG.ts from List.mem_cons_self)
  rw [e1] at k
  exact k
theorem make_maD {K : PySem.W.Frag} {C pg : Addr} {m : AdsM} {H : Hp} {Q : VK} {G : Gr} {z : Int} {E : XK} (hG : GraphAt K C H pg G) (GO : GOk G) (hz : 0 ≤ z) (q : ∀ x H', H x = none → Same H H' → MachAt K C m H' x (Mc.new G z none) → Q (.ref x) H') : Rd.rMkD m.C (spMaInit K C m) .non E [.ref pg, .int z] H Q :=
  fun x dx hx hdx hne => make_ma (o := none) hG GO hz (fun _ z => nomatch z) q x dx hx hdx hne
theorem dispX {σ : L2.St} {H : Hp} {Q : VK} {ta tb : TE} {i : Int} (h1 : ∀ H Q, Q (.str "x") H → ta σ H Q) (h2 : ∀ H Q, Q (.int i) H → tb σ H Q) (q : ∀ p H', H p = none → Same H H' → H' p = some (.dK [(Sum.inr "x", .int i)]) → Q (.ref p) H') : tDisp [(ta, tb)] σ H Q := by
  refine Rd.rd_disp fun p hp => ?_
  refine Rd.rd_prC (h1 _ _ (h2 _ _ (Rd.rd_prN ?_)))
  refine ⟨upd_same, [(Sum.inr "x", .int i)], rfl, by show 1 ≤ 15; decide, ?_⟩
  refine q p _ hp (fun b o e => ?_) ?_
  · rw [upd_ne (ne_of_none e hp), upd_ne (ne_of_none e hp)]; exact e
  · rw [upd_same]; rfl
theorem MachAt.other {K : PySem.W.Frag} {C y z dy pg pm pp pl : Addr} {m : AdsM} {H H' : Hp} {S : Mc} (h : MachAt K C m H z S) (hy : H y = some (.ins m.C dy (fldsM pg pm pp pl))) (ne : z ≠ y) (b : SameBut y H H') : MachAt K C m H' z S := by
  obtain ⟨pg', hG, dx, pm', pp', pl', ms, h1, h2, h3, h4, h5⟩ := h
  exact ⟨pg', hG.but hy rfl b, dx, pm', pp', pl', ms, b _ _ ne h1, h2.but hy rfl b, lst_but hy b h3, L2.Paired.mapP h4 fun _ _ q => q.but hy rfl b, lst_but hy b h5⟩
theorem two_pos0 : posL twoG tw0.st tw0.ld = (["a", "b"] : List Str) := by decide +kernel
theorem two_pos2 : posL twoG tw2.st tw2.ld = (["b"] : List Str) := by decide +kernel
theorem bare_text : machT bareG.cs (Mc.new bareG 7 none).now = ("machine at s: x 7" : Str) := by decide +kernel
section
variable {P : Program} {w : World} {K : PySem.W.Frag} {mg : Str → Option Value} {base : Heap} {a : AdsG} {e : Addr}
theorem ok_ginitDJ (T : GraphC K mg a) (hi : Rd.HasAtK K a.fi "__init__" "Graph.__init__" s_Graph___init__ "states" (.ref e)) (g : Glob mg) (c_require_parts : Rd.Fn false P w K mg base CX0 5 "require_parts" (spReq K)) (c_states_of : Rd.Fn false P w K mg base CX0 1 "states_of" (spStates K)) : FnR P w K mg base CX0 7 a.fi (Rd.spStarD (.ref e) (spGInit K a.C)) :=
  hi.starD sc_Graph___init__ StX.cxUp_none (fun _ _ _ _ _ _ _ _ rest => match rest with | [] => ⟨_, _, _, _, _, _, rfl, fun _ => rfl, fun _ => rfl⟩ | _ :: _ => ⟨_, _, _, _, _, _, rfl, fun _ => rfl, fun _ => rfl⟩) (ginit_body T g c_require_parts c_states_of)
end
section
variable {P : Program} {w : World} {K : PySem.W.Frag} {mg : Str → Option Value} {base : Heap} {a : AdsG} {m : AdsM} {e : AdsE} {de c Pt : Addr} {TL TR : List (Addr × Str)}
set_option maxHeartbeats 40000000 in
theorem ok_law (T : GraphC K mg a) (TM : MachC K mg m) (TP : MachP K m) (TS : MachS K m) (TE : ErrM K mg e) (F : Rd.HasC K mg "law" s_law c) (g : Glob mg) (hE : Rd.Has K mg "_law_told" s__law_told) (TB : LamX.TabB base mg c Pt) (mT : (Pt, lamQ "law") ∈ TL) (uT : ∀ p ∈ TL, p.1 = Pt → p.2 = lamQ "law") (he : ∀ H, TxT K H de [])
    (c_possible : FnR P w K mg base CX0 3 m.gp (spPoss K a.C m)) (c_loads : FnR P w K mg base CX0 1 m.gl (spMld K a.C m)) (c_log : FnR P w K mg base CX0 1 m.gL (spMlg K a.C m)) (c_str : FnR P w K mg base CX0 1 m.st (spMstr K a.C m)) (c_in : FnR P w K mg base CX0 3 m.ct (spMct K a.C m)) (c_Machine_highest : FnR P w K mg base CX0 2 m.hg (spMhg K a.C m))
    (c_Graph : FnR P w K mg base CX0 7 a.fi (Rd.spStarD (.ref de) (spGInit K a.C))) (c_Graph_of : FnR P w K mg base CX0 9 a.fo (spGOf K a.C))
    (c_Machine : Rd.FnKA P w K mg base CX0 4 m.fi "start" ["self", "graph", "size", "start"] .non (spMaInit K a.C m)) (c_Machine_take : FnR P w K mg base (L2.CX P w) 6 m.tk (Rd.spStar 1 (spTakeAll K a.C e m)))
    (c__law_dice : Rd.Fn true P w K mg base CX0 1 "_law_dice" (spDice K)) (c__law_right : Rd.Fn true P w K mg base CX0 12 "_law_right" (spRightJ TL)) :
    Rd.Fn true P w K mg base CX0 13 "law" (spLaw K TL) := by
  refine F.fn sc_law (fun _ => rfl) (fun _ _ _ _ _ _ us hl => match us, hl with | [_], _ => rfl) fun f A outer s H Q E b hr h => ?_
  obtain ⟨b, ns⟩ := b
  obtain ⟨hS, hz, hT, k⟩ := h
  dsimp only at hS hz hT
  refine ⟨_, (pss_cons (ps_for PassesOwn.never rfl (pi_range1 (by rfl) g.range (pa_cons (pe_callB (Rd.c_max2 rfl) (by rfl) g.max (by decide +kernel) (pa_cons pe_int (pa_cons (pe_callB (Rd.c_min2 rfl) (by rfl) g.min (by decide +kernel) (pa_cons pe_int (pa_cons (pe_callB Rd.c_len (by rfl) g.len (by decide +kernel) (pa_cons (pv 0) pa_nil)) pa_nil))) pa_nil))) pa_nil)) (pg_name (i := 1) sc_law.nd rfl (Or.inl rfl)) (pss_cons (ps_set (i := 2) sc_law.nd rfl (Or.inl rfl) (Rd.pe_fn c__law_dice (hr.mono (by decide)) (by rfl) (pa_cons (pv 0) (pa_cons (pv 1) pa_nil))))
      (pss_one (ps_for PassesOwn.never rfl (pi_range1 (by rfl) g.range (pa_cons pe_int pa_nil)) (pg_name (i := 3) sc_law.nd rfl (Or.inl rfl)) (pss_one (ps_if (pt_not (pt_val (Rd.pe_fn c__law_right (hr.mono (by decide)) (by rfl) (pa_cons (pv 2) pa_nil)))) (pss_one (ps_ret pe_bl)) pss_nil))))))
      (pss_cons (ps_set (i := 4) sc_law.nd rfl (Or.inl rfl) (Rd.pe_mkKA0 TM.mk_ c_Machine (hr.mono (by decide)).toRoom (by rfl) TM.mgC pass0 (pa_cons (ClX.pe_cmeth (Rd.pe_glr (by rfl) T.mgC) T.cr T.cm_of c_Graph_of (hr.mono (by decide)).toRoom pass0 (pa_cons (Rd.pe_tup (pa_cons pe_str pa_nil)) (pa_cons (Rd.pe_tupF pa_nil) (pa_cons (Rd.pe_tup (pa_cons pe_str pa_nil)) pa_nil)))) (pa_cons pe_int pa_nil))))
      (pss_cons (ps_set (i := 5) sc_law.nd rfl (Or.inl rfl) (Rd.pe_lstN (pa_cons (Rd.pe_propR (pv 4) TM.cl TP.po c_possible (hr.mono (by decide)).toRoom pass0) (pa_cons (Rd.pe_propR (pv 4) TM.cl TP.ld c_loads (hr.mono (by decide)).toRoom pass0) (pa_cons (Rd.pe_propR (pv 4) TM.cl TP.lg c_log (hr.mono (by decide)).toRoom pass0) (pa_cons (pe_callTy (Rd.c_strO TS.st TS.stf c_str (hr.mono (by decide)).toRoom pass0) (by rfl) g.str (by decide +kernel) (pa_cons (pv 4) pa_nil)) (pa_cons (Rd.pe_methR0 (pv 4) TM.cl TM.m_take c_Machine_take (hr.mono (by decide)).toRoom Rd.passNo) (pa_cons (pe_cmpR (Rd.op_inO TS.ct TS.ctf c_in (hr.mono (by decide)).toRoom pass0) pe_str (pv 4) (by rfl)) pa_nil))))))))
      (pss_cons (ps_if (pt_cmpR (Rd.op_neZ (hu128 hr.toRoom)) (pv 5) (Rd.pe_lstN (pa_cons (Rd.pe_tupF pa_nil) (pa_cons (pe_disp (pps_cons pe_str pe_int pps_nil) (by rfl) (by rfl) (fun z => by cases z) (by decide)) (pa_cons (Rd.pe_tupF pa_nil) (pa_cons pe_str (pa_cons pe_int (pa_cons pe_bl pa_nil))))))) (nomark _)) (pss_one (ps_ret pe_bl)) pss_nil)
      (pss_cons (ps_set (i := 6) sc_law.nd rfl (Or.inl rfl) (Rd.pe_mk T.mk_ c_Graph (hr.mono (by decide)).toRoom (by rfl) T.mgC pass0 (pa_cons (Rd.pe_tup (pa_cons pe_str (pa_cons pe_str pa_nil))) (pa_cons (Rd.pe_tup (pa_cons pe_str (pa_cons pe_str (pa_cons pe_str (pa_cons (Rd.pe_tupF (pa_cons (Rd.pe_tup (pa_cons pe_str (pa_cons (pe_un un_neg pe_int) pa_nil))) (pa_cons (Rd.pe_tup (pa_cons pe_str (pa_cons (pe_un un_neg pe_int) pa_nil))) pa_nil))) pa_nil))))) (pa_cons (Rd.pe_tup (pa_cons pe_str (pa_cons pe_str (pa_cons pe_str (pa_cons (Rd.pe_tupF (pa_cons (Rd.pe_tup (pa_cons pe_str (pa_cons pe_int pa_nil))) pa_nil)) pa_nil))))) pa_nil)))))
      (pss_cons (ps_asg (Rd.pe_tup (pa_cons (Rd.pe_mkKA0 TM.mk_ c_Machine (hr.mono (by decide)).toRoom (by rfl) TM.mgC pass0 (pa_cons (pv 6) (pa_cons pe_int pa_nil))) (pa_cons (Rd.pe_mkKA0 TM.mk_ c_Machine (hr.mono (by decide)).toRoom (by rfl) TM.mgC pass0 (pa_cons (pv 6) (pa_cons pe_int pa_nil))) pa_nil))) (pg_tup rfl (pgs_cons (pg_name (i := 7) sc_law.nd rfl (Or.inr rfl)) (pgs_cons (pg_name (i := 8) sc_law.nd rfl (Or.inr rfl)) pgs_nil))))
      (pss_cons (ps_set (i := 5) sc_law.nd rfl (Or.inl rfl) (Rd.pe_lst (pa_cons (Rd.pe_propR (pv 7) TM.cl TP.po c_possible (hr.mono (by decide)).toRoom pass0) (pa_cons (pe_methR (pv 7) TM.cl TM.m_take c_Machine_take (hr.mono (by decide)).toRoom Rd.passNo (pa_cons pe_str (pa_cons pe_str pa_nil))) (pa_cons (Rd.pe_propR (pv 7) TM.cl TP.po c_possible (hr.mono (by decide)).toRoom pass0) (pa_cons (pe_told (T := TL) (k := 7) hE g TE (by rfl) TB rfl mT uT (hr.mono (by decide)) (LamX.lamS_by (sc := defScope s_law) (by decide +kernel)) rfl (fun _ _ _ _ _ => rfl) (fun A outer s H E f c hr2 => (pe_methR (pv 7) TM.cl TM.m_take c_Machine_take (hr2.mono (by decide)) (passes_call (takes_of rfl rfl rfl rfl) fun _ _ _ _ h => h) (pa_cons pe_str pa_nil)))) (pa_cons (pe_methR (pv 7) TM.cl TS.m_highest c_Machine_highest (hr.mono (by decide)).toRoom pass0 (pa_cons pe_str pa_nil)) pa_nil)))))))
      (pss_cons (ps_expr (pe_bm PySem.F.plainAttrs_list PySem.F.slot_list_append PySem.F.type_list_append mt_append (pv 5) (pa_cons (pe_told (T := TL) (k := 7) hE g TE (by rfl) TB rfl mT uT (hr.mono (by decide)) (LamX.lamS_by (sc := defScope s_law) (by decide +kernel)) rfl (fun _ _ _ _ _ => rfl) (fun A outer s H E f c hr2 => (pe_methR (pv 8) TM.cl TM.m_take c_Machine_take (hr2.mono (by decide)) (passes_call (takes_of rfl rfl rfl rfl) fun _ _ _ _ h => h) (pa_cons pe_str pa_nil)))) pa_nil)))
      (pss_one (ps_ret (pe_cmpR (op_eqD hr.units) (pv 5) (Rd.pe_lst (pa_cons (Rd.pe_tup (pa_cons pe_str (pa_cons pe_str pa_nil))) (pa_cons pe_int (pa_cons (Rd.pe_tup (pa_cons pe_str pa_nil)) (pa_cons pe_str (pa_cons pe_int (pa_cons pe_str pa_nil))))))) (nomark _)))))))))))), ?_⟩
  try simp only [Rd.noxK, Rd.cxK]
  generalize (cxOf CX0 P w K mg base ["_law_script", "_law_at", "_law_dice_here", "_law_turn", "_law_bare", "_law_told_here", "_law_two", "_law_one", "_law_none"] "law" (defScope s_law) f (.ref c) A outer s H E).nox = X0
  refine Rd.rd_start [some (V.ref b), none, none, none, none, none, none, none, none] rfl ?_
  walk_at "rd"
  refine Rd.rd_IR1 ?_ ?_ ?_
  · split <;> (try split) <;> simp_all <;> omega
  · split <;> (try split) <;> simp_all <;> omega
  refine Rd.for_range (fun i σ H' => LamX.ExtN H H' ∧ LamX.Tabs TL H' ∧ ∃ o1 o2 o3, σ = [some (V.ref b), o1, o2, o3, none, none, none, none, none]) ⟨LamX.ExtN.refl H, hT, _, _, _, rfl⟩ ?_ ?_
  · rintro i σ H1 hi ⟨x1, T1, o1, o2, o3, rfl⟩
    walk_at "rd"
    refine Rd.rd_sp (b, ns, i) (by simp) ⟨Rd.sqL_N x1 hS, fun d H2 hd s2 hD => ?_⟩
    walk_at "rd"
    refine Rd.rd_IR1 (by decide) (by decide) ?_
    refine Rd.for_range (fun j σ H' => KeptJ d H2 H' ∧ LamX.Tabs TL H' ∧ ∃ o3, σ = [some (V.ref b), some (V.int (0 + (i : Nat))), some (V.ref d), o3, none, none, none, none, none]) ⟨KeptJ.refl hD, Rd.tabs_same T1 s2, _, rfl⟩ ?_ ?_
    · rintro j σ H3 hj ⟨K3, T3, o4, rfl⟩
      walk_at "rd"
      refine Rd.rd_sp d rfl ⟨K3.dice, T3, fun H4 K4 T4 => ?_⟩
      walk_at "rd"
      refine Rd.if_f rfl ?_
      walk_at "rd"
      exact ⟨K3.trans K4, T4, _, rfl⟩
    · rintro σ H3 ⟨K3, T3, o4, rfl⟩
      walk_at "rd"
      have x28 : LamX.ExtN H1 H3 := fun b o e n => K3.keep b o (fun z => by rw [z, hd] at e; cases e) (s2 _ _ e) n
      exact ⟨x1.trans x28, T3, _, _, _, rfl⟩
  rintro σ H1 ⟨x1, T1, o1, o2, o3, rfl⟩
  clear hS x1
  walk_at "rd"
  refine ⟨rfl, ?_⟩
  walk_at "rd"
  rename_i pc H2 n2 s2 h2 pt H3 n3 s3 h3 pn H4 n4 s4 h4
  refine Rd.rd_sp ((pc, pt, pn), (["x"], ["s"], []), bareG) rfl ⟨SqT.of ((s3.trans s4) _ _ h2), ⟨[], (h3.same s4).sq, .nil⟩, SqT.of h4, bare_norm, bare_ok, fun xg H5 s5 hg => ?_⟩
  walk_at "rd"
  refine make_maD hg bare_ok (by decide) fun x H6 nx s6 hx => ?_
  walk_at "rd"
  obtain ⟨dx, pg, pm, pp, pl, ix⟩ := hx.ins
  refine ⟨x, dx, _, rfl, ix, Rd.rd_sp (x, Mc.new bareG 7 none) rfl ⟨hx, bare_ok, fun p7 H7 s7 h7 => ?_⟩⟩
  walk_at "rd"
  refine ⟨x, dx, _, rfl, s7 _ _ ix, Rd.rd_sp (x, Mc.new bareG 7 none) rfl ⟨hx.same s7, fun d8 H8 n8 s8 h8 => ?_⟩⟩
  have s68 := s7.trans s8
  walk_at "rd"
  refine ⟨x, dx, _, rfl, s68 _ _ ix, Rd.rd_sp (x, Mc.new bareG 7 none) rfl ⟨hx.same s68, fun p9 H9 s9 h9 => ?_⟩⟩
  have s69 := s68.trans s9
  walk_at "rd"
  have h7 : TxT K H7 p7 [] := h7
  have h8 : H8 d8 = some (.dK [(Sum.inr "x", .int 7)]) := h8
  have h9 : TxT K H9 p9 [] := h9
  have hx9 := hx.same s69
  refine Rd.rd_strO (σ := []) (s69 _ _ ix) ?_
  refine Rd.rd_sp (x, Mc.new bareG 7 none) rfl ⟨hx9, bare_ok, fun c hc => ⟨by show (0 : Int) ≤ 7; decide, by show (7 : Int).natAbs.log2 < 400; decide⟩, by show ("s" : Str).length ≤ 8; decide +kernel, fun H10 s10 => ?_⟩
  refine ⟨_, congrArg V.str bare_text, ?_⟩
  have s610 := s69.trans s10
  walk_at "rd"
  refine ⟨x, dx, _, rfl, s610 _ _ ix, rfl, ?_⟩
  walk_at "rd"
  refine ⟨[.ref x], [], rfl, rfl, by show 0 ≤ sizeLine; decide, fun p11 H11 n11 s11 h11 => ?_⟩
  refine Rd.rd_sp ((x, p11), Mc.new bareG 7 none, []) rfl ⟨hx9.same (s10.trans s11), bare_ok, fun c hc => by show (0 : Int) ≤ 7; decide, SqT.of h11, nofun, by show 0 ≤ 20000; decide, by show 0 ≤ 20000; decide, by show 0 ≤ 20000; decide, fun H12 b12 hx12 => ?_⟩
  have hx12 : MachAt K a.C m H12 x ⟨bareG, ⟨"s", fun _ => 7, fun _ => 7⟩, [], []⟩ := hx12
  obtain ⟨dx12, pg12, pm12, pp12, pl12, ix12⟩ := hx12.ins
  walk_at "rd"
  refine Rd.rd_inO ix12 ?_
  refine Rd.rd_sp (x, ⟨bareG, ⟨"s", fun _ => 7, fun _ => 7⟩, [], []⟩, "a") rfl ⟨hx12, bare_ok, fun H13 s13 => ⟨false, rfl, ?_⟩⟩
  walk_at "rd"
  refine Rd.rd_mkLstN (by show 6 ≤ sizeLine; decide) fun l14 H14 n14 _ s14 h14 => ?_
  have s911 := s10.trans s11
  have ix11 := (s69.trans s911) _ _ ix
  have d11 : H11 d8 = some (.dK [(Sum.inr "x", .int 7)]) := (s9.trans s911) _ _ h8
  have d14 : H14 d8 = some (.dK [(Sum.inr "x", .int 7)]) := (s13.trans s14) _ _ (b12 _ _ (fun z => by rw [z] at d11; exact absurd (ix11.symm.trans d11) (by simp)) d11)
  have kp14 : Kp H11 H14 := (b12.kp ix11 rfl).trans (kpS (s13.trans s14))
  have p7' : TxT K H14 p7 [] := TxT.kp kp14 (TxT.kp (kpS (s8.trans (s9.trans s911))) h7)
  have p9' : TxT K H14 p9 [] := TxT.kp kp14 (TxT.kp (kpS s911) h9)
  walk_at "rd"
  rename_i t15 H15 n15 s15 h15
  refine dispX (i := 7) (fun H Q q => ?_) (fun H Q q => ?_) fun d16 H16 n16 s16 h16 => ?_
  · walk_at "rd"
    exact q
  · walk_at "rd"
    exact q
  walk_at "rd"
  rename_i t17 H17 n17 s17 h17
  refine Rd.rd_mkLstN (by show 6 ≤ sizeLine; decide) fun l18 H18 n18 _ s18 h18 => ?_
  have s1618 := s17.trans s18
  have s1518 := s16.trans s1618
  have s1418 := s15.trans s1518
  have e7 : Rd.EqZ K H18 1 (.ref p7) (.ref t15) := .d (Rd.Dt.dp _ _ (TxT.kp (kpS s1418) p7').dt) (Rd.Dt.dp _ _ (show TxT K H18 t15 [] from (h15.same s1518).sq).dt) (by decide +kernel) (by decide +kernel)
  have e9 : Rd.EqZ K H18 1 (.ref p9) (.ref t17) := .d (Rd.Dt.dp _ _ (TxT.kp (kpS s1418) p9').dt) (Rd.Dt.dp _ _ (show TxT K H18 t17 [] from (h17.same s18).sq).dt) (by decide +kernel) (by decide +kernel)
  have e8 : Rd.EqZ K H18 1 (.ref d8) (.ref d16) := .dict (s1418 _ _ d14) (s1618 _ _ h16) rfl fun p hp => by
    rw [List.mem_singleton.mp hp]
    exact ⟨.int 7, rfl, .d (.int 7) (.int 7) (by decide +kernel) (by decide +kernel)⟩
  refine Rd.rd_neZ 1 (by decide) (SqL.of (s1418 _ _ h14)) (SqL.of h18) (.cons e7 (.cons e8 (.cons e9 (.cons (.d (.str _) (.str _) (by decide +kernel) (by decide +kernel)) (.cons (.d (.int 0) (.int 0) (by decide +kernel) (by decide +kernel)) (.cons (.d (.bl false) (.bl false) (by decide +kernel) (by decide +kernel)) .nil)))))) ?_
  refine ⟨false, rfl, ?_⟩
  refine Rd.if_f rfl ?_
  refine Rd.rd_next ?_
  refine Rd.rd_nx ?_
  walk_at "rd"
  rename_i pc2 H20 n20 s20 h20 u1 H21 n21 s21 h21 u2 H22 n22 s22 h22 c3 H23 n23 s23 h23 r4 H24 n24 s24 h24 u5 H25 n25 s25 h25 c6 H26 n26 s26 h26 r7 H27 n27 s27 h27
  have s2527 := s26.trans s27
  have s2427 := s25.trans s2527
  have s2327 := s24.trans s2427
  have s2227 := s23.trans s2327
  have s2127 := s22.trans s2227
  have s2027 := s21.trans s2127
  have rowA : RowAt K H27 r4 twA := ⟨c3, SqT.of (s2427 _ _ h24), [u1, u2], h23.same s2327, .cons (SqT.of (s2127 _ _ h21)) (.cons (SqT.of (s2227 _ _ h22)) .nil)⟩
  have rowB : RowAt K H27 r7 twB := ⟨c6, SqT.of h27, [u5], h26.same s27, .cons (SqT.of (s2527 _ _ h25)) .nil⟩
  refine make_graphDJ (rs := [r4, r7]) two_norm two_ok he (SqT.of (s2027 _ _ h20)) (.cons rowA (.cons rowB .nil)) fun g H28 s28 hg => ?_
  walk_at "rd"
  refine make_maD hg two_ok (by decide) fun y H29 ny s29 hy => ?_
  walk_at "rd"
  refine make_maD (hg.same s29) two_ok (by decide) fun z H30 nz s30 hz0 => ?_
  walk_at "rd"
  rename_i tp H31 n31 s31 h31
  have hy31 : MachAt K a.C m H31 y ⟨twoG, tw0, [], []⟩ := hy.same (s30.trans s31)
  have hz31 : MachAt K a.C m H31 z ⟨twoG, twN, [], []⟩ := hz0.same s31
  obtain ⟨dy, yg, ym, yp, yl, iy29⟩ := hy.ins
  have nzy : z ≠ y := fun q => by rw [q, iy29] at nz; cases nz
  have iy31 := (s30.trans s31) _ _ iy29
  refine ⟨y, dy, _, rfl, iy31, Rd.rd_sp (y, ⟨twoG, tw0, [], []⟩) rfl ⟨hy31, two_ok, fun p32 H32 s32 h32 => ?_⟩⟩
  have h32 : TxT K H32 p32 ["a", "b"] := two_pos0 ▸ h32
  walk_at "rd"
  refine ⟨y, dy, _, rfl, s32 _ _ iy31, rfl, ?_⟩
  walk_at "rd"
  refine ⟨[.ref y], [.str "b", .str "a"], rfl, rfl, by show 2 ≤ sizeLine; decide, fun p33 H33 n33 s33 h33 => ?_⟩
  have s3133 := s32.trans s33
  refine Rd.rd_sp ((y, p33), ⟨twoG, tw0, [], []⟩, ["b", "a"]) rfl ⟨hy31.same s3133, two_ok, fun c hc => by show (0 : Int) ≤ 1; decide, SqT.of h33, (fun n hn => (by decide +kernel : ∀ n ∈ (["b", "a"] : List Str), n ∈ twoG.ts.map (·.nm)) n hn), by show 2 ≤ 20000; decide, by show 0 ≤ 20000; decide, by show 0 ≤ 20000; decide, ?_⟩
  dsimp only
  rw [two_run]
  refine fun H34 b34 hy34 => ?_
  have hy34 : MachAt K a.C m H34 y ⟨twoG, tw2, [tw0, tw1], ["b", "a"]⟩ := hy34
  have iy33 := s3133 _ _ iy31
  have hz34 := (hz31.same s3133).other iy33 nzy b34
  have p34 : TxT K H34 p32 ["a", "b"] := TxT.kp (b34.kp iy33 rfl) (TxT.kp (kpS s33) h32)
  have T11 := Rd.tabs_same T1 (((((s2.trans s3).trans s4).trans s5).trans s6).trans (s69.trans s911))
  have T12 := tabs_but T11 ix11 b12
  have T33 := Rd.tabs_same T12 ((((((s13.trans s14).trans s1418).trans s20).trans s2027).trans s28).trans (((s29.trans s30).trans s31).trans s3133))
  have T34 := tabs_but T33 iy33 b34
  obtain ⟨dy4, yg4, ym4, yp4, yl4, iy34⟩ := hy34.ins
  walk_at "rd"
  refine ⟨y, dy4, _, rfl, iy34, Rd.rd_sp (y, ⟨twoG, tw2, [tw0, tw1], ["b", "a"]⟩) rfl ⟨hy34, two_ok, fun p35 H35 s35 h35 => ?_⟩⟩
  have h35 : TxT K H35 p35 ["b"] := two_pos2 ▸ h35
  walk_at "rd"
  refine rd_told (Rd.tabs_same T34 s35) fun H36 x36 T36 => ?_
  have hy36 := (hy34.same s35).extN x36
  have iy36 := x36 _ _ (s35 _ _ iy34) (fun _ z => nomatch z)
  refine Rd.rd_methR (Rd.rd_var rfl ⟨y, dy4, _, rfl, iy36, rfl, ?_⟩)
  walk_at "rd"
  refine ⟨[.ref y], [.str "a"], rfl, rfl, by show 1 ≤ sizeLine; decide, fun p37 H37 n37 s37 h37 => ?_⟩
  refine Rd.rd_sp ((y, p37), ⟨twoG, tw2, [tw0, tw1], ["b", "a"]⟩, ["a"]) rfl ⟨hy36.same s37, two_ok, (fun c hc => (by decide +kernel : ∀ c ∈ twoG.cs, 0 ≤ tw2.ld c) c hc), SqT.of h37, (fun n hn => (by decide +kernel : ∀ n ∈ (["a"] : List Str), n ∈ twoG.ts.map (·.nm)) n hn), by show 1 ≤ 20000; decide, by show 2 ≤ 20000; decide, by show 2 ≤ 20000; decide, ?_⟩
  dsimp only
  rw [two_low]
  refine fun d38 H38 n38 s38 h38 => .inr (.inr (.inr (.inr (.inl ⟨rfl, d38, .str "y", .str "y", rfl, h38, .base (.str _), by decide +kernel, by decide +kernel, by decide +kernel, ?_⟩))))
  have s3738 := s37.trans s38
  walk_at "rd"
  refine ⟨y, dy4, _, rfl, s3738 _ _ iy36, rfl, ?_⟩
  walk_at "rd"
  refine Rd.rd_sp (y, ⟨twoG, tw2, [tw0, tw1], ["b", "a"]⟩, "x") rfl ⟨hy36.same s3738, List.mem_cons_self, ?_⟩
  walk_at "rd"
  rename_i l39 H39 n39 s39 h39
  have ey : ("counter " : Str) ++ (PyData.str "y").shown = ("counter 'y'" : Str) := by decide +kernel
  have ex : ("counter " : Str) ++ (PyData.str "x").shown = ("counter 'x'" : Str) := by decide +kernel
  have e3 : tw2.tp ("x" : Str) = 3 := by decide +kernel
  have h39 : H39 l39 = some (.lst [.ref p32, .int 2, .ref p35, .str "counter 'y'", .int 3]) := by
    rw [← ey, ← e3]
    exact h39
  refine ⟨Rd.tyL (SqL.of h39), ?_⟩
  walk_at "rd"
  have s3739 := s3738.trans s39
  refine rd_told (Rd.tabs_same T36 s3739) fun H40 x40 T40 => ?_
  have hz39 := ((hz34.same s35).extN x36).same s3739
  obtain ⟨dz, zg, zm, zp, zl, iz39⟩ := hz39.ins
  have hz40 := hz39.extN x40
  have iz40 := x40 _ _ iz39 (fun _ z => nomatch z)
  refine Rd.rd_methR (Rd.rd_var rfl ⟨z, dz, _, rfl, iz40, rfl, ?_⟩)
  walk_at "rd"
  refine ⟨[.ref z], [.str "a"], rfl, rfl, by show 1 ≤ sizeLine; decide, fun p41 H41 n41 s41 h41 => ?_⟩
  refine Rd.rd_sp ((z, p41), ⟨twoG, twN, [], []⟩, ["a"]) rfl ⟨hz40.same s41, two_ok, (fun c hc => (by decide +kernel : ∀ c ∈ twoG.cs, 0 ≤ twN.ld c) c hc), SqT.of h41, (fun n hn => (by decide +kernel : ∀ n ∈ (["a"] : List Str), n ∈ twoG.ts.map (·.nm)) n hn), by show 1 ≤ 20000; decide, by show 0 ≤ 20000; decide, by show 0 ≤ 20000; decide, ?_⟩
  dsimp only
  rw [none_low]
  refine fun d42 H42 n42 s42 h42 => .inr (.inr (.inr (.inr (.inl ⟨rfl, d42, .str "x", .str "x", rfl, h42, .base (.str _), by decide +kernel, by decide +kernel, by decide +kernel, ?_⟩))))
  have s4142 := s41.trans s42
  have h42' := s4142 _ _ (x40 _ _ h39 (fun _ z => nomatch z))
  walk_at "rd"
  refine Rd.rd_append h42' (by show 5 < sizeLine; decide) ?_
  rw [ex]
  have h43 : upd H42 l39 (.lst ([.ref p32, .int 2, .ref p35, .str "counter 'y'", .int 3] ++ [.str "counter 'x'"])) l39 = some (.lst [.ref p32, .int 2, .ref p35, .str "counter 'y'", .int 3, .str "counter 'x'"]) := upd_same
  have kp43 : Kp H42 (upd H42 l39 (.lst ([.ref p32, .int 2, .ref p35, .str "counter 'y'", .int 3] ++ [.str "counter 'x'"]))) := kp_upd h42' rfl
  generalize upd H42 l39 (.lst ([.ref p32, .int 2, .ref p35, .str "counter 'y'", .int 3] ++ [.str "counter 'x'"])) = H43 at h43 kp43 ⊢
  walk_at "rd"
  rename_i t44 H44 n44 s44 h44 t45 H45 n45 s45 h45 l46 H46 n46 s46 h46
  have kp3943 : Kp H39 H43 := ((kpNJ x40).trans (kpS s4142)).trans kp43
  have kp3639 := kpS s3739
  have s4446 := s45.trans s46
  have s4346 := s44.trans s4446
  have a32 : TxT K H46 p32 ["a", "b"] := TxT.kp (((((kpS s35).trans (kpNJ x36)).trans kp3639).trans kp3943).trans (kpS s4346)) p34
  have a35 : TxT K H46 p35 ["b"] := TxT.kp ((((kpNJ x36).trans kp3639).trans kp3943).trans (kpS s4346)) h35
  have a44 : TxT K H46 t44 ["a", "b"] := SqT.of (s4446 _ _ h44)
  have a45 : TxT K H46 t45 ["b"] := SqT.of (s46 _ _ h45)
  refine Rd.rd_eqD (d := .list [.tuple [.str "a", .str "b"], .int 2, .tuple [.str "b"], .str "counter 'y'", .int 3, .str "counter 'x'"]) (.lst (SqL.of (s4346 _ _ h43)) (.cons (Rd.Dt.dp _ _ a32.dt) (.cons (.int 2) (.cons (Rd.Dt.dp _ _ a35.dt) (.cons (.str _) (.cons (.int 3) (.cons (.str _) .nil)))))))
    (.lst (SqL.of h46) (.cons (Rd.Dt.dp _ _ a44.dt) (.cons (.int 2) (.cons (Rd.Dt.dp _ _ a45.dt) (.cons (.str _) (.cons (.int 3) (.cons (.str _) .nil))))))) (by decide +kernel) (by decide +kernel) ?_
  rw [show PyData.eqv (.list [.tuple [.str "a", .str "b"], .int 2, .tuple [.str "b"], .str "counter 'y'", .int 3, .str "counter 'x'"]) _ = true from by decide +kernel]
  exact k _
end
end M
set_option Elab.async false
set_option linter.all false
set_option maxRecDepth 100000
set_option maxHeartbeats 0
namespace M
open PySem L2
open HE0
section
variable {K : PySem.W.Frag} {h : Heap} {mg : Str → Option Value}
theorem prop_ok {C : Addr} {m : Str} (c : propB K C m = true) : PropOf K C m (He.ma K C m) (He5.wf K C "property" m) := by
  obtain ⟨h1, c⟩ := He.ba c
  obtain ⟨h2, c⟩ := He.ba c
  obtain ⟨h3, h4⟩ := He.ba c
  refine ⟨He.eqO_ok h1, He.eqO_ok h2, of_decide_eq_true h3, ?_⟩
  unfold He5.wf
  split at h4
  · rename_i f r e
    exact ⟨r, by rw [e]⟩
  · cases h4
theorem eq_ok {C f : Addr} (c : eqB K C f = true) : Rd.OwnEq K C f := by
  obtain ⟨h1, c⟩ := He.ba c
  obtain ⟨h2, c⟩ := He.ba c
  obtain ⟨h3, h4⟩ := He.ba c
  exact ⟨He.eqO_ok h1, h2, He.eqO_ok h3, of_decide_eq_true h4⟩
theorem empty_ok {e : Addr} (c : emptyB K e = true) (H : Hp) : TxT K H e [] := by
  unfold emptyB at c
  cases q : K.lookup e with
  | none => rw [q] at c; cases c
  | some o =>
    obtain ⟨oc, od, dt, osl⟩ := o
    rw [q] at c
    cases oc with
    | type c' =>
      cases dt with
      | seq its n =>
        obtain ⟨h1, h2⟩ := He.ba (show (decide (c' = "tuple") && (decide (its.size ≤ sizeLine) && He.relAll [] its.toList)) = true from c)
        obtain ⟨h3, h4⟩ := He.ba h2
        exact .inr ⟨_, its, n, q, congrArg Value.type (of_decide_eq_true h1), rfl, of_decide_eq_true h3, He.relAll_ok h4⟩
      | _ => cases c
    | _ => cases dt <;> cases c
theorem graph_ok (X : K.In h) (G : h.Ns mainGlobals mg) (c : graphB K = true) (f : graphFa.all (fun f => f.ok K) = true) : GraphC K mg (aG K) := by
  have fi : ∀ (i : Nat) {f : He.Fa}, graphFa[i]? = some f → f.ok K = true := fun i {f'} hf => List.all_eq_true.mp f f' (List.mem_of_getElem? hf)
  have at_ : ∀ (i : Nat) {x : Bool}, (graphL K)[i]? = some x → x = true := fun i {x} hx => List.all_eq_true.mp c x (List.mem_of_getElem? hx)
  obtain ⟨o1, o⟩ := He.ba (at_ 8 rfl)
  obtain ⟨o2, o⟩ := He.ba o
  obtain ⟨o3, o⟩ := He.ba o
  obtain ⟨o4, o5⟩ := He.ba o
  obtain ⟨g1, g⟩ := He.ba (at_ 6 rfl)
  obtain ⟨g2, g3⟩ := He.ba g
  exact { mgC := He.glo_ok X G (fi 0 rfl), cl := He.cls_ok (fi 1 rfl), nC := He.noat_ok (fi 2 rfl), nS := He.noat_ok (fi 3 rfl), nT := He.noat_ok (fi 4 rfl), nN := He.noat_ok (fi 5 rfl), nR := He.noat_ok (fi 6 rfl), mk_ := He.mkr_ok (fi 7 rfl), cr := read_ok (at_ 0 rfl), cm_of := cmet_ok (at_ 1 rfl), m_change := He.meth_ok (fi 8 rfl), m_leaving := He.meth_ok (fi 9 rfl), m_entering := He.meth_ok (fi 10 rfl), pr_n := prop_ok (at_ 2 rfl), pr_t := prop_ok (at_ 3 rfl), pr_c := prop_ok (at_ 4 rfl), pr_s := prop_ok (at_ 5 rfl), gi := He.eqO_ok g1, gif := g2, gin := g3, eq := eq_ok (at_ 7 rfl), c1 := He.eqO_ok o1, c2 := He.eqO_ok o2, c3 := of_decide_eq_true o3, c4 := of_decide_eq_true o4, i1 := of_decide_eq_true o5 }
theorem ints_ok (X : K.In h) (G : h.Ns mainGlobals mg) (f : graphFa.all (fun f => f.ok K) = true) : GInts mg := by
  have fi : ∀ (i : Nat) {f : He.Fa}, graphFa[i]? = some f → f.ok K = true := fun i {f'} hf => List.all_eq_true.mp f f' (List.mem_of_getElem? hf)
  exact ⟨He.int_ok X G (fi 11 rfl), He.int_ok X G (fi 12 rfl), He.int_ok X G (fi 13 rfl), He.int_ok X G (fi 14 rfl), He.int_ok X G (fi 15 rfl), He.str_ok X G (fi 16 rfl)⟩
theorem dflt_ok (c : graphB K = true) (H : Hp) : TxT K H (aE K) [] := empty_ok (List.all_eq_true.mp c (emptyB K (aE K)) (List.mem_of_getElem? (i := 9) rfl)) H
theorem hasP_of {ex : PySem.W.Frag → Bool} {fn : List He5.DefA} (c : Hd.SaysM ex fn K) (i : Nat) {C m qual : Str} {st : Stmt} (hi : fn[i]? = some (dP C m qual st)) : Rd.HasAt K (He5.wf K (He.ga K C) "property" m) m qual st := by
  obtain ⟨fd, F⟩ := c.def_ i hi
  exact ⟨fd, F⟩
theorem hasCD_of {ex : PySem.W.Frag → Bool} {fn : List He5.DefA} (c : Hd.SaysM ex fn K) (i : Nat) {C m qual : Str} {st : Stmt} (hi : fn[i]? = some (dCD C m qual st)) : Rd.HasAtD K (He5.wf K (He.ga K C) "classmethod" m) m qual st := by
  obtain ⟨fd, F⟩ := c.def_ i hi
  exact ⟨_, fd, F⟩
theorem hasMK_of {ex : PySem.W.Frag → Bool} {fn : List He5.DefA} (c : Hd.SaysM ex fn K) (i : Nat) {C m qual kw : Str} {st : Stmt} (hi : fn[i]? = some (dMK C m qual kw st)) : Rd.HasAtK K (He.ma K (He.ga K C) m) m qual st kw (.ref (kwAt K (He.ma K (He.ga K C) m) kw)) := by
  obtain ⟨fd, F⟩ := c.def_ i hi
  exact ⟨fd, F⟩
end
theorem xi_ok {K : PySem.W.Frag} {C : Addr} {bm : List Value} {n : String} (h : xiB K C bm n = true) : Rd.XiC K C bm n := by
  obtain ⟨h1, h⟩ := He.ba h
  obtain ⟨h2, h⟩ := He.ba h
  obtain ⟨h3, h⟩ := He.ba h
  obtain ⟨h4, h5⟩ := He.ba h
  exact ⟨h1, h2, He.eqO_ok h3, h4, h5⟩
theorem v_ok {K : PySem.W.Frag} {B i : String} (h : vB K B i = true) : PySem.W.findCls K (.type B) (.type "type") "__init__" = some (.val (.builtin i)) := by
  unfold vB at h
  split at h
  · rename_i n e
    rw [e, of_decide_eq_true h]
  · cases h
theorem hasMN_of {K : PySem.W.Frag} {ex : PySem.W.Frag → Bool} {fn : List He5.DefA} (c : Hd.SaysM ex fn K) (i : Nat) {C m qual kw : Str} {st : Stmt} (hi : fn[i]? = some (dMN C m qual kw st)) : Rd.HasAtK K (He.ma K (He.ga K C) m) m qual st kw .non := by
  obtain ⟨fd, F⟩ := c.def_ i hi
  exact ⟨fd, F⟩
theorem exm_all {K : PySem.W.Frag} (h : exmB K = true) : ∀ i j, i < 6 → j < 6 → PySem.W.exmOne K (.ref ((aX K).at i)) (.ref ((aX K).at j)) = some (decide (i = j)) := fun i j hi hj =>
  of_decide_eq_true (List.all_eq_true.mp (List.all_eq_true.mp h i (List.mem_range.mpr hi)) j (List.mem_range.mpr hj))
def lamL : List (Str × Str) := [(("_law_right" : Str), lamQ "_law_right"), (("law" : Str), lamQ "law")]
/-- the tables -/
def tabsOf (K : PySem.W.Frag) : List (Addr × Str) := lamL.map fun z => (Hd.tabAt K z.1, z.2)
def codesOf (K : PySem.W.Frag) : List (Addr × Addr) := lams.map fun x => (Hd.codeAt K x, Hd.tabAt K x)
theorem lam_mem {z : Str × Str} (h : z ∈ lamL) : z.1 ∈ lams := by
  have e : lams = lamL.map (·.1) := rfl
  rw [e]
  exact List.mem_map_of_mem h
theorem tabs_u {K : PySem.W.Frag} (nd : (lams.map fun x => Hd.tabAt K x).Nodup) (i : Nat) {x q : Str} (h : lamL[i]? = some (x, q)) : ∀ p ∈ tabsOf K, p.1 = Hd.tabAt K x → p.2 = q := fun p hp e => by
  obtain ⟨z, hz, rfl⟩ := List.mem_map.mp hp
  obtain ⟨j, hj⟩ := List.mem_iff_getElem?.mp hz
  have e1 : (lams.map fun x => Hd.tabAt K x)[j]? = some (Hd.tabAt K z.1) := by
    have e : lams = lamL.map (·.1) := rfl
    rw [e, List.map_map, List.getElem?_map, hj]; rfl
  have e2 : (lams.map fun x => Hd.tabAt K x)[i]? = some (Hd.tabAt K x) := by
    have e : lams = lamL.map (·.1) := rfl
    rw [e, List.map_map, List.getElem?_map, h]; rfl
  have lj : j < (lams.map fun x => Hd.tabAt K x).length := (List.getElem?_eq_some_iff.mp e1).1
  have this : j = i := (List.getElem?_inj lj nd).mp (e1.trans ((congrArg some e).trans e2.symm))
  subst this
  rw [hj] at h
  cases h
  rfl
theorem hasC_ofX {K : PySem.W.Frag} {h : Heap} {mg : Str → Option Value} {x : Str} {st : Stmt} (X : K.In h) (F : Rd.Has K mg x st) (hm : mg x = some (.ref (He.ga K x))) (c : Hd.codeB K x = true) : Rd.HasC K mg x st (Hd.codeAt K x) := by
  obtain ⟨f, F1, F2, F3⟩ := F
  obtain rfl : f = He.ga K x := Value.ref.inj (Option.some.inj (F2.symm.trans hm))
  exact ⟨_, F1, F2, F3, (Hd.codeB_ok X c).1⟩
theorem facts {P : Program} {w : World} {K : PySem.W.Frag} {h : Heap} {mg : Str → Option Value} (X : K.In h) (G : h.Ns mainGlobals mg) (c : Hd.SaysM ex fn K) (t : Hd.SaysT lams K h) (base : Heap) (tb : ∀ p ∈ codesOf K, LamX.TabB base mg p.1 p.2) : Rd.Fn true P w K mg base CX0 13 "law" (spLaw K (tabsOf K)) := by
  obtain ⟨c0, c1⟩ := He.ba c.fact
  obtain ⟨c1, c2⟩ := He.ba c1
  obtain ⟨c2, c3⟩ := He.ba c2
  obtain ⟨c3, c4⟩ := He.ba c3
  have fi : ∀ (i : Nat) {f : He.Fa}, glos[i]? = some f → f.ok K = true := fun i {f} hf => List.all_eq_true.mp c0 f (List.mem_of_getElem? hf)
  have fr : ∀ (i : Nat) {f : He.Fa}, frees[i]? = some f → f.ok K = true := fun i {f} hf => List.all_eq_true.mp c1 f (List.mem_of_getElem? hf)
  have T := graph_ok X G c3 c2
  have ws := ints_ok X G c2
  have he := dflt_ok c3
  have g : Glob mg := ⟨He.free_ok X G (fr 0 rfl), He.free_ok X G (fr 1 rfl), He.free_ok X G (fr 2 rfl), He.free_ok X G (fr 3 rfl), He.free_ok X G (fr 4 rfl), He.free_ok X G (fr 5 rfl), He.free_ok X G (fr 6 rfl), He.free_ok X G (fr 7 rfl), He.free_ok X G (fr 8 rfl), He.free_ok X G (fr 9 rfl), He.free_ok X G (fr 10 rfl), He.free_ok X G (fr 11 rfl), He.free_ok X G (fr 12 rfl), He.free_ok X G (fr 13 rfl), He.free_ok X G (fr 14 rfl), He.free_ok X G (fr 15 rfl), He.free_ok X G (fr 16 rfl), He.free_ok X G (fr 17 rfl), He.free_ok X G (fr 18 rfl), He.free_ok X G (fr 19 rfl), He.free_ok X G (fr 20 rfl)⟩
  have fx : ∀ (i : Nat) {f : He.Fa}, fas[i]? = some f → f.ok K = true := fun i {f} hf => List.all_eq_true.mp (List.all_eq_true.mp c4 (fasB K) (by simp)) f (List.mem_of_getElem? hf)
  have ndT : (lams.map fun x => Hd.tabAt K x).Nodup := of_decide_eq_true (List.all_eq_true.mp c4 (tabsB K) (by simp))
  have C0 := hasC_ofX X (has_of X G c 21 rfl (fi 21 rfl)) (He.glo_ok X G (fi 21 rfl)) (t "_law_right" (List.mem_of_getElem? (i := 0) rfl)).1
  have B0 := tb (Hd.codeAt K "_law_right", Hd.tabAt K "_law_right") (List.mem_of_getElem? (i := 0) rfl)
  have m0 : (Hd.tabAt K "_law_right", lamQ "_law_right") ∈ tabsOf K := List.mem_of_getElem? (i := 0) rfl
  have u0 : ∀ p ∈ tabsOf K, p.1 = Hd.tabAt K "_law_right" → p.2 = lamQ "_law_right" := tabs_u ndT 0 rfl
  have C1 := hasC_ofX X (has_of X G c 22 rfl (fi 22 rfl)) (He.glo_ok X G (fi 22 rfl)) (t "law" (List.mem_of_getElem? (i := 1) rfl)).1
  have B1 := tb (Hd.codeAt K "law", Hd.tabAt K "law") (List.mem_of_getElem? (i := 1) rfl)
  have m1 : (Hd.tabAt K "law", lamQ "law") ∈ tabsOf K := List.mem_of_getElem? (i := 1) rfl
  have u1 : ∀ p ∈ tabsOf K, p.1 = Hd.tabAt K "law" → p.2 = lamQ "law" := tabs_u ndT 1 rfl
  have er : ∀ (i j : Nat) {l : List Bool} {x : Bool}, (errL K)[i]? = some l → l[j]? = some x → x = true := fun i j {l x} hl hx => List.all_eq_true.mp (List.all_eq_true.mp (List.all_eq_true.mp c4 (errPB K) (by simp)) l (List.mem_of_getElem? hl)) x (List.mem_of_getElem? hx)
  have ma : ∀ (i : Nat) {x : Bool}, (machL K)[i]? = some x → x = true := fun i {x} hx => List.all_eq_true.mp (List.all_eq_true.mp c4 (machB K) (by simp)) x (List.mem_of_getElem? hx)
  have TE : ErrM K mg (aX K) := ⟨⟨(He.exc_ok (fx 1 rfl)).1, He.glo_ok X G (fx 0 rfl), (He.exc_ok (fx 1 rfl)).2.1, (He.exc_ok (fx 1 rfl)).2.2.1, (He.exc_ok (fx 1 rfl)).2.2.2⟩, ⟨(He.exc_ok (fx 3 rfl)).1, He.glo_ok X G (fx 2 rfl), (He.exc_ok (fx 3 rfl)).2.1, (He.exc_ok (fx 3 rfl)).2.2.1, (He.exc_ok (fx 3 rfl)).2.2.2⟩, ⟨He.glo_ok X G (fx 4 rfl), He.free_ok X G (fx 8 rfl), xi_ok (er 0 0 rfl rfl), He.eqO_ok (er 0 1 rfl rfl), of_decide_eq_true (er 0 2 rfl rfl), of_decide_eq_true (er 0 3 rfl rfl), of_decide_eq_true (er 0 4 rfl rfl), xfB_ok (er 0 5 rfl rfl), He.eqO_ok (er 0 6 rfl rfl), He.eqO_ok (er 0 7 rfl rfl), v_ok (er 0 8 rfl rfl)⟩, ⟨He.glo_ok X G (fx 5 rfl), He.free_ok X G (fx 9 rfl), xi_ok (er 1 0 rfl rfl), He.eqO_ok (er 1 1 rfl rfl), of_decide_eq_true (er 1 2 rfl rfl), of_decide_eq_true (er 1 3 rfl rfl), of_decide_eq_true (er 1 4 rfl rfl), xfB_ok (er 1 5 rfl rfl), He.eqO_ok (er 1 6 rfl rfl), He.eqO_ok (er 1 7 rfl rfl), v_ok (er 1 8 rfl rfl)⟩, ⟨He.glo_ok X G (fx 6 rfl), He.free_ok X G (fx 10 rfl), xi_ok (er 2 0 rfl rfl), He.eqO_ok (er 2 1 rfl rfl), of_decide_eq_true (er 2 2 rfl rfl), of_decide_eq_true (er 2 3 rfl rfl), of_decide_eq_true (er 2 4 rfl rfl), xfB_ok (er 2 5 rfl rfl), He.eqO_ok (er 2 6 rfl rfl), He.eqO_ok (er 2 7 rfl rfl), v_ok (er 2 8 rfl rfl)⟩, ⟨He.glo_ok X G (fx 7 rfl), He.free_ok X G (fx 11 rfl), xi_ok (er 3 0 rfl rfl), He.eqO_ok (er 3 1 rfl rfl), of_decide_eq_true (er 3 2 rfl rfl), of_decide_eq_true (er 3 3 rfl rfl), of_decide_eq_true (er 3 4 rfl rfl), xfB_ok (er 3 5 rfl rfl), He.eqO_ok (er 3 6 rfl rfl), He.eqO_ok (er 3 7 rfl rfl), v_ok (er 3 8 rfl rfl)⟩, exm_all (List.all_eq_true.mp c4 (exmB K) (by simp))⟩
  have TO : MomC K mg (aM K) := ⟨He.glo_ok X G (fx 23 rfl), He.cls_ok (fx 24 rfl), He.noat_ok (fx 25 rfl), He.noat_ok (fx 26 rfl), He.noat_ok (fx 27 rfl), He.mkr_ok (fx 28 rfl), He.meth_ok (fx 29 rfl)⟩
  have TM : MachC K mg (aM K) := ⟨He.glo_ok X G (fx 12 rfl), He.cls_ok (fx 13 rfl), He.noat_ok (fx 14 rfl), He.noat_ok (fx 15 rfl), He.noat_ok (fx 16 rfl), He.noat_ok (fx 17 rfl), He.mkr_ok (fx 18 rfl), He.meth_ok (fx 19 rfl), He.meth_ok (fx 20 rfl), TO⟩
  have TP : MachP K (aM K) := ⟨prop_ok (ma 0 rfl), prop_ok (ma 1 rfl), prop_ok (ma 2 rfl), prop_ok (ma 3 rfl), prop_ok (ma 4 rfl), prop_ok (ma 5 rfl)⟩
  have TS : MachS K (aM K) := ⟨He.meth_ok (fx 21 rfl), He.meth_ok (fx 22 rfl), He.eqO_ok (ma 6 rfl), ma 7 rfl, He.eqO_ok (ma 8 rfl), ma 9 rfl⟩
  have p1 : Rd.Fn false P w K mg base CX0 1 "is_name" spName := ok_is_name (has_of X G c 23 rfl (fi 23 rfl)) g ws
  have p2 : Rd.Fn false P w K mg base CX0 1 "is_small" spSmall := ok_is_small (has_of X G c 24 rfl (fi 24 rfl)) g ws
  have p3 := ok_is_pair (has_of X G c 25 rfl (fi 25 rfl)) g p1 p2
  have p4 := ok_is_change (has_of X G c 26 rfl (fi 26 rfl)) g p3
  have p5 := ok_is_transition (has_of X G c 27 rfl (fi 27 rfl)) g p1 p4
  have p6 := ok_are_names (has_of X G c 28 rfl (fi 28 rfl)) g p1
  have p7 : Rd.Fn false P w K mg base CX0 1 "reached_from" (spReach K) := ok_reachedA (has_a (has_of X G c 29 rfl (fi 29 rfl))) g
  have p8 := ok_one_loop (has_of X G c 30 rfl (fi 30 rfl)) g p7
  have p9 : Rd.Fn false P w K mg base CX0 1 "states_of" (spStates K) := ok_states_of (has_of X G c 31 rfl (fi 31 rfl)) g
  have p10 : Rd.Fn false P w K mg base CX0 1 "fit_counters" (spFit K) := ok_fit (has_of X G c 32 rfl (fi 32 rfl)) g
  have p11 := ok_require (has_of X G c 33 rfl (fi 33 rfl)) g ws p6 p5 p10 p9 p8
  have q1 := ok_ginit T (Rd.HasAtK.at (hasMK_of c 43 rfl)) g p11 p9
  have q2 := ok_gof T (hasCD_of c 44 rfl) g p11 q1
  have q9 : L2.FnR P w K mg base CX0 1 (aG K).eq (spGEq K (aG K).C) := ok_geq T g (hasM_of c 45 rfl)
  have k1 : Rd.Fn true P w K mg base CX0 1 "_law_dice" (spDice K) := ok_dice (has_of X G c 0 rfl (fi 0 rfl)) g
  have k2 : Rd.Fn true P w K mg base CX0 1 "_law_roll" spRoll := ok_roll (has_of X G c 1 rfl (fi 1 rfl)) g
  have k3S : Rd.Fn true P w K mg base CX0 2 "_law_one_of" (spOneOfS K) := ok_oneS (has_of X G c 2 rfl (fi 2 rfl)) g k2
  have k3 : Rd.Fn true P w K mg base CX0 2 "_law_one_of" (spOneOf K) := oneS_L k3S
  have k4 := ok_mixP (has_of X G c 3 rfl (fi 3 rfl)) g k2
  have k5 := ok_drawChg (has_of X G c 4 rfl (fi 4 rfl)) g k3
  have k6 := ok_kind (has_of X G c 5 rfl (fi 5 rfl)) g k2 k3 k5
  have k7 := ok_words (has_of X G c 6 rfl (fi 6 rfl)) g k4
  have k8 := ok_graph (has_of X G c 7 rfl (fi 7 rfl)) g k2 k3 k4 k6 k7
  have k9 : Rd.Fn true P w K mg base CX0 11 "_law_built" (spBuilt K (aG K).C) := ok_built T (has_of X G c 8 rfl (fi 8 rfl)) g q2
  have iD := ok_ginitDJ T (hasMK_of c 43 rfl) g p11 p9
  have r1 : Rd.Fn false P w K mg base CX0 1 "is_integer" spIsIJ := ok_isIJ (has_of X G c 34 rfl (fi 34 rfl)) g
  have r2 : Rd.Fn false P w K mg base CX0 2 "is_many" spIsManyJ := ok_isManyJ (has_of X G c 35 rfl (fi 35 rfl)) g r1
  have r3 : Rd.Fn false P w K mg base CX0 3 "require_many" spReqMany := ok_reqMany (has_of X G c 40 rfl (fi 40 rfl)) g r2
  have r4 : Rd.Fn false P w K mg base CX0 1 "require_graph" (spReqG K (aG K).C) := ok_reqG T (has_of X G c 36 rfl (fi 36 rfl)) g
  have r5 : Rd.Fn false P w K mg base CX0 1 "require_state" (spReqSt K (aG K).C (·.ns)) := ok_reqState T (has_of X G c 39 rfl (fi 39 rfl)) g
  have r6 : Rd.Fn false P w K mg base CX0 1 "require_counter" (spReqSt K (aG K).C (·.cs)) := ok_reqCounter T (has_of X G c 38 rfl (fi 38 rfl)) g
  have r7 : Rd.Fn false P w K mg base CX0 1 "require_name" (spReqSt K (aG K).C (fun G => G.ts.map (·.nm))) := ok_reqName T (has_of X G c 37 rfl (fi 37 rfl)) g
  have r8 : Rd.Fn false P w K mg base CX0 1 "can_take" (spCan K) := ok_can (has_of X G c 41 rfl (fi 41 rfl)) g
  have r9 : Rd.Fn false P w K mg base CX0 2 "possible_in" (spPoss K (aG K).C (aM K)) := ok_poss T TM (has_of X G c 42 rfl (fi 42 rfl)) g r8
  have n1 : Rd.FnG false P w K mg base CX0 1 (aX K).fE (Rd.spXr (aX K).NE "counter") := ok_xiE (hasM_of c 61 rfl) TE
  have n2 : L2.FnR P w K mg base CX0 1 (aM K).fm (spMoInit (aM K).M) := ok_moinit TO (hasM_of c 59 rfl)
  have n3 := ok_behind TM TE (hasM_of c 60 rfl) g n1 n2
  have n4 := ok_mainit T TM (hasMN_of c 58 rfl) g r4 r3 r5 n2
  have g1 : L2.FnR P w K mg base CX0 1 (aM K).gg (spMgr K (aG K).C (aM K)) := ok_mgr TM (hasP_of c 46 rfl)
  have g2 : L2.FnR P w K mg base CX0 1 (aM K).gs (spMst K (aG K).C (aM K)) := ok_mst TM (hasP_of c 47 rfl)
  have g3 : L2.FnR P w K mg base CX0 1 (aM K).gl (spMld K (aG K).C (aM K)) := ok_mld TM (hasP_of c 48 rfl) g
  have g4 : L2.FnR P w K mg base CX0 1 (aM K).gn (spMsp K (aG K).C (aM K)) := ok_msp TM (hasP_of c 49 rfl) g
  have g5 : L2.FnR P w K mg base CX0 1 (aM K).gL (spMlg K (aG K).C (aM K)) := ok_mlg TM (hasP_of c 50 rfl) g
  have g6 := ok_mpo TM (hasP_of c 51 rfl) r9
  have t1 := ok_take_all T TM TE (hasM_of c 53 rfl) g r7 n3
  have t2 := ok_take TM (hasM_of c 52 rfl) t1
  have t3 := ok_mtn TM (hasM_of c 54 rfl) g r7
  have t4 := ok_mhg TM (hasM_of c 55 rfl) g r6
  have t5 := ok_mct TM (hasM_of c 56 rfl) g r9
  have t6 : L2.FnR P w K mg base CX0 1 (aM K).st (spMstr K (aG K).C (aM K)) := ok_mstr TM (hasM_of c 57 rfl) g
  have l1 : Rd.Fn true P w K mg base CX0 1 "_law_row" (spLrow K) := ok_lawrow (has_of X G c 9 rfl (fi 9 rfl)) g
  have l2 : Rd.Fn true P w K mg base CX0 1 "_law_step" (spLstep K) := ok_lawstep (has_of X G c 10 rfl (fi 10 rfl)) g
  have l3 := ok_lawbeh (has_of X G c 11 rfl (fi 11 rfl)) g l2
  have l4 := ok_lawstart (has_of X G c 13 rfl (fi 13 rfl)) g k3S
  have l5 : Rd.Fn true P w K mg base CX0 1 "_law_spot" (spLspot K) := ok_lawspot (has_of X G c 14 rfl (fi 14 rfl)) g
  have l6 : Rd.Fn true P w K mg base CX0 1 "_law_loads" (spLloads K) := ok_lawloads (has_of X G c 15 rfl (fi 15 rfl)) g
  have l7 := ok_lawposs (has_of X G c 16 rfl (fi 16 rfl)) g l3
  have l8 := ok_lawdue (has_of X G c 17 rfl (fi 17 rfl)) g l1 l2 l3
  have l9 := ok_lawname (has_of X G c 18 rfl (fi 18 rfl)) g k2 k3S l7
  have l10 : Rd.Fn true P w K mg base CX0 1 "_law_tops" (spLtops K) := ok_lawtops (has_of X G c 19 rfl (fi 19 rfl)) g
  have l11 := ok_stands TM TP TS (has_of X G c 20 rfl (fi 20 rfl)) g g2 g3 g4 g5 g6 t3 t4 t5 t6 l6 l7
  have l12 := ok_right T TM TP TE C0 g (has_of X G c 12 rfl (fi 12 rfl)) B0 m0 u0 q9 g1 n4 t2 k8 k9 l4 l5 l11 l9 l8 l10
  exact ok_law T TM TP TS TE C1 g (has_of X G c 12 rfl (fi 12 rfl)) B1 m1 u1 he g6 g3 g5 t6 t5 t4 iD q2 n4 t2 k1 l12
theorem h_walk : PySem.W.WalkO q35 loose (PySem.W.XL q35 []) hk.says R.toRowW dL [] (fun f vs => PySem.call f vs) := by
  refine Rd.walk_ofT (l := PySem.Challenge.rw_loopgrowth_k15_machines_step_by_step) (n := 63) (k := 13) rfl (by decide) h_dfl (Rd.roomG_caller ⟨rfl, by decide, by decide⟩) fun w mg fa h Y G hmg0 => ?_
  obtain ⟨K, KX, c, t⟩ := Y
  have hmg : mg ("law" : PySem.Str) = some (.ref fa) := (congrArg mg h_name).symm.trans hmg0
  refine ⟨K, codesOf K, spLaw K (tabsOf K), KX, fun p hp => ?_, fun H a ns hl hH hS => ⟨(a, ns), rfl, hS, hl, fun p hp => ?_, fun _ => rfl⟩, fun base tb => ?_⟩
  · obtain ⟨x, hx, rfl⟩ := List.mem_map.mp hp
    have q := t x hx
    exact ⟨q.2.2, q.2.1, (Hd.codeB_ok KX q.1).2⟩
  · obtain ⟨z, hz, rfl⟩ := List.mem_map.mp hp
    exact LamX.TabS.nil (hH (Hd.codeAt K z.1, Hd.tabAt K z.1) (List.mem_map_of_mem (lam_mem hz)))
  · obtain ⟨f, F, hf, _⟩ := facts (P := (PySem.Challenge.rw_loopgrowth_k15_machines_step_by_step).prog) (w := w) KX G c t base tb
    obtain rfl : f = fa := Value.ref.inj (Option.some.inj (hf.symm.trans hmg))
    exact F
theorem h_holds : R.Holds := HandSHeadRun.head_any (r := R) (q := q35) (H := hk) (ob := ob) (M := 20000) (loose := loose) (d := dL) (kwd := []) ob_eq h_open h_fence run h_def h_the h_kw (by rfl) h_said h_ok h_bare h_prom h_walk
end M
open PySem PySem.W PySem.Calls PyProof.Rows
theorem PySem.Challenge.cw_loopgrowth_k15_machines_step_by_step_holds : PySem.Challenge.rw_loopgrowth_k15_machines_step_by_step.Holds := by
  w_on; o_law
  exact M.h_holds
#print axioms PySem.Challenge.cw_loopgrowth_k15_machines_step_by_step_holds
