import PyProof.Rows.All
import Wide.All
import OpenK.AllK
import Wide.FinOn
import PySem.Challenge.RW_toldback_k14_whole_readings_in_parts
import HandS.ForMost
import HandS.ForExc
import HandS.ExcIs
import PyProof.EqAt
import PyProof.NeKinds
import HandS.SetFor
import HandS.Strs
import KE.GoesMore
import KE.GoesEnum
import KE.KDictZip
import KE.KItemsList
import KE.KTurns
import HandS.Wide
import HandS.Flow
import HandS.IsInst
import HandS.Conv
import HandS.TupAny
import HandS.SortInts
import HandS.HeadEnd
import HandS.HeadHook2
import HandS.Head2
import HandS.CallSlots
import HandS.Deep
import HandS.Style
import KE.SortData
import HandS.RaiseMore
import KE.DatumOrd
import KE.DataMinMax
import KE.KTupSum
import HandS.More
import KE.DataFind
import HandS.EndBits
import HandS.CallRecv
import HandS.Zip
import KE.KExcStr
import HandS.Codes
import HandS.Words
set_option Elab.async false
set_option linter.all false
set_option maxRecDepth 100000
set_option maxHeartbeats 4000000
set_option exponentiation.threshold 5000
namespace Tb
open PySem PySem.Spec PyProof.Rows L2
def subX (n m : Str) : Bool := decide (n = m) || decide (m = "BackError")
def mkB (K : PySem.W.Frag) (C : Addr) : Bool :=
  PySem.W.excIn K C [.type "ValueError", .type "Exception", .type "BaseException", .type "object"] "ValueError.__new__" && PySem.W.keepIn K (.ref C) && decide (PySem.W.findIn K (.ref C) "__str__" = some (some (.builtin "BaseException.__str__"))) && decide (PySem.W.subIn K (.ref C) (.type "BaseException") = some true)
def freeN : List Str := ["len", "abs", "min", "max", "sum", "sorted", "int", "str", "list", "tuple", "repr", "isinstance", "range", "enumerate", "zip", "reversed", "bool", "dict", "set", "ValueError"]
def sysB (K : PySem.W.Frag) : Bool := match K.lookup sysModules with
  | some o => decide (o.cls = .type "dict")
  | none => false
structure Xl where
  xs : List Str
  ms : List Str
  cs : List Str
def xcB (K : PySem.W.Frag) (C : Addr) : Bool :=
  decide (PySem.W.findIn K (.ref C) "__getattribute__" = some (some (.builtin "BaseException.__getattribute__"))) && decide (PySem.W.findIn K (.ref C) "__getattr__" = some none) && decide (PySem.W.subIn K (.ref C) (.type "BaseException") = some true) && PySem.W.hasDictIn K C &&
  decide (PySem.W.findIn K (.ref C) "__class__" = some (some (.builtin "object.__class__"))) && decide (PySem.W.specialIn K (.builtin "object.__class__") "__get__" = some (some (.builtin "getset_descriptor.__get__"))) && decide (PySem.W.takesIn K (.builtin "object.__class__") = some true) && decide (PySem.W.mroIn K C (.type "object") = some true) &&
  decide (PySem.W.kitOne K (.ref C) (.type "ValueError") = some true)
def excB (K : PySem.W.Frag) (e : Xl) : Bool := ((e.cs.isEmpty && e.ms.isEmpty) || e.xs.all fun n => xcB K (He.ga K n) && e.ms.all (fun m => decide (PySem.W.kitOne K (.ref (He.ga K n)) (.ref (He.ga K m)) = some (subX n m))) && e.cs.all (fun c => decide (PySem.W.exmOne K (.ref (He.ga K n)) (.ref (He.ga K c)) = some (subX n c)))) && e.ms.all (fun m => mkB K (He.ga K m))
abbrev AlT : Type := Bool × He.AlD
def obsT (n : Nat) (fa : List He.Fa) (fn : List He.DefD) (e : Xl) (g : Addr → Option Obj) : AlT := (sysB (He.frG g (sysModules :: He.asD g n)) && excB (He.frG g (sysModules :: He.asD g n)) e, He.obsD fa fn (He.frG g (sysModules :: He.asD g n)))
def hookT (n : Nat) (fa : List He.Fa) (fn : List He.DefD) (e : Xl) : PySem.W.Hook where
  α := AlT
  obs := fun s => obsT n fa fn e s.heap.get?
  val := fun _ => (true, He.valD fn)
  says := fun _ h => ∃ K : PySem.W.Frag, K.In h ∧ (sysB K && excB K e) = true ∧ He.SaysD fa fn K
  of := fun _ _ e => ⟨_, He.frG_in, congrArg Prod.fst e, congrArg Prod.snd e⟩
  keeps := fun _ _ _ ⟨K, hK, c⟩ k => ⟨K, PySem.W.Frag.In.keeps hK k, c⟩
theorem obsT_eq {n : Nat} {fa : List He.Fa} {fn : List He.DefD} {e : Xl} {g : Addr → Option Obj} {s : Shared} (h : ∀ a, g a = s.heap.get? a) : obsT n fa fn e g = (hookT n fa fn e).obs s := by
  have q : g = s.heap.get? := funext h
  rw [q] <;> rfl
def faFree : List He.Fa := freeN.map He.Fa.free
def inCls (s : Stmt) (j : Nat) : Stmt := match s with
  | .ClassDef _ _ _ b _ _ _ _ _ _ _ => b.getD j (.Pass ⟨0, 0, 0, 0⟩)
  | _ => .Pass ⟨0, 0, 0, 0⟩
end Tb
namespace K14
open PySem PySem.Spec PyProof.Rows L2 Tb
def top (i : Nat) : Stmt := PySem.Challenge.pw_toldback_k14_whole_readings_in_parts.main.body.getD i (.Pass ⟨0, 0, 0, 0⟩)
def exL : Xl := ⟨["NoReadings", "NoFraction", "NoPrime"], [], []⟩
def d__law_all_primes : He.DefD := ⟨("_law_all_primes", none), "_law_all_primes", "_law_all_primes", defArgs (top 32), defBody (top 32), defScope (top 32), [], []⟩
def d__law_pool : He.DefD := ⟨("_law_pool", none), "_law_pool", "_law_pool", defArgs (top 28), defBody (top 28), defScope (top 28), [], []⟩
def d__law_take : He.DefD := ⟨("_law_take", none), "_law_take", "_law_take", defArgs (top 29), defBody (top 29), defScope (top 29), [], []⟩
def d__law_unlike : He.DefD := ⟨("_law_unlike", none), "_law_unlike", "_law_unlike", defArgs (top 36), defBody (top 36), defScope (top 36), [], []⟩
def d__law_far : He.DefD := ⟨("_law_far", none), "_law_far", "_law_far", defArgs (top 30), defBody (top 30), defScope (top 30), [], []⟩
def d__law_number : He.DefD := ⟨("_law_number", none), "_law_number", "_law_number", defArgs (top 31), defBody (top 31), defScope (top 31), [], []⟩
def d__law_shared : He.DefD := ⟨("_law_shared", none), "_law_shared", "_law_shared", defArgs (top 34), defBody (top 34), defScope (top 34), [], []⟩
def d__law_prime : He.DefD := ⟨("_law_prime", none), "_law_prime", "_law_prime", defArgs (top 33), defBody (top 33), defScope (top 33), [], []⟩
def d__law_fraction : He.DefD := ⟨("_law_fraction", none), "_law_fraction", "_law_fraction", defArgs (top 35), defBody (top 35), defScope (top 35), [], []⟩
def d_is_whole : He.DefD := ⟨("is_whole", none), "is_whole", "is_whole", defArgs (top 8), defBody (top 8), defScope (top 8), [], []⟩
def d_is_prime : He.DefD := ⟨("is_prime", none), "is_prime", "is_prime", defArgs (top 11), defBody (top 11), defScope (top 11), [], []⟩
def d_is_reading : He.DefD := ⟨("is_reading", none), "is_reading", "is_reading", defArgs (top 18), defBody (top 18), defScope (top 18), [], []⟩
def d_is_readings : He.DefD := ⟨("is_readings", none), "is_readings", "is_readings", defArgs (top 19), defBody (top 19), defScope (top 19), [], []⟩
def d_need_readings : He.DefD := ⟨("need_readings", none), "need_readings", "need_readings", defArgs (top 20), defBody (top 20), defScope (top 20), [], []⟩
def d_turned_about : He.DefD := ⟨("turned_about", none), "turned_about", "turned_about", defArgs (top 14), defBody (top 14), defScope (top 14), [], []⟩
def d_one_rest : He.DefD := ⟨("one_rest", none), "one_rest", "one_rest", defArgs (top 24), defBody (top 24), defScope (top 24), [], []⟩
def d_put_together : He.DefD := ⟨("put_together", none), "put_together", "put_together", defArgs (top 25), defBody (top 25), defScope (top 25), [], []⟩
def d_nearest_whole : He.DefD := ⟨("nearest_whole", none), "nearest_whole", "nearest_whole", defArgs (top 26), defBody (top 26), defScope (top 26), [], []⟩
def d_shared : He.DefD := ⟨("shared", none), "shared", "shared", defArgs (top 9), defBody (top 9), defScope (top 9), [], []⟩
def d_is_fraction : He.DefD := ⟨("is_fraction", none), "is_fraction", "is_fraction", defArgs (top 10), defBody (top 10), defScope (top 10), [], []⟩
def d_need_fraction : He.DefD := ⟨("need_fraction", none), "need_fraction", "need_fraction", defArgs (top 12), defBody (top 12), defScope (top 12), [], []⟩
def d_need_prime : He.DefD := ⟨("need_prime", none), "need_prime", "need_prime", defArgs (top 13), defBody (top 13), defScope (top 13), [], []⟩
def d_rest_by : He.DefD := ⟨("rest_by", none), "rest_by", "rest_by", defArgs (top 15), defBody (top 15), defScope (top 15), [], []⟩
def d_rests_of : He.DefD := ⟨("rests_of", none), "rests_of", "rests_of", defArgs (top 17), defBody (top 17), defScope (top 17), [], []⟩
def d_keeps : He.DefD := ⟨("keeps", none), "keeps", "keeps", defArgs (top 21), defBody (top 21), defScope (top 21), [], []⟩
def d_not_kept : He.DefD := ⟨("not_kept", none), "not_kept", "not_kept", defArgs (top 22), defBody (top 22), defScope (top 22), [], []⟩
def d__law_parts_right : He.DefD := ⟨("_law_parts_right", none), "_law_parts_right", "_law_parts_right", defArgs (top 37), defBody (top 37), defScope (top 37), [], []⟩
def d_rest_of : He.DefD := ⟨("rest_of", none), "rest_of", "rest_of", defArgs (top 16), defBody (top 16), defScope (top 16), [], []⟩
def d__law_changed_right : He.DefD := ⟨("_law_changed_right", none), "_law_changed_right", "_law_changed_right", defArgs (top 38), defBody (top 38), defScope (top 38), [], []⟩
def d_law : He.DefD := ⟨("law", none), "law", "law", defArgs (top 39), defBody (top 39), defScope (top 39), [], []⟩
def fnL : List He.DefD := [d__law_all_primes, d__law_pool, d__law_take, d__law_unlike, d__law_far, d__law_number, d__law_shared, d__law_prime, d__law_fraction, d_is_whole, d_is_prime, d_is_reading, d_is_readings, d_need_readings, d_turned_about, d_one_rest, d_put_together, d_nearest_whole, d_shared, d_is_fraction, d_need_fraction, d_need_prime, d_rest_by, d_rests_of, d_keeps, d_not_kept, d__law_parts_right, d_rest_of, d__law_changed_right, d_law]
def faL : List He.Fa := faFree ++ [.glo "_law_all_primes", .glo "_law_pool", .glo "_law_take", .glo "_law_unlike", .glo "_law_far", .glo "_law_number", .glo "_law_shared", .glo "_law_prime", .glo "_law_fraction", .glo "is_whole", .glo "is_prime", .glo "is_reading", .glo "is_readings", .glo "need_readings", .glo "turned_about", .glo "one_rest", .glo "put_together", .glo "nearest_whole", .glo "shared", .glo "is_fraction", .glo "need_fraction", .glo "need_prime", .glo "rest_by", .glo "rests_of", .glo "keeps", .glo "not_kept", .glo "_law_parts_right", .glo "rest_of", .glo "_law_changed_right", .glo "law", .int "PRIMES_BELOW" 1000, .int "MOST_READINGS" 10, .glo "NoReadings", .exc "NoReadings", .glo "NoFraction", .exc "NoFraction", .glo "NoPrime", .exc "NoPrime"]
set_option maxHeartbeats 0
abbrev Rr : PySem.W.OpenRow := PySem.W.OpenLaw.row PySem.Challenge.rw_toldback_k14_whole_readings_in_parts
abbrev lo0 : List PySem.Str := ["BackError", "NoFraction", "NoPrime", "NoReadings", "PRIMES_BELOW", "MOST_READINGS", "is_whole", "shared", "is_fraction", "is_prime", "need_fraction", "need_prime", "turned_about", "rest_by", "rest_of", "rests_of", "is_reading", "is_readings", "need_readings", "keeps", "not_kept", "one_rest", "put_together", "nearest_whole", "_law_pool", "_law_take", "_law_far", "_law_number", "_law_all_primes", "_law_prime"]
abbrev lo1 : List PySem.Str := ["_law_shared", "_law_fraction", "_law_unlike", "_law_parts_right", "_law_changed_right"]
abbrev loose : List PySem.Str := lo0 ++ lo1
abbrev hk : PySem.W.Hook := hookT 4 faL fnL exL
def ob (s : PySem.W.SharedT) : AlT := obsT 4 faL fnL exL (HandSHeadRun.getT s)
theorem ob_eq (s : PySem.W.SharedT) : ob s = hk.obs s.abs := obsT_eq (HandSHeadRun.getT_eq s)
theorem run (w : World) : HandSHeadRun.RunEq Rr (PySem.W.view Rr.prog [39]) hk ob 12000 loose w := by
  intro os
  kernel_rfl
end K14
set_option maxHeartbeats 4000000
namespace Tb
open PySem PySem.Spec PyProof.Rows L2
/-! ### a caught exception that is kept -/
/-- an exception that was caught -/
def ExK (cls : Value) (a : Addr) : HO := .ext fun h => ∃ (oe : Obj) (vs : Array Value), h.get? a = some oe ∧ Zc cls none oe ∧ oe.data = .fields vs
theorem exK_ok {P : Program} {w : World} {H : Hp} {h : Heap} {a : Addr} {cls : Value} {oe : Obj} {vs : Array Value} (e : h.get? a = some oe) (z : Zc cls none oe) (d : oe.data = .fields vs) : ObjOk P w H h a (ExK cls a) :=
  ⟨⟨oe, vs, e, z, d⟩, ⟨oe, e⟩, fun _ _ ⟨o, v, q, r⟩ k => ⟨o, v, k o q, r⟩⟩
section
variable {X : Cx} {pins : List (Addr × Obj)} {σ : L2.St} {H : Hp} {s : Shared} {a : Addr}
/-- it is tracked from now on -/
theorem trackX {oe : Obj} {vs : Array Value} {cls : Value} (I : Inv X pins σ H s) (he : s.heap.get? a = some oe) (hz : Zc cls none oe) (hd : oe.data = .fields vs) (hn : H a = none) (h0 : X.s_0.heap.get? a = none) (np : ∀ p ∈ X.pn ++ pins, p.1 ≠ a)
    (nL : X.env.locals ≠ a) (nc : ∀ x c, X.env.cells.lookup x = some c → c ≠ a) : Inv X pins σ (upd H a (ExK cls a)) s where
  ok := I.ok
  os := I.os
  bare := I.bare
  base := ⟨I.base.keep, I.base.slot, fun b o e n hx => by rw [upd_ne (fun q => by rw [q, h0] at e; cases e)]; exact I.base.free b o e n hx, I.base.there,
    fun b xs e => by have z := I.base.tups b xs e; rw [upd_ne (ne_of_none z hn)]; exact z, fun b o u e => by have z := I.base.frzs b o u e; rw [upd_ne (ne_of_none z hn)]; exact z,
    fun b ps e => by obtain ⟨m, z⟩ := I.base.tbls b ps e; exact ⟨m, by rw [upd_ne (ne_of_none z hn)]; exact z⟩⟩
  loc := I.loc
  cell := I.cell
  free := by rw [upd_ne nL]; exact I.free
  freeC := fun x c e => by rw [upd_ne (nc x c e)]; exact I.freeC x c e
  pin := fun p hp => by
    obtain ⟨e1, e2, e3⟩ := I.pin p hp
    exact ⟨e1, by rw [upd_ne (np p hp)]; exact e2, e3⟩
  hok := fun b u e => by
    by_cases hb : b = a
    · subst hb
      rw [upd_same] at e
      cases e
      exact exK_ok he hz hd
    · rw [upd_ne hb] at e
      exact (I.hok b u e).stay (fun c v _ q => q) (fun c q => by rw [upd_ne (ne_of_none q hn)]; exact q) fun c xs q => by rw [upd_ne (ne_of_none q hn)]; exact q
  len := I.len
end
/-- what 'except x as n: y = n' wishes of an exception of the body: n in slot i, y in slot j -/
def wKeep (K : PySem.W.Frag) (c : Value) (i j : Nat) (Wout : WX) (D : Ends) : WX := fun cls d σ H =>
  ∃ b, PySem.W.exmOne K cls c = some b ∧ (b = true → d = none ∧ ∀ a, H a = none → D.nx (((σ.set i (some (.ref a))).set j (some (.ref a))).set i none) (upd H a (ExK cls a))) ∧ (b = false → Wout cls d σ H)
section
variable {X : Cx} {x n y : Str} {c : Value} {i j : Nat} {body : List Stmt} {np pv pa py pos pos' : Pos} {tb : WX → TS} {Wout : WX}
theorem ps_try_keep (hs : X.stack = X.env :: X.outer) (hf : X.env.frame = some X.env.locals) (hx : X.ex = []) (hN : X.N.Nodup) (hi : X.N[i]? = some n) (hln : X.env.kindOf n = some .local) (hj : X.N[j]? = some y) (hly : X.env.kindOf y = some .local) (hnn : (n == ("__debug__" : Str)) = false ∧ (n == ("__classdict__" : Str)) = false) (hc : Names X x c) (tk : Takes X Wout)
    (hb : ∀ (W : WX) (pn : List (Addr × Obj)) (xe : Value → Shared → Prop), Takes (X.tr pn xe) W → PassesOwn (model X.prog X.w) X.A X.env xe → PSs (X.tr pn xe) body (tb W)) :
    PS X (.Try body [.ExceptHandler (some (.Name x np)) (some n) [.Assign [.Name y py] (.Name n pv) pa] pos'] [] [] pos) (fun D σ H => tb (wKeep X.K c i j Wout D) D σ H) := by
  refine ⟨fun pins s σ H D I h => ?_⟩
  have ok := I.ok
  have hfr : X.A.frames = some (X.env :: X.outer) := by rw [ok.frames, hs]
  have hloc : Loc X.env.scope n := .inl hln
  refine wpAny_Try_except (wpAny_mono ((hb (wKeep X.K c i j Wout D) (X.pn ++ pins) (fun e s₁ => wpAny (model X.prog X.w) X.A (noteFrame e X.env) (fun _ s₂ => wpAny (model X.prog X.w) X.A (setFlight e none) (fun _ s₃ =>
    wpAny (model X.prog X.w) X.A (handleBy e X.env [.ExceptHandler (some (.Name x np)) (some n) [.Assign [.Name y py] (.Name n pv) pa] pos']) (SP X pins D) X.xe s₃) X.xe s₂) X.xe s₁) (fun u s' xx => ?_) PassesOwn.looking).run [] s σ H D (I.toTry _) h) (fun f s1 hsp => ?_) (fun e s1 he => he))
  · obtain ⟨a, B, sI, pins', σ', H', cls, d, rfl, J', nb, up, sky, na, os, ag, b, hb1, hyes, hno⟩ := xx
    have J : Inv X pins σ' H' sI := J'.ofTry ok
    have sky' : Sky B (X.env :: X.outer) a (Zc cls d) X.env.locals s'.heap := by rw [← hs]; exact sky
    show wpAny (model X.prog X.w) X.A (noteFrame (.ref a) X.env) _ _ _
    refine Sky.land Zc.steady hfr hf sky' fun h3 fl3 up3 => ?_
    have J3 : Inv X pins σ' H' { s' with heap := h3 } := J.landed nb fl3.1 (up.trans up3) os ag
    obtain ⟨oe3, vs3, he3, hz3, hd3⟩ := fl3.there
    have nfr : a ∉ frs (X.env :: X.outer) := fun hm => by
      obtain ⟨_, o', e', hnf⟩ := fl3.2.2.1.mem hm
      rw [he3] at e'; cases e'
      exact hnf _ hd3
    have nL : a ≠ X.env.locals := fun z => nfr (List.mem_filterMap.mpr ⟨X.env, List.mem_cons_self, by rw [hf, z]⟩)
    have nF : a ∉ X.fs := fun hm => by
      obtain ⟨e, he, q⟩ := List.mem_filterMap.mp hm
      exact nfr (List.mem_filterMap.mpr ⟨e, List.mem_cons_of_mem _ he, q⟩)
    have new : sI.heap.get? a = none := by
      cases q : sI.heap.get? a with
      | none => rfl
      | some o =>
        have z := nb a o q (by rw [hs]; exact nfr)
        rw [fl3.2.1] at z; cases z
    have S3 := J3.suite he3 hd3 na nL nF
    refine wpAny_handleBy_cons (codeAny_handlers_test ?_) (by intro q; cases q)
    have LT : PySem.W.Looks (model X.prog X.w) h3 (typeOf (.ref a)) cls := fun A Q E s k q => wpAny_typeOf_ref (k _ _ he3) (by rw [hz3.1]; exact q)
    have LM := PySem.W.exm_one (M := model X.prog X.w) (J3.kIn) LT hb1
    have test : ∀ {Q : Value → Shared → Prop} {E : Value → Shared → Prop}, Q c { s' with heap := h3 } → wpAny (model X.prog X.w) (X.A.mark (some (.ref a))) (eval (.Name x np) X.env) Q E { s' with heap := h3 } := fun {Q E} q => by
      obtain ⟨hg, hdbg, hm | ⟨hm, hv, hnn⟩⟩ := hc
      · exact ld_glob (X := X.suite a ((a, oe3) :: (X.pn ++ pins))) S3 hg hm q hdbg
      · exact ld_blt (X := X.suite a ((a, oe3) :: (X.pn ++ pins))) S3 hg hm hv q hnn hdbg
    refine test (LM.here ?_)
    cases b with
    | true =>
      obtain ⟨rfl, fin⟩ := hyes rfl
      refine codeAny_handlers_suite_as ?_
      refine HandSPX.lands_againZ fl3 fun h4 fl4 up4 => ?_
      have J4 : Inv X pins σ' H' { s' with heap := h4 } := J.landed nb fl4.1 ((up.trans up3).trans up4) os ag
      obtain ⟨oe4, vs4, he4, hz4, hd4⟩ := fl4.there
      have S4 := J4.suite he4 hd4 na nL nF
      refine store_ok (X := X.suite a ((a, oe4) :: (X.pn ++ pins))) (v := .ref a) S4 hN hi hloc rfl (fun s5 S5 => ?_) (.inr hln)
      have suite : PSs (X.suite a ((a, oe4) :: (X.pn ++ pins))) [.Assign [.Name y py] (.Name n pv) pa] _ := pss_cons (ps_asg (pe_var (i := i) hi (.inl hln) hnn.1 hnn.2) (pg_name (i := j) hN hj (.inl hly) (.inr hly))) pss_nil
      have hlen : i < σ'.length := by rw [J.len]; exact (List.getElem?_eq_some_iff.mp hi).1
      refine wpAny_mono (suite.run [] s5 (σ'.set i (some (.ref a))) H' ⟨fun σ6 H6 => σ6 = (σ'.set i (some (.ref a))).set j (some (.ref a)) ∧ H6 = H', fun _ _ => False, fun _ _ => False, fun _ _ => False⟩ S5 ?_) (fun f s6 hsp => ?_) (fun _ _ z => False.elim z)
      · exact ⟨.ref a, List.getElem?_set_self hlen, rfl, rfl⟩
      · cases f with
        | next =>
          obtain ⟨σ6, H6, S6, rfl, rfl⟩ := hsp
          refine gone_ok (X := X.suite a ((a, oe4) :: (X.pn ++ pins))) S6 hN hi hln fun s7 S7 => ?_
          have J7 : Inv X pins _ _ s7 := S7.unsuite ok
          obtain ⟨g7, _⟩ := S7.pin (a, oe4) (List.mem_append.mpr (.inl List.mem_cons_self))
          refine ⟨_, _, trackX J7 g7 hz4 hd4 na ?_ ?_ (Ne.symm nL) ?_, fin a na⟩
          · cases q : X.s_0.heap.get? a with
            | none => rfl
            | some o =>
              obtain ⟨o', z⟩ := J.base.there a o q (by rw [hx]; exact List.not_mem_nil)
              rw [new] at z; cases z
          · intro p hp z
            have := (J.pin p hp).1
            rw [z, new] at this; cases this
          · intro x' c' e z
            obtain ⟨v, q⟩ := J.cell x' c' e
            rw [z] at q
            obtain ⟨o, q1, _⟩ := q
            rw [new] at q1; cases q1
        | brk => exact absurd hsp (fun ⟨_, _, _, z⟩ => z)
        | cont => exact absurd hsp (fun ⟨_, _, _, z⟩ => z)
        | ret u => exact absurd hsp (fun ⟨_, _, _, _, _, z⟩ => z)
    | false =>
      show wpAny _ X.A (handleBy (.ref a) X.env []) _ _ _
      refine wpAny_handleBy_nil ?_
      obtain ⟨k1, k2, k3, oe, vs, T, oT, ts', he, hz, hd, h1, hr⟩ := id fl3
      unfold PySem.passOn
      refine wpAny_bind (wpAny_field he hd h1 ?_)
      rw [if_neg (show ¬ ((Value.ref T == Value.none) = true) from by simp)]
      have fin : wpAny (model X.prog X.w) X.A (setFlight (.ref a) X.env.frame) (fun _ s4 => wpAny (model X.prog X.w) X.A (throw (.ref a) : Sem Flow) (SP X pins D) X.xe s4) X.xe { s' with heap := h3 } := by
        rw [hf]
        refine HandSPX.setFlight_upZ fl3 fun h4 hh4 up4 => wpAny_throw (tk _ _ ?_)
        exact ⟨a, B, sI, pins, σ', H', cls, d, rfl, J, nb, (up.trans up3).trans up4, .inr (.inr (by rw [hs]; exact hh4)), na, os, ag, hno rfl⟩
      first
        | exact wpAny_bind (wpAny_pure (wpAny_bind fin))
        | exact wpAny_bind fin
  · cases f with
    | next =>
      obtain ⟨σ', H', J', q⟩ := hsp
      exact wpAny_execs_nil ⟨σ', H', J'.ofTry ok, q⟩
    | brk =>
      obtain ⟨σ', H', J', q⟩ := hsp
      exact ⟨σ', H', J'.ofTry ok, q⟩
    | cont =>
      obtain ⟨σ', H', J', q⟩ := hsp
      exact ⟨σ', H', J'.ofTry ok, q⟩
    | ret u =>
      obtain ⟨v, σ', H', J', r, q⟩ := hsp
      exact ⟨v, σ', H', J'.ofTry ok, r, q⟩
end
/-! ### a set of a list's numbers -/
/-- an empty set, just made -/
abbrev set0 (w : World) : Obj := ⟨.type "set", none, .set #[] 0 (.fresh 0 0 (!w.params.followText "set-order")), #[]⟩
section
variable {P : Program} {w : World} {A : Around} {E : Value → Shared → Prop} {s : Shared}
theorem set_of_list {l : Addr} {its : Array Value} (ns : List Int) {Q : Value → Shared → Prop} (ha : A.handled = none) (il : s.heap.IsList l its) (ii : IntsAre its.toList ns) (room : ns.length + 1 < scanBound)
    (fin : ∀ (g : Heap) (tk c : Nat), SetR w g s.heap.objs.size (fun j => decide (j ∈ ns)) c → c ≤ ns.length → (∀ b o, s.heap.get? b = some o → g.get? b = some o) → Q (.ref s.heap.objs.size) { s with heap := g, toks := tk }) :
    wpAny (model P w) A (call (.type "set") [.ref l]) Q E s := by
  have size : its.size = ns.length := by rw [← Array.length_toList]; exact IntsAre.length ii
  have mro := F.called_set.mro
  obtain ⟨m1, m2, mro⟩ := mro
  have mk := F.called_set.made
  have sb := F.called_set.sub
  refine wpAny_call (codeAny_of_tree ?_)
  show wpAny _ _ (callAny (.type "set") ⟨[.ref l], []⟩) _ _ s
  refine wpAny_pure ⟨Code.quiet_builtin _ (by decide +kernel), codeAny_builtin F.entry_type_call ?_⟩
  rw [Around.under_plain (weight_type_call_type "set" [.ref l] []) rfl]
  have t1 := F.called_set.notType
  have t2 := F.called_set.canCreate
  have t3 := F.typeCall_set_1 (.ref l)
  repeat any_goals first | assumption | wp_step
  let S := s.heap.objs.size
  let s0 : Shared := { s with heap := s.heap.push (set0 w) }
  have got : s0.heap.get? S = some (set0 w) := Heap.get?_push_size _ rfl
  refine codeAny_mono (code_set_led1 (.ref l) (E := E) (Q₁ := fun r s' => r = .ref S ∧ s' = s0) ⟨rfl, rfl⟩) fun r s' post => ?_
  match r, post with
  | .error e, post => exact post
  | .ok .next, post => exact post.elim
  | .ok .brk, post => exact post.elim
  | .ok .cont, post => exact post.elim
  | .ok (.ret _), ⟨e1, e2⟩ =>
    subst e2
    cases e1
    have ty : Shared.TypeIs s0 (.ref S) "set" := ⟨_, got, rfl⟩
    have i1 := F.called_set.init.lookup
    have i2 := F.called_set.init.bind (.ref S)
    repeat any_goals first | assumption | wp_step
    let after : Value → Shared → Prop := fun r s' => r = .none ∧ ∃ g tk c, s' = { s with heap := g, toks := tk } ∧ SetR w g S (fun j => decide (j ∈ ns)) c ∧ c ≤ ns.length ∧ ∀ b o, s.heap.get? b = some o → g.get? b = some o
    refine codeAny_mono (codeAny_call_builtin (R := wants after E) F.called_set.init.plain F.entry_set_init (check_set_init_1 ty ?_)) fun r s' post => ?_
    · obtain ⟨⟨k1, k2, k3, k4⟩, hol, kc, nl, kd⟩ := il
      cases kc
      cases kd
      have look : s0.heap.get? l = some ⟨.type "list", k2, .seq its nl, k4⟩ := Heap.get?_push_of_some _ hol
      have z1 := F.sub_list_set
      have z2 := F.sub_list_frozenset
      have z3 : (Value.type "list" == Value.type "dict") = false := by decide
      have isl : s0.heap.IsList l its := ⟨_, look, rfl, nl, rfl⟩
      unfold Builtin.«set.__init__»
      unfold noKeywords Builtin.Frozenset.updateFrom
      generalize walkIt : pyIter = it
      wp_walk
      subst walkIt
      refine wpAny_pyIter_list isl (wpAny_bind (wpAny_runValue ?_))
      have below : l < S := Heap.lt_size hol
      have h3 : A.in1.in1.in1.handled = none := by simp [ha]
      have sz : s0.heap.objs.size = s.heap.objs.size + 1 := Heap.size_push ..
      have below : l < s.heap.objs.size := below
      have off : l ≠ s0.heap.objs.size := by rw [sz]; exact Nat.ne_of_lt (Nat.lt_succ_of_lt below)
      have apart : s.heap.objs.size ∉ [s0.heap.objs.size, l] := by
        rw [sz, List.mem_cons, List.mem_singleton, not_or]
        exact ⟨Nat.ne_of_lt (Nat.lt_succ_self _), (Nat.ne_of_lt below).symm⟩
      refine set_update_ints ((Walks.list h3 _ l off its).toS) S apart ns size room (fun i v hv => ?_) (its.size - 0) 0 _ (by omega) (Nat.zero_le _) ⟨⟨_, Heap.get?_push_size _ rfl, rfl, rfl⟩, isl.push _⟩ ⟨0, Nat.le_refl 0, setR_new_at (Heap.get?_push_of_some _ got)⟩ fun t c mv hc R => ?_
      · have hi : i < ns.length := by rw [← size]; exact (Array.getElem?_eq_some_iff.mp hv).1
        obtain ⟨t, e⟩ := PyProof.Rows.IntsAre.int_at ii i v (by rw [Array.getElem?_toList]; exact hv)
        exact ⟨ns[i], t, List.getElem?_eq_getElem hi, by rw [e]; simp [List.getD_eq_getElem?_getD, List.getElem?_eq_getElem hi]⟩
      · obtain ⟨g, gs, dr, tk, os⟩ := t
        obtain rfl : gs = s.gens := mv.gens
        obtain rfl : dr = s.drawn := mv.drawn
        obtain rfl : os = s.os := mv.os
        refine wpAny_pure (wpAny_pure ⟨rfl, g, tk, c, rfl, R, by omega, fun b o e => ?_⟩)
        have q : b < s.heap.objs.size := Heap.lt_size e
        exact mv.heap b o (by show b ∉ [s.heap.objs.size, s0.heap.objs.size]; rw [sz, List.mem_cons, List.mem_singleton, not_or]; exact ⟨Nat.ne_of_lt q, Nat.ne_of_lt (Nat.lt_succ_of_lt q)⟩) (Heap.get?_push_of_some _ (Heap.get?_push_of_some _ e))
    · match r, post with
      | .error e, post => exact post
      | .ok .next, post => exact post.elim
      | .ok .brk, post => exact post.elim
      | .ok .cont, post => exact post.elim
      | .ok (.ret _), ⟨e3, g, tk, c, e4, p1, p2, p3⟩ =>
        subst e4
        cases e3
        repeat any_goals first | assumption | wp_step
        exact fin g tk c p1 p2 p3
end
end Tb
/-! list(zip(xs, ys)): a new list of new pairs. -/
namespace LZ
open PySem PySem.Calls PyProof.Rows PyProof.V PySem.Spec
structure ZlG (xs ys : Array Value) (lo : Addr) (h : Heap) (as : List Addr) : Prop where
  rise : as.Pairwise (· < ·)
  above : ∀ a ∈ as, lo < a
  pairs : ∀ (j : Nat) (a : Addr), as[j]? = some a → ∃ x y, xs[j]? = some x ∧ ys[j]? = some y ∧ h.get? a = some { cls := .type "tuple", data := .seq #[x, y] }
theorem ZlG.there {xs ys : Array Value} {lo : Addr} {h : Heap} {as : List Addr} (g : ZlG xs ys lo h as) {a : Addr} (ha : a ∈ as) : a < h.objs.size := by
  obtain ⟨j, hj⟩ := List.mem_iff_getElem?.mp ha
  obtain ⟨_, _, _, _, e⟩ := g.pairs j a hj
  exact Heap.lt_size e
def ZlSt (h : Heap) (z TI TO i1 i2 l1 l2 S : Addr) (xs ys : Array Value) (i : Nat) : Prop :=
  IsPair h TI (.ref i1) (.ref i2) ∧ h.IsListIter i1 l1 i ∧ h.IsListIter i2 l2 i ∧ h.IsList l1 xs ∧ h.IsList l2 ys ∧
    ((IsZip h z TI TO .none ∧ ∃ a b, IsPair h TO a b) ∨ ∃ T f oT, IsZipHeld h z TI TO T f ∧ h.get? T = some oT ∧ T ≠ z ∧ T ≠ i1 ∧ T ≠ i2 ∧ T ≠ S)
section
variable {prog : Program} {w : World} {A : Around} {E : Value → Shared → Prop} {s : Shared} {z TI TO i1 i2 l1 l2 S : Addr} {xs ys : Array Value}
theorem ZlSt.frame {h h' : Heap} {i : Nat} (hlt : ∀ b ∈ [z, TI, TO, i1, i2, l1, l2], b < S) (st : ZlSt h z TI TO i1 i2 l1 l2 S xs ys i) (hk : ∀ b o, b ≠ S → h.get? b = some o → h'.get? b = some o) : ZlSt h' z TI TO i1 i2 l1 l2 S xs ys i := by
  have ne : ∀ b ∈ [z, TI, TO, i1, i2, l1, l2], b ≠ S := fun b hb => Nat.ne_of_lt (hlt b hb)
  have nz := ne z (by simp)
  have nTI := ne TI (by simp)
  have nTO := ne TO (by simp)
  have n1 := ne i1 (by simp)
  have n2 := ne i2 (by simp)
  have nl1 := ne l1 (by simp)
  have nl2 := ne l2 (by simp)
  obtain ⟨hTI, h1, h2, hl1, hl2, hz⟩ := st
  refine ⟨hk _ _ nTI hTI, h1.at fun o e => hk _ o n1 e, h2.at fun o e => hk _ o n2 e, hl1.at fun o e => hk _ o nl1 e, hl2.at fun o e => hk _ o nl2 e, ?_⟩
  rcases hz with ⟨hz, a, b, hTO⟩ | ⟨T, f, oT, hz, hT, r1, r2, r3, r4⟩
  · exact .inl ⟨hk _ _ nz hz, a, b, hk _ _ nTO hTO⟩
  · exact .inr ⟨T, f, oT, hk _ _ nz hz, hk _ _ r4 hT, r1, r2, r3, r4⟩
theorem zl_item {i : Nat} {Q : Option Value → Shared → Prop} (D : ZipApart z TI TO i1 i2 l1 l2) (st : ZlSt s.heap z TI TO i1 i2 l1 l2 S xs ys i) (hS : S < s.heap.objs.size) (hi : i < min xs.size ys.size)
    (hQ : ∀ h' x y, xs[i]? = some x → ys[i]? = some y → ZlSt h' z TI TO i1 i2 l1 l2 S xs ys (i + 1) → h'.get? s.heap.objs.size = some { cls := .type "tuple", data := .seq #[x, y] } → h'.objs.size = s.heap.objs.size + 1 →
      (∀ b o, b ∉ [z, TO, i1, i2] → s.heap.get? b = some o → h'.get? b = some o) → Q (some (.ref s.heap.objs.size)) { s with heap := h' }) :
    wpAny (model prog w) A (pyNext (.ref z)) Q E s := by
  obtain ⟨hTI, h1, h2, hl1, hl2, hz⟩ := st
  have hix : i < xs.size := Nat.lt_of_lt_of_le hi (Nat.min_le_left ..)
  have hiy : i < ys.size := Nat.lt_of_lt_of_le hi (Nat.min_le_right ..)
  have ex := Array.getElem?_eq_getElem hix
  have ey := Array.getElem?_eq_getElem hiy
  have lt : ∀ {c o}, s.heap.get? c = some o → s.heap.objs.size ≠ c := fun e => Nat.ne_of_gt (Heap.lt_size e)
  have n1 : s.heap.objs.size ≠ i1 := let ⟨_, e, _⟩ := h1; lt e
  have n2 : s.heap.objs.size ≠ i2 := let ⟨_, e, _⟩ := h2; lt e
  rcases hz with ⟨hz, a, b, hTO⟩ | ⟨T, f, oT, hz, hT, r1, r2, r3, r4⟩
  · refine wpAny_pyNext_zip_item D hz hTI hTO h1 h2 hl1 hl2 ex ey fun h' a1 a2 a3 a4 a5 a6 hk => ?_
    exact hQ h' _ _ ex ey
      ⟨hk _ _ D.TIz D.TITO D.TIi1 D.TIi2 hTI, a3, a4, hl1.at fun o e => hk _ o D.l1z D.l1TO D.l1i1 D.l1i2 e, hl2.at fun o e => hk _ o D.l2z D.l2TO D.l2i1 D.l2i2 e,
        .inr ⟨s.heap.objs.size, false, _, a1, a5, lt hz, n1, n2, Nat.ne_of_gt hS⟩⟩ a5 a6
      fun c o hc e => hk c o (fun x => hc (by simp [x])) (fun x => hc (by simp [x])) (fun x => hc (by simp [x])) (fun x => hc (by simp [x])) e
  · refine wpAny_pyNext_zip_item_held D hz hT hTI h1 h2 hl1 hl2 ex ey fun h' a1 a3 a4 a5 a6 hk => ?_
    exact hQ h' _ _ ex ey
      ⟨hk _ _ D.TIz D.TIi1 D.TIi2 hTI, a3, a4, hl1.at fun o e => hk _ o D.l1z D.l1i1 D.l1i2 e, hl2.at fun o e => hk _ o D.l2z D.l2i1 D.l2i2 e,
        .inr ⟨T, true, oT, a1, hk _ _ r1 r2 r3 hT, r1, r2, r3, r4⟩⟩ a5 a6
      fun c o hc e => hk c o (fun x => hc (by simp [x])) (fun x => hc (by simp [x])) (fun x => hc (by simp [x])) e
theorem zl_done {Q : Option Value → Shared → Prop} (hA : A.handled = none) (D : ZipApart z TI TO i1 i2 l1 l2) (st : ZlSt s.heap z TI TO i1 i2 l1 l2 S xs ys (min xs.size ys.size))
    (hQ : ∀ h', (∀ b o, b ∉ [z, TO, i1, i2] → s.heap.get? b = some o → h'.get? b = some o) → Q none { s with heap := h' }) :
    wpAny (model prog w) A (pyNext (.ref z)) Q E s := by
  obtain ⟨hTI, h1, h2, hl1, hl2, hz⟩ := st
  have hend : xs[min xs.size ys.size]? = none ∨ ys[min xs.size ys.size]? = none := by
    rcases Nat.le_total xs.size ys.size with h | h
    · exact .inl (Array.getElem?_eq_none (by rw [Nat.min_eq_left h]; exact Nat.le_refl _))
    · exact .inr (Array.getElem?_eq_none (by rw [Nat.min_eq_right h]; exact Nat.le_refl _))
  rcases hz with ⟨hz, a, b, hTO⟩ | ⟨T, f, oT, hz, hT, r1, r2, r3, r4⟩
  · exact wpAny_pyNext_zip_end hA D hz hTI hTO h1 h2 hl1 hl2 hend fun h' hk => hQ h' fun c o hc e => hk c o (fun x => hc (by simp [x])) (fun x => hc (by simp [x])) (fun x => hc (by simp [x])) (fun x => hc (by simp [x])) e
  · exact wpAny_pyNext_zip_end_held hA D hz hT hTI h1 h2 hl1 hl2 hend fun h' hk => hQ h' fun c o hc e => hk c o (fun x => hc (by simp [x])) (fun x => hc (by simp [x])) (fun x => hc (by simp [x])) e
end
theorem nolen_zip : typeLookup (.type "zip") "__len__" = pure none := am_miss_of_fast (by decide +kernel)
theorem nohint_zip : typeLookup (.type "zip") "__length_hint__" = pure none := am_miss_of_fast (by decide +kernel)
section
variable {prog : Program} {w : World} {A : Around} {E : Value → Shared → Prop} {s : Shared} {r : Addr}
theorem zl_hint (hT : s.TypeIs (.ref r) "zip") {Q : Bool → Shared → Prop} (h : Q true s) : wpAny (model prog w) A (Builtin.List.listLengthHint (.ref r)) Q E s := by
  unfold Builtin.List.listLengthHint
  refine wpAny_bind (wpAny_specialOf hT nolen_zip ?_)
  show wpAny _ A (specialOf (Value.ref r) (Str.ofString "__length_hint__") >>= _) _ _ _
  refine wpAny_bind (wpAny_specialOf hT nohint_zip ?_)
  exact wpAny_pure h
end
section
variable {prog : Program} {w : World} {A : Around} {s : Shared} {R : Result → Shared → Prop} {z TI TO i1 i2 l1 l2 S : Addr} {xs ys : Array Value}
theorem zl_loop (hh : A.handled = none) (D : ZipApart z TI TO i1 i2 l1 l2) (hlt : ∀ b ∈ [z, TI, TO, i1, i2, l1, l2], b < S) (hn : min xs.size ys.size ≤ sizeLine) (res : Value) {h₁ : Heap}
    (hR : ∀ h' tk acc c as, (∀ b o, b ≠ S → b ∉ [z, TO, i1, i2] → h₁.get? b = some o → h'.get? b = some o) → h'.get? S = some { cls := .type "list", dict := none, data := .seq acc c, slots := #[] } → as.length = min xs.size ys.size → ZlG xs ys S h' as →
      acc.toList = as.map Value.ref → R (.ok (.ret res)) { s with heap := h', toks := tk }) :
    ∀ (k i : Nat) (h : Heap) (tk c : Nat) (acc : Array Value) (as : List Addr), min xs.size ys.size - i = k → i ≤ min xs.size ys.size → ZlSt h z TI TO i1 i2 l1 l2 S xs ys i → (∀ b o, b ≠ S → b ∉ [z, TO, i1, i2] → h₁.get? b = some o → h.get? b = some o) →
      h.get? S = some { cls := .type "list", dict := none, data := .seq acc c, slots := #[] } → acc.toList = as.map Value.ref → as.length = i → ZlG xs ys S h as →
      codeAny (model prog w) A (.builtin "list.extend.loop" ⟨[.ref S, .ref z, res], []⟩) R { s with heap := h, toks := tk } := by
  have nS : ∀ b ∈ [z, TO, i1, i2], b < S := fun b hb => hlt b (by simp at hb ⊢; rcases hb with e | e | e | e <;> simp [e])
  have hSw : S ∉ [z, TO, i1, i2] := fun h => Nat.lt_irrefl _ (nS S h)
  intro k
  induction k with
  | zero =>
    intro i h tk c acc as hk hi hst hkeep hS hacc hal hG
    have hin : i = min xs.size ys.size := by omega
    refine codeAny_builtin PySem.F.entry_extend_loop ?_
    rw [Around.under_plainId PySem.F.plain_extend_loop _]
    show wpAny _ A.in1 (pyNext (.ref z) >>= _) _ _ _
    subst hin
    refine wpAny_bind (zl_done (s := { s with heap := h, toks := tk }) (A := A.in1) hh D hst fun h' he => ?_)
    refine wpAny_pure (hR h' tk acc c as (fun b o h1 h2 e => he b o h2 (hkeep b o h1 h2 e)) (he S _ hSw hS) hal ⟨hG.rise, hG.above, fun j a hj => ?_⟩ hacc)
    obtain ⟨x, y, e1, e2, e3⟩ := hG.pairs j a hj
    exact ⟨x, y, e1, e2, he a _ (fun hm => Nat.lt_irrefl _ (Nat.lt_trans (nS a hm) (hG.above a (List.mem_of_getElem? hj)))) e3⟩
  | succ k ih =>
    intro i h tk c acc as hk hi hst hkeep hS hacc hal hG
    have hlt' : i < min xs.size ys.size := by omega
    have hsz : acc.size = i := by rw [← Array.length_toList, hacc, List.length_map, hal]
    refine codeAny_builtin PySem.F.entry_extend_loop ?_
    rw [Around.under_plainId PySem.F.plain_extend_loop _]
    show wpAny _ A.in1 (pyNext (.ref z) >>= _) _ _ _
    refine wpAny_bind (zl_item (s := { s with heap := h, toks := tk }) D hst (Heap.lt_size hS) hlt' fun h' x y ex ey hst' ht hz hkp => ?_)
    dsimp only at ht hz hkp ⊢
    have hS' := hkp S _ hSw hS
    have up : ∀ b o, b ≠ S → h'.get? b = some o → (h'.update S (Obj.mapSeq (·.push (Value.ref h.objs.size)))).get? b = some o := fun b o hb e => (Heap.get?_update_other _ _ (Ne.symm hb)).trans e
    have hSl : S < h.objs.size := Heap.lt_size hS
    show wpAny _ A.in1 (updateSeq S (·.push (Value.ref h.objs.size)) >>= _) _ _ _
    refine wpAny_bind ?_
    refine wpAny_updateSeq hS' rfl (wpAny_pure ⟨plainId_quiet PySem.F.plain_extend_loop _, ih (i + 1) _ tk _ (acc.push (Value.ref h.objs.size)) (as ++ [h.objs.size]) (by omega) hlt' (hst'.frame hlt up)
      (fun b o h1 h2 e => up b o h1 (hkp b o h2 (hkeep b o h1 h2 e))) (Heap.get?_update_self _ hS' rfl) (by rw [Array.toList_push, hacc, List.map_append]; rfl) (by rw [List.length_append, hal]; rfl) ⟨?_, ?_, ?_⟩⟩) (by rw [hsz]; omega) (by show (acc.push (Value.ref h.objs.size)).size ≤ sizeLine + 1; rw [Array.size_push, hsz]; omega)
    · refine List.pairwise_append.mpr ⟨hG.rise, List.pairwise_singleton _ _, fun a ha b hb => ?_⟩
      rw [List.mem_singleton.mp hb]
      exact hG.there ha
    · intro a ha
      rcases List.mem_append.mp ha with ha | ha
      · exact hG.above a ha
      · rw [List.mem_singleton.mp ha]; exact hSl
    · intro j b hj
      rcases Nat.lt_trichotomy j as.length with h1 | h1 | h1
      · rw [List.getElem?_append_left h1] at hj
        obtain ⟨x', y', e1, e2, e3⟩ := hG.pairs j b hj
        have hb := hG.above b (List.mem_of_getElem? hj)
        exact ⟨x', y', e1, e2, up b _ (Nat.ne_of_gt hb) (hkp b _ (fun hm => Nat.lt_irrefl _ (Nat.lt_trans (nS b hm) hb)) e3)⟩
      · subst h1
        have hb : h.objs.size = b := by simpa using hj
        subst hb
        subst hal
        exact ⟨x, y, ex, ey, up _ _ (Nat.ne_of_gt hSl) ht⟩
      · have hnone : (as ++ [h.objs.size])[j]? = none := List.getElem?_eq_none (by rw [List.length_append, List.length_singleton]; omega)
        rw [hnone] at hj; cases hj
end
section
variable {prog : Program} {w : World} {A : Around} {E : Value → Shared → Prop} {s : Shared} {z TI TO i1 i2 l1 l2 : Addr} {xs ys : Array Value}
theorem zl_extend {R : Result → Shared → Prop} (hh : A.handled = none) (D : ZipApart z TI TO i1 i2 l1 l2) (S : Addr) (hlt : ∀ b ∈ [z, TI, TO, i1, i2, l1, l2], b < S) (hst : ZlSt s.heap z TI TO i1 i2 l1 l2 S xs ys 0) (hz : s.TypeIs (.ref z) "zip") (res : Value) (c₀ : Nat) (hS : s.heap.get? S = some { cls := .type "list", data := .seq #[] c₀ })
    (hi : ∀ (s₁ : Shared) (Q : Value → Shared → Prop) (E : Value → Shared → Prop), s₁.heap = s.heap → Q (.ref z) s₁ → wpAny (model prog w) A.in1 (pyIter (.ref z)) Q E s₁)
    (hR : ∀ h' tk acc c as, (∀ b o, b ≠ S → b ∉ [z, TO, i1, i2] → s.heap.get? b = some o → h'.get? b = some o) → h'.get? S = some { cls := .type "list", dict := none, data := .seq acc c, slots := #[] } → as.length = min xs.size ys.size → ZlG xs ys S h' as →
      acc.toList = as.map Value.ref → R (.ok (.ret res)) { s with heap := h', toks := tk }) (hn : min xs.size ys.size ≤ sizeLine) :
    wpAny (model prog w) A.in1 (Builtin.List.listExtendWith (.ref S) (.ref z) res)
      (fun fin s' => match fin with | .done f => R (.ok f) s' | .again c' => c'.quiet = true ∧ codeAny (model prog w) A c' R s') (fun e s' => R (.error e) s') s := by
  have hzS : z < S := hlt z (by simp)
  have hSz : S ≠ z := Nat.ne_of_gt hzS
  have key : ∀ (h : Heap) (c₁ tk : Nat), (∀ b o, b ≠ S → s.heap.get? b = some o → h.get? b = some o) →
      h.get? S = some { cls := .type "list", data := .seq #[] c₁ } → codeAny (model prog w) A (.builtin "list.extend.loop" ⟨[.ref S, .ref z, res], []⟩) R { s with heap := h, toks := tk } := by
    intro h c₁ tk hk hS₁
    exact zl_loop (s := s) (h₁ := s.heap) hh D hlt hn res hR _ 0 h tk c₁ #[] [] (Nat.sub_zero _) (Nat.zero_le _) (hst.frame hlt hk) (fun b o hb _ e => hk b o hb e) hS₁ rfl rfl
      ⟨List.Pairwise.nil, (fun _ ha => nomatch ha), (fun j a hj => by simp at hj)⟩
  unfold Builtin.List.listExtendWith
  refine wpAny_bind (wpAny_typeOf (T := "zip") hz ?_)
  have h1 : Builtin.List.listSameRef (.ref S) (.ref z) = false := by simp [Builtin.List.listSameRef, hSz]
  have h2 : (Value.type "zip" == Value.type "list") = false := by decide
  have h3 : (Value.type "zip" == Value.type "tuple") = false := by decide
  simp only [h1, h2, h3, Bool.or_false, Bool.false_eq_true, if_false]
  refine wpAny_bind (hi _ _ _ rfl ?_)
  refine wpAny_bind (wpAny_holding (zl_hint hz ?_))
  refine wpAny_ite_split (fun _ => ?_) (fun _ => wpAny_pure ⟨plainId_quiet PySem.F.plain_extend_loop _, key _ c₀ _ (fun b o _ e => e) hS⟩)
  refine wpAny_bind (wpAny_rule ?_)
  refine wpAny_bind ?_
  show wpAny _ _ (updateSeq S (·.push .none) >>= fun _ => updateSeq S (·.pop)) _ _ _
  refine wpAny_bind (wpAny_updateSeq hS rfl ?_)
  have hS₂ := Heap.get?_update_self (Obj.mapSeq (·.push Value.none)) hS rfl
  refine wpAny_updateSeq (hz := by seq_fits) hS₂ rfl ?_
  have hS₃ := Heap.get?_update_self (Obj.mapSeq (·.pop)) hS₂ rfl
  refine wpAny_pure ⟨plainId_quiet PySem.F.plain_extend_loop _, key _ _ _ (fun b o hb e => ?_) hS₃⟩
  exact (Heap.get?_update_other _ _ (Ne.symm hb)).trans ((Heap.get?_update_other _ _ (Ne.symm hb)).trans e)
theorem zl_init {R : Result → Shared → Prop} (hh : A.handled = none) (D : ZipApart z TI TO i1 i2 l1 l2) (S : Addr) (hlt : ∀ b ∈ [z, TI, TO, i1, i2, l1, l2], b < S) (hst : ZlSt s.heap z TI TO i1 i2 l1 l2 S xs ys 0) (hz : IsZip s.heap z TI TO .none) (hS : s.heap.get? S = some { cls := .type "list", data := .seq #[] })
    (hR : ∀ h' tk acc c as, (∀ b o, b ≠ S → b ∉ [z, TO, i1, i2] → s.heap.get? b = some o → h'.get? b = some o) → h'.get? S = some { cls := .type "list", dict := none, data := .seq acc c, slots := #[] } → as.length = min xs.size ys.size → ZlG xs ys S h' as →
      acc.toList = as.map Value.ref → R (.ok (.ret .none)) { s with heap := h', toks := tk }) (hn : min xs.size ys.size ≤ sizeLine) :
    wpAny (model prog w) A.in1 (Builtin.«list.__init__» ⟨[.ref S, .ref z], []⟩)
      (fun fin s' => match fin with | .done f => R (.ok f) s' | .again c' => c'.quiet = true ∧ codeAny (model prog w) A c' R s') (fun e s' => R (.error e) s') s := by
  show wpAny _ _ (do let old ← Builtin.List.listItems (.ref S); Builtin.List.listUpdate (.ref S) (fun _ => #[]); letGo old.toList.reverse; Builtin.List.listExtendWith (.ref S) (.ref z) .none) _ _ s
  refine wpAny_bind ?_
  unfold Builtin.List.listItems
  refine wpAny_bind (wpAny_seqItems hS rfl (wpAny_pure ?_))
  show wpAny _ _ (updateSeq S (fun _ => #[]) >>= fun _ => letGo (#[] : Array Value).toList.reverse >>= fun _ => Builtin.List.listExtendWith (.ref S) (.ref z) .none) _ _ s
  refine wpAny_bind (wpAny_updateSeq hS rfl ?_)
  have hS₂ := Heap.get?_update_self (Obj.mapSeq (fun _ => (#[] : Array Value))) hS rfl
  have oth : ∀ b o, b ≠ S → s.heap.get? b = some o → (s.heap.update S (Obj.mapSeq (fun _ => (#[] : Array Value)))).get? b = some o :=
    fun b o hb e => (Heap.get?_update_other _ _ (Ne.symm hb)).trans e
  have hzS : z ≠ S := Nat.ne_of_lt (hlt z (by simp))
  refine wpAny_bind (wpAny_letGo ?_)
  refine zl_extend hh D S hlt (hst.frame hlt oth) ⟨_, oth _ _ hzS hz, rfl⟩ .none _ hS₂ (fun s₁ Q E e q => wpAny_pyIter_zip (by rw [e]; exact oth _ _ hzS hz) q) (fun h' tk acc c as hk hS' hl hG hacc => ?_) hn
  exact hR h' tk acc c as (fun b o hb hw e => hk b o hb hw (oth b o hb e)) hS' hl hG hacc
/-- list(zip(xs, ys)) -/
theorem zl_call {Q : Value → Shared → Prop} {l1 l2 : Addr} (hh : A.handled = none) (hl1 : s.heap.IsList l1 xs) (hl2 : s.heap.IsList l2 ys) (hn : min xs.size ys.size ≤ sizeLine)
    (hQ : ∀ h' tk acc c as S, s.heap.objs.size ≤ S → (∀ b o, s.heap.get? b = some o → h'.get? b = some o) → h'.get? S = some { cls := .type "list", dict := none, data := .seq acc c, slots := #[] } → as.length = min xs.size ys.size → ZlG xs ys S h' as →
      acc.toList = as.map Value.ref → Q (.ref S) { s with heap := h', toks := tk }) :
    wpAny (model prog w) A (call (.type "zip") [.ref l1, .ref l2]) (fun v s1 => wpAny (model prog w) A (call (.type "list") [v]) Q E s1) E s := by
  have a1 : l1 < s.heap.objs.size := by obtain ⟨_, e, _⟩ := hl1; exact Heap.lt_size e
  have a2 : l2 < s.heap.objs.size := by obtain ⟨_, e, _⟩ := hl2; exact Heap.lt_size e
  have D : ZipApart (s.heap.objs.size + 4) (s.heap.objs.size + 2) (s.heap.objs.size + 3) s.heap.objs.size (s.heap.objs.size + 1) l1 l2 := PySem.W.ktu_apart _ _ _ a1 a2
  refine call_zip_2 hl1 hl2 fun h' hz hTI hTO hi1 hi2 hsz hk => ?_
  refine callType_codes (Q₁ := fun obj s₁ => obj = .ref h'.objs.size ∧ s₁ = { s with heap := h'.push { cls := .type "list", data := .seq #[] } }) PySem.F.called_list (PySem.F.typeCall_list_1 _) PySem.F.entry_list_init
    (code_list_new _ ⟨rfl, rfl⟩) fun obj s₁ h₁ => ?_
  obtain ⟨rfl, rfl⟩ := h₁
  have hS : (h'.push { cls := .type "list", data := .seq #[] }).get? h'.objs.size = some { cls := .type "list", data := .seq #[] } := Heap.get?_push_size _ rfl
  have hlt : ∀ b ∈ [s.heap.objs.size + 4, s.heap.objs.size + 2, s.heap.objs.size + 3, s.heap.objs.size, s.heap.objs.size + 1, l1, l2], b < h'.objs.size := fun b hb => by
    rw [hsz]
    simp only [List.mem_cons, List.not_mem_nil, or_false] at hb
    rcases hb with rfl | rfl | rfl | rfl | rfl | rfl | rfl
    · exact Nat.lt_succ_self _
    · exact Nat.add_lt_add_left (by decide) _
    · exact Nat.add_lt_add_left (by decide) _
    · exact Nat.lt_add_of_pos_right (by decide)
    · exact Nat.add_lt_add_left (by decide) _
    · exact Nat.lt_of_lt_of_le a1 (Nat.le_add_right _ _)
    · exact Nat.lt_of_lt_of_le a2 (Nat.le_add_right _ _)
  have up : ∀ b o, h'.get? b = some o → (h'.push { cls := .type "list", data := .seq #[] }).get? b = some o := fun b o e => Heap.get?_push_of_some _ e
  have st : ZlSt (h'.push { cls := .type "list", data := .seq #[] }) (s.heap.objs.size + 4) (s.heap.objs.size + 2) (s.heap.objs.size + 3) s.heap.objs.size (s.heap.objs.size + 1) l1 l2 h'.objs.size xs ys 0 :=
    ⟨up _ _ hTI, hi1.at fun o e => up _ o e, hi2.at fun o e => up _ o e, hl1.at fun o e => up _ o (hk _ o e), hl2.at fun o e => up _ o (hk _ o e), .inl ⟨up _ _ hz, _, _, up _ _ hTO⟩⟩
  refine ⟨⟨_, hS, rfl⟩, PySem.F.args_list_init_2 _ _, zl_init (A := A.in1) (s := { s with heap := h'.push { cls := .type "list", data := .seq #[] } }) hh D _ hlt st (up _ _ hz) hS (fun h2 tk acc c as hk2 hS' hl hG hacc => ?_) hn⟩
  refine ⟨rfl, hQ h2 tk acc c as _ (by rw [hsz]; exact Nat.le_add_right _ _) (fun b o e => ?_) hS' hl hG hacc⟩
  have hb := Heap.lt_size e
  refine hk2 b o (Nat.ne_of_lt (Nat.lt_of_lt_of_le hb (by rw [hsz]; exact Nat.le_add_right _ _))) (fun hm => ?_) (up _ _ (hk _ _ e))
  simp only [List.mem_cons, List.not_mem_nil, or_false] at hm
  rcases hm with rfl | rfl | rfl | rfl
  · exact absurd hb (Nat.not_lt.mpr (Nat.le_add_right _ _))
  · exact absurd hb (Nat.not_lt.mpr (Nat.le_add_right _ _))
  · exact Nat.lt_irrefl _ hb
  · exact absurd hb (Nat.not_lt.mpr (Nat.le_add_right _ _))
end
end LZ
namespace Tb
open PySem PySem.Spec PyProof.Rows L2
/-! ### data -/
inductive D where
  | non | bl (b : Bool) | int (i : Int) | str (x : Str)
  | tup (xs : List D) | lst (xs : List D) | kl (xs : List D)
  | dic (kvs : List (Key × D))
  /-- rows by numbers, that are only read from now on -/
  | kd (kvs : List (Int × List Int))
  | cel (i : Nat)
  | cls (n : Str) | ty (n : String) | exc (n : Str)
inductive O where
  | lst (xs : List D)
  | ins (c : Str) (fs : List (Str × D))
  | dct (kvs : List (Key × D))
abbrev Hh := List O
abbrev Ls := List (Option D)
inductive R (α : Type) where
  | ok (a : α) (h : Hh) | exc (c : Str) (h : Hh) | bad
def R.bind {α β : Type} (r : R α) (f : α → Hh → R β) : R β := match r with
  | .ok a h => f a h
  | .exc c h => .exc c h
  | .bad => .bad
abbrev Fn := List D → Hh → R D
def LIM : Nat := 1000000
def BIG : Nat := 2 ^ 1900
def small (i : Int) : Bool := decide (i.natAbs < BIG)
/-- what is known of the module: the written part, the classes by name -/
structure Zn where
  K : PySem.W.Frag
  cl : Str → Option Addr
  /-- the exception classes -/
  xs : List Str
/-- cells, foreign cells -/
structure Wd where
  rho : List Addr
  F : Addr → Prop
def KL (K : PySem.W.Frag) (a : Addr) (xs : List V) : Prop :=
  ∃ (o : Obj) (its : Array Value) (n : Nat), K.lookup a = some o ∧ o.cls = .type "list" ∧ o.dict = none ∧ o.data = .seq its n ∧ its.size ≤ sizeLine ∧ Vals xs its.toList
/-- a list that is only read from now on -/
def FzL (W : Wd) (H : Hp) (a : Addr) (xs : List V) : Prop := H a = some (.lst xs) ∧ a ∉ W.rho ∧ ¬ W.F a
def KzL (Z : Zn) (W : Wd) (H : Hp) (a : Addr) (xs : List V) : Prop := (∃ o, H a = some (.frz o (.lst xs)) ∧ a ∉ W.rho ∧ ¬ W.F a) ∨ KL Z.K a xs
def KT (K : PySem.W.Frag) (a : Addr) (xs : List V) : Prop :=
  ∃ (o : Obj) (its : Array Value) (n : Nat), K.lookup a = some o ∧ o.cls = .type "tuple" ∧ o.data = .seq its n ∧ its.size ≤ sizeLine ∧ Vals xs its.toList
def FzT (Z : Zn) (H : Hp) (a : Addr) (xs : List V) : Prop := H a = some (.tup xs) ∨ KT Z.K a xs
def XFa (Z : Zn) (C : Addr) : Prop := ExcC Z.K C ∧ PySem.W.kitOne Z.K (.ref C) (.type "ValueError") = some true
def XCl (Z : Zn) (n : Str) (a : Addr) : Prop := (∀ m ∈ Z.xs, ∀ C, Z.cl m = some C → PySem.W.kitOne Z.K (.ref C) (.ref a) = some (subX m n)) ∧ mkB Z.K a = true
/-- the rows of a dict, each a list of numbers -/
def RelRs (W : Wd) (H : Hp) : List (Int × List Int) → List (Key × V) → Prop
  | [], vs => vs = []
  | (k, ns) :: r, vs => ∃ b q, vs = (.inl k, .ref b) :: q ∧ FzL W H b (ns.map V.int) ∧ RelRs W H r q
theorem RelRs.imp {W W1 : Wd} {H H1 : Hp} (f : ∀ b xs, FzL W H b xs → FzL W1 H1 b xs) : ∀ (kvs : List (Int × List Int)) {vs : List (Key × V)}, RelRs W H kvs vs → RelRs W1 H1 kvs vs
  | [], _, h => h
  | (k, ns) :: r, _, ⟨b, q, e, g, h⟩ => ⟨b, q, e, f b _ g, RelRs.imp f r h⟩
mutual
def RelD (Z : Zn) (W : Wd) (H : Hp) : D → V → Prop
  | .non, v => v = .non
  | .bl b, v => v = .bl b
  | .int i, v => v = .int i
  | .str x, v => v = .str x
  | .tup xs, v => ∃ a vs, v = .ref a ∧ FzT Z H a vs ∧ RelDs Z W H xs vs
  | .lst xs, v => ∃ a vs, v = .ref a ∧ FzL W H a vs ∧ RelDs Z W H xs vs
  | .kl xs, v => ∃ a vs, v = .ref a ∧ KzL Z W H a vs ∧ RelDs Z W H xs vs
  | .dic kvs, v => ∃ a vs, v = .ref a ∧ H a = some (.dK vs) ∧ a ∉ W.rho ∧ ¬ W.F a ∧ RelKs Z W H kvs vs
  | .kd kvs, v => ∃ a vs, v = .ref a ∧ L2.Rd H a (.dK vs) ∧ a ∉ W.rho ∧ ¬ W.F a ∧ RelRs W H kvs vs
  | .cel i, v => ∃ a, v = .ref a ∧ W.rho[i]? = some a
  | .cls n, v => ∃ a, v = .ref a ∧ Z.cl n = some a ∧ XCl Z n a
  | .ty n, v => v = .ty n
  | .exc n, v => ∃ a C, v = .ref a ∧ Z.cl n = some C ∧ n ∈ Z.xs ∧ XFa Z C ∧ H a = some (ExK (.ref C) a)
def RelDs (Z : Zn) (W : Wd) (H : Hp) : List D → List V → Prop
  | [], vs => vs = []
  | d :: ds, vs => ∃ v r, vs = v :: r ∧ RelD Z W H d v ∧ RelDs Z W H ds r
def RelKs (Z : Zn) (W : Wd) (H : Hp) : List (Key × D) → List (Key × V) → Prop
  | [], vs => vs = []
  | (k, d) :: ds, vs => ∃ v r, vs = (k, v) :: r ∧ RelD Z W H d v ∧ RelKs Z W H ds r
end
def RelFs (Z : Zn) (W : Wd) (H : Hp) : List (Str × D) → List (Str × V) → Prop
  | [], vs => vs = []
  | (k, d) :: ds, vs => ∃ v r, vs = (k, v) :: r ∧ RelD Z W H d v ∧ RelFs Z W H ds r
def ObjR (Z : Zn) (W : Wd) (H : Hp) (a : Addr) : O → Prop
  | .lst xs => ∃ vs, H a = some (.lst vs) ∧ RelDs Z W H xs vs
  | .ins c fs => ∃ C dx vs, Z.cl c = some C ∧ H a = some (.ins C dx vs) ∧ RelFs Z W H fs vs
  | .dct kvs => ∃ vs, H a = some (.dK vs) ∧ RelKs Z W H kvs vs
structure HRel (Z : Zn) (W : Wd) (H : Hp) (h : Hh) : Prop where
  len : W.rho.length = h.length
  nd : W.rho.Nodup
  obj : ∀ (i : Nat) a o, W.rho[i]? = some a → h[i]? = some o → ObjR Z W H a o
  dis : ∀ a ∈ W.rho, ¬ W.F a
  frn : ∀ a, W.F a → H a ≠ none
def LRel (Z : Zn) (W : Wd) (H : Hp) (ls : Ls) (σ : L2.St) : Prop :=
  ls.length = σ.length ∧ ∀ (i : Nat) d, ls[i]? = some (some d) → ∃ v, σ[i]? = some (some v) ∧ RelD Z W H d v
/-- what never changes -/
def fixO : HO → Bool
  | .tup _ => true
  | .ext _ => true
  | _ => false
/-- growth -/
structure Gr (W : Wd) (H : Hp) (W' : Wd) (H' : Hp) : Prop where
  pre : ∃ l, W'.rho = W.rho ++ l ∧ ∀ a ∈ l, H a = none
  frn : W'.F = W.F
  keep : ∀ a o, H a = some o → a ∉ W.rho → H' a = some o
  tups : ∀ a o, fixO o = true → H a = some o → H' a = some o
  trk : ∀ a, H' a = none → H a = none
section
variable {Z : Zn} {W W1 W2 : Wd} {H H1 H2 : Hp}
theorem Gr.refl : Gr W H W H := ⟨⟨[], by simp, fun _ h => nomatch h⟩, rfl, fun _ _ h _ => h, fun _ _ _ h => h, fun _ h => h⟩
theorem Gr.out (g : Gr W H W1 H1) {x : Addr} {o : HO} (h : H x = some o) (hx : x ∉ W.rho) : x ∉ W1.rho := fun hm => by
  obtain ⟨l, e, n⟩ := g.pre
  rw [e] at hm
  rcases List.mem_append.mp hm with z | z
  · exact hx z
  · rw [n x z] at h; cases h
theorem Gr.trans (a : Gr W H W1 H1) (b : Gr W1 H1 W2 H2) : Gr W H W2 H2 := by
  obtain ⟨l, e, n⟩ := a.pre
  obtain ⟨l2, e2, n2⟩ := b.pre
  refine ⟨⟨l ++ l2, by rw [e2, e, List.append_assoc], fun x hx => ?_⟩, b.frn.trans a.frn, fun x o h hx => b.keep x o (a.keep x o h hx) (a.out h hx), fun x o f h => b.tups x o f (a.tups x o f h), fun x h => a.trk x (b.trk x h)⟩
  rcases List.mem_append.mp hx with z | z
  · exact n x z
  · exact a.trk x (n2 x z)
theorem Gr.at (g : Gr W H W1 H1) {i : Nat} {a : Addr} (h : W.rho[i]? = some a) : W1.rho[i]? = some a := by
  obtain ⟨l, e, _⟩ := g.pre
  rw [e, List.getElem?_append_left (List.getElem?_eq_some_iff.mp h).1]
  exact h
theorem FzL.mono (g : Gr W H W1 H1) {a : Addr} {xs : List V} (h : FzL W H a xs) : FzL W1 H1 a xs :=
  ⟨g.keep _ _ h.1 h.2.1, g.out h.1 h.2.1, by rw [g.frn]; exact h.2.2⟩
theorem KzL.mono (g : Gr W H W1 H1) {a : Addr} {xs : List V} (h : KzL Z W H a xs) : KzL Z W1 H1 a xs := by
  rcases h with ⟨o, h, n, f⟩ | h
  · exact .inl ⟨o, g.keep _ _ h n, g.out h n, by rw [g.frn]; exact f⟩
  · exact .inr h
theorem FzL.sq {K : PySem.W.Frag} {a : Addr} {xs : List V} (h : FzL W H a xs) : SqL K H a xs := .inl (.inl h.1)
theorem KzL.sq {a : Addr} {xs : List V} (h : KzL Z W H a xs) : SqL Z.K H a xs := by
  rcases h with ⟨o, h, _, _⟩ | h
  · exact .inl (.inr ⟨o, h⟩)
  · exact .inr h
theorem FzT.mono (g : Gr W H W1 H1) {a : Addr} {xs : List V} (h : FzT Z H a xs) : FzT Z H1 a xs := by
  rcases h with h | h
  · exact .inl (g.tups _ _ rfl h)
  · exact .inr h
theorem FzT.sq {a : Addr} {xs : List V} (h : FzT Z H a xs) : SqT Z.K H a xs := by
  rcases h with h | h
  · exact .inl (.inl h)
  · exact .inr h
mutual
theorem RelD.mono (g : Gr W H W1 H1) : ∀ (d : D) {v : V}, RelD Z W H d v → RelD Z W1 H1 d v
  | .non, _, h => h
  | .bl _, _, h => h
  | .int _, _, h => h
  | .str _, _, h => h
  | .tup xs, _, ⟨a, vs, e, f, r⟩ => ⟨a, vs, e, f.mono g, RelDs.mono g xs r⟩
  | .lst xs, _, ⟨a, vs, e, f, r⟩ => ⟨a, vs, e, f.mono g, RelDs.mono g xs r⟩
  | .kl xs, _, ⟨a, vs, e, f, r⟩ => ⟨a, vs, e, f.mono g, RelDs.mono g xs r⟩
  | .dic kvs, _, ⟨a, vs, e, k, n, f, r⟩ => ⟨a, vs, e, g.keep _ _ k n, g.out k n, by rw [g.frn]; exact f, RelKs.mono g kvs r⟩
  | .kd kvs, _, ⟨a, vs, e, k, n, f, r⟩ => by
    refine ⟨a, vs, e, ?_, ?_, by rw [g.frn]; exact f, RelRs.imp (fun b xs z => z.mono g) kvs r⟩
    · rcases k with k | ⟨o, k⟩
      · exact .inl (g.keep _ _ k n)
      · exact .inr ⟨o, g.keep _ _ k n⟩
    · rcases k with k | ⟨o, k⟩
      · exact g.out k n
      · exact g.out k n
  | .cel i, _, ⟨a, e, f⟩ => ⟨a, e, g.at f⟩
  | .cls _, _, h => h
  | .ty _, _, h => h
  | .exc _, _, ⟨a, C, e1, e2, e3, e4, e5⟩ => ⟨a, C, e1, e2, e3, e4, g.tups _ _ rfl e5⟩
theorem RelDs.mono (g : Gr W H W1 H1) : ∀ (ds : List D) {vs : List V}, RelDs Z W H ds vs → RelDs Z W1 H1 ds vs
  | [], _, h => h
  | d :: ds, _, ⟨v, r, e, h1, h2⟩ => ⟨v, r, e, RelD.mono g d h1, RelDs.mono g ds h2⟩
theorem RelKs.mono (g : Gr W H W1 H1) : ∀ (ds : List (Key × D)) {vs : List (Key × V)}, RelKs Z W H ds vs → RelKs Z W1 H1 ds vs
  | [], _, h => h
  | (k, d) :: ds, _, ⟨v, r, e, h1, h2⟩ => ⟨v, r, e, RelD.mono g d h1, RelKs.mono g ds h2⟩
end
theorem RelFs.mono (g : Gr W H W1 H1) : ∀ (ds : List (Str × D)) {vs : List (Str × V)}, RelFs Z W H ds vs → RelFs Z W1 H1 ds vs
  | [], _, h => h
  | (k, d) :: ds, _, ⟨v, r, e, h1, h2⟩ => ⟨v, r, e, RelD.mono g d h1, RelFs.mono g ds h2⟩
theorem LRel.mono (g : Gr W H W1 H1) {ls : Ls} {σ : L2.St} (h : LRel Z W H ls σ) : LRel Z W1 H1 ls σ :=
  ⟨h.1, fun i d e => let ⟨v, e1, r⟩ := h.2 i d e; ⟨v, e1, RelD.mono g d r⟩⟩
/-! ### lists of data -/
theorem RelDs.length : ∀ {ds : List D} {vs : List V}, RelDs Z W H ds vs → ds.length = vs.length
  | [], _, h => by rw [show _ = [] from h]; rfl
  | d :: ds, _, ⟨v, r, e, _, h2⟩ => by rw [e, List.length_cons, List.length_cons, RelDs.length h2]
theorem RelDs.get : ∀ {ds : List D} {vs : List V} {i : Nat} {d : D}, RelDs Z W H ds vs → ds[i]? = some d → ∃ v, vs[i]? = some v ∧ RelD Z W H d v
  | [], _, _, _, _, e => by simp at e
  | d :: ds, _, 0, x, ⟨v, r, e, h1, _⟩, q => by simp at q; subst q; subst e; exact ⟨v, rfl, h1⟩
  | d :: ds, _, i + 1, x, ⟨v, r, e, _, h2⟩, q => by
    subst e
    obtain ⟨w, e1, r1⟩ := RelDs.get (i := i) h2 (by simpa using q)
    exact ⟨w, by simpa using e1, r1⟩
theorem RelDs.getV {ds : List D} {vs : List V} {i : Nat} {v : V} (r : RelDs Z W H ds vs) (e : vs[i]? = some v) : ∃ d, ds[i]? = some d ∧ RelD Z W H d v := by
  have hl := r.length
  have hi := (List.getElem?_eq_some_iff.mp e).1
  obtain ⟨w, e1, r1⟩ := r.get (i := i) (d := ds[i]'(by omega)) (by simp)
  rw [e] at e1; cases e1
  exact ⟨_, List.getElem?_eq_getElem (by omega), r1⟩
theorem RelDs.append : ∀ {ds es : List D} {vs us : List V}, RelDs Z W H ds vs → RelDs Z W H es us → RelDs Z W H (ds ++ es) (vs ++ us)
  | [], _, _, _, h, k => by rw [show _ = [] from h]; exact k
  | d :: ds, _, _, _, ⟨v, r, e, h1, h2⟩, k => by subst e; exact ⟨v, _, rfl, h1, RelDs.append h2 k⟩
theorem RelDs.one {d : D} {v : V} (h : RelD Z W H d v) : RelDs Z W H [d] [v] := ⟨v, [], rfl, h, rfl⟩
theorem RelDs.take : ∀ {ds : List D} {vs : List V} (n : Nat), RelDs Z W H ds vs → RelDs Z W H (ds.take n) (vs.take n)
  | [], _, _, h => by rw [show _ = [] from h]; simp [RelDs]
  | d :: ds, _, 0, h => by simp [RelDs]
  | d :: ds, _, n + 1, ⟨v, r, e, h1, h2⟩ => by subst e; exact ⟨v, _, rfl, h1, RelDs.take n h2⟩
theorem RelDs.drop : ∀ {ds : List D} {vs : List V} (n : Nat), RelDs Z W H ds vs → RelDs Z W H (ds.drop n) (vs.drop n)
  | [], _, _, h => by rw [show _ = [] from h]; simp [RelDs]
  | d :: ds, _, 0, h => h
  | d :: ds, _, n + 1, ⟨v, r, e, h1, h2⟩ => by subst e; exact RelDs.drop n h2
theorem RelDs.set : ∀ {ds : List D} {vs : List V} {d : D} {v : V} (n : Nat), RelDs Z W H ds vs → RelD Z W H d v → RelDs Z W H (ds.set n d) (vs.set n v)
  | [], _, _, _, _, h, _ => by rw [show _ = [] from h]; simp [RelDs]
  | d :: ds, _, _, _, 0, ⟨v, r, e, h1, h2⟩, k => by subst e; exact ⟨_, _, rfl, k, h2⟩
  | d :: ds, _, _, _, n + 1, ⟨v, r, e, h1, h2⟩, k => by subst e; exact ⟨v, _, rfl, h1, RelDs.set n h2 k⟩
theorem RelDs.eraseIdx : ∀ {ds : List D} {vs : List V} (n : Nat), RelDs Z W H ds vs → RelDs Z W H (ds.eraseIdx n) (vs.eraseIdx n)
  | [], _, _, h => by rw [show _ = [] from h]; simp [RelDs]
  | d :: ds, _, 0, ⟨v, r, e, h1, h2⟩ => by subst e; exact h2
  | d :: ds, _, n + 1, ⟨v, r, e, h1, h2⟩ => by subst e; exact ⟨v, _, rfl, h1, RelDs.eraseIdx n h2⟩
theorem RelDs.dropLast : ∀ {ds : List D} {vs : List V}, RelDs Z W H ds vs → RelDs Z W H ds.dropLast vs.dropLast
  | [], _, h => by rw [show _ = [] from h]; simp [RelDs]
  | [d], _, ⟨v, r, e, h1, h2⟩ => by subst e; rw [show r = [] from h2]; simp [RelDs]
  | d :: d2 :: ds, _, ⟨v, r, e, h1, v2, r2, e2, h3, h4⟩ => by
    subst e; subst e2
    exact ⟨v, _, rfl, h1, RelDs.dropLast (ds := d2 :: ds) ⟨v2, r2, rfl, h3, h4⟩⟩
theorem RelDs.reverse : ∀ {ds : List D} {vs : List V}, RelDs Z W H ds vs → RelDs Z W H ds.reverse vs.reverse
  | [], _, h => by rw [show _ = [] from h]; simp [RelDs]
  | d :: ds, _, ⟨v, r, e, h1, h2⟩ => by subst e; rw [List.reverse_cons, List.reverse_cons]; exact RelDs.append (RelDs.reverse h2) (RelDs.one h1)
theorem RelDs.rep {ds : List D} {vs : List V} (h : RelDs Z W H ds vs) : ∀ k : Nat, RelDs Z W H (List.replicate k ds).flatten (List.replicate k vs).flatten
  | 0 => by simp [RelDs]
  | k + 1 => by rw [List.replicate_succ, List.replicate_succ, List.flatten_cons, List.flatten_cons]; exact RelDs.append h (RelDs.rep h k)
theorem RelDs.ints {ns : List Int} : ∀ {vs : List V}, RelDs Z W H (ns.map D.int) vs ↔ vs = ns.map V.int := by
  induction ns with
  | nil => intro vs; exact Iff.rfl
  | cons n r ih =>
    intro vs
    constructor
    · rintro ⟨v, q, rfl, h1, h2⟩
      rw [show v = .int n from h1, ih.mp h2]; rfl
    · rintro rfl
      exact ⟨_, _, rfl, rfl, ih.mpr rfl⟩
theorem RelDs.strs {ns : List Str} : ∀ {vs : List V}, RelDs Z W H (ns.map D.str) vs ↔ vs = ns.map V.str := by
  induction ns with
  | nil => intro vs; exact Iff.rfl
  | cons n r ih =>
    intro vs
    constructor
    · rintro ⟨v, q, rfl, h1, h2⟩
      rw [show v = .str n from h1, ih.mp h2]; rfl
    · rintro rfl
      exact ⟨_, _, rfl, rfl, ih.mpr rfl⟩
end
/-! ### what is wanted behind a step -/
def Tri {α β : Type} (Z : Zn) (rel : Wd → Hp → α → β → Prop) (E : Str → Hp → Prop) (Q : β → Hp → Prop) (W : Wd) (H : Hp) : R α → Prop
  | .ok d h' => ∀ v W' H', Gr W H W' H' → HRel Z W' H' h' → rel W' H' d v → Q v H'
  | .exc c h' => ∀ W' H', Gr W H W' H' → HRel Z W' H' h' → E c H'
  | .bad => False
section
variable {α β γ δ : Type} {Z : Zn} {W W1 : Wd} {H H1 : Hp} {E : Str → Hp → Prop} {rel : Wd → Hp → α → β → Prop} {rel2 : Wd → Hp → γ → δ → Prop} {Q : β → Hp → Prop}
theorem Tri.grow {r : R α} (g : Gr W H W1 H1) (t : Tri Z rel E Q W H r) : Tri Z rel E Q W1 H1 r := by
  cases r with
  | ok d h' => exact fun v W' H' g' => t v W' H' (g.trans g')
  | exc c h' => exact fun W' H' g' => t W' H' (g.trans g')
  | bad => exact t
/-- a step, then another -/
theorem Tri.bind {r : R γ} {f : γ → Hh → R α} (t : Tri Z rel E Q W H (r.bind f)) :
    Tri Z rel2 E (fun x H1 => ∃ W1 d h1, Gr W H W1 H1 ∧ HRel Z W1 H1 h1 ∧ rel2 W1 H1 d x ∧ Tri Z rel E Q W1 H1 (f d h1)) W H r := by
  cases r with
  | ok d h' => exact fun v W' H' g hr rl => ⟨W', d, h', g, hr, rl, Tri.grow g t⟩
  | exc c h' => exact t
  | bad => exact t
theorem Tri.imp {r : R α} {Q' : β → Hp → Prop} (t : Tri Z rel E Q W H r) (h : ∀ v H', Q v H' → Q' v H') : Tri Z rel E Q' W H r := by
  cases r with
  | ok d h' => exact fun v W' H' g hr rl => h _ _ (t v W' H' g hr rl)
  | exc c h' => exact t
  | bad => exact t
end
abbrev TriD (Z : Zn) := Tri Z (RelD Z)
abbrev TriB (Z : Zn) := Tri (α := Bool) (β := Bool) Z (fun _ _ a b => a = b)
abbrev TriL (Z : Zn) := Tri Z (RelDs Z)
/-! ### new objects -/
def mkL (c : Bool) (xs : List D) (h : Hh) : R D := if c then .ok (.cel h.length) (h ++ [.lst xs]) else .ok (.lst xs) h
section
variable {Z : Zn} {W : Wd} {H : Hp} {h : Hh} {E : Str → Hp → Prop} {Q : VK} {p : Addr}
theorem ObjR.mono {W1 : Wd} {H1 : Hp} {a : Addr} (g : Gr W H W1 H1) (hk : ∀ o, H a = some o → H1 a = some o) : ∀ {o : O}, ObjR Z W H a o → ObjR Z W1 H1 a o
  | .lst xs, ⟨vs, e, r⟩ => ⟨vs, hk _ e, RelDs.mono g xs r⟩
  | .ins c fs, ⟨C, dx, vs, e1, e2, r⟩ => ⟨C, dx, vs, e1, hk _ e2, RelFs.mono g fs r⟩
  | .dct kvs, ⟨vs, e, r⟩ => ⟨vs, hk _ e, RelKs.mono g kvs r⟩
theorem Gr.fresh {o : HO} (hr : HRel Z W H h) (n : H p = none) : Gr W H W (upd H p o) :=
  ⟨⟨[], by simp, fun _ z => nomatch z⟩, rfl, fun a u e _ => by rw [upd_ne (ne_of_none e n)]; exact e, fun a xs _ e => by rw [upd_ne (ne_of_none e n)]; exact e, fun a e => by
    by_cases q : a = p
    · subst q; exact n
    · rw [upd_ne q] at e; exact e⟩
theorem HRel.notin (hr : HRel Z W H h) (n : H p = none) : p ∉ W.rho := fun hm => by
  obtain ⟨i, hi, e⟩ := List.getElem_of_mem hm
  have hl := hr.len
  have q := hr.obj i p h[i] (by rw [List.getElem?_eq_getElem hi, e]) (List.getElem?_eq_getElem (by omega))
  cases ho : h[i] with
  | lst xs => rw [ho] at q; obtain ⟨vs, e1, _⟩ := q; rw [n] at e1; cases e1
  | ins c fs => rw [ho] at q; obtain ⟨C, dx, vs, _, e1, _⟩ := q; rw [n] at e1; cases e1
  | dct kvs => rw [ho] at q; obtain ⟨vs, e1, _⟩ := q; rw [n] at e1; cases e1
theorem HRel.fresh {o : HO} (hr : HRel Z W H h) (n : H p = none) : HRel Z W (upd H p o) h :=
  ⟨hr.len, hr.nd, fun i a ob e1 e2 => ObjR.mono (Gr.fresh hr n) (fun u e => by rw [upd_ne (ne_of_none e n)]; exact e) (hr.obj i a ob e1 e2), hr.dis, fun a f e => hr.frn a f ((Gr.fresh (o := o) hr n).trk a e)⟩
theorem HRel.nF (hr : HRel Z W H h) (n : H p = none) : ¬ W.F p := fun f => hr.frn p f n
/-- the new object as a cell -/
def Wd.add (W : Wd) (p : Addr) : Wd := ⟨W.rho ++ [p], W.F⟩
theorem Gr.cell {o : HO} (hr : HRel Z W H h) (n : H p = none) : Gr W H (W.add p) (upd H p o) :=
  ⟨⟨[p], rfl, fun a z => by rw [List.mem_singleton.mp z]; exact n⟩, rfl, fun a u e _ => by rw [upd_ne (ne_of_none e n)]; exact e, fun a xs _ e => by rw [upd_ne (ne_of_none e n)]; exact e, (Gr.fresh (o := o) hr n).trk⟩
theorem HRel.cell {o : HO} {ob : O} (hr : HRel Z W H h) (n : H p = none) (new : ObjR Z (W.add p) (upd H p o) p ob) : HRel Z (W.add p) (upd H p o) (h ++ [ob]) := by
  have np := hr.notin n
  refine ⟨by simp [Wd.add, hr.len], ?_, fun i a ob' e1 e2 => ?_, fun a ha => ?_, fun a f e => hr.frn a f ((Gr.cell (o := o) hr n).trk a e)⟩
  · show (W.rho ++ [p]).Nodup
    rw [List.nodup_append]
    exact ⟨hr.nd, by simp, fun a ha b hb => by rw [List.mem_singleton.mp hb]; rintro rfl; exact np ha⟩
  · by_cases hi : i < W.rho.length
    · have e1' : W.rho[i]? = some a := by rw [← e1]; exact (List.getElem?_append_left hi).symm
      have e2' : h[i]? = some ob' := by rw [← e2]; exact (List.getElem?_append_left (by rw [← hr.len]; exact hi)).symm
      exact ObjR.mono (Gr.cell hr n) (fun u e => by rw [upd_ne (ne_of_none e n)]; exact e) (hr.obj i a ob' e1' e2')
    · have hl := hr.len
      have e1' : (W.rho ++ [p])[i]? = some a := e1
      have hi2 : i = W.rho.length := by
        have := (List.getElem?_eq_some_iff.mp e1').1
        simp at this; omega
      subst hi2
      rw [List.getElem?_append_right (Nat.le_refl _)] at e1'
      rw [hl, List.getElem?_append_right (Nat.le_refl _)] at e2
      simp at e1' e2
      subst e1' e2
      exact new
  · rcases List.mem_append.mp ha with z | z
    · exact hr.dis a z
    · rw [List.mem_singleton.mp z]; exact hr.nF n
theorem Tri.newL {c : Bool} {xs : List D} {vs : List V} (t : TriD Z E Q W H (mkL c xs h)) (hr : HRel Z W H h) (r : RelDs Z W H xs vs) (n : H p = none) : Q (.ref p) (upd H p (.lst vs)) := by
  cases c with
  | false => exact t (.ref p) W (upd H p (.lst vs)) (Gr.fresh hr n) (hr.fresh n) ⟨p, vs, rfl, ⟨upd_same, hr.notin n, hr.nF n⟩, RelDs.mono (Gr.fresh hr n) xs r⟩
  | true =>
    refine t (.ref p) (W.add p) (upd H p (.lst vs)) (Gr.cell hr n) (hr.cell n ⟨vs, upd_same, RelDs.mono (Gr.cell hr n) xs r⟩) ⟨p, rfl, ?_⟩
    show (W.rho ++ [p])[h.length]? = some p
    rw [← hr.len, List.getElem?_append_right (Nat.le_refl _)]; simp
theorem Tri.newT {xs : List D} {vs : List V} (t : TriD Z E Q W H (.ok (.tup xs) h)) (hr : HRel Z W H h) (r : RelDs Z W H xs vs) (n : H p = none) : Q (.ref p) (upd H p (.tup vs)) :=
  t (.ref p) W (upd H p (.tup vs)) (Gr.fresh hr n) (hr.fresh n) ⟨p, vs, rfl, .inl upd_same, RelDs.mono (Gr.fresh hr n) xs r⟩
theorem Tri.now {α β : Type} {rel : Wd → Hp → α → β → Prop} {Q : β → Hp → Prop} {d : α} {v : β} (t : Tri Z rel E Q W H (.ok d h)) (hr : HRel Z W H h) (r : rel W H d v) : Q v H := t v W H Gr.refl hr r
end
/-! ### reading lists -/
def asO : Option O → Option (List D)
  | some (.lst xs) => some xs
  | _ => none
/-- the items of a tracked list, frozen or a cell -/
def asT (h : Hh) : D → Option (List D)
  | .lst xs => some xs
  | .cel i => asO h[i]?
  | _ => none
/-- the items of any list -/
def asL (h : Hh) : D → Option (List D)
  | .kl xs => some xs
  | d => asT h d
section
variable {Z : Zn} {W : Wd} {H : Hp} {h : Hh} {d : D} {v : V} {xs : List D}
theorem asT_at (hr : HRel Z W H h) (r : RelD Z W H d v) (e : asT h d = some xs) : ∃ a vs, v = .ref a ∧ H a = some (.lst vs) ∧ RelDs Z W H xs vs := by
  cases d with
  | lst ys =>
    obtain ⟨a, vs, e1, f, r1⟩ := r
    cases e
    exact ⟨a, vs, e1, f.1, r1⟩
  | cel i =>
    obtain ⟨a, e1, f⟩ := r
    have e : asO h[i]? = some xs := e
    cases q : h[i]? with
    | none => rw [q] at e; cases e
    | some o =>
      rw [q] at e
      cases o with
      | lst ys =>
        cases e
        obtain ⟨vs, e2, r2⟩ := hr.obj i a _ f q
        exact ⟨a, vs, e1, e2, r2⟩
      | ins c fs => cases e
      | dct kvs => cases e
  | _ => cases e
theorem asL_sq (hr : HRel Z W H h) (r : RelD Z W H d v) (e : asL h d = some xs) : ∃ a vs, v = .ref a ∧ SqL Z.K H a vs ∧ RelDs Z W H xs vs := by
  have go : asT h d = some xs → ∃ a vs, v = .ref a ∧ SqL Z.K H a vs ∧ RelDs Z W H xs vs := fun e => by
    obtain ⟨a, vs, e1, e2, r1⟩ := asT_at hr r e
    exact ⟨a, vs, e1, .inl (.inl e2), r1⟩
  cases d with
  | kl ys =>
    obtain ⟨a, vs, e1, f, r1⟩ := r
    cases e
    exact ⟨a, vs, e1, f.sq, r1⟩
  | _ => exact go e
end
end Tb
namespace Tb
open PySem PySem.Spec PyProof.Rows L2
/-! ### numbers and joins -/
def addL (c : Bool) (a b : Option (List D)) (h : Hh) : R D := match a, b with
  | some xs, some ys => if xs.length + ys.length ≤ LIM then mkL c (xs ++ ys) h else .bad
  | _, _ => .bad
def addD (c : Bool) (a b : D) (h : Hh) : R D := match a, b with
  | .int i, .int j => .ok (.int (i + j)) h
  | .str x, .str y => if x.length + y.length ≤ LIM then .ok (.str (x ++ y)) h else .bad
  | .tup xs, .tup ys => if xs.length + ys.length ≤ LIM then .ok (.tup (xs ++ ys)) h else .bad
  | a, b => addL c (asT h a) (asT h b) h
def mulL (c : Bool) (a : Option (List D)) (k : Int) (h : Hh) : R D := match a with
  | some xs => if xs.length * k.toNat ≤ LIM ∧ -1000000 ≤ k ∧ k ≤ 1000000 then mkL c (List.replicate k.toNat xs).flatten h else .bad
  | none => .bad
def mulD (c : Bool) (a b : D) (h : Hh) : R D := match a, b with
  | .int i, .int j => if small i = true ∧ small j = true then .ok (.int (i * j)) h else .bad
  | .str x, .int k => if x.length ≤ 1000 ∧ -1000 ≤ k ∧ k ≤ 1000 then .ok (.str (Txt.mul x k)) h else .bad
  | a, .int k => mulL c (asT h a) k h
  | _, _ => .bad
def fdivD (a b : D) (h : Hh) : R D := match a, b with
  | .int i, .int j => if 0 < j ∧ small j = true then .ok (.int (i / j)) h else .bad
  | _, _ => .bad
def modD (a b : D) (h : Hh) : R D := match a, b with
  | .int i, .int j => if 0 < j then .ok (.int (i % j)) h else if j < 0 then .ok (.int (i.fmod j)) h else .bad
  | _, _ => .bad
def powD (a b : D) (h : Hh) : R D := match a, b with
  | .int i, .int j => if 0 ≤ j ∧ j ≤ 10000 ∧ i.natAbs < 18446744073709551616 then .ok (.int (i ^ j.toNat)) h else .bad
  | _, _ => .bad
def subD (a b : D) (h : Hh) : R D := match a, b with
  | .int i, .int j => .ok (.int (i - j)) h
  | _, _ => .bad
def binD (c : Bool) : Operator → D → D → Hh → R D
  | .Add => addD c
  | .Sub => subD
  | .Mult => mulD c
  | .FloorDiv => fdivD
  | .Mod => modD
  | .Pow => powD
  | _ => fun _ _ _ => .bad
/-- a two-place step by values -/
def rD (Z : Zn) (g : D → D → Hh → R D) : R2 := fun x y H Q => ∃ W h a b, RelD Z W H a x ∧ RelD Z W H b y ∧ HRel Z W H h ∧ TriD Z (fun _ _ => False) Q W H (g a b h)
section
variable {X : Cx} {Z : Zn}
theorem lim_le : LIM ≤ sizeLine := by rw [sizeLine_eq]; decide
theorem lim_lt {n : Nat} (h : n ≤ LIM) : n < sizeLine := by rw [sizeLine_eq]; unfold LIM at h; omega
theorem small_log {i : Int} (h : small i = true) : i.natAbs.log2 < 1900 := by
  have q : i.natAbs < 2 ^ 1900 := of_decide_eq_true h
  exact PySem.Flt.log2_lt_of (by decide) q
/-- the pieces in the order that the rules want them -/
theorem opD_of {f : Value → Value → Sem Value} {g : D → D → Hh → R D}
    (k : ∀ (pins : List (Addr × Obj)) (s : Shared) (σ : L2.St) (H : Hp) (x y : V) (v u : Value) (Q : VK) (W : Wd) (h : Hh) (a b : D), Inv X pins σ H s → RelV x v → RelV y u → HRel Z W H h → RelD Z W H a x → RelD Z W H b y →
      TriD Z (fun _ _ => False) Q W H (g a b h) → wpAny (model X.prog X.w) X.A (f v u) (EP X pins σ Q) X.xe s) : OpR X f (rD Z g) := by
  intro pins s σ H x y v u Q I rx ry ⟨W, h, a, b, ra, rb, hr, t⟩
  exact k pins s σ H x y v u Q W h a b I rx ry hr ra rb t
theorem op_addD (hK : X.K = Z.K) (c : Bool) : OpR X (binaryOp .Add) (rD Z (addD c)) := by
  refine opD_of fun pins s σ H x y v u Q W h a b I rx ry hr ra rb t => ?_
  have lists : ∀ (t : TriD Z (fun _ _ => False) Q W H (addL c (asT h a) (asT h b) h)), wpAny (model X.prog X.w) X.A (binaryOp .Add v u) (EP X pins σ Q) X.xe s := fun t => by
    cases ea : asT h a with
    | none => rw [ea] at t; exact t.elim
    | some xs =>
      cases eb : asT h b with
      | none => rw [ea, eb] at t; exact t.elim
      | some ys =>
        rw [ea, eb] at t
        obtain ⟨p, vs, rfl, hp, r1⟩ := asT_at hr ra ea
        obtain ⟨q, us, rfl, hq, r2⟩ := asT_at hr rb eb
        by_cases hz : xs.length + ys.length ≤ LIM
        · have t : TriD Z (fun _ _ => False) Q W H (if xs.length + ys.length ≤ LIM then mkL c (xs ++ ys) h else .bad) := t
          rw [if_pos hz] at t
          refine op_cat pins s σ H _ _ v u Q I rx ry ⟨p, q, vs, us, rfl, rfl, hp, hq, ?_, fun l nl => Tri.newL t hr (r1.append r2) nl⟩
          rw [← r1.length, ← r2.length]
          exact Nat.le_trans hz lim_le
        · have t : TriD Z (fun _ _ => False) Q W H (if xs.length + ys.length ≤ LIM then mkL c (xs ++ ys) h else .bad) := t
          rw [if_neg hz] at t
          exact t.elim
  cases a with
  | int i =>
    cases b with
    | int j => exact op_add pins s σ H x y v u Q I rx ry ⟨i, j, ra, rb, t.now hr rfl⟩
    | _ => exact lists t
  | str z =>
    cases b with
    | str z' =>
      have t : TriD Z (fun _ _ => False) Q W H (if z.length + z'.length ≤ LIM then .ok (.str (z ++ z')) h else .bad) := t
      by_cases hz : z.length + z'.length ≤ LIM
      · rw [if_pos hz] at t
        exact op_add_str pins s σ H x y v u Q I rx ry ⟨z, z', ra, rb, Nat.le_trans hz lim_le, t.now hr rfl⟩
      · rw [if_neg hz] at t; exact t.elim
    | _ => exact lists t
  | tup xs =>
    cases b with
    | tup ys =>
      have t : TriD Z (fun _ _ => False) Q W H (if xs.length + ys.length ≤ LIM then .ok (.tup (xs ++ ys)) h else .bad) := t
      by_cases hz : xs.length + ys.length ≤ LIM
      · rw [if_pos hz] at t
        obtain ⟨p, vs, rfl, fp, r1⟩ := ra
        obtain ⟨q, us, rfl, fq, r2⟩ := rb
        refine op_catA pins s σ H _ _ v u Q I rx ry ⟨p, q, vs, us, rfl, rfl, hK ▸ fp.sq, hK ▸ fq.sq, ?_, fun e => ?_, fun _ e => ?_, fun _ _ l nl => Tri.newT t hr (r1.append r2) nl⟩
        · rw [← r1.length, ← r2.length]; exact Nat.le_trans hz lim_le
        · have := r1.length
          rw [e] at this
          have : xs = [] := List.eq_nil_of_length_eq_zero this
          subst this
          exact t.now hr ⟨q, us, rfl, fq, r2⟩
        · have := r2.length
          rw [e] at this
          have : ys = [] := List.eq_nil_of_length_eq_zero this
          subst this
          rw [List.append_nil] at t
          exact t.now hr ⟨p, vs, rfl, fp, r1⟩
      · rw [if_neg hz] at t; exact t.elim
    | _ => exact lists t
  | _ => exact lists t
theorem op_subD : OpR X (binaryOp .Sub) (rD Z subD) := by
  refine opD_of fun pins s σ H x y v u Q W h a b I rx ry hr ra rb t => ?_
  cases a with
  | int i =>
    cases b with
    | int j => exact op_sub pins s σ H x y v u Q I rx ry ⟨i, j, ra, rb, t.now hr rfl⟩
    | _ => exact t.elim
  | _ => cases b <;> exact t.elim
theorem op_mulD (c : Bool) : OpR X (binaryOp .Mult) (rD Z (mulD c)) := by
  refine opD_of fun pins s σ H x y v u Q W h a b I rx ry hr ra rb t => ?_
  have lists : ∀ k : Int, b = .int k → ∀ (t : TriD Z (fun _ _ => False) Q W H (mulL c (asT h a) k h)), wpAny (model X.prog X.w) X.A (binaryOp .Mult v u) (EP X pins σ Q) X.xe s := fun k eb t' => by
    clear t
    subst eb
    have t := t'
    cases ea : asT h a with
    | none => rw [ea] at t; exact t.elim
    | some xs =>
      rw [ea] at t
      obtain ⟨p, vs, rfl, hp, r1⟩ := asT_at hr ra ea
      have t : TriD Z (fun _ _ => False) Q W H (if xs.length * k.toNat ≤ LIM ∧ -1000000 ≤ k ∧ k ≤ 1000000 then mkL c (List.replicate k.toNat xs).flatten h else .bad) := t
      by_cases hz : xs.length * k.toNat ≤ LIM ∧ -1000000 ≤ k ∧ k ≤ 1000000
      · rw [if_pos hz] at t
        refine op_rep pins s σ H _ _ v u Q I rx ry ⟨p, k, vs, rfl, rb, hp, by omega, by omega, ?_, fun l nl => Tri.newL t hr (r1.rep _) nl⟩
        rw [← r1.length]
        exact Nat.le_trans hz.1 lim_le
      · rw [if_neg hz] at t; exact t.elim
  cases b with
  | int j =>
    cases a with
    | int i =>
      have t : TriD Z (fun _ _ => False) Q W H (if small i = true ∧ small j = true then .ok (.int (i * j)) h else .bad) := t
      by_cases hz : small i = true ∧ small j = true
      · rw [if_pos hz] at t
        have h1 := small_log hz.1
        have h2 := small_log hz.2
        exact op_mulW pins s σ H x y v u Q I rx ry ⟨i, j, ra, rb, by unfold CMulW; omega, t.now hr rfl⟩
      · rw [if_neg hz] at t; exact t.elim
    | str x =>
      have t : TriD Z (fun _ _ => False) Q W H (if x.length ≤ 1000 ∧ -1000 ≤ j ∧ j ≤ 1000 then .ok (.str (Txt.mul x j)) h else .bad) := t
      by_cases hz : x.length ≤ 1000 ∧ -1000 ≤ j ∧ j ≤ 1000
      · rw [if_pos hz] at t
        have ra : _ = V.str x := ra
        have rb : _ = V.int j := rb
        subst ra; subst rb
        obtain ⟨t1, rfl⟩ := rx
        obtain ⟨t2, rfl⟩ := ry
        exact PySem.SB.mul (PyProof.Rows.mulOk_of 1000 1000 hz.1 (by omega) (by omega) (by omega) (by omega)) fun t' k => ⟨.str _, H, I.tok _, ⟨_, rfl⟩, t.now hr rfl⟩
      · rw [if_neg hz] at t; exact t.elim
    | _ => exact lists j rfl t
  | _ => cases a <;> exact t.elim
theorem op_fdivD : OpR X (binaryOp .FloorDiv) (rD Z fdivD) := by
  refine opD_of fun pins s σ H x y v u Q W h a b I rx ry hr ra rb t => ?_
  cases a with
  | int i =>
    cases b with
    | int j =>
      have t : TriD Z (fun _ _ => False) Q W H (if 0 < j ∧ small j = true then .ok (.int (i / j)) h else .bad) := t
      by_cases hz : 0 < j ∧ small j = true
      · rw [if_pos hz] at t
        have h2 := small_log hz.2
        exact op_fdivW pins s σ H x y v u Q I rx ry ⟨i, j, ra, rb, ⟨hz.1, by omega⟩, t.now hr rfl⟩
      · rw [if_neg hz] at t; exact t.elim
    | _ => exact t.elim
  | _ => cases b <;> exact t.elim
theorem op_modD : OpR X (binaryOp .Mod) (rD Z modD) := by
  refine opD_of fun pins s σ H x y v u Q W h a b I rx ry hr ra rb t => ?_
  cases a with
  | int i =>
    cases b with
    | int j =>
      have t : TriD Z (fun _ _ => False) Q W H (if 0 < j then .ok (.int (i % j)) h else if j < 0 then .ok (.int (i.fmod j)) h else .bad) := t
      by_cases hz : 0 < j
      · rw [if_pos hz] at t
        exact op_mod pins s σ H x y v u Q I rx ry ⟨i, j, ra, rb, hz, t.now hr rfl⟩
      · rw [if_neg hz] at t
        by_cases hn : j < 0
        · rw [if_pos hn] at t
          exact op_modN pins s σ H x y v u Q I rx ry ⟨i, j, ra, rb, by omega, t.now hr rfl⟩
        · rw [if_neg hn] at t; exact t.elim
    | _ => exact t.elim
  | _ => cases b <;> exact t.elim
theorem op_powD : OpR X (binaryOp .Pow) (rD Z powD) := by
  refine opD_of fun pins s σ H x y v u Q W h a b I rx ry hr ra rb t => ?_
  cases a with
  | int i =>
    cases b with
    | int j =>
      have t : TriD Z (fun _ _ => False) Q W H (if 0 ≤ j ∧ j ≤ 10000 ∧ i.natAbs < 18446744073709551616 then .ok (.int (i ^ j.toNat)) h else .bad) := t
      by_cases hz : 0 ≤ j ∧ j ≤ 10000 ∧ i.natAbs < 18446744073709551616
      · rw [if_pos hz] at t
        exact op_pow pins s σ H x y v u Q I rx ry ⟨i, j, ra, rb, ⟨hz.1, by omega, by omega⟩, t.now hr rfl⟩
      · rw [if_neg hz] at t; exact t.elim
    | _ => exact t.elim
  | _ => cases b <;> exact t.elim
theorem op_none {f : Value → Value → Sem Value} : OpR X f (rD Z fun _ _ _ => .bad) := opD_of fun _ _ _ _ _ _ _ _ _ _ _ _ _ _ _ _ _ _ _ t => t.elim
theorem op_binD (hK : X.K = Z.K) (c : Bool) : ∀ o : Operator, OpR X (binaryOp o) (rD Z (binD c o))
  | .Add => op_addD hK c
  | .Sub => op_subD
  | .Mult => op_mulD c
  | .FloorDiv => op_fdivD
  | .Mod => op_modD
  | .Pow => op_powD
  | .MatMult => op_none
  | .Div => op_none
  | .LShift => op_none
  | .RShift => op_none
  | .BitOr => op_none
  | .BitXor => op_none
  | .BitAnd => op_none
end
/-! ### comparisons -/
mutual
def py : D → Option PyData
  | .non => some .none
  | .bl b => some (.bool b)
  | .int i => some (.int i)
  | .str x => some (.str x)
  | .tup xs => (pys xs).map .tuple
  | .lst xs => (pys xs).map .list
  | .kl xs => (pys xs).map .list
  | _ => none
def pys : List D → Option (List PyData)
  | [] => some []
  | d :: ds => (py d).bind fun p => (pys ds).map fun ps => p :: ps
end
def toPy (h : Hh) : D → Option PyData
  | .cel i => (asO h[i]?).bind fun xs => (pys xs).map .list
  | d => py d
section
variable {Z : Zn} {W : Wd} {H : Hp}
mutual
theorem py_dp : ∀ (d : D) {v : V} {p : PyData}, RelD Z W H d v → py d = some p → Dp Z.K H v p
  | .non, _, _, r, e => by cases e; rw [show _ = V.non from r]; exact .non
  | .bl b, _, _, r, e => by cases e; rw [show _ = V.bl b from r]; exact .bl b
  | .int i, _, _, r, e => by cases e; rw [show _ = V.int i from r]; exact .int i
  | .str x, _, _, r, e => by cases e; rw [show _ = V.str x from r]; exact .str x
  | .tup xs, _, _, ⟨a, vs, e1, f, r⟩, e => by
    obtain ⟨ps, e2, rfl⟩ := Option.map_eq_some_iff.mp (show (pys xs).map PyData.tuple = some _ from e)
    subst e1
    exact .tup f.sq (pys_dp xs r e2)
  | .lst xs, _, _, ⟨a, vs, e1, f, r⟩, e => by
    obtain ⟨ps, e2, rfl⟩ := Option.map_eq_some_iff.mp (show (pys xs).map PyData.list = some _ from e)
    subst e1
    exact .lst f.sq (pys_dp xs r e2)
  | .kl xs, _, _, ⟨a, vs, e1, f, r⟩, e => by
    obtain ⟨ps, e2, rfl⟩ := Option.map_eq_some_iff.mp (show (pys xs).map PyData.list = some _ from e)
    subst e1
    exact .lst f.sq (pys_dp xs r e2)
  | .dic _, _, _, _, e => by cases e
  | .kd _, _, _, _, e => by cases e
  | .cel _, _, _, _, e => by cases e
  | .cls _, _, _, _, e => by cases e
  | .ty _, _, _, _, e => by cases e
  | .exc _, _, _, _, e => by cases e
theorem pys_dp : ∀ (ds : List D) {vs : List V} {ps : List PyData}, RelDs Z W H ds vs → pys ds = some ps → DpAll Z.K H vs ps
  | [], _, _, r, e => by cases e; rw [show _ = [] from r]; exact .nil
  | d :: ds, _, _, ⟨v, r, e1, h1, h2⟩, e => by
    obtain ⟨p, e2, e3⟩ := Option.bind_eq_some_iff.mp (show (py d).bind _ = some _ from e)
    obtain ⟨ps, e4, rfl⟩ := Option.map_eq_some_iff.mp e3
    subst e1
    exact .cons (py_dp d h1 e2) (pys_dp ds h2 e4)
end
theorem toPy_dp {h : Hh} {d : D} {v : V} {p : PyData} (hr : HRel Z W H h) (r : RelD Z W H d v) (e : toPy h d = some p) : Dp Z.K H v p := by
  have go : py d = some p → Dp Z.K H v p := py_dp d r
  cases d with
  | cel i =>
    obtain ⟨xs, e1, e2⟩ := Option.bind_eq_some_iff.mp (show (asO h[i]?).bind _ = some _ from e)
    obtain ⟨ps, e3, rfl⟩ := Option.map_eq_some_iff.mp e2
    obtain ⟨a, vs, rfl, hp, r1⟩ := asT_at (d := .cel i) hr r e1
    exact .lst (.inl (.inl hp)) (pys_dp xs r1 e3)
  | _ => exact go e
end
def mapO (f : D → Option PyData) : List D → Option (List PyData)
  | [] => some []
  | d :: ds => (f d).bind fun p => (mapO f ds).map fun ps => p :: ps
/-- data with cells within -/
def pyN (h : Hh) : Nat → D → Option PyData
  | 0, _ => none
  | k + 1, d => match d with
    | .tup xs => (mapO (pyN h k) xs).map .tuple
    | .lst xs => (mapO (pyN h k) xs).map .list
    | .kl xs => (mapO (pyN h k) xs).map .list
    | .cel i => (asO h[i]?).bind fun xs => (mapO (pyN h k) xs).map .list
    | d => py d
section
variable {Z : Zn} {W : Wd} {H : Hp}
theorem mapO_dp {f : D → Option PyData} (ih : ∀ (d : D) (v : V) (p : PyData), RelD Z W H d v → f d = some p → Dp Z.K H v p) : ∀ (ds : List D) {vs : List V} {ps : List PyData}, RelDs Z W H ds vs → mapO f ds = some ps → DpAll Z.K H vs ps
  | [], _, _, r, e => by cases e; rw [show _ = [] from r]; exact .nil
  | d :: ds, _, _, ⟨v, r, e1, h1, h2⟩, e => by
    obtain ⟨p, e2, e3⟩ := Option.bind_eq_some_iff.mp (show (f d).bind _ = some _ from e)
    obtain ⟨ps, e4, rfl⟩ := Option.map_eq_some_iff.mp e3
    subst e1
    exact .cons (ih d v p h1 e2) (mapO_dp ih ds h2 e4)
theorem pyN_dp {h : Hh} (hr : HRel Z W H h) : ∀ (k : Nat) (d : D) (v : V) (p : PyData), RelD Z W H d v → pyN h k d = some p → Dp Z.K H v p
  | 0, _, _, _, _, e => by cases e
  | k + 1, d, v, p, r, e => by
    have ih := pyN_dp hr k
    cases d with
    | tup xs =>
      obtain ⟨a, vs, e1, f, r⟩ := r
      obtain ⟨ps, e2, rfl⟩ := Option.map_eq_some_iff.mp (show (mapO (pyN h k) xs).map PyData.tuple = some _ from e)
      subst e1
      exact .tup f.sq (mapO_dp ih xs r e2)
    | lst xs =>
      obtain ⟨a, vs, e1, f, r⟩ := r
      obtain ⟨ps, e2, rfl⟩ := Option.map_eq_some_iff.mp (show (mapO (pyN h k) xs).map PyData.list = some _ from e)
      subst e1
      exact .lst f.sq (mapO_dp ih xs r e2)
    | kl xs =>
      obtain ⟨a, vs, e1, f, r⟩ := r
      obtain ⟨ps, e2, rfl⟩ := Option.map_eq_some_iff.mp (show (mapO (pyN h k) xs).map PyData.list = some _ from e)
      subst e1
      exact .lst f.sq (mapO_dp ih xs r e2)
    | cel i =>
      obtain ⟨xs, e1, e2⟩ := Option.bind_eq_some_iff.mp (show (asO h[i]?).bind _ = some _ from e)
      obtain ⟨ps, e3, rfl⟩ := Option.map_eq_some_iff.mp e2
      obtain ⟨a, vs, rfl, hp, r1⟩ := asT_at (d := .cel i) hr r e1
      exact .lst (.inl (.inl hp)) (mapO_dp ih xs r1 e3)
    | _ => exact py_dp _ r e
end
/-- == -/
def eqP : Option PyData → Option PyData → Option Bool
  | some p, some q => if SeqAt.shaped p = true ∧ SeqAt.shaped q = true then some (PyData.eqv p q) else none
  | _, _ => none
/-- lists of unlike lengths, whatever stands in them -/
def neLen (h : Hh) (a b : D) : Option Bool := match asT h a, asT h b with
  | some xs, some ys => if xs.length = ys.length then eqP (pyN h 8 a) (pyN h 8 b) else some false
  | _, _ => eqP (pyN h 8 a) (pyN h 8 b)
def eqD (h : Hh) (a b : D) : Option Bool := match a, b with
  | .int i, .int j => some (i == j)
  | .str i, .str j => some (decide (i = j))
  | a, b => match eqP (toPy h a) (toPy h b) with
    | some r => some r
    | none => neLen h a b
/-- items that are == -/
def inP : Option PyData → Option PyData → Option Bool
  | some p, some (.list ds) => if SeqAt.shaped p = true ∧ SeqAt.shaped (.list ds) = true then some (ds.any fun z => PyData.eqv z p) else none
  | some p, some (.tuple ds) => if SeqAt.shaped p = true ∧ SeqAt.shaped (.tuple ds) = true then some (ds.any fun z => PyData.eqv z p) else none
  | _, _ => none
def hasK (kvs : List (Key × D)) (k : Key) : Bool := kvs.any fun p => decide (p.1 = k)
def inD (h : Hh) (a b : D) : Option Bool := match a, b with
  | .int i, .dic kvs => some (hasK kvs (.inl i))
  | .str i, .dic kvs => some (hasK kvs (.inr i))
  | .str x, .str y => some (!(Builtin.Str.occurrences y x 0 y.length 1).isEmpty)
  | a, b => inP (toPy h a) (toPy h b)
def isD (a b : D) : Option Bool := match b with
  | .non => match a with
    | .non => some true
    | _ => some false
  | .bl y => match a with
    | .bl x => some (decide (x = y))
    | _ => none
  | _ => none
def ltD (a b : D) : Option Bool := match a, b with
  | .int i, .int j => some (decide (i < j))
  | _, _ => none
def leD (a b : D) : Option Bool := match a, b with
  | .int i, .int j => some (decide (i ≤ j))
  | _, _ => none
def cmpD (o : CmpOp) (h : Hh) (a b : D) : Option Bool := match o with
  | .Eq => eqD h a b
  | .NotEq => (eqD h a b).map not
  | .Lt => ltD a b
  | .LtE => leD a b
  | .Gt => ltD b a
  | .GtE => leD b a
  | .Is => isD a b
  | .IsNot => (isD a b).map not
  | .In => inD h a b
  | .NotIn => (inD h a b).map not
def ofB (o : Option Bool) (h : Hh) : R D := match o with
  | some b => .ok (.bl b) h
  | none => .bad
section
variable {X : Cx} {Z : Zn}
theorem ofB_tri {E Q W H h} {o : Option Bool} (t : TriD Z E Q W H (ofB o h)) (hE : ∀ c H, ¬ E c H) (hr : HRel Z W H h) : ∃ b, o = some b ∧ Q (.bl b) H := by
  cases o with
  | none => exact t.elim
  | some b => exact ⟨b, rfl, t.now hr rfl⟩
theorem cmp_of {op : CmpOp} {g : Hh → D → D → Option Bool}
    (k : ∀ (pins : List (Addr × Obj)) (s : Shared) (σ : L2.St) (H : Hp) (x y : V) (v u : Value) (Q : VK) (W : Wd) (h : Hh) (a b : D) (r : Bool), Inv X pins σ H s → RelV x v → RelV y u → HRel Z W H h → RelD Z W H a x → RelD Z W H b y →
      g h a b = some r → Q (.bl r) H → wpAny (model X.prog X.w) X.A (compareOp op v u) (EP X pins σ Q) X.xe s) : OpR X (compareOp op) (rD Z fun a b h => ofB (g h a b) h) := by
  refine opD_of fun pins s σ H x y v u Q W h a b I rx ry hr ra rb t => ?_
  obtain ⟨r, e, q⟩ := ofB_tri t (fun _ _ z => z) hr
  exact k pins s σ H x y v u Q W h a b r I rx ry hr ra rb e q
theorem eqP_some {p q : Option PyData} {r : Bool} (e : eqP p q = some r) : ∃ a b, p = some a ∧ q = some b ∧ SeqAt.shaped a = true ∧ SeqAt.shaped b = true ∧ r = PyData.eqv a b := by
  cases p with
  | none => cases e
  | some a =>
    cases q with
    | none => cases e
    | some b =>
      have e : (if SeqAt.shaped a = true ∧ SeqAt.shaped b = true then some (PyData.eqv a b) else none) = some r := e
      by_cases hz : SeqAt.shaped a = true ∧ SeqAt.shaped b = true
      · rw [if_pos hz] at e; cases e; exact ⟨a, b, rfl, rfl, hz.1, hz.2, rfl⟩
      · rw [if_neg hz] at e; cases e
def rLen (K : PySem.W.Frag) (r : Bool) : R2 := fun x y H Q => ∃ a b xs ys, x = .ref a ∧ y = .ref b ∧ SqL K H a xs ∧ SqL K H b ys ∧ xs.length ≠ ys.length ∧ Q (.bl r) H
theorem op_eqLen (hu : X.A.units < cLine) : OpR X (compareOp .Eq) (rLen X.K false) := by
  intro pins s σ H x y v u Q I rx ry ⟨a, b, xs, ys, hx, hy, ha, hb, ne, q⟩
  subst hx hy
  cases rx
  cases ry
  obtain ⟨its, rv, pl, hz⟩ := I.list ha
  obtain ⟨its2, rv2, pl2, hz2⟩ := I.list hb
  have l1 := rv.length
  have l2 := rv2.length
  exact PySem.SeqAt.RcAt.lists_lengths pl.isList pl2.isList (by simp; omega) hu _ _ _ _ ⟨.bl false, H, I, rfl, q⟩
theorem op_neLen (hu : X.A.units < cLine) : OpR X (compareOp .NotEq) (rLen X.K true) := by
  intro pins s σ H x y v u Q I rx ry ⟨a, b, xs, ys, hx, hy, ha, hb, ne, q⟩
  subst hx hy
  cases rx
  cases ry
  obtain ⟨its, rv, pl, hz⟩ := I.list ha
  obtain ⟨its2, rv2, pl2, hz2⟩ := I.list hb
  have l1 := rv.length
  have l2 := rv2.length
  exact PySem.SeqAt.RcNeAt.lists_lengths pl.isList pl2.isList (by simp; omega) hu _ _ _ _ ⟨.bl true, H, I, rfl, q⟩
theorem dec_strV {i j : Str} : decide (V.str i = V.str j) = decide (i = j) := by simp only [V.str.injEq]
theorem neLen_some {h : Hh} {a b : D} {r : Bool} (e : neLen h a b = some r) : (r = false ∧ ∃ xs ys, asT h a = some xs ∧ asT h b = some ys ∧ xs.length ≠ ys.length) ∨ eqP (pyN h 8 a) (pyN h 8 b) = some r := by
  unfold neLen at e
  cases ea : asT h a with
  | none => rw [ea] at e; exact .inr e
  | some xs =>
    cases eb : asT h b with
    | none => rw [ea, eb] at e; exact .inr e
    | some ys =>
      simp only [ea, eb] at e
      by_cases hl : xs.length = ys.length
      · rw [if_pos hl] at e; exact .inr e
      · rw [if_neg hl] at e; cases e; exact .inl ⟨rfl, xs, ys, rfl, rfl, hl⟩
theorem op_eqX (hK : X.K = Z.K) (hu : X.A.units + 64 < cLine) : OpR X (compareOp .Eq) (rD Z fun a b h => ofB (eqD h a b) h) := by
  refine cmp_of (g := eqD) fun pins s σ H x y v u Q W h a b r I rx ry hr ra rb e q => ?_
  have gen : ∀ (e : (match eqP (toPy h a) (toPy h b) with | some r => some r | none => neLen h a b) = some r), wpAny (model X.prog X.w) X.A (compareOp .Eq v u) (EP X pins σ Q) X.xe s := fun e => by
    cases q0 : eqP (toPy h a) (toPy h b) with
    | none =>
      rw [q0] at e
      rcases neLen_some e with ⟨rfl, xs, ys, ea, eb, ne⟩ | e
      rotate_left
      · obtain ⟨p, p', e1, e2, s1, s2, rfl⟩ := eqP_some e
        exact op_eqD hu pins s σ H x y v u Q I rx ry ⟨p, p', hK ▸ pyN_dp hr 8 _ _ _ ra e1, hK ▸ pyN_dp hr 8 _ _ _ rb e2, s1, s2, q⟩
      obtain ⟨p, vs, rfl, hp, r1⟩ := asT_at hr ra ea
      obtain ⟨p', us, rfl, hp', r2⟩ := asT_at hr rb eb
      exact op_eqLen (by omega) pins s σ H _ _ v u Q I rx ry ⟨p, p', vs, us, rfl, rfl, .inl (.inl hp), .inl (.inl hp'), by rw [← r1.length, ← r2.length]; exact ne, q⟩
    | some r' =>
    rw [q0] at e
    cases e
    obtain ⟨p, p', e1, e2, s1, s2, rfl⟩ := eqP_some q0
    exact op_eqD hu pins s σ H x y v u Q I rx ry ⟨p, p', hK ▸ toPy_dp hr ra e1, hK ▸ toPy_dp hr rb e2, s1, s2, q⟩
  cases a with
  | int i =>
    cases b with
    | int j =>
      cases e
      rw [show x = V.int i from ra] at rx
      rw [show y = V.int j from rb] at ry
      exact op_eq pins s σ H _ _ v u Q I rx ry ⟨rfl, by rw [dec_int]; exact q⟩
    | _ => exact gen e
  | str i =>
    cases b with
    | str j =>
      cases e
      rw [show x = V.str i from ra] at rx
      rw [show y = V.str j from rb] at ry
      exact op_eq pins s σ H _ _ v u Q I rx ry ⟨rfl, by rw [dec_strV]; exact q⟩
    | _ => exact gen e
  | _ => exact gen e
theorem op_neX (hK : X.K = Z.K) (hu : X.A.units + 64 < cLine) : OpR X (compareOp .NotEq) (rD Z fun a b h => ofB ((eqD h a b).map not) h) := by
  refine cmp_of (g := fun h a b => (eqD h a b).map not) fun pins s σ H x y v u Q W h a b r0 I rx ry hr ra rb e0 q => ?_
  obtain ⟨r, e, rfl⟩ := Option.map_eq_some_iff.mp e0
  clear e0
  have gen : ∀ (e : (match eqP (toPy h a) (toPy h b) with | some r => some r | none => neLen h a b) = some r), wpAny (model X.prog X.w) X.A (compareOp .NotEq v u) (EP X pins σ Q) X.xe s := fun e => by
    cases q0 : eqP (toPy h a) (toPy h b) with
    | none =>
      rw [q0] at e
      rcases neLen_some e with ⟨rfl, xs, ys, ea, eb, ne⟩ | e
      rotate_left
      · obtain ⟨p, p', e1, e2, s1, s2, rfl⟩ := eqP_some e
        exact op_neD hu pins s σ H x y v u Q I rx ry ⟨p, p', hK ▸ pyN_dp hr 8 _ _ _ ra e1, hK ▸ pyN_dp hr 8 _ _ _ rb e2, s1, s2, q⟩
      obtain ⟨p, vs, rfl, hp, r1⟩ := asT_at hr ra ea
      obtain ⟨p', us, rfl, hp', r2⟩ := asT_at hr rb eb
      exact op_neLen (by omega) pins s σ H _ _ v u Q I rx ry ⟨p, p', vs, us, rfl, rfl, .inl (.inl hp), .inl (.inl hp'), by rw [← r1.length, ← r2.length]; exact ne, q⟩
    | some r' =>
    rw [q0] at e
    cases e
    obtain ⟨p, p', e1, e2, s1, s2, rfl⟩ := eqP_some q0
    exact op_neD hu pins s σ H x y v u Q I rx ry ⟨p, p', hK ▸ toPy_dp hr ra e1, hK ▸ toPy_dp hr rb e2, s1, s2, q⟩
  cases a with
  | int i =>
    cases b with
    | int j =>
      obtain rfl : (i == j) = r := Option.some.inj e
      rw [show x = V.int i from ra] at rx
      rw [show y = V.int j from rb] at ry
      exact op_ne pins s σ H _ _ v u Q I rx ry ⟨rfl, by rw [dec_int]; exact q⟩
    | _ => exact gen e
  | str i =>
    cases b with
    | str j =>
      obtain rfl : decide (i = j) = r := Option.some.inj e
      rw [show x = V.str i from ra] at rx
      rw [show y = V.str j from rb] at ry
      exact op_ne pins s σ H _ _ v u Q I rx ry ⟨rfl, by rw [dec_strV]; exact q⟩
    | _ => exact gen e
  | _ => exact gen e
theorem op_ltX : OpR X (compareOp .Lt) (rD Z fun a b h => ofB (ltD a b) h) := by
  refine cmp_of (g := fun _ => ltD) fun pins s σ H x y v u Q W h a b r I rx ry hr ra rb e q => ?_
  cases a with
  | int i =>
    cases b with
    | int j => cases e; exact op_lt pins s σ H x y v u Q I rx ry ⟨i, j, ra, rb, q⟩
    | _ => cases e
  | _ => cases b <;> cases e
theorem op_gtX : OpR X (compareOp .Gt) (rD Z fun a b h => ofB (ltD b a) h) := by
  refine cmp_of (g := fun _ a b => ltD b a) fun pins s σ H x y v u Q W h a b r I rx ry hr ra rb e q => ?_
  cases a with
  | int i =>
    cases b with
    | int j => cases e; exact op_gt pins s σ H x y v u Q I rx ry ⟨i, j, ra, rb, q⟩
    | _ => cases e
  | _ => cases b <;> cases e
theorem op_leX : OpR X (compareOp .LtE) (rD Z fun a b h => ofB (leD a b) h) := by
  refine cmp_of (g := fun _ => leD) fun pins s σ H x y v u Q W h a b r I rx ry hr ra rb e q => ?_
  cases a with
  | int i =>
    cases b with
    | int j => cases e; exact op_le pins s σ H x y v u Q I rx ry ⟨i, j, ra, rb, q⟩
    | _ => cases e
  | _ => cases b <;> cases e
theorem op_geX : OpR X (compareOp .GtE) (rD Z fun a b h => ofB (leD b a) h) := by
  refine cmp_of (g := fun _ a b => leD b a) fun pins s σ H x y v u Q W h a b r I rx ry hr ra rb e q => ?_
  cases a with
  | int i =>
    cases b with
    | int j => cases e; exact op_ge pins s σ H x y v u Q I rx ry ⟨i, j, ra, rb, q⟩
    | _ => cases e
  | _ => cases b <;> cases e
theorem rel_non {W H} {a : D} {x : V} {r : Bool} (ra : RelD Z W H a x) (e : isD a .non = some r) : decide (x = .non) = r := by
  cases a with
  | non => cases e; rw [show x = V.non from ra]; rfl
  | bl b => cases e; rw [show x = V.bl b from ra]; rfl
  | int b => cases e; rw [show x = V.int b from ra]; rfl
  | str b => cases e; rw [show x = V.str b from ra]; rfl
  | ty b => cases e; rw [show x = V.ty b from ra]; rfl
  | tup b => cases e; obtain ⟨p, _, rfl, _⟩ := ra; rfl
  | lst b => cases e; obtain ⟨p, _, rfl, _⟩ := ra; rfl
  | kl b => cases e; obtain ⟨p, _, rfl, _⟩ := ra; rfl
  | dic b => cases e; obtain ⟨p, _, rfl, _⟩ := ra; rfl
  | kd b => cases e; obtain ⟨p, _, rfl, _⟩ := ra; rfl
  | cel b => cases e; obtain ⟨p, rfl, _⟩ := ra; rfl
  | cls b => cases e; obtain ⟨p, rfl, _⟩ := ra; rfl
  | exc b => cases e; obtain ⟨p, _, rfl, _⟩ := ra; rfl
theorem op_isX : OpR X (compareOp .Is) (rD Z fun a b h => ofB (isD a b) h) := by
  refine cmp_of (g := fun _ => isD) fun pins s σ H x y v u Q W h a b r I rx ry hr ra rb e q => ?_
  cases b with
  | non => exact op_isN pins s σ H x y v u Q I rx ry ⟨rb, by rw [rel_non ra e]; exact q⟩
  | bl j =>
    cases a with
    | bl i => cases e; exact op_isBl pins s σ H x y v u Q I rx ry ⟨i, j, ra, rb, q⟩
    | _ => cases e
  | _ => cases e
theorem op_isNotX : OpR X (compareOp .IsNot) (rD Z fun a b h => ofB ((isD a b).map not) h) := by
  refine cmp_of (g := fun _ a b => (isD a b).map not) fun pins s σ H x y v u Q W h a b r0 I rx ry hr ra rb e0 q => ?_
  obtain ⟨r, e, rfl⟩ := Option.map_eq_some_iff.mp e0
  clear e0
  cases b with
  | non => exact op_notN pins s σ H x y v u Q I rx ry ⟨rb, by rw [rel_non ra e]; exact q⟩
  | bl j =>
    cases a with
    | bl i => cases e; exact op_notBl pins s σ H x y v u Q I rx ry ⟨i, j, ra, rb, q⟩
    | _ => cases e
  | _ => cases e
end
end Tb
namespace Tb
open PySem PySem.Spec PyProof.Rows L2
section
variable {X : Cx} {Z : Zn}
theorem relK_any {W H} {k : Key} : ∀ {kvs : List (Key × D)} {vs : List (Key × V)}, RelKs Z W H kvs vs → hasK kvs k = (valV vs k).isSome
  | [], _, r => by rw [show _ = [] from r]; rfl
  | (k', d) :: kvs, _, ⟨v, r, e, h1, h2⟩ => by
    subst e
    rw [← valV_any]
    show (decide (k' = k) || hasK kvs k) = (decide (k' = k) || _)
    rw [relK_any h2, ← valV_any]
theorem inP_some {p q : Option PyData} {r : Bool} (e : inP p q = some r) : ∃ a ds, p = some a ∧ ((q = some (.list ds) ∧ SeqAt.shaped (.list ds) = true) ∨ (q = some (.tuple ds) ∧ SeqAt.shaped (.tuple ds) = true)) ∧ SeqAt.shaped a = true ∧ r = ds.any fun z => PyData.eqv z a := by
  cases p with
  | none => cases e
  | some a =>
    cases q with
    | none => cases e
    | some b =>
      cases b with
      | list ds =>
        have e : (if SeqAt.shaped a = true ∧ SeqAt.shaped (.list ds) = true then some (ds.any fun z => PyData.eqv z a) else none) = some r := e
        by_cases hz : SeqAt.shaped a = true ∧ SeqAt.shaped (.list ds) = true
        · rw [if_pos hz] at e; cases e; exact ⟨a, ds, rfl, .inl ⟨rfl, hz.2⟩, hz.1, rfl⟩
        · rw [if_neg hz] at e; cases e
      | tuple ds =>
        have e : (if SeqAt.shaped a = true ∧ SeqAt.shaped (.tuple ds) = true then some (ds.any fun z => PyData.eqv z a) else none) = some r := e
        by_cases hz : SeqAt.shaped a = true ∧ SeqAt.shaped (.tuple ds) = true
        · rw [if_pos hz] at e; cases e; exact ⟨a, ds, rfl, .inr ⟨rfl, hz.2⟩, hz.1, rfl⟩
        · rw [if_neg hz] at e; cases e
      | _ => cases e
theorem op_inT (hu : X.A.units + 65 < cLine) : OpR X (compareOp .In) (fun x y H Q => ∃ d ds, Dp X.K H x d ∧ Dp X.K H y (.tuple ds) ∧ SeqAt.shaped d = true ∧ SeqAt.shaped (.tuple ds) = true ∧ Q (.bl (ds.any fun z => PyData.eqv z d)) H) := by
  intro pins s σ H x y v u Q I rx ry h
  obtain ⟨d, ds, hd, he, sd, se, q⟩ := h
  obtain ⟨as, r1⟩ := Dp.reads I d x v hd rx
  obtain ⟨bs, r2⟩ := Dp.reads I (.tuple ds) y u he ry
  exact SeqAt.in_tuple_reads r2 r1 (SeqAt.canLay_of_shaped se) (SeqAt.canLay_of_shaped sd) (room_in_shaped sd hu) ⟨.bl _, H, I, rfl, q⟩
theorem op_notInT (hu : X.A.units + 65 < cLine) : OpR X (compareOp .NotIn) (fun x y H Q => ∃ d ds, Dp X.K H x d ∧ Dp X.K H y (.tuple ds) ∧ SeqAt.shaped d = true ∧ SeqAt.shaped (.tuple ds) = true ∧ Q (.bl (!ds.any fun z => PyData.eqv z d)) H) := by
  intro pins s σ H x y v u Q I rx ry h
  obtain ⟨d, ds, hd, he, sd, se, q⟩ := h
  obtain ⟨as, r1⟩ := Dp.reads I d x v hd rx
  obtain ⟨bs, r2⟩ := Dp.reads I (.tuple ds) y u he ry
  exact SeqAt.notIn_tuple_reads r2 r1 (SeqAt.canLay_of_shaped se) (SeqAt.canLay_of_shaped sd) (room_in_shaped sd hu) ⟨.bl _, H, I, rfl, q⟩
theorem op_inX (hK : X.K = Z.K) (hu : X.A.units + 65 < cLine) : OpR X (compareOp .In) (rD Z fun a b h => ofB (inD h a b) h) := by
  refine cmp_of (g := inD) fun pins s σ H x y v u Q W h a b r I rx ry hr ra rb e q => ?_
  have gen : ∀ (e : inP (toPy h a) (toPy h b) = some r), wpAny (model X.prog X.w) X.A (compareOp .In v u) (EP X pins σ Q) X.xe s := fun e => by
    obtain ⟨p, ds, e1, ⟨e2, s2⟩ | ⟨e2, s2⟩, s1, rfl⟩ := inP_some e
    · exact op_inD hu pins s σ H x y v u Q I rx ry ⟨p, ds, hK ▸ toPy_dp hr ra e1, hK ▸ toPy_dp hr rb e2, s1, s2, q⟩
    · exact op_inT hu pins s σ H x y v u Q I rx ry ⟨p, ds, hK ▸ toPy_dp hr ra e1, hK ▸ toPy_dp hr rb e2, s1, s2, q⟩
  have dict : ∀ (k : Key) (kvs : List (Key × D)), x = kV k → b = .dic kvs → hasK kvs k = r → wpAny (model X.prog X.w) X.A (compareOp .In v u) (EP X pins σ Q) X.xe s := fun k kvs ex eb e1 => by
    subst ex; subst eb
    obtain ⟨p, vs, rfl, hp, _, _, rk⟩ := rb
    cases ry
    refine d_in (by omega) I (DGet.k (k := k) hp) rx fun s3 I3 => ⟨.bl _, H, I3, rfl, ?_⟩
    rw [← relK_any rk, e1]; exact q
  cases a with
  | int i =>
    cases b with
    | dic kvs => cases e; exact dict (.inl i) kvs ra rfl rfl
    | _ => exact gen e
  | str i =>
    cases b with
    | dic kvs => cases e; exact dict (.inr i) kvs ra rfl rfl
    | str j => cases e; exact op_in_str pins s σ H x y v u Q I rx ry ⟨i, j, ra, rb, q⟩
    | _ => exact gen e
  | _ => exact gen e
theorem op_notInX (hK : X.K = Z.K) (hu : X.A.units + 65 < cLine) : OpR X (compareOp .NotIn) (rD Z fun a b h => ofB ((inD h a b).map not) h) := by
  refine cmp_of (g := fun h a b => (inD h a b).map not) fun pins s σ H x y v u Q W h a b r0 I rx ry hr ra rb e0 q => ?_
  obtain ⟨r, e, rfl⟩ := Option.map_eq_some_iff.mp e0
  clear e0
  have gen : ∀ (e : inP (toPy h a) (toPy h b) = some r), wpAny (model X.prog X.w) X.A (compareOp .NotIn v u) (EP X pins σ Q) X.xe s := fun e => by
    obtain ⟨p, ds, e1, ⟨e2, s2⟩ | ⟨e2, s2⟩, s1, rfl⟩ := inP_some e
    · exact op_notInD hu pins s σ H x y v u Q I rx ry ⟨p, ds, hK ▸ toPy_dp hr ra e1, hK ▸ toPy_dp hr rb e2, s1, s2, q⟩
    · exact op_notInT hu pins s σ H x y v u Q I rx ry ⟨p, ds, hK ▸ toPy_dp hr ra e1, hK ▸ toPy_dp hr rb e2, s1, s2, q⟩
  have dict : ∀ (k : Key) (kvs : List (Key × D)), x = kV k → b = .dic kvs → hasK kvs k = r → wpAny (model X.prog X.w) X.A (compareOp .NotIn v u) (EP X pins σ Q) X.xe s := fun k kvs ex eb e1 => by
    subst ex; subst eb
    obtain ⟨p, vs, rfl, hp, _, _, rk⟩ := rb
    cases ry
    refine d_notIn (by omega) I (DGet.k (k := k) hp) rx fun s3 I3 => ⟨.bl _, H, I3, rfl, ?_⟩
    rw [← relK_any rk, e1]; exact q
  cases a with
  | int i =>
    cases b with
    | dic kvs => exact dict (.inl i) kvs ra rfl (Option.some.inj e)
    | _ => exact gen e
  | str i =>
    cases b with
    | dic kvs => exact dict (.inr i) kvs ra rfl (Option.some.inj e)
    | str j =>
      obtain rfl : (!(Builtin.Str.occurrences j i 0 j.length 1).isEmpty) = r := Option.some.inj e
      exact op_notIn_str pins s σ H x y v u Q I rx ry ⟨i, j, ra, rb, q⟩
    | _ => exact gen e
  | _ => exact gen e
theorem op_cmpD (hK : X.K = Z.K) (hu : X.A.units + 65 < cLine) : ∀ o : CmpOp, OpR X (compareOp o) (rD Z fun a b h => ofB (cmpD o h a b) h)
  | .Eq => op_eqX hK (by omega)
  | .NotEq => op_neX hK (by omega)
  | .Lt => op_ltX
  | .LtE => op_leX
  | .Gt => op_gtX
  | .GtE => op_geX
  | .Is => op_isX
  | .IsNot => op_isNotX
  | .In => op_inX hK hu
  | .NotIn => op_notInX hK hu
end
/-! ### a[i] -/
def optD (o : Option D) (h : Hh) : R D := match o with
  | some d => .ok d h
  | none => .bad
def idxL (o : Option (List D)) (i : Int) (h : Hh) : R D := match o with
  | some xs => optD (atI xs i) h
  | none => .bad
def idxS (x : Str) (i : Int) : Option D := if x.length ≤ LIM then (atI x.cps.toList i).map fun c => .str ⟨#[c]⟩ else none
def idxD (a b : D) (h : Hh) : R D := match b with
  | .int i => match a with
    | .tup xs => optD (atI xs i) h
    | .str x => optD (idxS x i) h
    | a => idxL (asL h a) i h
  | _ => .bad
theorem atI_rel {Z : Zn} {W : Wd} {H : Hp} {xs : List D} {vs : List V} {i : Int} {d : D} (r : RelDs Z W H xs vs) (e : atI xs i = some d) : ∃ v, atI vs i = some v ∧ RelD Z W H d v := by
  unfold atI at e ⊢
  rw [← r.length]
  cases q : ixN xs.length i with
  | none => rw [q] at e; cases e
  | some j =>
    rw [q] at e
    exact r.get e
section
variable {X : Cx} {Z : Zn}
theorem ix_D (hK : X.K = Z.K) : IxR X (rD Z idxD) := by
  intro value slice pins s σ H x y v u Q I rx ry ⟨W, h, a, b, ra, rb, hr, t⟩ hs
  cases b with
  | int i =>
    have lists : ∀ (t : TriD Z (fun _ _ => False) Q W H (idxL (asL h a) i h)), wpAny (model X.prog X.w) X.A (subscriptTail value slice v u) (EP X pins σ Q) X.xe s := fun t => by
      cases e : asL h a with
      | none => rw [e] at t; exact t.elim
      | some xs =>
        rw [e] at t
        obtain ⟨p, vs, rfl, hp, r1⟩ := asL_sq hr ra e
        have t : TriD Z (fun _ _ => False) Q W H (optD (atI xs i) h) := t
        cases e2 : atI xs i with
        | none => rw [e2] at t; exact t.elim
        | some d =>
          rw [e2] at t
          obtain ⟨w, e3, r3⟩ := atI_rel r1 e2
          exact ix_list value slice pins s σ H _ _ v u Q I rx ry ⟨p, vs, i, w, rfl, rb, hK ▸ hp, e3, t.now hr r3⟩ hs
    cases a with
    | tup xs =>
      have t : TriD Z (fun _ _ => False) Q W H (optD (atI xs i) h) := t
      obtain ⟨p, vs, rfl, fp, r1⟩ := ra
      cases e2 : atI xs i with
      | none => rw [e2] at t; exact t.elim
      | some d =>
        rw [e2] at t
        obtain ⟨w, e3, r3⟩ := atI_rel r1 e2
        exact ix_tup value slice pins s σ H _ _ v u Q I rx ry ⟨p, vs, i, w, rfl, rb, hK ▸ fp.sq, e3, t.now hr r3⟩ hs
    | str z =>
      have t : TriD Z (fun _ _ => False) Q W H (optD (idxS z i) h) := t
      cases e2 : idxS z i with
      | none => rw [e2] at t; exact t.elim
      | some d =>
        rw [e2] at t
        unfold idxS at e2
        by_cases hz : z.length ≤ LIM
        · rw [if_pos hz] at e2
          obtain ⟨c, e3, rfl⟩ := Option.map_eq_some_iff.mp e2
          exact ix_str value slice pins s σ H _ _ v u Q I rx ry ⟨z, i, c, ra, rb, Nat.le_trans hz lim_le, e3, t.now hr rfl⟩ hs
        · rw [if_neg hz] at e2; cases e2
    | _ => exact lists t
  | _ => exact t.elim
end
/-! ### a[lo:hi] -/
def cutD (xs : List D) (lo hi : Option Int) : List D := (xs.drop (HT.sIx xs.length 0 lo)).take (HT.sIx xs.length xs.length hi - HT.sIx xs.length 0 lo)
def slcL (c : Bool) (o : Option (List D)) (lo hi : Option Int) (h : Hh) : R D := match o with
  | some xs => mkL c (cutD xs lo hi) h
  | none => .bad
def slcD (c : Bool) (a : D) (lo hi : Option Int) (h : Hh) : R D := match a with
  | .tup xs => .ok (.tup (cutD xs lo hi)) h
  | .str x => if x.length ≤ LIM then .ok (.str (cutS x lo hi)) h else .bad
  | a => slcL c (asL h a) lo hi h
theorem cut_rel {Z : Zn} {W : Wd} {H : Hp} {xs : List D} {vs : List V} (lo hi : Option Int) (r : RelDs Z W H xs vs) : RelDs Z W H (cutD xs lo hi) (cutV vs lo hi) := by
  unfold cutD cutV
  rw [← r.length]
  exact (r.drop _).take _
def rSD (Z : Zn) (c : Bool) : V → Option Int → Option Int → Hp → VK → Prop := fun x lo hi H Q => ∃ W h a, RelD Z W H a x ∧ HRel Z W H h ∧ TriD Z (fun _ _ => False) Q W H (slcD c a lo hi h)
section
variable {X : Cx} {Z : Zn}
theorem sl_D (hK : X.K = Z.K) (c : Bool) : SlR X (rSD Z c) := by
  intro pins s σ H x v vl vu lo hi sl Q I rx hs pl pu ⟨W, h, a, ra, hr, t⟩
  have lists : ∀ (t : TriD Z (fun _ _ => False) Q W H (slcL c (asL h a) lo hi h)), ∃ T id, typeLookup (.type T) "__getitem__" = pure (some (.builtin id)) ∧ s.TypeIs v T ∧ wpAny (model X.prog X.w) X.A (getItem v (.ref sl)) (EP X pins σ Q) X.xe s := fun t => by
    cases e : asL h a with
    | none => rw [e] at t; exact t.elim
    | some xs =>
      rw [e] at t
      obtain ⟨p, vs, rfl, hp, r1⟩ := asL_sq hr ra e
      exact sl_list pins s σ H _ v vl vu lo hi sl Q I rx hs pl pu ⟨p, vs, rfl, hK ▸ hp, fun l nl => Tri.newL t hr (cut_rel lo hi r1) nl⟩
  cases a with
  | tup xs =>
    obtain ⟨p, vs, rfl, fp, r1⟩ := ra
    refine sl_tupA pins s σ H _ v vl vu lo hi sl Q I rx hs pl pu ⟨p, vs, rfl, hK ▸ fp.sq, fun e => t.now hr ⟨p, vs, rfl, fp, ?_⟩, fun _ l nl => Tri.newT t hr (cut_rel lo hi r1) nl⟩
    have q := cut_rel lo hi r1
    have e2 : cutV vs lo hi = vs := by
      unfold cutV
      rw [e.1, e.2, List.drop_zero, Nat.sub_zero, List.take_length]
    rw [e2] at q
    exact q
  | str z =>
    have t : TriD Z (fun _ _ => False) Q W H (if z.length ≤ LIM then .ok (.str (cutS z lo hi)) h else .bad) := t
    by_cases hz : z.length ≤ LIM
    · rw [if_pos hz] at t
      exact sl_str pins s σ H _ v vl vu lo hi sl Q I rx hs pl pu ⟨z, ra, Nat.le_trans hz lim_le, t.now hr rfl⟩
    · rw [if_neg hz] at t; exact t.elim
  | _ => exact lists t
end
/-! ### a[i] = v -/
def setD (a i v : D) (h : Hh) : R Unit := match a, i with
  | .cel c, .int k => match h[c]? with
    | some (.lst xs) => match ixN xs.length k with
      | some j => .ok () (h.set c (.lst (xs.set j v)))
      | none => .bad
    | _ => .bad
  | _, _ => .bad
def wSt (Z : Zn) (W : Wd) (H : Hp) (h : Hh) (r : R Unit) (Q : Hp → Prop) : Prop := Tri (α := Unit) (β := Unit) Z (fun _ _ _ _ => True) (fun _ _ => False) (fun _ H' => Q H') W H r
section
variable {Z : Zn} {W : Wd} {H : Hp} {h : Hh} {c : Nat} {a : Addr}
theorem nodup_ixA {N : List Addr} (hN : N.Nodup) {i j : Nat} {x : Addr} (p : N[i]? = some x) (q : N[j]? = some x) : i = j := by
  obtain ⟨h1, e1⟩ := List.getElem?_eq_some_iff.mp p
  obtain ⟨h2, e2⟩ := List.getElem?_eq_some_iff.mp q
  exact (List.getElem_inj hN).mp (e1.trans e2.symm)
/-- a cell's list is rewritten -/
theorem Gr.write {o : HO} {ob : O} (hr : HRel Z W H h) (e : W.rho[c]? = some a) (hh : h[c]? = some ob) (nt : ∀ o, H a = some o → fixO o = false) : Gr W H W (upd H a o) := by
  have ha : a ∈ W.rho := List.mem_of_getElem? e
  refine ⟨⟨[], by simp, fun _ z => nomatch z⟩, rfl, fun x u ex hx => ?_, fun x xs fx ex => ?_, fun x ex => ?_⟩
  · rw [upd_ne (fun (q : x = a) => hx (by rw [q]; exact ha))]; exact ex
  · rw [upd_ne (fun (q : x = a) => by rw [nt xs (by rw [← q]; exact ex)] at fx; cases fx)]; exact ex
  · by_cases q : x = a
    · subst q; rw [upd_same] at ex; cases ex
    · rw [upd_ne q] at ex; exact ex
theorem HRel.write {o : HO} {ob ob' : O} (hr : HRel Z W H h) (e : W.rho[c]? = some a) (hh : h[c]? = some ob) (nt : ∀ o, H a = some o → fixO o = false) (new : ObjR Z W (upd H a o) a ob') : HRel Z W (upd H a o) (h.set c ob') := by
  have g := Gr.write (o := o) hr e hh nt
  refine ⟨by rw [List.length_set]; exact hr.len, hr.nd, fun i b o2 e1 e2 => ?_, hr.dis, fun x f ex => hr.frn x f (g.trk x ex)⟩
  by_cases hi : i = c
  · subst hi
    rw [e] at e1; cases e1
    rw [List.getElem?_set_self (List.getElem?_eq_some_iff.mp hh).1] at e2
    cases e2
    exact new
  · rw [List.getElem?_set_ne (Ne.symm hi)] at e2
    have nb : b ≠ a := fun q => hi (nodup_ixA hr.nd e1 (by rw [q]; exact e))
    exact ObjR.mono g (fun u ex => by rw [upd_ne nb]; exact ex) (hr.obj i b o2 e1 e2)
theorem cel_at {v : V} {xs : List D} (hr : HRel Z W H h) (r : RelD Z W H (.cel c) v) (hh : h[c]? = some (.lst xs)) : ∃ a vs, v = .ref a ∧ W.rho[c]? = some a ∧ H a = some (.lst vs) ∧ RelDs Z W H xs vs := by
  obtain ⟨a, e1, e2⟩ := r
  obtain ⟨vs, e3, r3⟩ := hr.obj c a _ e2 hh
  exact ⟨a, vs, e1, e2, e3, r3⟩
/-- behind a rewritten cell -/
theorem Tri.wrote {α β : Type} {rel : Wd → Hp → α → β → Prop} {E : Str → Hp → Prop} {Q : β → Hp → Prop} {d : α} {v : β} {xs ys : List D} {vs us : List V} (t : Tri Z rel E Q W H (.ok d (h.set c (.lst ys)))) (hr : HRel Z W H h)
    (e : W.rho[c]? = some a) (hh : h[c]? = some (.lst xs)) (ha : H a = some (.lst vs)) (r : RelDs Z W H ys us) (rd : ∀ W' H', Gr W H W' H' → rel W' H' d v) : Q v (upd H a (.lst us)) := by
  have nt : ∀ o, H a = some o → fixO o = false := fun o z => by rw [ha] at z; cases z; rfl
  have g := Gr.write (o := .lst us) hr e hh nt
  exact t v W _ g (hr.write e hh nt ⟨us, upd_same, RelDs.mono g ys r⟩) (rd _ _ g)
end
section
variable {X : Cx} {Z : Zn}
def rSetD (Z : Zn) : TSet := fun o i v H Q => ∃ W h a b d, RelD Z W H a o ∧ RelD Z W H b i ∧ RelD Z W H d v ∧ HRel Z W H h ∧ wSt Z W H h (setD a b d h) Q
theorem set_D : PSet X (rSetD Z) := by
  intro pins s σ H o i v ov iv u Q I ro ri rv ⟨W, h, a, b, d, ra, rb, rd, hr, t⟩
  cases a with
  | cel c =>
    cases b with
    | int k =>
      cases e : h[c]? with
      | none => exact (by unfold wSt setD at t; simp only [e] at t; exact t.elim)
      | some ob =>
        cases ob with
        | lst xs =>
          cases e2 : ixN xs.length k with
          | none => exact (by unfold wSt setD at t; simp only [e, e2] at t; exact t.elim)
          | some j =>
            obtain ⟨p, vs, rfl, ep, hp, r1⟩ := cel_at hr ra e
            refine set_list pins s σ H _ _ v ov iv u Q I ro ri rv ⟨p, vs, k, j, rfl, rb, hp, by rw [← r1.length]; exact e2, ?_⟩
            have t : Tri (α := Unit) (β := Unit) Z (fun _ _ _ _ => True) (fun _ _ => False) (fun _ H' => Q H') W H (.ok () (h.set c (.lst (xs.set j d)))) := by
              unfold wSt setD at t; simp only [e, e2] at t; exact t
            exact Tri.wrote (v := ()) t hr ep e hp (r1.set j rd) fun _ _ _ => trivial
        | ins c fs => exact (by unfold wSt setD at t; simp only [e] at t; exact t.elim)
        | dct kvs => exact (by unfold wSt setD at t; simp only [e] at t; exact t.elim)
    | _ => exact t.elim
  | _ => exact t.elim
end
end Tb
namespace Tb
open PySem PySem.Spec PyProof.Rows L2
/-! ### built-ins -/
inductive Bi where
  | len | abs | min | max | sum | sorted | int | str | list | tuple | repr | dict
def asInts : List D → Option (List Int)
  | [] => some []
  | .int i :: ds => (asInts ds).map fun r => i :: r
  | _ :: _ => none
def insI (x : Int) : List Int → List Int
  | [] => [x]
  | y :: r => if x ≤ y then x :: y :: r else y :: insI x r
def sortI : List Int → List Int
  | [] => []
  | x :: r => insI x (sortI r)
def maxI : List Int → Option Int
  | [] => none
  | x :: r => some (r.foldl (fun a b => if b > a then b else a) x)
def minI : List Int → Option Int
  | [] => none
  | x :: r => some (r.foldl (fun a b => if b < a then b else a) x)
def optI (o : Option Int) (h : Hh) : R D := match o with
  | some i => .ok (.int i) h
  | none => .bad
def lenD (h : Hh) : D → Option Int
  | .tup xs => some (xs.length : Int)
  | .str x => if x.length ≤ LIM then some (x.length : Int) else none
  | .dic kvs => some (kvs.length : Int)
  | d => (asL h d).map fun xs => (xs.length : Int)
def intsOf (h : Hh) (d : D) : Option (List Int) := (asL h d).bind asInts
def mkSorted (c : Bool) (o : Option (List Int)) (h : Hh) : R D := match o with
  | some ns => mkL c ((sortI ns).map .int) h
  | none => .bad
def mkList (c : Bool) (d : D) (h : Hh) : R D := match d with
  | .tup xs => mkL c xs h
  | d => match asL h d with
    | some xs => mkL c xs h
    | none => .bad
def mkTup (d : D) (h : Hh) : R D := match d with
  | .tup xs => .ok (.tup xs) h
  | d => match asL h d with
    | some xs => .ok (.tup xs) h
    | none => .bad
/-- pairs of keys and data -/
def pairK : D → Option (Key × D)
  | .tup [.int i, d] => some (.inl i, d)
  | .tup [.str x, d] => some (.inr x, d)
  | _ => none
def pairsK : List D → Option (List (Key × D))
  | [] => some []
  | d :: ds => (pairK d).bind fun p => (pairsK ds).map fun r => p :: r
def mkDict (d : D) (h : Hh) : R D := match (asL h d).bind pairsK with
  | some kvs => if (kvs.map (·.1)).Nodup then .ok (.dic kvs) h else .bad
  | none => .bad
def intD (d : D) : Option Int := match d with
  | .int i => some i
  | .bl b => some (if b then 1 else 0)
  | .str x => if x.length ≤ 640 then PySem.intText? x else none
  | _ => none
def strD (d : D) : Option D := match d with
  | .int i => if small i = true then some (.str (toString i)) else none
  | .str x => some (.str x)
  | .non => some (.str "None")
  | _ => none
def keyPy : Key → PyData
  | .inl i => .int i
  | .inr x => .str x
mutual
/-- data as repr shows it -/
def pyR : D → Option PyData
  | .non => some .none
  | .bl b => some (.bool b)
  | .int i => some (.int i)
  | .str x => some (.str x)
  | .tup xs => (pysR xs).map .tuple
  | .lst xs => (pysR xs).map .list
  | .kl xs => (pysR xs).map .list
  | .dic kvs => (pykR kvs).map .dict
  | _ => none
def pykR : List (Key × D) → Option (List (PyData × PyData))
  | [] => some []
  | (k, d) :: ds => (pyR d).bind fun p => (pykR ds).map fun ps => (keyPy k, p) :: ps
def pysR : List D → Option (List PyData)
  | [] => some []
  | d :: ds => (pyR d).bind fun p => (pysR ds).map fun ps => p :: ps
end
def toPyR0 (h : Hh) : D → Option PyData
  | .cel i => (asO h[i]?).bind fun xs => (pysR xs).map .list
  | d => pyR d
/-- .. with cells within -/
def pyRN (h : Hh) : Nat → D → Option PyData
  | 0, _ => none
  | k + 1, d => match d with
    | .tup xs => (mapO (pyRN h k) xs).map .tuple
    | .lst xs => (mapO (pyRN h k) xs).map .list
    | .kl xs => (mapO (pyRN h k) xs).map .list
    | .cel i => (asO h[i]?).bind fun xs => (mapO (pyRN h k) xs).map .list
    | d => pyR d
def toPyR (h : Hh) (d : D) : Option PyData := match toPyR0 h d with
  | some p => some p
  | none => pyRN h 8 d
def shownD (h : Hh) (d : D) : Option D := (toPyR h d).bind fun p => if p.showable = true ∧ p.depth ≤ 20 ∧ p.shown.length ≤ LIM then some (.str p.shown) else none
/-- lists of numbers -/
def llsOf : List D → Option (List (List Int))
  | [] => some []
  | .lst xs :: ds => (asInts xs).bind fun ns => (llsOf ds).map fun r => ns :: r
  | _ :: _ => none
def pyLL (l : List Int) : PyData := .list (l.map .int)
def maxLL : List (List Int) → Option (List Int)
  | [] => none
  | x :: xs => some (xs.foldl (fun a y => if PySem.W.dataLt (pyLL a) (pyLL y) then y else a) x)
def maxOne (d : D) (h : Hh) : R D := match intsOf h d with
  | some ns => optI (maxI ns) h
  | none => optD ((((asL h d).bind llsOf).bind maxLL).map fun l => .lst (l.map .int)) h
def sumD (d : D) (h : Hh) : R D := match d with
  | .tup xs => optI ((asInts xs).map List.sum) h
  | d => optI ((intsOf h d).map List.sum) h
/-- tuples with an item, data that can be compared -/
def tupN : PyData → Bool
  | .tuple (_ :: _) => true
  | _ => false
def sortOk (ps : List PyData) : Bool := ps.all tupN && ps.all (fun p => ps.all (PySem.W.alike p)) && ps.all fun p => decide (p.depth ≤ 20)
def sortQ (xs : List D) (ps : List PyData) : List D := ((xs.zip ps).mergeSort (PySem.W.dataLe false Prod.snd)).map Prod.fst
def sortQL (c : Bool) (xs : List D) (h : Hh) : R D := match mapO (pyRN h 7) xs with
  | some ps => if sortOk ps = true ∧ xs.length ≤ LIM then mkL c (sortQ xs ps) h else .bad
  | none => .bad
def sortD (c : Bool) (d : D) (h : Hh) : R D := match intsOf h d with
  | some ns => mkSorted c (some ns) h
  | none => match asL h d with
    | some xs => sortQL c xs h
    | none => .bad
def biD (b : Bi) (c : Bool) (ds : List D) (h : Hh) : R D := match b, ds with
  | .len, [d] => optI (lenD h d) h
  | .abs, [.int i] => .ok (.int (if i < 0 then -i else i)) h
  | .min, [.int i, .int j] => .ok (.int (if j < i then j else i)) h
  | .max, [.int i, .int j] => .ok (.int (if j > i then j else i)) h
  | .min, [d] => optI ((intsOf h d).bind minI) h
  | .max, [.tup xs] => optI ((asInts xs).bind maxI) h
  | .max, [d] => maxOne d h
  | .sum, [d] => sumD d h
  | .sorted, [d] => sortD c d h
  | .int, [d] => optI (intD d) h
  | .str, [d] => optD (strD d) h
  | .list, [d] => mkList c d h
  | .tuple, [d] => mkTup d h
  | .repr, [d] => optD (shownD h d) h
  | .dict, [d] => mkDict d h
  | _, _ => .bad
/-- a call by values -/
def rC (Z : Zn) (g : List D → Hh → R D) : List V → Hp → VK → Prop := fun xs H Q => ∃ W h ds, RelDs Z W H ds xs ∧ HRel Z W H h ∧ TriD Z (fun _ _ => False) Q W H (g ds h)
theorem asInts_eq : ∀ {ds : List D} {ns : List Int}, asInts ds = some ns → ds = ns.map .int
  | [], _, e => by cases e; rfl
  | d :: ds, ns, e => by
    cases d with
    | int i =>
      obtain ⟨r, e1, rfl⟩ := Option.map_eq_some_iff.mp (show (asInts ds).map _ = some _ from e)
      rw [asInts_eq e1]; rfl
    | _ => cases e
theorem insI_perm (x : Int) : ∀ l : List Int, (insI x l).Perm (x :: l)
  | [] => List.Perm.refl _
  | y :: r => by
    unfold insI
    by_cases h : x ≤ y
    · rw [if_pos h]
    · rw [if_neg h]
      exact ((insI_perm x r).cons y).trans (List.Perm.swap x y r)
theorem sortI_perm : ∀ l : List Int, (sortI l).Perm l
  | [] => List.Perm.refl _
  | x :: r => (insI_perm x (sortI r)).trans ((sortI_perm r).cons x)
theorem insI_sorted (x : Int) : ∀ {l : List Int}, l.Pairwise (· ≤ ·) → (insI x l).Pairwise (· ≤ ·)
  | [], _ => by simp [insI]
  | y :: r, h => by
    unfold insI
    have h1 := List.pairwise_cons.mp h
    by_cases q : x ≤ y
    · rw [if_pos q]
      refine List.pairwise_cons.mpr ⟨fun z hz => ?_, h⟩
      rcases List.mem_cons.mp hz with rfl | hz
      · exact q
      · exact Int.le_trans q (h1.1 z hz)
    · rw [if_neg q]
      refine List.pairwise_cons.mpr ⟨fun z hz => ?_, insI_sorted x h1.2⟩
      rcases List.mem_cons.mp ((insI_perm x r).mem_iff.mp hz) with rfl | hz
      · omega
      · exact h1.1 z hz
theorem sortI_sorted : ∀ l : List Int, (sortI l).Pairwise (· ≤ ·)
  | [] => List.Pairwise.nil
  | x :: r => insI_sorted x (sortI_sorted r)
theorem sorted_one : ∀ {l m : List Int}, l.Perm m → l.Pairwise (· ≤ ·) → m.Pairwise (· ≤ ·) → l = m
  | [], m, p, _, _ => (List.Perm.nil_eq p)
  | x :: l, m, p, h1, h2 => by
    cases m with
    | nil => exact absurd p.symm (by intro q; have := List.Perm.nil_eq q; cases this)
    | cons y m =>
      have a1 := List.pairwise_cons.mp h1
      have a2 := List.pairwise_cons.mp h2
      have e : x = y := by
        have hx : x ∈ y :: m := p.mem_iff.mp List.mem_cons_self
        have hy : y ∈ x :: l := p.mem_iff.mpr List.mem_cons_self
        rcases List.mem_cons.mp hx with z | z
        · exact z
        · rcases List.mem_cons.mp hy with w | w
          · exact w.symm
          · have q1 := a2.1 x z
            have q2 := a1.1 y w
            omega
      subst e
      rw [sorted_one ((List.perm_cons x).mp p) a1.2 a2.2]
theorem fold_max : ∀ (r : List Int) (x : Int), (r.foldl (fun a b => if b > a then b else a) x) ∈ x :: r ∧ ∀ y ∈ x :: r, y ≤ r.foldl (fun a b => if b > a then b else a) x
  | [], x => ⟨by simp, fun y hy => by simp at hy; simp [hy]⟩
  | z :: r, x => by
    have ih := fold_max r (if z > x then z else x)
    rw [List.foldl_cons]
    refine ⟨?_, fun y hy => ?_⟩
    · rcases List.mem_cons.mp ih.1 with q | q
      · rw [q]
        split <;> simp
      · exact List.mem_cons_of_mem _ (List.mem_cons_of_mem _ q)
    · have h0 := ih.2 (if z > x then z else x) List.mem_cons_self
      rcases List.mem_cons.mp hy with q | q
      · subst q
        split at h0 <;> rename_i hh <;> simp only [hh, if_true, if_false] <;> omega
      · rcases List.mem_cons.mp q with q | q
        · subst q
          split at h0 <;> rename_i hh <;> simp only [hh, if_true, if_false] <;> omega
        · exact ih.2 y (List.mem_cons_of_mem _ q)
theorem fold_min : ∀ (r : List Int) (x : Int), (r.foldl (fun a b => if b < a then b else a) x) ∈ x :: r ∧ ∀ y ∈ x :: r, r.foldl (fun a b => if b < a then b else a) x ≤ y
  | [], x => ⟨by simp, fun y hy => by simp at hy; simp [hy]⟩
  | z :: r, x => by
    have ih := fold_min r (if z < x then z else x)
    rw [List.foldl_cons]
    refine ⟨?_, fun y hy => ?_⟩
    · rcases List.mem_cons.mp ih.1 with q | q
      · rw [q]
        split <;> simp
      · exact List.mem_cons_of_mem _ (List.mem_cons_of_mem _ q)
    · have h0 := ih.2 (if z < x then z else x) List.mem_cons_self
      rcases List.mem_cons.mp hy with q | q
      · subst q
        split at h0 <;> rename_i hh <;> simp only [hh, if_true, if_false] <;> omega
      · rcases List.mem_cons.mp q with q | q
        · subst q
          split at h0 <;> rename_i hh <;> simp only [hh, if_true, if_false] <;> omega
        · exact ih.2 y (List.mem_cons_of_mem _ q)
section
variable {X : Cx} {Z : Zn}
theorem optI_tri {E Q W H h} {o : Option Int} (t : TriD Z E Q W H (optI o h)) (hr : HRel Z W H h) : ∃ b, o = some b ∧ Q (.int b) H := by
  cases o with
  | none => exact t.elim
  | some b => exact ⟨b, rfl, t.now hr rfl⟩
theorem optD_tri {E Q W H h} {o : Option D} (t : TriD Z E Q W H (optD o h)) : ∃ b, o = some b ∧ TriD Z E Q W H (.ok b h) := by
  cases o with
  | none => exact t.elim
  | some b => exact ⟨b, rfl, t⟩
/-- one argument -/
theorem call1_of {f : Value} {g : D → Hh → R D} {G : List D → Hh → R D} (hG : ∀ d h, G [d] h = g d h) (hB : ∀ ds h, ds.length ≠ 1 → G ds h = .bad)
    (k : ∀ (pins : List (Addr × Obj)) (s : Shared) (σ : L2.St) (H : Hp) (x : V) (us : List Value) (Q : VK) (W : Wd) (h : Hh) (d : D), Inv X pins σ H s → Vals [x] us → HRel Z W H h → RelD Z W H d x →
      TriD Z (fun _ _ => False) Q W H (g d h) → wpAny (model X.prog X.w) X.A (call f us) (EP X pins σ Q) X.xe s) : CallR X f (rC Z G) := by
  intro pins s σ H xs us Q I rx ⟨W, h, ds, rd, hr, t⟩
  cases ds with
  | nil => rw [hB [] h (by simp)] at t; exact t.elim
  | cons d r =>
    cases r with
    | cons d2 r2 => rw [hB _ h (by simp)] at t; exact t.elim
    | nil =>
      rw [hG] at t
      obtain ⟨v, q, rfl, r1, rfl⟩ := rd
      exact k pins s σ H v us Q W h d I rx hr r1 t
theorem c_len (hK : X.K = Z.K) (c : Bool) : CallR X (.builtin "len") (rC Z (biD .len c)) := by
  refine call1_of (g := fun d h => optI (lenD h d) h) (fun _ _ => rfl) (fun ds h hn => by rcases ds with _ | ⟨d, _ | ⟨d2, r⟩⟩ <;> first | rfl | exact absurd rfl hn) fun pins s σ H x us Q W h d I rx hr rd t => ?_
  obtain ⟨n, e, q⟩ := optI_tri t hr
  have lists : ∀ (e : (asL h d).map (fun xs => (xs.length : Int)) = some n), wpAny (model X.prog X.w) X.A (call (.builtin "len") us) (EP X pins σ Q) X.xe s := fun e => by
    obtain ⟨xs, e1, rfl⟩ := Option.map_eq_some_iff.mp e
    obtain ⟨p, vs, rfl, hp, r1⟩ := asL_sq hr rd e1
    exact call_len_seq pins s σ H _ us Q I rx ⟨p, vs, rfl, .inl (hK ▸ hp), by rw [← r1.length]; exact q⟩
  cases d with
  | tup xs =>
    obtain ⟨p, vs, rfl, fp, r1⟩ := rd
    cases e
    exact call_len_seq pins s σ H _ us Q I rx ⟨p, vs, rfl, .inr (hK ▸ fp.sq), by rw [← r1.length]; exact q⟩
  | str z =>
    have e : (if z.length ≤ LIM then some (z.length : Int) else none) = some n := e
    by_cases hz : z.length ≤ LIM
    · rw [if_pos hz] at e; cases e
      rw [show x = V.str z from rd] at rx
      exact call_len_str pins s σ H _ us Q I rx ⟨z, rfl, Nat.le_trans hz lim_le, q⟩
    · rw [if_neg hz] at e; cases e
  | dic kvs =>
    obtain ⟨p, vs, rfl, hp, _, _, rk⟩ := rd
    cases e
    refine call_lenD pins s σ H _ us Q I rx ⟨p, vs, rfl, hp, ?_⟩
    have : vs.length = kvs.length := relK_len rk
    rw [this]; exact q
  | _ => exact lists e
where relK_len {W H} : ∀ {kvs : List (Key × D)} {vs : List (Key × V)}, RelKs Z W H kvs vs → vs.length = kvs.length
  | [], _, r => by rw [show _ = [] from r]; rfl
  | (k, d) :: kvs, _, ⟨v, r, e, _, h2⟩ => by subst e; rw [List.length_cons, List.length_cons, relK_len h2]
theorem c_abs (c : Bool) : CallR X (.builtin "abs") (rC Z (biD .abs c)) := by
  intro pins s σ H xs us Q I rx ⟨W, h, ds, rd, hr, t⟩
  rcases ds with _ | ⟨d, _ | ⟨d2, r⟩⟩
  · exact t.elim
  · cases d with
    | int i =>
      obtain ⟨v, q, rfl, r1, rfl⟩ := rd
      rw [show v = V.int i from r1] at rx
      exact call_abs pins s σ H _ us Q I rx ⟨i, rfl, t.now hr rfl⟩
    | _ => exact t.elim
  · cases d <;> exact t.elim
theorem intsOf_sq {W H h} {d : D} {v : V} {ns : List Int} (hr : HRel Z W H h) (r : RelD Z W H d v) (e : intsOf h d = some ns) : ∃ a, v = .ref a ∧ SqL Z.K H a (ns.map V.int) := by
  obtain ⟨xs, e1, e2⟩ := Option.bind_eq_some_iff.mp e
  obtain ⟨a, vs, rfl, hp, r1⟩ := asL_sq hr r e1
  rw [asInts_eq e2] at r1
  rw [RelDs.ints.mp r1] at hp
  exact ⟨a, rfl, hp⟩
theorem two_of {G : List D → Hh → R D} {Q : VK} {W H h} {ds : List D} {xs : List V} (g1 : D → Hh → R D) (h1 : ∀ d, G [d] h = g1 d h) (hB : ∀ ds, ds.length ≠ 1 → (∀ i j, ds ≠ [.int i, .int j]) → G ds h = .bad)
    (rd : RelDs Z W H ds xs) (t : TriD Z (fun _ _ => False) Q W H (G ds h)) : (∃ d x, xs = [x] ∧ RelD Z W H d x ∧ TriD Z (fun _ _ => False) Q W H (g1 d h)) ∨ ∃ i j, ds = [.int i, .int j] ∧ xs = [.int i, .int j] := by
  by_cases hl : ds.length = 1
  · obtain ⟨d, rfl⟩ := List.length_eq_one_iff.mp hl
    obtain ⟨v, q, rfl, r1, rfl⟩ := rd
    exact .inl ⟨d, v, rfl, r1, by rw [← h1]; exact t⟩
  · by_cases hh : ∃ i j, ds = [.int i, .int j]
    · obtain ⟨i, j, rfl⟩ := hh
      obtain ⟨v, q, rfl, r1, w, q2, rfl, r2, rfl⟩ := rd
      exact .inr ⟨i, j, rfl, by rw [show v = V.int i from r1, show w = V.int j from r2]⟩
    · rw [hB ds hl fun i j e => hh ⟨i, j, e⟩] at t
      exact t.elim
theorem c_maxT (hc : X.calm = true) (hu : X.A.units + 64 < cLine) {H : Hp} {ns : List Int} {n : Int} {a : Addr} {pins : List (Addr × Obj)} {s : Shared} {σ : L2.St} {us : List Value} {Q : VK} (I : L2.Inv X pins σ H s) (rx : Vals [V.ref a] us) (sq : SqT X.K H a ((n :: ns).map V.int))
    (q : Q (.int (ns.foldl (fun a b => if b > a then b else a) n)) H) : wpAny (model X.prog X.w) X.A (call (.builtin "max") us) (EP X pins σ Q) X.xe s := by
  obtain ⟨its, rv, pt, hz⟩ := I.tuple sq
  rw [Vals.ref1 rx]
  refine PySem.W.max_tuple_datum (α := Int) (x := n) (xs := ns) (I.ok.hd hc) (show s.heap.IsTuple a its.toArray from pt) (PySem.W.HoldAll.of_ints (by simpa using intsAre_of (ns := n :: ns) rv)) (show X.A.units + 1 + 0 < cLine by omega) fun i v h' tk hi hv hk => ?_
  obtain ⟨as, r⟩ := hv
  have e : PySem.W.maxOf n ns = ns.foldl (fun a b => if b > a then b else a) n := by
    unfold PySem.W.maxOf
    congr 1
    funext x y
    show (if decide (x < y) = true then y else x) = if y > x then y else x
    by_cases c : x < y <;> simp [c]
  rw [e] at r
  have r : Reads h' v (.int (ns.foldl (fun a b => if b > a then b else a) n)) as := r
  cases r
  exact ⟨.int _, H, I.kept hk, ⟨_, rfl⟩, q⟩
theorem lls_pys : ∀ {xs : List D} {L : List (List Int)}, llsOf xs = some L → pys xs = some (L.map pyLL)
  | [], L, e => by cases e; rfl
  | d :: ds, L, e => by
    cases d with
    | lst ys =>
      obtain ⟨ns, e1, e2⟩ := Option.bind_eq_some_iff.mp (show (asInts ys).bind _ = some _ from e)
      obtain ⟨r, e3, rfl⟩ := Option.map_eq_some_iff.mp e2
      have ih := lls_pys e3
      rw [asInts_eq e1]
      have ei : pys (ns.map D.int) = some (ns.map .int) := by
        clear e1 e e2
        induction ns with
        | nil => rfl
        | cons a r ih => simp [pys, py, ih]
      simp [pys, py, ei, ih, pyLL]
    | _ => cases e
theorem lls_get : ∀ {xs : List D} {L : List (List Int)} {i : Nat} {d : D}, llsOf xs = some L → xs[i]? = some d → ∃ l, L[i]? = some l ∧ d = .lst (l.map .int)
  | [], L, i, d, _, q => by simp at q
  | d :: ds, L, i, x, e, q => by
    cases d with
    | lst ys =>
      obtain ⟨ns, e1, e2⟩ := Option.bind_eq_some_iff.mp (show (asInts ys).bind _ = some _ from e)
      obtain ⟨r, e3, rfl⟩ := Option.map_eq_some_iff.mp e2
      cases i with
      | zero => simp at q; exact ⟨ns, rfl, by rw [← q, asInts_eq e1]⟩
      | succ i =>
        obtain ⟨l, f1, f2⟩ := lls_get (i := i) (d := x) e3 (by simpa using q)
        exact ⟨l, by simpa using f1, f2⟩
    | _ => cases e
theorem pyLL_inj {a b : List Int} (e : pyLL a = pyLL b) : a = b := by
  have e : a.map PyData.int = b.map PyData.int := by simpa [pyLL] using e
  exact (List.map_inj_right fun x y z => by cases z; rfl).mp e
theorem pyLL_alike (a b : List Int) : PySem.W.alike (pyLL a) (pyLL b) = true := by
  show PySem.W.alikeAll (a.map .int) (b.map .int) = true
  induction a generalizing b with
  | nil => simp [PySem.W.alikeAll]
  | cons x a ih =>
    cases b with
    | nil => simp [PySem.W.alikeAll]
    | cons y b => simp only [List.map_cons, PySem.W.alikeAll, PySem.W.alike, ih b, Bool.and_self]
theorem pyLL_depth (L : List (List Int)) : PyData.depthAll (L.map pyLL) ≤ 2 := by
  have one : ∀ l : List Int, PyData.depthAll (l.map .int) ≤ 1 := fun l => by
    induction l with
    | nil => simp [PyData.depthAll]
    | cons a r ih => simp only [List.map_cons, PyData.depthAll, PyData.depth]; omega
  induction L with
  | nil => simp [PyData.depthAll]
  | cons l r ih =>
    have := one l
    simp only [List.map_cons, PyData.depthAll, pyLL, PyData.depth]
    omega
theorem maxD_LL (x : List Int) (xs : List (List Int)) : PySem.W.maxD (pyLL x) (xs.map pyLL) = pyLL (xs.foldl (fun a y => if PySem.W.dataLt (pyLL a) (pyLL y) then y else a) x) := by
  unfold PySem.W.maxD
  induction xs generalizing x with
  | nil => rfl
  | cons y r ih =>
    simp only [List.map_cons, List.foldl_cons]
    have e : (if PySem.W.dataLt (pyLL x) (pyLL y) = true then pyLL y else pyLL x) = pyLL (if PySem.W.dataLt (pyLL x) (pyLL y) = true then y else x) := by split <;> rfl
    rw [e, ih]
theorem c_maxL (hK : X.K = Z.K) (hc : X.calm = true) (hu : X.A.units + 64 < cLine) {W : Wd} {H : Hp} {h : Hh} {xs : List D} {vs : List V} {l : List Int} {ls : List (List Int)} {a : Addr} {pins : List (Addr × Obj)} {s : Shared} {σ : L2.St} {us : List Value} {Q : VK} (I : L2.Inv X pins σ H s) (rx : Vals [V.ref a] us) (hr : HRel Z W H h) (hp : SqL Z.K H a vs) (r1 : RelDs Z W H xs vs) (e : llsOf xs = some (l :: ls))
    (t : TriD Z (fun _ _ => False) Q W H (.ok (.lst ((ls.foldl (fun a y => if PySem.W.dataLt (pyLL a) (pyLL y) then y else a) l).map .int)) h)) : wpAny (model X.prog X.w) X.A (call (.builtin "max") us) (EP X pins σ Q) X.xe s := by
  obtain ⟨its, rv, ⟨⟨cls, dd, data, sls⟩, n, ho, hcl, hdn, hdt⟩, hlen⟩ := I.list (hK ▸ hp)
  simp only at hcl hdt
  subst hcl hdt
  have dp := pys_dp xs r1 (lls_pys e)
  obtain ⟨as, h4⟩ := Dp.readsAll I _ _ its (hK ▸ dp) rv
  rw [Vals.ref1 rx]
  have dep := pyLL_depth (l :: ls)
  refine PySem.W.max_list_data (vs := its.toArray) (x := pyLL l) (xs := ls.map pyLL) (I.ok.hd hc) ⟨_, ho, rfl, n, rfl⟩ h4 ⟨fun x hx y hy => ?_, fun x hx z => ?_⟩ (by simp only [List.map_cons] at dep; omega) fun i v h' tk bs hv hrd hk => ?_
  · have hx : x ∈ (l :: ls).map pyLL := hx
    have hy : y ∈ (l :: ls).map pyLL := hy
    obtain ⟨a, _, rfl⟩ := List.mem_map.mp hx
    obtain ⟨b, _, rfl⟩ := List.mem_map.mp hy
    exact pyLL_alike a b
  · have hx : x ∈ (l :: ls).map pyLL := hx
    obtain ⟨a, _, rfl⟩ := List.mem_map.mp hx
    cases z
  · have hv : its[i]? = some v := by simpa using hv
    have il := (List.getElem?_eq_some_iff.mp hv).1
    have rl := rv.length
    have iv : i < vs.length := by omega
    obtain ⟨u, hu1, ru⟩ := rv.get (List.getElem?_eq_getElem iv)
    rw [hv] at hu1
    cases hu1
    obtain ⟨d, ed, rd⟩ := r1.getV (List.getElem?_eq_getElem iv)
    obtain ⟨li, el, rfl⟩ := lls_get e ed
    obtain ⟨bs2, rr, _, _, _⟩ := PySem.W.readsAll_at h4 i v hv
    have eg : (pyLL l :: ls.map pyLL).getD i .none = pyLL li := by
      show ((l :: ls).map pyLL).getD i .none = _
      rw [List.getD_eq_getElem?_getD, List.getElem?_map, el]; rfl
    have rr : Reads s.heap v (pyLL li) bs2 := eg ▸ rr
    have dt := (reads_det (fun b o hb _ => hk b o hb) rr hrd).1
    rw [maxD_LL] at dt
    have em := pyLL_inj dt
    rw [em] at t
    exact ⟨vs[i], H, I.kept hk, ru, t.now hr rd⟩
theorem c_max (hK : X.K = Z.K) (hc : X.calm = true) (hu : X.A.units + 64 < cLine) (c : Bool) : CallR X (.builtin "max") (rC Z (biD .max c)) := by
  intro pins s σ H xs us Q I rx ⟨W, h, ds, rd, hr, t⟩
  rcases two_of (fun d h => match d with | .tup xs => optI ((asInts xs).bind maxI) h | d => maxOne d h) (fun d => by cases d <;> rfl) (fun ds h1 h2 => by
    rcases ds with _ | ⟨d, _ | ⟨d2, _ | ⟨d3, r⟩⟩⟩ <;> first | rfl | exact absurd rfl h1 | skip
    · cases d <;> first | rfl | (cases d2 <;> first | rfl | exact absurd rfl (h2 _ _))
    · cases d <;> first | rfl | (cases d2 <;> rfl)) rd t with ⟨d, x, rfl, r1, t⟩ | ⟨i, j, rfl, rfl⟩
  · have lists : TriD Z (fun _ _ => False) Q W H (maxOne d h) → wpAny (model X.prog X.w) X.A (call (.builtin "max") us) (EP X pins σ Q) X.xe s := fun t => by
      cases e1 : intsOf h d with
      | some ns =>
        have t : TriD Z (fun _ _ => False) Q W H (optI (maxI ns) h) := by unfold maxOne at t; rw [e1] at t; exact t
        obtain ⟨m, e2, q⟩ := optI_tri t hr
        obtain ⟨a, rfl, hp⟩ := intsOf_sq hr r1 e1
        cases ns with
        | nil => cases e2
        | cons n r =>
          refine cr_max hc pins s σ H _ us Q I rx ⟨a, n :: r, rfl, hK ▸ hp, by simp, fun m' h1 h2 => ?_⟩
          have f := fold_max r n
          obtain rfl : _ = m := Option.some.inj e2
          have e3 : m' = r.foldl (fun a b => if b > a then b else a) n := Int.le_antisymm (f.2 m' h1) (h2 _ f.1)
          rw [e3]; exact q
      | none =>
        have t : TriD Z (fun _ _ => False) Q W H (optD ((((asL h d).bind llsOf).bind maxLL).map fun l => .lst (l.map .int)) h) := by unfold maxOne at t; rw [e1] at t; exact t
        obtain ⟨b, e2, t⟩ := optD_tri t
        obtain ⟨m, e3, rfl⟩ := Option.map_eq_some_iff.mp e2
        obtain ⟨L, e4, e5⟩ := Option.bind_eq_some_iff.mp e3
        obtain ⟨ys, e6, e7⟩ := Option.bind_eq_some_iff.mp e4
        obtain ⟨a, vs, rfl, hp, r2⟩ := asL_sq hr r1 e6
        cases L with
        | nil => cases e5
        | cons l ls => cases e5; exact c_maxL hK hc hu I rx hr hp r2 e7 t
    cases d with
    | tup ys =>
      obtain ⟨m, e, q⟩ := optI_tri (o := (asInts ys).bind maxI) t hr
      obtain ⟨ns, e1, e2⟩ := Option.bind_eq_some_iff.mp e
      obtain ⟨a, vs, rfl, f, rs⟩ := r1
      rw [asInts_eq e1] at rs
      cases RelDs.ints.mp rs
      cases ns with
      | nil => cases e2
      | cons n r =>
        obtain rfl : _ = m := Option.some.inj e2
        exact c_maxT hc hu I rx (hK ▸ f.sq) q
    | _ => exact lists t
  · exact call_max2 hc pins s σ H _ us Q I rx ⟨i, j, rfl, t.now hr rfl⟩
theorem c_min (hK : X.K = Z.K) (hc : X.calm = true) (c : Bool) : CallR X (.builtin "min") (rC Z (biD .min c)) := by
  intro pins s σ H xs us Q I rx ⟨W, h, ds, rd, hr, t⟩
  rcases two_of (fun d h => optI ((intsOf h d).bind minI) h) (fun d => by cases d <;> rfl) (fun ds h1 h2 => by
    rcases ds with _ | ⟨d, _ | ⟨d2, _ | ⟨d3, r⟩⟩⟩ <;> first | rfl | exact absurd rfl h1 | skip
    · cases d <;> first | rfl | (cases d2 <;> first | rfl | exact absurd rfl (h2 _ _))
    · cases d <;> first | rfl | (cases d2 <;> rfl)) rd t with ⟨d, x, rfl, r1, t⟩ | ⟨i, j, rfl, rfl⟩
  · obtain ⟨m, e, q⟩ := optI_tri t hr
    obtain ⟨ns, e1, e2⟩ := Option.bind_eq_some_iff.mp e
    obtain ⟨a, rfl, hp⟩ := intsOf_sq hr r1 e1
    cases ns with
    | nil => cases e2
    | cons n r =>
      refine cr_min hc pins s σ H _ us Q I rx ⟨a, n :: r, rfl, hK ▸ hp, by simp, fun m' h1 h2 => ?_⟩
      have f := fold_min r n
      obtain rfl : _ = m := Option.some.inj e2
      have e3 : m' = r.foldl (fun a b => if b < a then b else a) n := Int.le_antisymm (h2 _ f.1) (f.2 m' h1)
      rw [e3]; exact q
  · exact call_min2 hc pins s σ H _ us Q I rx ⟨i, j, rfl, t.now hr rfl⟩
theorem bad1 {G : List D → Hh → R D} (h0 : ∀ h, G [] h = .bad) (h2 : ∀ d d2 r h, G (d :: d2 :: r) h = .bad) (ds : List D) (h : Hh) (hn : ds.length ≠ 1) : G ds h = .bad := by
  rcases ds with _ | ⟨d, _ | ⟨d2, r⟩⟩
  · exact h0 h
  · exact absurd rfl hn
  · exact h2 d d2 r h
theorem c_sumT (hc : X.calm = true) {H : Hp} {ns : List Int} {a : Addr} {pins : List (Addr × Obj)} {s : Shared} {σ : L2.St} {us : List Value} {Q : VK} (I : L2.Inv X pins σ H s) (rx : Vals [V.ref a] us) (sq : SqT X.K H a (ns.map V.int))
    (q : Q (.int ns.sum) H) : wpAny (model X.prog X.w) X.A (call (.builtin "sum") us) (EP X pins σ Q) X.xe s := by
  obtain ⟨its, rv, pt, hz⟩ := I.tuple sq
  rw [Vals.ref1 rx]
  have hl : s.heap.IsTuple a its.toArray := pt
  have hi : IntsAre its ns := by simpa using intsAre_of (ns := ns) rv
  obtain ⟨xs, hx⟩ := hi.allInts.items
  have hn : numsOf its.toArray.toList = ns := by rw [show its.toArray.toList = its from rfl, hi.numsOf]
  rw [hx] at hl hn
  rw [nums_intItems] at hn
  refine PySem.W.ktm_sumG (I.ok.hd hc) hl fun h' tk t' hk => ?_
  have e : preSum (numAt xs) xs.size = ns.sum := by rw [preSum_eq, List.take_of_length_le (by simp), hn]
  rw [e]
  exact ⟨.int _, H, I.kept hk, ⟨_, rfl⟩, q⟩
theorem c_sum (hK : X.K = Z.K) (hc : X.calm = true) (c : Bool) : CallR X (.builtin "sum") (rC Z (biD .sum c)) := by
  refine call1_of (g := sumD) (fun _ _ => rfl) (bad1 (fun _ => rfl) fun _ _ _ _ => rfl) fun pins s σ H x us Q W h d I rx hr rd t => ?_
  have lists : TriD Z (fun _ _ => False) Q W H (optI ((intsOf h d).map List.sum) h) → wpAny (model X.prog X.w) X.A (call (.builtin "sum") us) (EP X pins σ Q) X.xe s := fun t => by
    obtain ⟨m, e, q⟩ := optI_tri t hr
    obtain ⟨ns, e1, rfl⟩ := Option.map_eq_some_iff.mp e
    obtain ⟨a, rfl, hp⟩ := intsOf_sq hr rd e1
    exact cr_sum hc pins s σ H _ us Q I rx ⟨a, ns, rfl, hK ▸ hp, q⟩
  cases d with
  | tup ys =>
    obtain ⟨m, e, q⟩ := optI_tri (o := (asInts ys).map List.sum) t hr
    obtain ⟨ns, e1, rfl⟩ := Option.map_eq_some_iff.mp e
    obtain ⟨a, vs, rfl, f, rs⟩ := rd
    rw [asInts_eq e1] at rs
    cases RelDs.ints.mp rs
    exact c_sumT hc I rx (hK ▸ f.sq) q
  | _ => exact lists t
theorem c_list (hK : X.K = Z.K) (c : Bool) : CallR X (.type "list") (rC Z (biD .list c)) := by
  refine call1_of (g := fun d h => mkList c d h) (fun _ _ => rfl) (bad1 (fun _ => rfl) fun _ _ _ _ => rfl) fun pins s σ H x us Q W h d I rx hr rd t => ?_
  have lists : ∀ (t : TriD Z (fun _ _ => False) Q W H (match asL h d with | some xs => mkL c xs h | none => .bad)), wpAny (model X.prog X.w) X.A (call (.type "list") us) (EP X pins σ Q) X.xe s := fun t => by
    cases e : asL h d with
    | none => rw [e] at t; exact t.elim
    | some xs =>
      rw [e] at t
      obtain ⟨p, vs, rfl, hp, r1⟩ := asL_sq hr rd e
      exact call_list_of pins s σ H _ us Q I rx ⟨p, vs, rfl, .inl (hK ▸ hp), fun l nl => Tri.newL t hr r1 nl⟩
  cases d with
  | tup xs =>
    obtain ⟨p, vs, rfl, fp, r1⟩ := rd
    exact call_list_of pins s σ H _ us Q I rx ⟨p, vs, rfl, .inr (hK ▸ fp.sq), fun l nl => Tri.newL t hr r1 nl⟩
  | _ => exact lists t
theorem c_tuple (hK : X.K = Z.K) (c : Bool) : CallR X (.type "tuple") (rC Z (biD .tuple c)) := by
  refine call1_of (g := fun d h => mkTup d h) (fun _ _ => rfl) (bad1 (fun _ => rfl) fun _ _ _ _ => rfl) fun pins s σ H x us Q W h d I rx hr rd t => ?_
  have lists : ∀ (t : TriD Z (fun _ _ => False) Q W H (match asL h d with | some xs => .ok (.tup xs) h | none => .bad)), wpAny (model X.prog X.w) X.A (call (.type "tuple") us) (EP X pins σ Q) X.xe s := fun t => by
    cases e : asL h d with
    | none => rw [e] at t; exact t.elim
    | some xs =>
      rw [e] at t
      obtain ⟨p, vs, rfl, hp, r1⟩ := asL_sq hr rd e
      exact call_tuple_of pins s σ H _ us Q I rx ⟨p, vs, rfl, .inl ⟨hK ▸ hp, fun l nl => Tri.newT t hr r1 nl⟩⟩
  cases d with
  | tup xs =>
    obtain ⟨p, vs, rfl, fp, r1⟩ := rd
    exact call_tuple_of pins s σ H _ us Q I rx ⟨p, vs, rfl, .inr ⟨hK ▸ fp.sq, t.now hr ⟨p, vs, rfl, fp, r1⟩⟩⟩
  | _ => exact lists t
theorem mergeK_nodup : ∀ (more acc : List (Key × V)), ((acc ++ more).map (·.1)).Nodup → mergeK acc more = acc ++ more
  | [], acc, _ => by simp [mergeK]
  | p :: r, acc, h => by
    have e : putK acc p.1 p.2 = acc ++ [p] := by
      unfold putK
      rw [if_neg]
      intro z
      obtain ⟨q, hq, e⟩ := List.any_eq_true.mp z
      have e : q.1 = p.1 := of_decide_eq_true e
      rw [List.map_append, List.nodup_append] at h
      exact h.2.2 q.1 (List.mem_map_of_mem hq) p.1 (by simp) e
    show mergeK (putK acc p.1 p.2) r = _
    rw [e, mergeK_nodup r (acc ++ [p]) (by simpa using h)]
    simp
theorem pairs_rel {W : Wd} {H : Hp} : ∀ {ds : List D} {kvs : List (Key × D)} {vs : List V}, pairsK ds = some kvs → RelDs Z W H ds vs → ∃ (ps : List Addr) (kv : List (Key × V)), vs = ps.map V.ref ∧ Paired (fun p q => SqT Z.K H p [kV q.1, q.2]) ps kv ∧ kv.map (·.1) = kvs.map (·.1) ∧ RelKs Z W H kvs kv
  | [], kvs, vs, e, r => by cases e; exact ⟨[], [], r, .nil, rfl, rfl⟩
  | d :: ds, kvs, vs, e, r => by
    obtain ⟨v, r', rfl, r1, r2⟩ := r
    obtain ⟨p, e1, e2⟩ := Option.bind_eq_some_iff.mp (show (pairK d).bind _ = some kvs from e)
    obtain ⟨ks, e3, rfl⟩ := Option.map_eq_some_iff.mp e2
    obtain ⟨ps, kv, rfl, pr, ek, rk⟩ := pairs_rel e3 r2
    unfold pairK at e1
    split at e1
    · cases e1
      obtain ⟨a, us, rfl, f, w1, _, rfl, rfl, w2, _, rfl, rd, rfl⟩ := r1
      exact ⟨a :: ps, (.inl _, w2) :: kv, rfl, .cons f.sq pr, by simp [ek], w2, kv, rfl, rd, rk⟩
    · cases e1
      obtain ⟨a, us, rfl, f, w1, _, rfl, rfl, w2, _, rfl, rd, rfl⟩ := r1
      exact ⟨a :: ps, (.inr _, w2) :: kv, rfl, .cons f.sq pr, by simp [ek], w2, kv, rfl, rd, rk⟩
    · cases e1
theorem c_dict (hK : X.K = Z.K) (hc : X.calm = true) (c : Bool) : CallR X (.type "dict") (rC Z (biD .dict c)) := by
  refine call1_of (g := fun d h => mkDict d h) (fun _ _ => rfl) (bad1 (fun _ => rfl) fun _ _ _ _ => rfl) fun pins s σ H x us Q W h d I rx hr rd t => ?_
  have t : TriD Z (fun _ _ => False) Q W H (match (asL h d).bind pairsK with | some kvs => if (kvs.map (·.1)).Nodup then .ok (.dic kvs) h else .bad | none => .bad) := t
  cases e : (asL h d).bind pairsK with
  | none => rw [e] at t; exact t.elim
  | some kvs =>
    rw [e] at t
    obtain ⟨xs, e1, e2⟩ := Option.bind_eq_some_iff.mp e
    by_cases nd : (kvs.map (·.1)).Nodup
    · have t : TriD Z (fun _ _ => False) Q W H (if (kvs.map (·.1)).Nodup then .ok (.dic kvs) h else .bad) := t
      rw [if_pos nd] at t
      obtain ⟨p, vs, rfl, hp, r1⟩ := asL_sq hr rd e1
      obtain ⟨ps, kv, rfl, pr, ek, rk⟩ := pairs_rel e2 r1
      refine call_dictP hc pins s σ H _ us Q I rx ⟨p, ps, kv, rfl, hK ▸ hp, hK ▸ pr, fun a na => ?_⟩
      rw [mergeK_nodup kv [] (by rw [List.nil_append, ek]; exact nd), List.nil_append]
      exact t (.ref a) W (upd H a (.dK kv)) (Gr.fresh hr na) (hr.fresh na) ⟨a, kv, rfl, upd_same, hr.notin na, hr.nF na, RelKs.mono (Gr.fresh hr na) kvs rk⟩
    · have t : TriD Z (fun _ _ => False) Q W H (if (kvs.map (·.1)).Nodup then .ok (.dic kvs) h else .bad) := t
      rw [if_neg nd] at t; exact t.elim
theorem c_int (c : Bool) : CallR X (.type "int") (rC Z (biD .int c)) := by
  refine call1_of (g := fun d h => optI (intD d) h) (fun _ _ => rfl) (bad1 (fun _ => rfl) fun _ _ _ _ => rfl) fun pins s σ H x us Q W h d I rx hr rd t => ?_
  obtain ⟨m, e, q⟩ := optI_tri t hr
  cases d with
  | int i => cases e; exact call_int1 pins s σ H _ us Q I rx (.inl ⟨_, congrArg (fun z => [z]) rd, q⟩)
  | bl b => cases e; exact call_int1 pins s σ H _ us Q I rx (.inr ⟨b, by rw [show x = V.bl b from rd], q⟩)
  | str z =>
    have e : (if z.length ≤ 640 then PySem.intText? z else none) = some m := e
    by_cases hz : z.length ≤ 640
    · rw [if_pos hz] at e
      exact call_int_str pins s σ H _ us Q I rx ⟨z, m, by rw [show x = V.str z from rd], e, hz, q⟩
    · rw [if_neg hz] at e; cases e
  | _ => cases e
theorem c_str (c : Bool) : CallR X (.type "str") (rC Z (biD .str c)) := by
  refine call1_of (g := fun d h => optD (strD d) h) (fun _ _ => rfl) (bad1 (fun _ => rfl) fun _ _ _ _ => rfl) fun pins s σ H x us Q W h d I rx hr rd t => ?_
  obtain ⟨m, e, t⟩ := optD_tri t
  cases d with
  | int i =>
    have e : (if small i = true then some (D.str (toString i)) else none) = some m := e
    by_cases hz : small i = true
    · rw [if_pos hz] at e; cases e
      exact call_str_int pins s σ H _ us Q I rx ⟨i, by rw [show x = V.int i from rd], by have := small_log hz; omega, t.now hr rfl⟩
    · rw [if_neg hz] at e; cases e
  | str z => cases e; exact SkE.call_str_str pins s σ H _ us Q I rx ⟨z, by rw [show x = V.str z from rd], t.now hr rfl⟩
  | non =>
    cases e
    obtain ⟨u, rfl, ru⟩ := vals1 rx
    rw [show x = V.non from rd] at ru
    rw [show u = Value.none from ru]
    exact PySem.P.str_of_none ⟨.str _, H, I.tok _, ⟨_, rfl⟩, t.now hr rfl⟩
  | _ => cases e
/-- repr of data -/
def SysOk (K : PySem.W.Frag) : Prop := ∃ o, K.lookup sysModules = some o ∧ o.cls = .type "dict"
section
variable {pins : List (Addr × Obj)} {s : Shared} {σ : L2.St} {H : Hp} {W : Wd}
theorem sys_none (hS : SysOk X.K) (I : Inv X pins σ H s) : H sysModules = none := by
  obtain ⟨o, e, _⟩ := hS
  exact (I.bs _ o (I.ok.mod.kin _ o e)).2
theorem ne_sys (hS : SysOk X.K) (I : Inv X pins σ H s) {a : Addr} {ob : HO} (e : H a = some ob) : a ≠ sysModules := fun q => by
  rw [q, sys_none hS I] at e; cases e
theorem sq_ne (hS : SysOk X.K) (I : Inv X pins σ H s) {a : Addr} {vs : List V} (e : SqL X.K H a vs) : a ≠ sysModules := by
  rcases e with (e | ⟨o, e⟩) | ⟨o, its, n, e, c, _⟩
  · exact ne_sys hS I e
  · exact ne_sys hS I e
  · intro q
    obtain ⟨o', e', c'⟩ := hS
    rw [q, e'] at e; cases e
    rw [c] at c'
    exact absurd c' (by decide +kernel)
theorem key_reads {k : Key} {v : Value} {h : Heap} (e : keyIs k v = true) : Reads h v (keyPy k) [] := by
  rcases keyIs_shape e with ⟨i, t, rfl, rfl⟩ | ⟨x, t, rfl, rfl⟩
  · exact .int i t
  · exact .str x t
mutual
theorem reads_D (hK : X.K = Z.K) (hS : SysOk X.K) (I : Inv X pins σ H s) : ∀ (d : D) {v : V} {u : Value} {p : PyData}, RelD Z W H d v → RelV v u → pyR d = some p → ∃ as, Reads s.heap u p as ∧ sysModules ∉ as
  | .non, _, _, _, r, ru, e => by cases e; rw [show _ = V.non from r] at ru; cases ru; exact ⟨[], .none, by simp⟩
  | .bl b, _, _, _, r, ru, e => by cases e; rw [show _ = V.bl b from r] at ru; cases ru; exact ⟨[], .bool b, by simp⟩
  | .int i, _, _, _, r, ru, e => by cases e; rw [show _ = V.int i from r] at ru; obtain ⟨t, rfl⟩ := ru; exact ⟨[], .int i t, by simp⟩
  | .str x, _, _, _, r, ru, e => by cases e; rw [show _ = V.str x from r] at ru; obtain ⟨t, rfl⟩ := ru; exact ⟨[], .str x t, by simp⟩
  | .tup xs, _, _, _, ⟨a, vs, e1, f, r⟩, ru, e => by
    obtain ⟨ps, e2, rfl⟩ := Option.map_eq_some_iff.mp (show (pysR xs).map PyData.tuple = some _ from e)
    subst e1; cases ru
    obtain ⟨its, rv, ⟨o, ho, hc, n, hd⟩, _⟩ := I.tuple (hK ▸ f.sq)
    obtain ⟨as, hr, hn⟩ := reads_Ds hK hS I xs (us := its) r rv e2
    exact ⟨_, .tuple ho hc hd hr, hn⟩
  | .lst xs, _, _, _, ⟨a, vs, e1, f, r⟩, ru, e => by
    obtain ⟨ps, e2, rfl⟩ := Option.map_eq_some_iff.mp (show (pysR xs).map PyData.list = some _ from e)
    subst e1; cases ru
    have sq : SqL X.K H a vs := hK ▸ f.sq
    obtain ⟨its, rv, ⟨o, n, ho, hc, _, hd⟩, _⟩ := I.list sq
    obtain ⟨as, hr, hn⟩ := reads_Ds hK hS I xs (us := its) r rv e2
    exact ⟨_, .list ho hc hd hr, by simp only [List.mem_cons, not_or]; exact ⟨fun q => sq_ne hS I sq q.symm, hn⟩⟩
  | .kl xs, _, _, _, ⟨a, vs, e1, f, r⟩, ru, e => by
    obtain ⟨ps, e2, rfl⟩ := Option.map_eq_some_iff.mp (show (pysR xs).map PyData.list = some _ from e)
    subst e1; cases ru
    have sq : SqL X.K H a vs := hK ▸ f.sq
    obtain ⟨its, rv, ⟨o, n, ho, hc, _, hd⟩, _⟩ := I.list sq
    obtain ⟨as, hr, hn⟩ := reads_Ds hK hS I xs (us := its) r rv e2
    exact ⟨_, .list ho hc hd hr, by simp only [List.mem_cons, not_or]; exact ⟨fun q => sq_ne hS I sq q.symm, hn⟩⟩
  | .dic kvs, _, _, _, ⟨a, vs, e1, f, _, _, r⟩, ru, e => by
    obtain ⟨ps, e2, rfl⟩ := Option.map_eq_some_iff.mp (show (pykR kvs).map PyData.dict = some _ from e)
    subst e1; cases ru
    obtain ⟨_, _, ws, kv, o, es, ep, ho, hx, hd, _, hp, _⟩ := I.hok a _ f
    obtain ⟨as, bs, h1, h2, hn1, hn2⟩ := reads_Ks hK hS I kvs r kv hp e2
    refine ⟨_, .dict ho hx.1 hd h1 h2, ?_⟩
    simp only [List.cons_append, List.mem_cons, List.mem_append, not_or]
    exact ⟨fun q => ne_sys hS I f q.symm, hn1, hn2⟩
  | .kd _, _, _, _, _, _, e => by cases e
  | .cel _, _, _, _, _, _, e => by cases e
  | .cls _, _, _, _, _, _, e => by cases e
  | .ty _, _, _, _, _, _, e => by cases e
  | .exc _, _, _, _, _, _, e => by cases e
theorem reads_Ds (hK : X.K = Z.K) (hS : SysOk X.K) (I : Inv X pins σ H s) : ∀ (ds : List D) {vs : List V} {us : List Value} {ps : List PyData}, RelDs Z W H ds vs → Vals vs us → pysR ds = some ps → ∃ as, ReadsAll s.heap us ps as ∧ sysModules ∉ as
  | [], _, _, _, r, ru, e => by cases e; rw [show _ = [] from r] at ru; cases ru; exact ⟨[], .nil, by simp⟩
  | d :: ds, _, _, _, ⟨v, r, e1, h1, h2⟩, ru, e => by
    obtain ⟨p, e2, e3⟩ := Option.bind_eq_some_iff.mp (show (pyR d).bind _ = some _ from e)
    obtain ⟨ps, e4, rfl⟩ := Option.map_eq_some_iff.mp e3
    subst e1
    cases ru with
    | cons ru1 ru2 =>
      obtain ⟨as, q1, n1⟩ := reads_D hK hS I d h1 ru1 e2
      obtain ⟨bs, q2, n2⟩ := reads_Ds hK hS I ds h2 ru2 e4
      exact ⟨_, .cons q1 q2, by simp only [List.mem_append, not_or]; exact ⟨n1, n2⟩⟩
theorem reads_Ks (hK : X.K = Z.K) (hS : SysOk X.K) (I : Inv X pins σ H s) : ∀ (ds : List (Key × D)) {vs : List (Key × V)} {us : List (Key × Value)} {es : List DictEntry} {ps : List (PyData × PyData)}, RelKs Z W H ds vs → KV vs us → Pairs (mixKind X.prog X.w) es us → pykR ds = some ps →
      ∃ as bs, ReadsAll s.heap (es.map (·.key)) (ps.map (·.1)) as ∧ ReadsAll s.heap (es.map (·.val)) (ps.map (·.2)) bs ∧ sysModules ∉ as ∧ sysModules ∉ bs
  | [], _, _, _, _, r, kv, hp, e => by
    cases e
    rw [show _ = [] from r] at kv
    cases kv
    cases hp
    exact ⟨[], [], .nil, .nil, by simp, by simp⟩
  | (k, d) :: ds, _, _, _, _, ⟨v, r, e1, h1, h2⟩, kv, hp, e => by
    obtain ⟨p, e2, e3⟩ := Option.bind_eq_some_iff.mp (show (pyR d).bind _ = some _ from e)
    obtain ⟨ps, e4, rfl⟩ := Option.map_eq_some_iff.mp e3
    subst e1
    cases kv with
    | cons kv1 kv2 =>
      cases hp with
      | cons hk hv hp2 =>
        obtain ⟨as, q1, n1⟩ := reads_D hK hS I d h1 kv1.2 e2
        obtain ⟨bs, cs, q2, q3, n2, n3⟩ := reads_Ks hK hS I ds h2 kv2 hp2 e4
        refine ⟨[] ++ bs, as ++ cs, .cons ?_ q2, .cons (by dsimp only; rw [hv]; exact q1) q3, by simpa using n2, by simp only [List.mem_append, not_or]; exact ⟨n1, n3⟩⟩
        rw [← kv1.1] at hk
        exact key_reads hk
end
end
section
variable {pins : List (Addr × Obj)} {s : Shared} {σ : L2.St} {H : Hp} {W : Wd} {h : Hh}
theorem reads_Os {f : D → Option PyData} (ih : ∀ (d : D) (v : V) (u : Value) (p : PyData), RelD Z W H d v → RelV v u → f d = some p → ∃ as, Reads s.heap u p as ∧ sysModules ∉ as) : ∀ (ds : List D) {vs : List V} {us : List Value} {ps : List PyData}, RelDs Z W H ds vs → Vals vs us → mapO f ds = some ps → ∃ as, ReadsAll s.heap us ps as ∧ sysModules ∉ as
  | [], _, _, _, r, ru, e => by cases e; rw [show _ = [] from r] at ru; cases ru; exact ⟨[], .nil, by simp⟩
  | d :: ds, _, _, _, ⟨v, r, e1, h1, h2⟩, ru, e => by
    obtain ⟨p, e2, e3⟩ := Option.bind_eq_some_iff.mp (show (f d).bind _ = some _ from e)
    obtain ⟨ps, e4, rfl⟩ := Option.map_eq_some_iff.mp e3
    subst e1
    cases ru with
    | cons ru1 ru2 =>
      obtain ⟨as, q1, n1⟩ := ih d _ _ _ h1 ru1 e2
      obtain ⟨bs, q2, n2⟩ := reads_Os ih ds h2 ru2 e4
      exact ⟨_, .cons q1 q2, by simp only [List.mem_append, not_or]; exact ⟨n1, n2⟩⟩
theorem reads_N (hK : X.K = Z.K) (hS : SysOk X.K) (I : Inv X pins σ H s) (hr : HRel Z W H h) : ∀ (k : Nat) (d : D) (v : V) (u : Value) (p : PyData), RelD Z W H d v → RelV v u → pyRN h k d = some p → ∃ as, Reads s.heap u p as ∧ sysModules ∉ as
  | 0, _, _, _, _, _, _, e => by cases e
  | k + 1, d, v, u, p, rd, ru, e => by
    have ih := reads_N hK hS I hr k
    have lists : ∀ (a : Addr) (vs : List V) (xs : List D), v = .ref a → SqL X.K H a vs → RelDs Z W H xs vs → (mapO (pyRN h k) xs).map PyData.list = some p → ∃ as, Reads s.heap u p as ∧ sysModules ∉ as := by
      intro a vs xs e1 sq r e
      obtain ⟨ps, e2, rfl⟩ := Option.map_eq_some_iff.mp e
      subst e1; cases ru
      obtain ⟨its, rv, ⟨o, n, ho, hc, _, hd⟩, _⟩ := I.list sq
      obtain ⟨as, hr, hn⟩ := reads_Os ih xs (us := its) r rv e2
      exact ⟨_, .list ho hc hd hr, by simp only [List.mem_cons, not_or]; exact ⟨fun q => sq_ne hS I sq q.symm, hn⟩⟩
    cases d with
    | tup xs =>
      obtain ⟨a, vs, e1, f, r⟩ := rd
      obtain ⟨ps, e2, rfl⟩ := Option.map_eq_some_iff.mp (show (mapO (pyRN h k) xs).map PyData.tuple = some _ from e)
      subst e1; cases ru
      obtain ⟨its, rv, ⟨o, ho, hc, n, hd⟩, _⟩ := I.tuple (hK ▸ f.sq)
      obtain ⟨as, hr, hn⟩ := reads_Os ih xs (us := its) r rv e2
      exact ⟨_, .tuple ho hc hd hr, hn⟩
    | lst xs => obtain ⟨a, vs, e1, f, r⟩ := rd; exact lists a vs xs e1 (hK ▸ f.sq) r e
    | kl xs => obtain ⟨a, vs, e1, f, r⟩ := rd; exact lists a vs xs e1 (hK ▸ f.sq) r e
    | cel i =>
      obtain ⟨xs, e1, e2⟩ := Option.bind_eq_some_iff.mp (show (asO h[i]?).bind _ = some _ from e)
      obtain ⟨a, vs, e3, hp, r1⟩ := asT_at (d := .cel i) hr rd e1
      exact lists a vs xs e3 (.inl (.inl hp)) r1 e2
    | _ => exact reads_D hK hS I _ rd ru e
/-! sorted, of tuples -/
theorem each_in (hK : X.K = Z.K) (hS : SysOk X.K) (I : Inv X pins σ H s) (hr : HRel Z W H h) : ∀ (xs : List D) {vs : List V} {us : List Value} {ps : List PyData}, RelDs Z W H xs vs → Vals vs us → mapO (pyRN h 7) xs = some ps →
    PySem.W.EachIs (fun u (b : D × PyData) => ∃ v, RelV v u ∧ RelD Z W H b.1 v) us (xs.zip ps) ∧ PySem.W.EachIs (fun u (b : D × PyData) => ∃ as, Reads s.heap u b.2 as) us (xs.zip ps) ∧ (xs.zip ps).map Prod.snd = ps
  | [], _, _, _, r, ru, e => by cases e; rw [show _ = [] from r] at ru; cases ru; exact ⟨.nil, .nil, rfl⟩
  | d :: ds, _, _, _, ⟨v, r, e1, h1, h2⟩, ru, e => by
    obtain ⟨p, e2, e3⟩ := Option.bind_eq_some_iff.mp (show (pyRN h 7 d).bind _ = some _ from e)
    obtain ⟨ps, e4, rfl⟩ := Option.map_eq_some_iff.mp e3
    subst e1
    cases ru with
    | cons ru1 ru2 =>
      obtain ⟨as, q1, _⟩ := reads_N hK hS I hr 7 d _ _ _ h1 ru1 e2
      obtain ⟨k1, k2, k3⟩ := each_in hK hS I hr ds h2 ru2 e4
      exact ⟨.cons ⟨v, ru1, h1⟩ k1, .cons ⟨as, q1⟩ k2, by rw [List.zip_cons_cons, List.map_cons, k3]⟩
theorem each_out : ∀ {us : List Value} {bs : List (D × PyData)}, PySem.W.EachIs (fun u (b : D × PyData) => ∃ v, RelV v u ∧ RelD Z W H b.1 v) us bs → ∃ vs, Vals vs us ∧ RelDs Z W H (bs.map Prod.fst) vs
  | _, _, .nil => ⟨[], .nil, rfl⟩
  | _, _, .cons ⟨v, r1, r2⟩ t => let ⟨vs, k1, k2⟩ := each_out t; ⟨v :: vs, .cons r1 k1, v, vs, rfl, r2, k2⟩
theorem c_sortQ (hK : X.K = Z.K) (hS : SysOk X.K) (hu : X.A.units + 64 < cLine) {c : Bool} {xs : List D} {vs : List V} {a : Addr} {us : List Value} {Q : VK} (I : L2.Inv X pins σ H s) (rx : Vals [V.ref a] us) (hr : HRel Z W H h) (hp : SqL X.K H a vs) (r1 : RelDs Z W H xs vs) (t : TriD Z (fun _ _ => False) Q W H (sortQL c xs h)) : wpAny (model X.prog X.w) X.A (call (.builtin "sorted") us) (EP X pins σ Q) X.xe s := by
  unfold sortQL at t
  cases e : mapO (pyRN h 7) xs with
  | none => rw [e] at t; exact t.elim
  | some ps =>
    rw [e] at t
    by_cases ok : sortOk ps = true ∧ xs.length ≤ LIM
    · have t : TriD Z (fun _ _ => False) Q W H (if sortOk ps = true ∧ xs.length ≤ LIM then mkL c (sortQ xs ps) h else .bad) := t
      rw [if_pos ok] at t
      obtain ⟨its, rv, hl, hz⟩ := I.list hp
      obtain ⟨k1, k2, k3⟩ := each_in hK hS I hr xs r1 rv e
      have o1 := ok.1
      unfold sortOk at o1
      rw [Bool.and_eq_true, Bool.and_eq_true, List.all_eq_true, List.all_eq_true, List.all_eq_true] at o1
      obtain ⟨⟨t1, t2⟩, t3⟩ := o1
      have lz : (xs.zip ps).length = its.length := k1.length.symm
      have lv := rv.length
      rw [Vals.ref1 rx]
      refine PySem.W.sorted_data (bs := xs.zip ps) (enc := Prod.snd) (R := fun u (b : D × PyData) => ∃ v, RelV v u ∧ RelD Z W H b.1 v) hl.isList k1 k2 ?_ ?_ (by omega) (fun b hb => ?_) fun out ho eo => ?_
      · rw [k3]
        exact fun p hp q hq => List.all_eq_true.mp (t2 p hp) q hq
      · rw [k3]
        refine .inl fun p hp => ?_
        have := t1 p hp
        unfold tupN at this
        split at this
        · exact ⟨_, _, rfl⟩
        · cases this
      · have hb2 : b.2 ∈ ps := by rw [← k3]; exact List.mem_map_of_mem hb
        have := of_decide_eq_true (t3 _ hb2)
        omega
      · obtain ⟨vs', v1, v2⟩ := each_out eo
        obtain ⟨ep, he'⟩ := PyProof.Rows.sortedAll_at s.heap its out.toArray
        have lo := v1.length
        exact ⟨.ref _, upd H (s.heap.objs.size + 1) (.lst vs'), I.laid (t' := s.toks) (fun _ _ => PyProof.Rows.sortedAll_old) (Nat.le_succ _) ⟨by omega, out, ep, v1, he'⟩, rfl, Tri.newL t hr v2 (I.hok.fresh (Nat.le_succ _))⟩
    · have t : TriD Z (fun _ _ => False) Q W H (if sortOk ps = true ∧ xs.length ≤ LIM then mkL c (sortQ xs ps) h else .bad) := t
      rw [if_neg ok] at t; exact t.elim
end
theorem c_sorted (hK : X.K = Z.K) (hS : SysOk X.K) (hu : X.A.units + 64 < cLine) (c : Bool) : CallR X (.builtin "sorted") (rC Z (biD .sorted c)) := by
  refine call1_of (g := fun d h => sortD c d h) (fun _ _ => rfl) (bad1 (fun _ => rfl) fun _ _ _ _ => rfl) fun pins s σ H x us Q W h d I rx hr rd t => ?_
  cases e : intsOf h d with
  | none =>
    have t : TriD Z (fun _ _ => False) Q W H (match asL h d with | some xs => sortQL c xs h | none => .bad) := by
      have t' : TriD Z (fun _ _ => False) Q W H (sortD c d h) := t
      unfold sortD at t'
      rw [e] at t'
      exact t'
    cases e1 : asL h d with
    | none => rw [e1] at t; exact t.elim
    | some xs =>
      rw [e1] at t
      obtain ⟨a, vs, rfl, hp, r1⟩ := asL_sq hr rd e1
      exact c_sortQ hK hS hu I rx hr (hK ▸ hp) r1 t
  | some ns =>
    have t : TriD Z (fun _ _ => False) Q W H (mkSorted c (some ns) h) := by
      have t' : TriD Z (fun _ _ => False) Q W H (sortD c d h) := t
      unfold sortD at t'
      rw [e] at t'
      exact t'
    obtain ⟨a, rfl, hp⟩ := intsOf_sq hr rd e
    refine cr_sortedI pins s σ H _ us Q I rx ⟨a, ns, rfl, hK ▸ hp, fun ns' p h1 h2 n => ?_⟩
    rw [sorted_one (h1.trans (sortI_perm ns).symm) h2 (sortI_sorted ns)]
    exact Tri.newL t hr (RelDs.ints.mpr rfl) n
theorem c_repr (hK : X.K = Z.K) (hS : SysOk X.K) (hg : X.A.guards = some []) (hu : X.A.units + 64 < cLine) (c : Bool) : CallR X (.builtin "repr") (rC Z (biD .repr c)) := by
  refine call1_of (g := fun d h => optD (shownD h d) h) (fun _ _ => rfl) (bad1 (fun _ => rfl) fun _ _ _ _ => rfl) fun pins s σ H x us Q W h d I rx hr rd t => ?_
  obtain ⟨m, e, t⟩ := optD_tri t
  obtain ⟨p, e1, e2⟩ := Option.bind_eq_some_iff.mp e
  by_cases hz : p.showable = true ∧ p.depth ≤ 20 ∧ p.shown.length ≤ LIM
  · rw [if_pos hz] at e2
    obtain rfl : _ = m := Option.some.inj e2
    obtain ⟨u, rfl, ru⟩ := vals1 rx
    have hsz : p.shown.length ≤ sizeLine := Nat.le_trans hz.2.2 lim_le
    have q : Q (.str p.shown) H := t.now hr rfl
    have ref : ∀ (a : Addr) (as : List Addr), Reads s.heap (.ref a) p as → sysModules ∉ as → wpAny (model X.prog X.w) X.A (call (.builtin "repr") [.ref a]) (EP X pins σ Q) X.xe s := fun a as r hn =>
      repr_of_reads' r hz.1 (fun _ => hn) hg (by omega) (fun _ _ e => e) (fun h' u tk hk => ⟨.str p.shown, H, I.kept hk, ⟨_, rfl⟩, q⟩) hsz
    cases q0 : toPyR0 h d with
    | none =>
      have e1 : pyRN h 8 d = some p := by unfold toPyR at e1; rw [q0] at e1; exact e1
      obtain ⟨as, r, hn⟩ := reads_N hK hS I hr 8 d _ _ _ rd ru e1
      have rf : ∃ a, u = .ref a := by
        cases d with
        | tup xs => obtain ⟨a, vs, rfl, _⟩ := rd; cases ru; exact ⟨a, rfl⟩
        | lst xs => obtain ⟨a, vs, rfl, _⟩ := rd; cases ru; exact ⟨a, rfl⟩
        | kl xs => obtain ⟨a, vs, rfl, _⟩ := rd; cases ru; exact ⟨a, rfl⟩
        | cel i => obtain ⟨a, rfl, _⟩ := rd; cases ru; exact ⟨a, rfl⟩
        | _ => exact absurd (q0.symm.trans e1) (by simp)
      obtain ⟨a, rfl⟩ := rf
      exact ref a as r hn
    | some p0 =>
    have e1 : toPyR0 h d = some p := by unfold toPyR at e1; rw [q0] at e1; rw [q0]; exact e1
    clear q0
    cases d with
    | non => cases e1; rw [show x = V.non from rd] at ru; cases ru; exact PySem.P.repr_of_none ⟨.str _, H, I.tok _, ⟨_, rfl⟩, q⟩
    | bl b => cases e1; rw [show x = V.bl b from rd] at ru; cases ru; exact PySem.P.repr_of_bool ⟨.str _, H, I.tok _, ⟨_, rfl⟩, q⟩
    | int i => cases e1; rw [show x = V.int i from rd] at ru; obtain ⟨t', rfl⟩ := ru; exact PySem.P.repr_of_int (of_decide_eq_true hz.1) ⟨.str _, H, I.tok _, ⟨_, rfl⟩, q⟩
    | str z => cases e1; rw [show x = V.str z from rd] at ru; obtain ⟨t', rfl⟩ := ru; exact PySem.P.repr_of_str ⟨.str _, H, I.tok _, ⟨_, rfl⟩, q⟩ hsz
    | cel i =>
      obtain ⟨xs, e3, e4⟩ := Option.bind_eq_some_iff.mp (show (asO h[i]?).bind _ = some _ from e1)
      obtain ⟨ps, e5, rfl⟩ := Option.map_eq_some_iff.mp e4
      obtain ⟨a, vs, rfl, hp, r1⟩ := asT_at (d := .cel i) hr rd e3
      cases ru
      have sq : SqL X.K H a vs := .inl (.inl hp)
      obtain ⟨its, rv, ⟨o, n, ho, hc, _, hd⟩, _⟩ := I.list sq
      obtain ⟨as, hr2, hn⟩ := reads_Ds hK hS I xs (us := its) r1 rv e5
      exact ref a _ (.list ho hc hd hr2) (by simp only [List.mem_cons, not_or]; exact ⟨fun q => sq_ne hS I sq q.symm, hn⟩)
    | tup xs =>
      obtain ⟨as, r, hn⟩ := reads_D hK hS I (.tup xs) rd ru e1
      obtain ⟨a, vs, rfl, _⟩ := rd
      cases ru
      exact ref a as r hn
    | lst xs =>
      obtain ⟨as, r, hn⟩ := reads_D hK hS I (.lst xs) rd ru e1
      obtain ⟨a, vs, rfl, _⟩ := rd
      cases ru
      exact ref a as r hn
    | kl xs =>
      obtain ⟨as, r, hn⟩ := reads_D hK hS I (.kl xs) rd ru e1
      obtain ⟨a, vs, rfl, _⟩ := rd
      cases ru
      exact ref a as r hn
    | dic xs =>
      obtain ⟨as, r, hn⟩ := reads_D hK hS I (.dic xs) rd ru e1
      obtain ⟨a, vs, rfl, _⟩ := rd
      cases ru
      exact ref a as r hn
    | _ => cases e1
  · rw [if_neg hz] at e2; cases e2
end
end Tb
namespace Tb
open PySem PySem.Spec PyProof.Rows L2
/-! ### methods of lists and texts -/
inductive Me where
  | append | pop | extend | insert | clear | reverse | count | index | remove | join | split | partition
def Me.isStr : Me → Bool
  | .join => true
  | .split => true
  | .partition => true
  | _ => false
def Me.okR (m : Me) (h : Hh) (d : D) : Bool := if m.isStr then (match d with | .str _ => true | _ => false) else (asL h d).isSome
def asStrs : List D → Option (List Str)
  | [] => some []
  | .str i :: ds => (asStrs ds).map fun r => i :: r
  | _ :: _ => none
/-- the first place of an equal one -/
def findP (p : PyData) : Nat → List PyData → Option Nat
  | _, [] => none
  | n, q :: r => if PyData.eqv q p = true then some n else findP p (n + 1) r
def indexP : Option PyData → Option PyData → Option Int
  | some (.list ds), some p => if SeqAt.shaped (.list ds) = true ∧ SeqAt.shaped p = true then (findP p 0 ds).map fun n : Nat => (n : Int) else none
  | _, _ => none
def findI (k : Int) : Nat → List Int → Option Nat
  | _, [] => none
  | n, q :: r => if q = k then some n else findI k (n + 1) r
def setC (o : Option D) (i : Nat) (xs : List D) (h : Hh) : R D := match o with
  | some d => .ok d (h.set i (.lst xs))
  | none => .bad
/-- a number or None -/
def D.ion : D → Bool
  | .int _ => true
  | .non => true
  | _ => false
def eqON : D → D → Bool
  | .int a, .int b => a == b
  | .non, .non => true
  | _, _ => false
def remO (i : Nat) (xs : List D) (d : D) (h : Hh) : R D := if xs.all D.ion = true ∧ d.ion = true then match xs.findIdx? (fun y => eqON y d) with
  | some j => .ok .non (h.set i (.lst (xs.eraseIdx j)))
  | none => .bad
  else .bad
def meC (m : Me) (i : Nat) (xs : List D) (ds : List D) (h : Hh) : R D := match m, ds with
  | .append, [d] => if xs.length < LIM then .ok .non (h.set i (.lst (xs ++ [d]))) else .bad
  | .pop, [] => setC (xs[xs.length - 1]?) i xs.dropLast h
  | .pop, [.int k] => match ixN xs.length k with
    | some j => setC (xs[j]?) i (xs.eraseIdx j) h
    | none => .bad
  | .extend, [d] => match asT h d with
    | some ys => if xs.length + ys.length ≤ LIM then .ok .non (h.set i (.lst (xs ++ ys))) else .bad
    | none => .bad
  | .insert, [.int k, d] => if 0 ≤ k ∧ k ≤ 1000000 ∧ xs.length < LIM then .ok .non (h.set i (.lst (xs.take k.toNat ++ [d] ++ xs.drop k.toNat))) else .bad
  | .clear, [] => .ok .non (h.set i (.lst []))
  | .reverse, [] => .ok .non (h.set i (.lst xs.reverse))
  | .remove, [.int k] => match asInts xs with
    | some ns => match findI k 0 ns with
      | some j => .ok .non (h.set i (.lst (xs.eraseIdx j)))
      | none => .bad
    | none => remO i xs (.int k) h
  | .remove, [.non] => remO i xs .non h
  | _, _ => .bad
def asBools : List D → Option (List Bool)
  | [] => some []
  | .bl b :: ds => (asBools ds).map fun r => b :: r
  | _ :: _ => none
def meD (m : Me) (c : Bool) (x : D) (ds : List D) (h : Hh) : R D := match m with
  | .count => match ds with
    | [.int k] => optI ((intsOf h x).map fun ns => ((ns.count k : Nat) : Int)) h
    | [.bl k] => optI (((asL h x).bind asBools).map fun ns => ((ns.count k : Nat) : Int)) h
    | _ => .bad
  | .index => match ds with
    | [d] => optI (indexP (toPy h x) (toPy h d)) h
    | _ => .bad
  | .join => match x, ds with
    | .str a, [d] => match (asL h d).bind asStrs with
      | some ys => if (ys.map (·.length)).sum + ys.length * a.length ≤ LIM then .ok (.str (Txt.join a ys)) h else .bad
      | none => .bad
    | _, _ => .bad
  | .split => match x, ds with
    | .str a, [.str b] => if b.length ≠ 0 ∧ a.length ≤ LIM then mkL c ((Txt.split a b).map .str) h else .bad
    | _, _ => .bad
  | .partition => match x, ds with
    | .str a, [.str b] => if b.length ≠ 0 ∧ a.length ≤ LIM then .ok (.tup [.str (Txt.partition a b).1, .str (Txt.partition a b).2.1, .str (Txt.partition a b).2.2]) h else .bad
    | _, _ => .bad
  | m => match x with
    | .cel i => match asO h[i]? with
      | some xs => meC m i xs ds h
      | none => .bad
    | _ => .bad
def rM (Z : Zn) (g : D → List D → Hh → R D) : V → List V → Hp → VK → Prop := fun x xs H Q => ∃ W h d ds, RelD Z W H d x ∧ RelDs Z W H ds xs ∧ HRel Z W H h ∧ TriD Z (fun _ _ => False) Q W H (g d ds h)
def Me.id : Me → String
  | .append => "list.append" | .pop => "list.pop" | .extend => "list.extend" | .insert => "list.insert" | .clear => "list.clear" | .reverse => "list.reverse"
  | .count => "list.count" | .index => "list.index" | .remove => "list.remove" | .join => "str.join" | .split => "str.split" | .partition => "str.partition"
theorem ixN_idx {n : Nat} {k : Int} {j : Nat} (e : ixN n k = some j) (hn : n ≤ sizeLine) : -(2 ^ 63) ≤ k ∧ k < 2 ^ 63 ∧ seqIndex? k n = some j := by
  obtain ⟨h1, h2, h3, h4⟩ := ixN_seq e
  have := line63
  exact ⟨by omega, by omega, h1⟩
theorem findP_spec (p : PyData) : ∀ (ds : List PyData) (n j : Nat), findP p n ds = some j → ∃ i, j = n + i ∧ ∃ z, ds[i]? = some z ∧ PyData.eqv z p = true ∧ ∀ (m : Nat) z', m < i → ds[m]? = some z' → PyData.eqv z' p = false
  | [], _, _, e => by cases e
  | q :: r, n, j, e => by
    unfold findP at e
    by_cases h : PyData.eqv q p = true
    · rw [if_pos h] at e; cases e
      exact ⟨0, rfl, q, rfl, h, fun m z' hm => absurd hm (Nat.not_lt_zero _)⟩
    · rw [if_neg h] at e
      obtain ⟨i, e1, z, e2, e3, e4⟩ := findP_spec p r (n + 1) j e
      refine ⟨i + 1, by omega, z, by simpa using e2, e3, fun m z' hm hz => ?_⟩
      cases m with
      | zero => simp at hz; subst hz; simpa using h
      | succ m => exact e4 m z' (by omega) (by simpa using hz)
theorem findI_spec (k : Int) : ∀ (ns : List Int) (n j : Nat), findI k n ns = some j → ∃ i, j = n + i ∧ ns[i]? = some k ∧ ∀ m : Nat, m < i → ns[m]? ≠ some k
  | [], _, _, e => by cases e
  | q :: r, n, j, e => by
    unfold findI at e
    by_cases h : q = k
    · rw [if_pos h] at e; cases e
      exact ⟨0, rfl, by simp [h], fun m hm => absurd hm (Nat.not_lt_zero _)⟩
    · rw [if_neg h] at e
      obtain ⟨i, e1, e2, e4⟩ := findI_spec k r (n + 1) j e
      refine ⟨i + 1, by omega, by simpa using e2, fun m hm hz => ?_⟩
      cases m with
      | zero => simp at hz; exact h hz
      | succ m => exact e4 m (by omega) (by simpa using hz)
theorem asStrs_eq : ∀ {ds : List D} {ns : List Str}, asStrs ds = some ns → ds = ns.map .str
  | [], _, e => by cases e; rfl
  | d :: ds, ns, e => by
    cases d with
    | str i =>
      obtain ⟨r, e1, rfl⟩ := Option.map_eq_some_iff.mp (show (asStrs ds).map _ = some _ from e)
      rw [asStrs_eq e1]; rfl
    | _ => cases e
theorem erase_mapD : ∀ (l : List Int) (j : Nat), (l.map D.int).eraseIdx j = (l.eraseIdx j).map D.int
  | [], j => by simp
  | a :: r, 0 => by simp
  | a :: r, j + 1 => by have ih := erase_mapD r j; simp [ih]
section
variable {X : Cx} {Z : Zn}
/-- a method that rewrites a cell -/
theorem cell_of {m : Me} {c : Bool} {id : String} (hm : ∀ x ds h, meD m c x ds h = match x with | .cel i => (match asO h[i]? with | some xs => meC m i xs ds h | none => .bad) | _ => .bad)
    (k : ∀ (pins : List (Addr × Obj)) (s : Shared) (σ : L2.St) (H : Hp) (p : Addr) (vs xs' : List V) (v : Value) (us : List Value) (Q : VK) (W : Wd) (h : Hh) (i : Nat) (xs ds : List D), Inv X pins σ H s → RelV (.ref p) v → Vals xs' us → HRel Z W H h →
      RelDs Z W H ds xs' → W.rho[i]? = some p → h[i]? = some (.lst xs) → H p = some (.lst vs) → RelDs Z W H xs vs → TriD Z (fun _ _ => False) Q W H (meC m i xs ds h) → wpAny (model X.prog X.w) X.A (call (.builtin id) (v :: us)) (EP X pins σ Q) X.xe s) :
    MtR X id (rM Z (meD m c)) := by
  intro pins s σ H x xs' v us Q I rx rs ⟨W, h, d, ds, rd, rds, hr, t⟩
  rw [hm] at t
  cases d with
  | cel i =>
    cases e : h[i]? with
    | none => exact (by simp only [e, asO] at t; exact t.elim)
    | some o =>
      cases o with
      | lst xs =>
        obtain ⟨p, vs, rfl, ep, hp, r1⟩ := cel_at hr rd e
        exact k pins s σ H p vs xs' v us Q W h i xs ds I rx rs hr rds ep e hp r1 (by simp only [e, asO] at t; exact t)
      | ins a b => exact (by simp only [e, asO] at t; exact t.elim)
      | dct b => exact (by simp only [e, asO] at t; exact t.elim)
  | _ => exact t.elim
theorem m_append (c : Bool) : MtR X "list.append" (rM Z (meD .append c)) := by
  refine cell_of (fun _ _ _ => rfl) fun pins s σ H p vs xs' v us Q W h i xs ds I rx rs hr rds ep eh hp r1 t => ?_
  rcases ds with _ | ⟨d, _ | ⟨d2, r⟩⟩
  · exact t.elim
  · obtain ⟨w, q, rfl, rw1, rfl⟩ := rds
    have t : TriD Z (fun _ _ => False) Q W H (if xs.length < LIM then .ok .non (h.set i (.lst (xs ++ [d]))) else .bad) := t
    by_cases hz : xs.length < LIM
    · rw [if_pos hz] at t
      refine mt_append pins s σ H _ _ v us Q I rx rs ⟨p, vs, w, rfl, rfl, hp, ?_, Tri.wrote (v := V.non) t hr ep eh hp (r1.append (.one rw1)) fun _ _ _ => rfl⟩
      rw [← r1.length]; exact lim_lt (Nat.le_of_lt hz)
    · rw [if_neg hz] at t; exact t.elim
  · exact t.elim
theorem m_pop (c : Bool) : MtR X "list.pop" (rM Z (meD .pop c)) := by
  refine cell_of (fun _ _ _ => rfl) fun pins s σ H p vs xs' v us Q W h i xs ds I rx rs hr rds ep eh hp r1 t => ?_
  rcases ds with _ | ⟨d, _ | ⟨d2, r⟩⟩
  · obtain rfl := rds
    have t : TriD Z (fun _ _ => False) Q W H (setC (xs[xs.length - 1]?) i xs.dropLast h) := t
    cases e : xs[xs.length - 1]? with
    | none => rw [e] at t; exact t.elim
    | some d =>
      rw [e] at t
      obtain ⟨w, e1, rw1⟩ := r1.get e
      exact mt_pop pins s σ H _ _ v us Q I rx rs ⟨p, vs, w, rfl, rfl, hp, by rw [← r1.length]; exact e1, Tri.wrote (v := w) t hr ep eh hp r1.dropLast fun _ _ g => RelD.mono g d rw1⟩
  · cases d with
    | int k =>
      obtain ⟨w, q, rfl, rw1, rfl⟩ := rds
      rw [show w = V.int k from rw1] at rs
      cases e : ixN xs.length k with
      | none => exact (by unfold meC at t; simp only [e] at t; exact t.elim)
      | some j =>
        have t : TriD Z (fun _ _ => False) Q W H (setC (xs[j]?) i (xs.eraseIdx j) h) := by unfold meC at t; simp only [e] at t; exact t
        cases e2 : xs[j]? with
        | none => rw [e2] at t; exact t.elim
        | some d =>
          rw [e2] at t
          obtain ⟨w, e1, rw1⟩ := r1.get e2
          have hl := (I.lstM hp).1
          obtain ⟨a1, a2, a3⟩ := ixN_idx e (by rw [r1.length]; exact hl)
          exact mt_popAt pins s σ H _ _ v us Q I rx rs ⟨p, vs, k, j, w, rfl, rfl, hp, a1, a2, by rw [← r1.length]; exact a3, e1, Tri.wrote (v := w) t hr ep eh hp (r1.eraseIdx j) fun _ _ g => RelD.mono g d rw1⟩
    | _ => exact t.elim
  · cases d <;> exact t.elim
theorem m_extend (c : Bool) : MtR X "list.extend" (rM Z (meD .extend c)) := by
  refine cell_of (fun _ _ _ => rfl) fun pins s σ H p vs xs' v us Q W h i xs ds I rx rs hr rds ep eh hp r1 t => ?_
  rcases ds with _ | ⟨d, _ | ⟨d2, r⟩⟩
  · exact t.elim
  · obtain ⟨w, q, rfl, rw1, rfl⟩ := rds
    cases e : asT h d with
    | none => exact (by unfold meC at t; simp only [e] at t; exact t.elim)
    | some ys =>
      have t : TriD Z (fun _ _ => False) Q W H (if xs.length + ys.length ≤ LIM then .ok .non (h.set i (.lst (xs ++ ys))) else .bad) := by unfold meC at t; simp only [e] at t; exact t
      by_cases hz : xs.length + ys.length ≤ LIM
      · rw [if_pos hz] at t
        obtain ⟨b, zs, rfl, hb, r2⟩ := asT_at hr rw1 e
        refine mt_extend pins s σ H _ _ v us Q I rx rs ⟨p, b, vs, zs, rfl, rfl, hp, hb, ?_, Tri.wrote (v := V.non) t hr ep eh hp (r1.append r2) fun _ _ _ => rfl⟩
        rw [← r1.length, ← r2.length]; exact Nat.le_trans hz lim_le
      · rw [if_neg hz] at t; exact t.elim
  · exact t.elim
theorem m_insert (c : Bool) : MtR X "list.insert" (rM Z (meD .insert c)) := by
  refine cell_of (fun _ _ _ => rfl) fun pins s σ H p vs xs' v us Q W h i xs ds I rx rs hr rds ep eh hp r1 t => ?_
  rcases ds with _ | ⟨d0, _ | ⟨d, _ | ⟨d2, r⟩⟩⟩
  · exact t.elim
  · cases d0 <;> exact t.elim
  · cases d0 with
    | int k =>
      obtain ⟨w0, q, rfl, rw0, w, q2, rfl, rw1, rfl⟩ := rds
      rw [show w0 = V.int k from rw0] at rs
      have t : TriD Z (fun _ _ => False) Q W H (if 0 ≤ k ∧ k ≤ 1000000 ∧ xs.length < LIM then .ok .non (h.set i (.lst (xs.take k.toNat ++ [d] ++ xs.drop k.toNat))) else .bad) := t
      by_cases hz : 0 ≤ k ∧ k ≤ 1000000 ∧ xs.length < LIM
      · rw [if_pos hz] at t
        refine mt_insert pins s σ H _ _ v us Q I rx rs ⟨p, vs, k, w, rfl, rfl, hp, ?_, hz.1, by omega, Tri.wrote (v := V.non) t hr ep eh hp (((r1.take _).append (.one rw1)).append (r1.drop _)) fun _ _ _ => rfl⟩
        rw [← r1.length]; exact lim_lt (Nat.le_of_lt hz.2.2)
      · rw [if_neg hz] at t; exact t.elim
    | _ => exact t.elim
  · cases d0 <;> exact t.elim
theorem m_clear (c : Bool) : MtR X "list.clear" (rM Z (meD .clear c)) := by
  refine cell_of (fun _ _ _ => rfl) fun pins s σ H p vs xs' v us Q W h i xs ds I rx rs hr rds ep eh hp r1 t => ?_
  cases ds with
  | nil =>
    obtain rfl := rds
    exact mt_clear pins s σ H _ _ v us Q I rx rs ⟨p, vs, rfl, rfl, hp, Tri.wrote (v := V.non) (us := []) t hr ep eh hp rfl fun _ _ _ => rfl⟩
  | cons d r => exact t.elim
theorem m_reverse (c : Bool) : MtR X "list.reverse" (rM Z (meD .reverse c)) := by
  refine cell_of (fun _ _ _ => rfl) fun pins s σ H p vs xs' v us Q W h i xs ds I rx rs hr rds ep eh hp r1 t => ?_
  cases ds with
  | nil =>
    obtain rfl := rds
    exact mt_reverse pins s σ H _ _ v us Q I rx rs ⟨p, vs, rfl, rfl, hp, Tri.wrote (v := V.non) t hr ep eh hp r1.reverse fun _ _ _ => rfl⟩
  | cons d r => exact t.elim
def eqVal (u : Value) : Value → Bool := fun y => match y, u with
  | .int n _, .int k _ => n == k
  | .none, .none => true
  | _, _ => false
def toV : D → V
  | .int i => .int i
  | _ => .non
theorem eqA {d d' : D} {u y : Value} (hd : d.ion = true) (hd' : d'.ion = true) (ru : RelV (toV d) u) (ry : RelV (toV d') y) : (∀ A s, SeqAt.EqAt A s y u (eqVal u y)) ∧ eqVal u y = eqON d' d := by
  cases d with
  | int k =>
    obtain ⟨t, rfl⟩ : ∃ t, u = .int k t := ru
    cases d' with
    | int n => obtain ⟨t', rfl⟩ : ∃ t, y = .int n t := ry; exact ⟨fun A s => SeqAt.EqAt.int_int n t' k t, rfl⟩
    | non => obtain rfl : y = .none := ry; exact ⟨fun A s => SeqAt.EqAt.none_int k t, rfl⟩
    | _ => cases hd'
  | non =>
    obtain rfl : u = .none := ru
    cases d' with
    | int n => obtain ⟨t', rfl⟩ : ∃ t, y = .int n t := ry; exact ⟨fun A s => SeqAt.EqAt.int_none n t', rfl⟩
    | non => obtain rfl : y = .none := ry; exact ⟨fun A s => SeqAt.EqAt.same .none, rfl⟩
    | _ => cases hd'
  | _ => cases hd
theorem eqAs {d : D} {u : Value} (hd : d.ion = true) (ru : RelV (toV d) u) : ∀ {ds : List D} {its : List Value}, ds.all D.ion = true → Vals (ds.map toV) its → its.length = ds.length ∧ (∀ y ∈ its, ∀ A s, SeqAt.EqAt A s y u (eqVal u y)) ∧ ∀ m (h : m < its.length) (h2 : m < ds.length), eqVal u its[m] = eqON ds[m] d
  | [], _, _, .nil => ⟨rfl, ⟨fun _ h => (by cases h), fun _ h => absurd h (Nat.not_lt_zero _)⟩⟩
  | d' :: ds, _, ha, .cons ry r => by
    simp only [List.all_cons, Bool.and_eq_true] at ha
    obtain ⟨a, b, c⟩ := eqAs hd ru ha.2 r
    obtain ⟨e1, e2⟩ := eqA hd ha.1 ru ry
    refine ⟨by simp [a], fun y hy => ?_, fun m h h2 => ?_⟩
    · rcases List.mem_cons.mp hy with rfl | hy
      · exact e1
      · exact b y hy
    · cases m with
      | zero => exact e2
      | succ m => exact c m (by simpa using h) (by simpa using h2)
theorem erase_mapO : ∀ (l : List D) (j : Nat), (l.map toV).eraseIdx j = (l.eraseIdx j).map toV
  | [], j => by simp
  | a :: r, 0 => by simp
  | a :: r, j + 1 => by have ih := erase_mapO r j; simp [ih]
theorem mt_removeO : MtM X "list.remove" (fun x xs H Q => ∃ (l : Addr) (ds : List D) (d : D) (j : Nat), x = .ref l ∧ xs = [toV d] ∧ ds.all D.ion = true ∧ d.ion = true ∧ H l = some (.lst (ds.map toV)) ∧ ds.findIdx? (fun y => eqON y d) = some j ∧ Q .non (upd H l (.lst ((ds.eraseIdx j).map toV)))) := by
  intro pins s σ H x xs v us Q I rx rxs h
  obtain ⟨l, ds, d, j, rfl, rfl, ha, hd, hH, hj, q⟩ := h
  cases rx
  obtain ⟨u, rfl, ru⟩ := rxs.one
  obtain ⟨z, its, n, r, hl, e⟩ := I.lstM hH
  obtain ⟨a, b, c⟩ := eqAs hd ru ha r
  rw [List.length_map] at hl z
  obtain ⟨h1, h2, h3⟩ := List.findIdx?_eq_some_iff_getElem.mp hj
  have hjl : j < its.toArray.size := by rw [List.size_toArray]; omega
  refine call_meets PySem.F.slot_list_remove ⟨_, e, rfl⟩ PySem.F.entry_list_remove (PySem.F.args_list_remove_2 _ _)
    (SeqAt.list_removeAt l its.toArray n _ _ u (eqVal u) j hjl ?_ ?_ (by rw [List.size_toArray]; omega)) ⟨e, ⟨fun y hy => b y (by simpa using hy) _ _, ?_⟩⟩
  · have := c j (by omega) (by omega)
    simp only [List.getElem_toArray]
    rw [this]; exact h2
  · intro m hm hmj
    have := c m (by rw [List.size_toArray] at hm; omega) (by omega)
    simp only [List.getElem_toArray]
    rw [this]
    have := h3 m hmj
    simpa using this
  · have rr := r.eraseIdx j
    rw [erase_mapO] at rr
    refine ⟨.non, _, I.lset (its' := its.eraseIdx j) (t' := s.toks) hH e ?_ rr ?_, rfl, q⟩
    · show its.toArray.eraseIdxIfInBounds j = (its.eraseIdx j).toArray
      rw [List.eraseIdxIfInBounds_toArray]
    · have z2 := len_erase ds j
      rw [List.length_map]
      omega
theorem relO {W : Wd} {H : Hp} : ∀ {ds : List D} {vs : List V}, ds.all D.ion = true → RelDs Z W H ds vs → vs = ds.map toV
  | [], vs, _, r => r
  | d :: ds, vs, h, r => by
    simp only [List.all_cons, Bool.and_eq_true] at h
    obtain ⟨v, q, rfl, rv, rr⟩ := r
    rw [relO h.2 rr, List.map_cons]
    congr 1
    cases d with
    | int i => exact rv
    | non => exact rv
    | _ => cases h.1
theorem relO_of {W : Wd} {H : Hp} : ∀ {ds : List D}, ds.all D.ion = true → RelDs Z W H ds (ds.map toV)
  | [], _ => rfl
  | d :: ds, h => by
    simp only [List.all_cons, Bool.and_eq_true] at h
    refine ⟨_, _, rfl, ?_, relO_of h.2⟩
    cases d with
    | int i => rfl
    | non => rfl
    | _ => cases h.1
theorem all_erase {f : D → Bool} {xs : List D} (j : Nat) (h : xs.all f = true) : (xs.eraseIdx j).all f = true := by
  rw [List.all_eq_true] at *
  exact fun x hx => h x (List.mem_of_mem_eraseIdx hx)
theorem m_remO {pins : List (Addr × Obj)} {s : Shared} {σ : L2.St} {H : Hp} {p : Addr} {vs : List V} {w : V} {x : Value} {us : List Value} {Q : VK} {W : Wd} {h : Hh} {i : Nat} {xs : List D} {d : D} (I : Inv X pins σ H s) (rx : RelV (.ref p) x) (rs : Vals [w] us) (hr : HRel Z W H h) (rw1 : RelD Z W H d w) (ep : W.rho[i]? = some p) (eh : h[i]? = some (.lst xs)) (hp : H p = some (.lst vs)) (r1 : RelDs Z W H xs vs) (t : TriD Z (fun _ _ => False) Q W H (remO i xs d h)) : wpAny (model X.prog X.w) X.A (call (.builtin "list.remove") (x :: us)) (EP X pins σ Q) X.xe s := by
  unfold remO at t
  by_cases hz : xs.all D.ion = true ∧ d.ion = true
  · rw [if_pos hz] at t
    cases e : xs.findIdx? (fun y => eqON y d) with
    | none => rw [e] at t; exact t.elim
    | some j =>
      rw [e] at t
      have ev := relO hz.1 r1
      subst ev
      have ew : w = toV d := by
        cases d with
        | int k => exact rw1
        | non => exact rw1
        | _ => cases hz.2
      subst ew
      exact mt_removeO pins s σ H _ _ x us Q I rx rs ⟨p, xs, d, j, rfl, rfl, hz.1, hz.2, hp, e, Tri.wrote (v := V.non) t hr ep eh hp (relO_of (all_erase j hz.1)) fun _ _ _ => rfl⟩
  · rw [if_neg hz] at t; exact t.elim
theorem m_remove (c : Bool) : MtR X "list.remove" (rM Z (meD .remove c)) := by
  refine cell_of (fun _ _ _ => rfl) fun pins s σ H p vs xs' v us Q W h i xs ds I rx rs hr rds ep eh hp r1 t => ?_
  rcases ds with _ | ⟨d, _ | ⟨d2, r⟩⟩
  · exact t.elim
  · cases d with
    | int k =>
      obtain ⟨w, q, rfl, rw1, rfl⟩ := rds
      rw [show w = V.int k from rw1] at rs
      cases e : asInts xs with
      | none => exact m_remO I rx rs hr (d := .int k) rfl ep eh hp r1 (by unfold meC at t; simp only [e] at t; exact t)
      | some ns =>
        cases e2 : findI k 0 ns with
        | none => exact (by unfold meC at t; simp only [e, e2] at t; exact t.elim)
        | some j =>
          have t : TriD Z (fun _ _ => False) Q W H (.ok .non (h.set i (.lst (xs.eraseIdx j)))) := by unfold meC at t; simp only [e, e2] at t; exact t
          obtain ⟨i2, e3, e4, e5⟩ := findI_spec k ns 0 j e2
          obtain rfl : j = i2 := by omega
          have ex := asInts_eq e
          subst ex
          have ev := RelDs.ints.mp r1
          subst ev
          rw [erase_mapD] at t
          exact mt_remove pins s σ H _ _ v us Q I rx rs ⟨p, ns, k, j, rfl, rfl, hp, e4, e5, Tri.wrote (v := V.non) t hr ep eh hp (RelDs.ints.mpr rfl) fun _ _ _ => rfl⟩
    | non =>
      obtain ⟨w, q, rfl, rw1, rfl⟩ := rds
      exact m_remO I rx rs hr rw1 ep eh hp r1 (by unfold meC at t; exact t)
    | _ => exact t.elim
  · cases d <;> exact t.elim
theorem asBools_eq : ∀ {ds : List D} {bs : List Bool}, asBools ds = some bs → ds = bs.map .bl
  | [], _, e => by cases e; rfl
  | d :: ds, bs, e => by
    cases d with
    | bl b =>
      obtain ⟨r, e1, rfl⟩ := Option.map_eq_some_iff.mp (show (asBools ds).map _ = some _ from e)
      rw [asBools_eq e1]; rfl
    | _ => cases e
theorem relD_bls {W H} {bs : List Bool} : ∀ {vs : List V}, RelDs Z W H (bs.map D.bl) vs → vs = bs.map V.bl := by
  induction bs with
  | nil => intro vs r; exact r
  | cons b r ih => intro vs ⟨v, q, e, h1, h2⟩; rw [e, ih h2, show v = V.bl b from h1]; rfl
theorem vals_bls : ∀ {bs : List Bool} {us : List Value}, Vals (bs.map V.bl) us → us = bs.map Value.bool
  | [], _, r => by cases r; rfl
  | b :: bs, _, r => by
    cases r with
    | cons r1 r2 => cases r1; rw [vals_bls r2]; rfl
theorem reads_bls {h : Heap} : ∀ bs : List Bool, ReadsAll h (bs.map Value.bool) (bs.map PyData.bool) []
  | [] => .nil
  | b :: bs => .cons (as := []) (bs := []) (.bool b) (reads_bls bs)
theorem countIn_bls (k : Bool) : ∀ bs : List Bool, countIn (.bool k) (bs.map PyData.bool) = ((bs.count k : Nat) : Int)
  | [] => rfl
  | b :: bs => by
    rw [List.map_cons, countIn, countIn_bls k bs, List.count_cons]
    simp only [same]
    by_cases q : b = k
    · simp [q]; omega
    · simp [q]
theorem all_bls : ∀ bs : List Bool, (bs.map PyData.bool).all Shape.bool.has = true
  | [] => rfl
  | b :: bs => by rw [List.map_cons, List.all_cons, all_bls bs]; rfl
theorem m_count (hK : X.K = Z.K) (c : Bool) : MtR X "list.count" (rM Z (meD .count c)) := by
  intro pins s σ H x xs' v us Q I rx rs ⟨W, h, d, ds, rd, rds, hr, t⟩
  rcases ds with _ | ⟨d1, _ | ⟨d2, r⟩⟩
  · exact t.elim
  · cases d1 with
    | int k =>
      obtain ⟨w, q, rfl, rw1, rfl⟩ := rds
      rw [show w = V.int k from rw1] at rs
      obtain ⟨m, e, q⟩ := optI_tri t hr
      obtain ⟨ns, e1, rfl⟩ := Option.map_eq_some_iff.mp e
      obtain ⟨a, rfl, hp⟩ := intsOf_sq hr rd e1
      exact mt_lcount pins s σ H _ _ v us Q I rx rs ⟨a, ns, k, rfl, rfl, hK ▸ hp, q⟩
    | bl k =>
      obtain ⟨w, q, rfl, rw1, rfl⟩ := rds
      rw [show w = V.bl k from rw1] at rs
      obtain ⟨m, e, q⟩ := optI_tri t hr
      obtain ⟨bs, e1, rfl⟩ := Option.map_eq_some_iff.mp e
      obtain ⟨xs, e2, e3⟩ := Option.bind_eq_some_iff.mp e1
      obtain ⟨a, vs, rfl, hp, r1⟩ := asL_sq hr rd e2
      rw [asBools_eq e3] at r1
      rw [relD_bls r1] at hp
      cases rx
      obtain ⟨u, rfl, ru⟩ := rs.one
      cases ru
      obtain ⟨its, rv, pl, hz⟩ := I.list (hK ▸ hp)
      have ei := vals_bls rv
      subst ei
      refine count_list_bools (xs := bs.map PyData.bool) (as := []) (hp := s.heap) pl.isList (reads_bls bs) (all_bls bs) ?_
      rw [countIn_bls]
      exact ⟨.int ((bs.count k : Nat) : Int), H, I.tok _, ⟨s.toks, rfl⟩, q⟩
    | _ => exact t.elim
  · cases d1 <;> exact t.elim
theorem m_index (hK : X.K = Z.K) (hu : X.A.units + 65 < cLine) (c : Bool) : MtR X "list.index" (rM Z (meD .index c)) := by
  intro pins s σ H x xs' v us Q I rx rs ⟨W, h, d, ds, rd, rds, hr, t⟩
  rcases ds with _ | ⟨d1, _ | ⟨d2, r⟩⟩
  · exact t.elim
  · obtain ⟨w, q, rfl, rw1, rfl⟩ := rds
    obtain ⟨m, e, q⟩ := optI_tri t hr
    cases e1 : toPy h d with
    | none => rw [e1] at e; cases e
    | some p1 =>
      cases e2 : toPy h d1 with
      | none => rw [e1, e2] at e; cases p1 <;> cases e
      | some p2 =>
        cases p1 with
        | list ps =>
          have e : (if SeqAt.shaped (.list ps) = true ∧ SeqAt.shaped p2 = true then (findP p2 0 ps).map (fun n : Nat => (n : Int)) else none) = some m := by rw [e1, e2] at e; exact e
          by_cases hz : SeqAt.shaped (.list ps) = true ∧ SeqAt.shaped p2 = true
          · rw [if_pos hz] at e
            obtain ⟨j, e3, rfl⟩ := Option.map_eq_some_iff.mp e
            obtain ⟨i, e4, z, e5, e6, e7⟩ := findP_spec p2 ps 0 j e3
            obtain rfl : j = i := by omega
            have hd := toPy_dp hr rd e1
            cases hd with
            | @lst a vs _ hs ha =>
              exact mt_indexD hu pins s σ H _ _ v us Q I rx rs ⟨a, w, p2, ps, j, z, rfl, rfl, hK ▸ Dp.lst hs ha, hK ▸ toPy_dp hr rw1 e2, hz.1, hz.2, e5, e6, e7, q⟩
          · rw [if_neg hz] at e; cases e
        | _ => rw [e1, e2] at e; cases e
  · exact t.elim
theorem m_join (hK : X.K = Z.K) (c : Bool) : MtR X "str.join" (rM Z (meD .join c)) := by
  intro pins s σ H x xs' v us Q I rx rs ⟨W, h, d, ds, rd, rds, hr, t⟩
  cases d with
  | str a =>
    rcases ds with _ | ⟨d1, _ | ⟨d2, r⟩⟩
    · exact t.elim
    · obtain ⟨w, q, rfl, rw1, rfl⟩ := rds
      cases e : (asL h d1).bind asStrs with
      | none => exact (by unfold meD at t; simp only [e] at t; exact t.elim)
      | some ys =>
        have t : TriD Z (fun _ _ => False) Q W H (if (ys.map (·.length)).sum + ys.length * a.length ≤ LIM then .ok (.str (Txt.join a ys)) h else .bad) := by unfold meD at t; simp only [e] at t; exact t
        by_cases hz : (ys.map (·.length)).sum + ys.length * a.length ≤ LIM
        · rw [if_pos hz] at t
          obtain ⟨xs, e1, e2⟩ := Option.bind_eq_some_iff.mp e
          obtain ⟨p, vs, rfl, hp, r1⟩ := asL_sq hr rw1 e1
          rw [asStrs_eq e2] at r1
          rw [RelDs.strs.mp r1] at hp
          exact mt_join pins s σ H _ _ v us Q I rx rs ⟨a, p, ys, rd, rfl, .inl (hK ▸ hp), by unfold LIM at hz; omega, t.now hr rfl⟩
        · rw [if_neg hz] at t; exact t.elim
    · exact t.elim
  | _ => exact t.elim
theorem m_split (c : Bool) : MtR X "str.split" (rM Z (meD .split c)) := by
  intro pins s σ H x xs' v us Q I rx rs ⟨W, h, d, ds, rd, rds, hr, t⟩
  cases d with
  | str a =>
    rcases ds with _ | ⟨d1, _ | ⟨d2, r⟩⟩
    · exact t.elim
    · cases d1 with
      | str b =>
        obtain ⟨w, q, rfl, rw1, rfl⟩ := rds
        rw [show w = V.str b from rw1] at rs
        have t : TriD Z (fun _ _ => False) Q W H (if b.length ≠ 0 ∧ a.length ≤ LIM then mkL c ((Txt.split a b).map .str) h else .bad) := t
        by_cases hz : b.length ≠ 0 ∧ a.length ≤ LIM
        · rw [if_pos hz] at t
          have l := sizeLine_eq
          exact mt_split pins s σ H _ _ v us Q I rx rs ⟨a, b, rd, rfl, by simpa using hz.1, by have := hz.2; unfold LIM at this; omega, fun p np => Tri.newL t hr (RelDs.strs.mpr rfl) np⟩
        · rw [if_neg hz] at t; exact t.elim
      | _ => exact t.elim
    · cases d1 <;> exact t.elim
  | _ => exact t.elim
theorem m_partition (c : Bool) : MtR X "str.partition" (rM Z (meD .partition c)) := by
  intro pins s σ H x xs' v us Q I rx rs ⟨W, h, d, ds, rd, rds, hr, t⟩
  cases d with
  | str a =>
    rcases ds with _ | ⟨d1, _ | ⟨d2, r⟩⟩
    · exact t.elim
    · cases d1 with
      | str b =>
        obtain ⟨w, q, rfl, rw1, rfl⟩ := rds
        rw [show w = V.str b from rw1] at rs
        have t : TriD Z (fun _ _ => False) Q W H (if b.length ≠ 0 ∧ a.length ≤ LIM then .ok (.tup [.str (Txt.partition a b).1, .str (Txt.partition a b).2.1, .str (Txt.partition a b).2.2]) h else .bad) := t
        by_cases hz : b.length ≠ 0 ∧ a.length ≤ LIM
        · rw [if_pos hz] at t
          exact mt_partition pins s σ H _ _ v us Q I rx rs ⟨a, b, rd, rfl, by simpa using hz.1, Nat.le_trans hz.2 lim_le, fun p np => Tri.newT t hr ⟨_, _, rfl, rfl, _, _, rfl, rfl, _, _, rfl, rfl, rfl⟩ np⟩
        · rw [if_neg hz] at t; exact t.elim
      | _ => exact t.elim
    · cases d1 <;> exact t.elim
  | _ => exact t.elim
end
/-! ### isinstance -/
def tyN (h : Hh) : D → Option String
  | .non => some "NoneType"
  | .bl _ => some "bool"
  | .int _ => some "int"
  | .str _ => some "str"
  | .tup _ => some "tuple"
  | .lst _ => some "list"
  | .kl _ => some "list"
  | .dic _ => some "dict"
  | .cel i => (asO h[i]?).map fun _ => "list"
  | _ => none
def isiB (a b : String) : Bool := a == b || (b == "int" && a == "bool")
def tyAll : List String := ["NoneType", "bool", "int", "str", "tuple", "list", "dict"]
def tyAsk : List String := ["int", "bool", "str", "list", "tuple", "dict"]
theorem isi_table : (tyAll.all fun a => tyAsk.all fun b => decide (kitB a b = some (isiB a b))) = true := by decide +kernel
/-- classes, by their names -/
def clsL : List D → Option (List Str)
  | [] => some []
  | d :: r => match d with
    | .cls n => (clsL r).map fun l => n :: l
    | _ => none
def isX (n : Str) (b : D) : Option Bool := match b with
  | .ty m => if m = "ValueError" then some true else none
  | .cls m => some (subX n m)
  | .tup ms => (clsL ms).map fun l => l.any (subX n)
  | _ => none
/-- types, by their names -/
def tysL : List D → Option (List String)
  | [] => some []
  | d :: r => match d with
    | .ty n => (tysL r).map fun l => n :: l
    | _ => none
def isiT (h : Hh) (a b : D) : Option Bool := match b with
  | .ty n => if tyAsk.contains n then (tyN h a).map fun t => isiB t n else none
  | .tup ms => (tysL ms).bind fun l => if l.all tyAsk.contains = true then (tyN h a).map fun t => l.any (isiB t) else none
  | _ => none
def isiD (h : Hh) (a b : D) : Option Bool := match a with
  | .exc n => isX n b
  | a => isiT h a b
section
variable {X : Cx} {Z : Zn}
theorem tyN_mem {h : Hh} {d : D} {t : String} (e : tyN h d = some t) : t ∈ tyAll := by
  cases d with
  | cel i => obtain ⟨_, _, rfl⟩ := Option.map_eq_some_iff.mp (show (asO h[i]?).map _ = some _ from e); decide
  | cls _ => cases e
  | ty _ => cases e
  | exc _ => cases e
  | kd _ => cases e
  | _ => cases e; decide
theorem tyN_ty {W H} {h : Hh} {d : D} {v : V} {t : String} (hr : HRel Z W H h) (r : RelD Z W H d v) (e : tyN h d = some t) : TyX Z.K H v (.type t) := by
  cases d with
  | non => cases e; rw [show v = V.non from r]; exact .base .non
  | bl b => cases e; rw [show v = V.bl b from r]; exact .base (.bl b)
  | int b => cases e; rw [show v = V.int b from r]; exact .base (.int b)
  | str b => cases e; rw [show v = V.str b from r]; exact .base (.str b)
  | tup b =>
    cases e
    obtain ⟨p, _, rfl, f, _⟩ := r
    rcases f with f | ⟨o, its, n, e, c, _⟩
    · exact .base (.tup f)
    · exact .kTuple e c
  | lst b => cases e; obtain ⟨p, _, rfl, f, _⟩ := r; exact .base (.lst f.1)
  | kl b =>
    cases e
    obtain ⟨p, _, rfl, f, _⟩ := r
    rcases f with ⟨o, f, _⟩ | ⟨o, its, n, e, c, _⟩
    · exact .base (.frz f)
    · exact .kList e c
  | dic b => cases e; obtain ⟨p, _, rfl, f, _⟩ := r; exact .base (.dK f)
  | cel i =>
    obtain ⟨xs, e1, rfl⟩ := Option.map_eq_some_iff.mp (show (asO h[i]?).map _ = some _ from e)
    obtain ⟨p, vs, rfl, hp, _⟩ := asT_at (d := .cel i) hr r e1
    exact .base (.lst hp)
  | _ => cases e
theorem inst_of {pins : List (Addr × Obj)} {σ : L2.St} {H : Hp} {s : Shared} {a C : Addr} (I : Inv X pins σ H s) (e : H a = some (ExK (.ref C) a)) : ∃ oe, PySem.W.InstAt s.heap a oe C none := by
  obtain ⟨⟨oe, vs, h1, h2, h3⟩, _, _⟩ := I.hok a _ e
  refine ⟨oe, ?_⟩
  obtain ⟨oc, od, oda, osl⟩ := oe
  obtain ⟨z1, z2⟩ := h2
  dsimp only at z1 z2 h3
  subst z1 z2 h3
  exact ⟨h1, rfl, rfl, trivial⟩
theorem kit_any {W H} {n : Str} {C : Addr} (hn : n ∈ Z.xs) (hC : Z.cl n = some C) : ∀ {ms : List D} {l : List Str} {vs : List V} {its : List Value}, clsL ms = some l → RelDs Z W H ms vs → Vals vs its → PySem.W.kitAny Z.K (.ref C) its = some (l.any (subX n))
  | [], l, vs, its, e, r, q => by cases e; rw [show vs = [] from r] at q; cases q; rfl
  | d :: ms, l, vs, its, e, r, q => by
    obtain ⟨v, r', rfl, r1, r2⟩ := r
    cases d with
    | cls m =>
      obtain ⟨l', e1, rfl⟩ := Option.map_eq_some_iff.mp (show (clsL ms).map _ = some l from e)
      cases q with
      | cons q1 q2 =>
        obtain ⟨a, rfl, _, xc⟩ := r1
        cases q1
        have k := xc.1 n hn C hC
        have ih := kit_any hn hC e1 r2 q2
        show (match PySem.W.kitOne Z.K (.ref C) (.ref a) with | some true => some true | some false => PySem.W.kitAny Z.K (.ref C) _ | none => none) = _
        rw [k, List.any_cons]
        cases subX n m with
        | true => rfl
        | false => exact ih
    | _ => cases e
theorem kit_tys {W H} {t : String} (ht : t ∈ tyAll) : ∀ {ms : List D} {l : List String} {vs : List V} {its : List Value}, tysL ms = some l → l.all tyAsk.contains = true → RelDs Z W H ms vs → Vals vs its → PySem.W.kitAny Z.K (.type t) its = some (l.any (isiB t))
  | [], l, vs, its, e, al, r, q => by cases e; rw [show vs = [] from r] at q; cases q; rfl
  | d :: ms, l, vs, its, e, al, r, q => by
    obtain ⟨v, r', rfl, r1, r2⟩ := r
    cases d with
    | ty m =>
      obtain ⟨l', e1, rfl⟩ := Option.map_eq_some_iff.mp (show (tysL ms).map _ = some l from e)
      rw [List.all_cons, Bool.and_eq_true] at al
      cases q with
      | cons q1 q2 =>
        rw [show v = V.ty m from r1] at q1
        cases q1
        have h1 := List.all_eq_true.mp isi_table t ht
        have h2 := of_decide_eq_true (List.all_eq_true.mp h1 m (by simpa using al.1))
        have k : PySem.W.kitOne Z.K (.type t) (.type m) = some (isiB t m) := kit_ty h2
        have ih := kit_tys ht e1 al.2 r2 q2
        show (match PySem.W.kitOne Z.K (.type t) (.type m) with | some true => some true | some false => PySem.W.kitAny Z.K (.type t) _ | none => none) = _
        rw [k, List.any_cons]
        cases isiB t m with
        | true => rfl
        | false => exact ih
    | _ => cases e
theorem c_isi (hK : X.K = Z.K) : CallR X (.builtin "isinstance") (rC Z fun ds h => match ds with | [a, b] => ofB (isiD h a b) h | _ => .bad) := by
  intro pins s σ H xs us Q I rx ⟨W, h, ds, rd, hr, t⟩
  rcases ds with _ | ⟨a, _ | ⟨b, _ | ⟨d, r⟩⟩⟩
  · exact t.elim
  · exact t.elim
  · obtain ⟨x, _, rfl, r1, y, _, rfl, r2, rfl⟩ := rd
    obtain ⟨k, e, q⟩ := ofB_tri t (fun _ _ z => z) hr
    by_cases ex : ∃ n, a = .exc n
    · obtain ⟨n, rfl⟩ := ex
      obtain ⟨p, C, rfl, hC, hn, ⟨xc, kv⟩, hp⟩ := r1
      have e : isX n b = some k := e
      obtain ⟨oe, J⟩ := inst_of I hp
      rw [← hK] at xc kv
      have KX := PySem.W.handS_kitx_exc (x := p) (ox := oe) xc.hg xc.hk xc.hs xc.hd xc.ha xc.hn xc.ht xc.hm
      cases rx with
      | cons q1 q2 =>
        cases q2 with
        | cons q2 q3 =>
          cases q3
          cases q1
          cases b with
          | ty m =>
            have e : (if m = "ValueError" then some true else none) = some k := e
            by_cases hm : m = "ValueError"
            · rw [if_pos hm] at e
              cases e
              subst hm
              rw [show y = V.ty "ValueError" from r2] at q2
              cases q2
              exact PySem.W.kia_one KX I.kIn J kv (fun z => nomatch z) fun tk => ⟨.bl true, H, I.kept (t' := tk) fun _ _ z => z, rfl, q⟩
            · rw [if_neg hm] at e; cases e
          | cls m =>
            obtain ⟨pc, rfl, _, xm⟩ := r2
            cases q2
            cases e
            have kk := xm.1 n hn C hC
            rw [← hK] at kk
            exact PySem.W.kia_one KX I.kIn J kk (fun z => nomatch z) fun tk => ⟨.bl _, H, I.kept (t' := tk) fun _ _ z => z, rfl, q⟩
          | tup ms =>
            obtain ⟨l, e1, rfl⟩ := Option.map_eq_some_iff.mp (show (clsL ms).map _ = some k from e)
            obtain ⟨tp, vs, rfl, fz, rv⟩ := r2
            cases q2
            have fz : FzT Z H tp vs := fz
            obtain ⟨its, vi, ⟨o, g1, g2, nn, g3⟩, _⟩ := I.tuple (hK ▸ fz.sq)
            have ka := kit_any hn hC e1 rv vi
            rw [← hK] at ka
            obtain ⟨oc, od, oda, osl⟩ := o
            dsimp only at g2 g3
            subst g2 g3
            exact PySem.W.kia_tup KX I.kIn J g1 ka (fun z => nomatch z) fun tk => ⟨.bl _, H, I.kept (t' := tk) fun _ _ z => z, rfl, q⟩
          | _ => cases e
    have e : isiT h a b = some k := by
      cases a with
      | exc n => exact absurd ⟨n, rfl⟩ ex
      | _ => exact e
    cases b with
    | ty n =>
      have e : (if tyAsk.contains n then (tyN h a).map (fun t => isiB t n) else none) = some k := e
      by_cases hc : tyAsk.contains n = true
      · rw [if_pos hc] at e
        obtain ⟨t', e1, rfl⟩ := Option.map_eq_some_iff.mp e
        have h1 := List.all_eq_true.mp isi_table t' (tyN_mem e1)
        have h2 := of_decide_eq_true (List.all_eq_true.mp h1 n (by simpa using hc))
        exact call_isi pins s σ H _ us Q I rx ⟨x, y, .type t', .type n, _, rfl, by rw [show y = V.ty n from r2]; exact .ty n, hK ▸ tyN_ty hr r1 e1, kit_ty h2, q⟩
      · rw [if_neg hc] at e; cases e
    | tup ms =>
      have e : ((tysL ms).bind fun l => if l.all tyAsk.contains = true then (tyN h a).map fun t => l.any (isiB t) else none) = some k := e
      obtain ⟨l, e1, e2⟩ := Option.bind_eq_some_iff.mp e
      by_cases al : l.all tyAsk.contains = true
      · rw [if_pos al] at e2
        obtain ⟨t', e3, rfl⟩ := Option.map_eq_some_iff.mp e2
        obtain ⟨tp, vs, rfl, fz, rv⟩ := r2
        cases rx with
        | cons q1 q2 =>
          cases q2 with
          | cons q2 q3 =>
            cases q3
            cases q2
            have fz : FzT Z H tp vs := fz
            obtain ⟨its, vi, ⟨o, g1, g2, nn, g3⟩, _⟩ := I.tuple (hK ▸ fz.sq)
            have ka := kit_tys (tyN_mem e3) e1 al rv vi
            rw [← hK] at ka
            obtain ⟨oc, od, oda, osl⟩ := o
            dsimp only at g2 g3
            subst g2 g3
            obtain ⟨P, Zk, p, hx⟩ := kit_of I q1 (hK ▸ tyN_ty hr r1 e3)
            exact PySem.W.kia_tup Zk I.kIn p g1 ka hx fun tk => ⟨.bl _, H, I.tok tk, rfl, q⟩
      · rw [if_neg al] at e2; cases e2
    | _ => cases e
  · exact t.elim
end
end Tb
namespace Tb
open PySem PySem.Spec PyProof.Rows L2
/-! ### the texts -/
/-- how a def is called: by what is only read (pure), with the cells shared, shared and what is new frozen -/
inductive Md where
  | P | S | F | C | L
inductive Tg where
  | nm (i : Nat) | tp (is : List Nat)
/-- a name or a number -/
inductive At where
  | v (i : Nat) | n (i : Int)
mutual
inductive E where
  | var (i : Nat)
  | int (i : Int) | bl (b : Bool) | non | str (x : Str)
  | glo (x : Str) (d : D)
  | bty (n : String)
  | bin (c : Bool) (o : Operator) (a b : E)
  | neg (a : E)
  | cmp (o : CmpOp) (a b : E)
  | chn (o o2 : CmpOp) (a b c : E)
  | bop (o : BoolOp) (es : Es)
  | not (a : E)
  | ife (t a b : E)
  | lst (c : Bool) (es : Es) | tup (es : Es)
  | idx (a i : E)
  | slU (c : Bool) (a hi : E) | slL (c : Bool) (a lo : E) | slB (c : Bool) (a lo hi : E)
  | call (m : Md) (x : Str) (F : Fn) (es : Es)
  | bi (b : Bi) (c : Bool) (es : Es)
  | isi (a b : E)
  | me (m : Me) (c : Bool) (a : E) (es : Es)
  | comp (c : Bool) (own : List Nat) (tg : Tg) (it : I) (tt : Es) (elt : E)
  | rvl (c : Bool) (a : E)
  | lset (a : E)
  | sset (c : Bool) (a : E)
  | lrg (c : Bool) (a b : E)
  | dic (ps : List (At × At))
  | strx (c : Str) (a : E)
  | dnew
  | dget (a k : E)
  | dhas (n : Bool) (k a : E)
  | dlst (c : Bool) (a : E)
  | denu (a : E)
  | lzip (a b : E)
  | fld (c f : Str) (a : E)
  | mcall (c m : Str) (F : Fn) (a : E) (es : Es)
  | make (c : Str) (F : Fn) (es : Es)
inductive Es where
  | nil | cons (e : E) (es : Es)
inductive I where
  | seq (e : E) | rng (es : Es) | enu (e : E) | zip (a b : E) | rev (e : E) | zip3 (a b c : E) | chs (e : E)
end
mutual
inductive S where
  | asg (t : Tg) (e : E)
  | sub (a i e : E)
  | dput (a i e : E)
  | aug (i : Nat) (o : Operator) (e : E)
  | ex (e : E)
  | ret (e : E)
  | retN
  | ifs (t : E) (a b : Ss)
  | whl (t : E) (b : Ss)
  | fr (t : Tg) (it : I) (b : Ss)
  | pass | brk | cnt
  | rais (c : Str)
  | nev
  | tryN (b : Ss) (c : Str) (s : Ss)
  | tryA (b : Ss) (c : Str) (i j : Nat)
  | tryK (b : Ss) (c : Str) (j : Nat) (v : Bool)
  | frK (t : Tg) (j : Nat) (b : Ss)
  | tryT (b : Ss) (c : Str) (j : Nat) (v : Str)
  | fset (c f : Str) (a e : E)
inductive Ss where
  | nil | cons (s : S) (r : Ss)
end
/-! ### what they do -/
def noX {α : Type} : R α → R α
  | .exc _ _ => .bad
  | r => r
def setN (i : Nat) (d : D) (ls : Ls) : Option Ls := if i < ls.length then some (ls.set i (some d)) else none
def setNs : List Nat → List D → Ls → Option Ls
  | [], [], ls => some ls
  | i :: is, d :: ds, ls => (setN i d ls).bind fun l => setNs is ds l
  | _, _, _ => none
def asgT (t : Tg) (d : D) (ls : Ls) : Option Ls := match t with
  | .nm i => setN i d ls
  | .tp is => match d with
    | .tup ds => setNs is ds ls
    | .lst ds => setNs is ds ls
    | _ => none
def wipeL (ls : Ls) : List Nat → Ls
  | [] => ls
  | v :: vs => (wipeL ls vs).set v none
/-- what is walked -/
inductive It where
  | seq (d : D) | enu (d : D) | zip (d e : D) | rev (d : D) (n : Nat) | rng (lo : Int) (n : Nat) (st : Int) | dks (kvs : List (Int × List Int)) | zip3 (d e f : D) | chs (x : Str)
def seqOf (h : Hh) : D → Option (List D)
  | .tup xs => some xs
  | d => asL h d
def D.isCel : D → Bool
  | .cel _ => true
  | _ => false
def enumL : Nat → List D → List D
  | _, [] => []
  | n, d :: ds => .tup [.int n, d] :: enumL (n + 1) ds
def zipL : List D → List D → List D
  | d :: ds, e :: es => .tup [d, e] :: zipL ds es
  | _, _ => []
def zipL3 : List D → List D → List D → List D
  | d :: ds, e :: es, f :: fs => .tup [d, e, f] :: zipL3 ds es fs
  | _, _, _ => []
def rngL (lo st : Int) : Nat → List D
  | 0 => []
  | n + 1 => .int lo :: rngL (lo + st) st n
/-- a text, sign by sign -/
def chsL (x : Str) : List D := x.cps.toList.map fun c => .str ⟨#[c]⟩
def D.strO : D → Option Str
  | .str x => some x
  | _ => none
def It.cst : It → Bool
  | .seq d => !d.isCel
  | .enu d => !d.isCel
  | .zip d e => !d.isCel && !e.isCel
  | .rev d _ => !d.isCel
  | .rng _ _ _ => true
  | .dks _ => true
  | .zip3 d e f => !d.isCel && !e.isCel && !f.isCel
  | .chs _ => true
def It.items (h : Hh) : It → Option (List D)
  | .seq d => seqOf h d
  | .enu d => (asL h d).map (enumL 0)
  | .zip d e => (asL h d).bind fun xs => (asL h e).map fun ys => zipL xs ys
  | .rev d n => (asL h d).bind fun xs => if xs.length = n then some xs.reverse else none
  | .rng lo n st => some (rngL lo st n)
  | .dks kvs => some (kvs.map fun p => .int p.1)
  | .zip3 d e f => (asL h d).bind fun xs => (asL h e).bind fun ys => (asL h f).map fun zs => zipL3 xs ys zs
  | .chs x => some (chsL x)
inductive RS where
  | nx (ls : Ls) (h : Hh) | rt (d : D) (h : Hh) | bk (ls : Ls) (h : Hh) | ct (ls : Ls) (h : Hh) | exc (c : Str) (ls : Ls) (h : Hh) | bad
def FUEL : Nat := 100000
/-- over items that stay -/
def loopL (g : D → Ls → Option Ls) (b : Ls → Hh → RS) : List D → Ls → Hh → RS
  | [], ls, h => .nx ls h
  | x :: xs, ls, h => match g x ls with
    | none => .bad
    | some l1 => match b l1 h with
      | .nx l2 h2 => loopL g b xs l2 h2
      | .ct l2 h2 => loopL g b xs l2 h2
      | .bk l2 h2 => .nx l2 h2
      | r => r
/-- over items as they stand -/
def loopI (it : It) (g : D → Ls → Option Ls) (b : Ls → Hh → RS) : Nat → Nat → Ls → Hh → RS
  | 0, _, _, _ => .bad
  | n + 1, i, ls, h => match it.items h with
    | none => .bad
    | some xs => match xs[i]? with
      | none => .nx ls h
      | some x => match g x ls with
        | none => .bad
        | some l1 => match b l1 h with
          | .nx l2 h2 => loopI it g b n (i + 1) l2 h2
          | .ct l2 h2 => loopI it g b n (i + 1) l2 h2
          | .bk l2 h2 => .nx l2 h2
          | r => r
def forR (it : It) (g : D → Ls → Option Ls) (b : Ls → Hh → RS) (ls : Ls) (h : Hh) : RS :=
  if it.cst then (match it.items h with
    | some xs => loopL g b xs ls h
    | none => .bad)
  else loopI it g b FUEL 0 ls h
def compL (g : D → Ls → Option Ls) (t : Ls → Hh → R Bool) (f : Ls → Hh → R D) (ls : Ls) : List D → Hh → R (List D)
  | [], h => .ok [] h
  | x :: xs, h => match g x ls with
    | none => .bad
    | some l1 => (t l1 h).bind fun b h1 => if b = true then (f l1 h1).bind fun d h2 => (compL g t f ls xs h2).bind fun ds h3 => .ok (d :: ds) h3 else compL g t f ls xs h1
def compI (it : It) (g : D → Ls → Option Ls) (t : Ls → Hh → R Bool) (f : Ls → Hh → R D) (ls : Ls) : Nat → Nat → Hh → R (List D)
  | 0, _, _ => .bad
  | n + 1, i, h => match it.items h with
    | none => .bad
    | some xs => match xs[i]? with
      | none => .ok [] h
      | some x => match g x ls with
        | none => .bad
        | some l1 => (t l1 h).bind fun b h1 => if b = true then (f l1 h1).bind fun d h2 => (compI it g t f ls n (i + 1) h2).bind fun ds h3 => .ok (d :: ds) h3 else compI it g t f ls n (i + 1) h1
def compR (it : It) (g : D → Ls → Option Ls) (t : Ls → Hh → R Bool) (f : Ls → Hh → R D) (ls : Ls) (h : Hh) : R (List D) :=
  if it.cst then (match it.items h with
    | some xs => if xs.length ≤ LIM then compL g t f ls xs h else .bad
    | none => .bad)
  else compI it g t f ls FUEL 0 h
def whileR (t : Ls → Hh → R Bool) (b : Ls → Hh → RS) : Nat → Ls → Hh → RS
  | 0, _, _ => .bad
  | n + 1, ls, h => match t ls h with
    | .bad => .bad
    | .exc c h1 => .exc c ls h1
    | .ok false h1 => .nx ls h1
    | .ok true h1 => match b ls h1 with
      | .nx l2 h2 => whileR t b n l2 h2
      | .ct l2 h2 => whileR t b n l2 h2
      | .bk l2 h2 => .nx l2 h2
      | r => r
/-- .. that goes on behind the loop -/
def onlyN : RS → RS
  | .nx ls h => .nx ls h
  | _ => .bad
mutual
/-- no dict that may be another name of one -/
def D.nod : D → Bool
  | .tup xs => nods xs
  | .lst xs => nods xs
  | .kl xs => nods xs
  | .dic _ => false
  | _ => true
def nods : List D → Bool
  | [] => true
  | d :: ds => d.nod && nods ds
end
def O.nod : O → Bool
  | .lst xs => nods xs
  | .ins _ fs => fs.all fun p => p.2.nod
  | .dct kvs => kvs.all fun p => p.2.nod
def oNod : Option D → Bool
  | some d => d.nod
  | none => true
/-- over the keys of a dict -/
def keysR (g : D → Ls → Option Ls) (b : Ls → Hh → RS) (o : Option (Option D)) (ls : Ls) (h : Hh) : RS := match o with
  | some (some (.kd kvs)) => if ls.all oNod = true ∧ h.all O.nod = true then onlyN (loopL g b (kvs.map fun p => .int p.1) ls h) else .bad
  | _ => .bad
/-! freezing -/
mutual
def D.pure : D → Bool
  | .tup xs => pures xs
  | .lst xs => pures xs
  | .kl xs => pures xs
  | .dic kvs => pureK kvs
  | .kd _ => false
  | .cel _ => false
  | _ => true
def pures : List D → Bool
  | [] => true
  | d :: ds => d.pure && pures ds
def pureK : List (Key × D) → Bool
  | [] => true
  | (_, d) :: ds => d.pure && pureK ds
end
mutual
/-- no list within -/
def D.nol : D → Bool
  | .tup xs => nols xs
  | .lst _ => false
  | .kl _ => false
  | .dic _ => false
  | .kd _ => false
  | .cel _ => false
  | _ => true
def nols : List D → Bool
  | [] => true
  | d :: ds => d.nol && nols ds
end
def frzL (f : D → Option D) : List D → Option (List D)
  | [] => some []
  | d :: ds => (f d).bind fun e => (frzL f ds).map fun es => e :: es
/-- the cells from n on frozen -/
def frz (n : Nat) (h : Hh) : Nat → D → Option D
  | 0, _ => none
  | k + 1, d => match d with
    | .tup xs => (frzL (frz n h k) xs).map .tup
    | .lst xs => (frzL (frz n h k) xs).map .lst
    | .kl xs => if pures xs = true then some (.kl xs) else none
    | .dic kvs => if pureK kvs = true then some (.dic kvs) else none
    | .kd _ => none
    | .cel i => if i < n then some (.cel i) else (asO h[i]?).bind fun xs => (frzL (frz n h k) xs).map .lst
    | d => some d
/-- a dict's cell, frozen -/
def dicO : Option O → Option (List (Key × D))
  | some (.dct kvs) => if pureK kvs = true then some kvs else none
  | _ => none
def fz (n : Nat) (h : Hh) (d : D) : Option D := if d.pure = true then some d else frz n h 8 d
mutual
def D.under (n : Nat) : D → Bool
  | .tup xs => unders n xs
  | .lst xs => unders n xs
  | .kl xs => unders n xs
  | .dic kvs => underK n kvs
  | .cel i => decide (i < n)
  | _ => true
def unders (n : Nat) : List D → Bool
  | [] => true
  | d :: ds => d.under n && unders n ds
def underK (n : Nat) : List (Key × D) → Bool
  | [] => true
  | (_, d) :: ds => d.under n && underK n ds
end
def O.under (n : Nat) : O → Bool
  | .lst xs => unders n xs
  | .ins _ fs => fs.all fun p => p.2.under n
  | .dct kvs => underK n kvs
/-- all lists within are cells of the call's own -/
def ownD (h : Hh) : Nat → D → Bool
  | 0, _ => false
  | k + 1, d => match d with
    | .tup xs => xs.all (ownD h k)
    | .lst _ => false
    | .kl _ => false
    | .dic _ => false
    | .kd _ => false
    | .cel i => match asO h[i]? with
      | some xs => xs.all (ownD h k)
      | none => false
    | _ => true
mutual
/-- the cells by n farther on -/
def D.sh (n : Nat) : D → D
  | .tup xs => .tup (shs n xs)
  | .lst xs => .lst (shs n xs)
  | .kl xs => .kl (shs n xs)
  | .dic kvs => .dic (shK n kvs)
  | .cel i => .cel (n + i)
  | d => d
def shs (n : Nat) : List D → List D
  | [] => []
  | d :: ds => d.sh n :: shs n ds
def shK (n : Nat) : List (Key × D) → List (Key × D)
  | [] => []
  | (k, d) :: ds => (k, d.sh n) :: shK n ds
end
def O.sh (n : Nat) : O → O
  | .lst xs => .lst (shs n xs)
  | .ins c fs => .ins c (fs.map fun p => (p.1, p.2.sh n))
  | .dct kvs => .dct (shK n kvs)
mutual
/-- no list but cells -/
def D.nlc : D → Bool
  | .tup xs => nlcs xs
  | .lst _ => false
  | .kl _ => false
  | .dic _ => false
  | .kd _ => false
  | _ => true
def nlcs : List D → Bool
  | [] => true
  | d :: ds => d.nlc && nlcs ds
def nlcK : List (Key × D) → Bool
  | [] => true
  | (_, d) :: ds => d.nlc && nlcK ds
end
def O.nlc : O → Bool
  | .lst xs => nlcs xs
  | .ins _ _ => false
  | .dct kvs => nlcK kvs
def O.noI : O → Bool
  | .ins _ _ => false
  | _ => true
/-- the rows of a dict's cell -/
def rowsO : List (Key × D) → Option (List (Int × List Int))
  | [] => some []
  | (.inl k, .lst xs) :: r => (asInts xs).bind fun ns => (rowsO r).map fun q => (k, ns) :: q
  | _ :: _ => none
def kdO : Option O → Option (List (Int × List Int))
  | some (.dct kvs) => rowsO kvs
  | _ => none
def callP (F : Fn) (ds : List D) (h : Hh) : R D := match frzL (fz 0 h) ds with
  | none => .bad
  | some es => match F es [] with
    | .bad => .bad
    | .exc c _ => .exc c h
    | .ok d h' => match fz 0 h' d with
      | none => match d with
        | .cel i => match kdO h'[i]? with
          | some kvs => if pures ds = true then .ok (.kd kvs) h else .bad
          | none => .bad
        | _ => .bad
      | some e => if pures ds = true ∨ e.nol = true then .ok e h else if d.pure = false ∧ ownD h' 8 d = true then .ok e h else .bad
def callF (F : Fn) (ds : List D) (h : Hh) : R D := match F ds h with
  | .bad => .bad
  | .exc c h' => if (h'.take h.length).all (O.under h.length) = true then .exc c (h'.take h.length) else .bad
  | .ok d h' => match fz h.length h' d with
    | none => .bad
    | some e => if (h'.take h.length).all (O.under h.length) = true ∧ h.length ≤ h'.length then .ok e (h'.take h.length) else .bad
/-- by what is only read; the list that comes is new and ours -/
def callC (F : Fn) (ds : List D) (h : Hh) : R D := match frzL (fz 0 h) ds with
  | none => .bad
  | some es => match F es [] with
    | .bad => .bad
    | .exc c _ => .exc c h
    | .ok d h' => match d with
      | .cel i => match asO h'[i]? with
        | some xs => if pures xs = true ∧ (pures ds = true ∨ nols xs = true) then .ok (.cel h.length) (h ++ [.lst xs]) else .bad
        | none => .bad
      | _ => .bad
/-- by what is only read; all cells that come are new and ours -/
def callL (F : Fn) (ds : List D) (h : Hh) : R D := match frzL (fz 0 h) ds with
  | none => .bad
  | some es => match F es [] with
    | .bad => .bad
    | .exc c _ => .exc c h
    | .ok d h' => if h'.all O.noI = true ∧ (pures ds = true ∨ (d.nlc = true ∧ h'.all O.nlc = true)) then .ok (d.sh h.length) (h ++ h'.map (O.sh h.length)) else .bad
def callM : Md → Fn → Fn
  | .P => callP
  | .C => callC
  | .L => callL
  | .S => fun F => F
  | .F => callF
def truD (d : D) (h : Hh) : R Bool := match d with
  | .bl b => .ok b h
  | _ => .bad
def negD (d : D) (h : Hh) : R D := match d with
  | .int i => .ok (.int (-i)) h
  | _ => .bad
def mkR (o : Option It) (h : Hh) : R It := match o with
  | some i => .ok i h
  | none => .bad
def smallR (i : Int) : Bool := Nat.ble i.natAbs 1000000000000
def rngOf : List D → Option It
  | [.int j] => if smallR j = true then some (.rng 0 j.toNat 1) else none
  | [.int i, .int j] => if smallR i = true ∧ smallR j = true then some (.rng i (j - i).toNat 1) else none
  | [.int i, .int j, .int (-1)] => if smallR i = true ∧ smallR j = true then some (.rng i (i - j).toNat (-1)) else none
  | _ => none
def revL (c : Bool) (o : Option (List D)) (h : Hh) : R D := match o with
  | some xs => mkL c xs.reverse h
  | none => .bad
def revS (z : Str) : Str := ⟨z.cps.toList.reverse.toArray⟩
def revD (c : Bool) (d : D) (h : Hh) : R D := match d with
  | .str z => if z.length ≤ LIM then .ok (.str (revS z)) h else .bad
  | d => revL c (asL h d) h
def intsL : List D → Option (List Int)
  | [] => some []
  | .int i :: ds => (intsL ds).map fun r => i :: r
  | _ :: _ => none
def dstI (ns : List Int) : List Int := ns.foldl PyProof.Rows.step_dedup []
/-- str(X(text)) -/
def strxD (d : D) (h : Hh) : R D := match d with
  | .str m => .ok (.str m) h
  | _ => .bad
def lsetD (d : D) (h : Hh) : R D := match (asL h d).bind intsL with
  | some ns => if ns.length ≤ 4000 then .ok (.int ((dstI ns).length : Nat)) h else .bad
  | none => .bad
/-- sorted(set(xs)) -/
def ssetD (c : Bool) (d : D) (h : Hh) : R D := match (asL h d).bind intsL with
  | some ns => if ns.length ≤ 60 then mkL c ((sortI (dstI ns)).map .int) h else .bad
  | none => .bad
def lrgD (c : Bool) (a b : D) (h : Hh) : R D := match a, b with
  | .int i, .int j => if smallR i = true ∧ smallR j = true ∧ (j - i).toNat ≤ LIM then mkL c (rngL i 1 (j - i).toNat) h else .bad
  | _, _ => .bad
def asI : D → Option Int
  | .int i => some i
  | _ => none
def withI {α : Type} (d : D) (k : Int → R α) : R α := match d with
  | .int i => k i
  | _ => .bad
def evAt (ls : Ls) : At → Option D
  | .v i => match ls[i]? with
    | some (some d) => some d
    | _ => none
  | .n i => some (.int i)
def evKV (ls : Ls) (p : At × At) : Option (Key × D) := match evAt ls p.1, evAt ls p.2 with
  | some (.int i), some d => some (.inl i, d)
  | some (.str x), some d => some (.inr x, d)
  | _, _ => none
/-- at most one pair -/
def dicD (ls : Ls) (ps : List (At × At)) (h : Hh) : R D := match ps with
  | [] => .ok (.dic []) h
  | [p] => match evKV ls p with
    | some kv => .ok (.dic [kv]) h
    | none => .bad
  | _ => .bad
/-! dicts -/
def keyD : D → Option Key
  | .int i => some (.inl i)
  | .str x => some (.inr x)
  | _ => none
def keyV : Key → D
  | .inl i => .int i
  | .inr x => .str x
def dctO : Option O → Option (List (Key × D))
  | some (.dct kvs) => some kvs
  | _ => none
def rowsD (kvs : List (Int × List Int)) : List (Key × D) := kvs.map fun p => (.inl p.1, .lst (p.2.map .int))
def dictO (h : Hh) : D → Option (List (Key × D))
  | .dic kvs => some kvs
  | .kd kvs => some (rowsD kvs)
  | .cel i => dctO h[i]?
  | _ => none
def valD (kvs : List (Key × D)) (k : Key) : Option D := (kvs.find? fun p => decide (p.1 = k)).map (·.2)
def putD (kvs : List (Key × D)) (k : Key) (d : D) : List (Key × D) :=
  if (kvs.any fun p => decide (p.1 = k)) = true then kvs.map (fun p => if p.1 = k then (p.1, d) else p) else kvs ++ [(k, d)]
def dgetK (o : Option (List (Key × D))) (k : Option Key) (h : Hh) : R D := match o, k with
  | some kvs, some k => optD (valD kvs k) h
  | _, _ => .bad
def dgetD (x y : D) (h : Hh) : R D := dgetK (dictO h x) (keyD y) h
def dhasK (n : Bool) (o : Option (List (Key × D))) (k : Option Key) (h : Hh) : R D := match o, k with
  | some kvs, some k => .ok (.bl (if n then !(valD kvs k).isSome else (valD kvs k).isSome)) h
  | _, _ => .bad
def dhasD (n : Bool) (y x : D) (h : Hh) : R D := dhasK n (dictO h x) (keyD y) h
def enuKs {α : Type} : Nat → List α → List (Key × α)
  | _, [] => []
  | n, x :: r => (.inl (n : Int), x) :: enuKs (n + 1) r
def denD (x : D) (h : Hh) : R D := match asL h x with
  | some xs => .ok (.dic (enuKs 0 xs)) h
  | none => .bad
def zipD (xs ys : List D) : List D := List.zipWith (fun x y => .tup [x, y]) xs ys
def lzipD (x y : D) (h : Hh) : R D := match asL h x with
  | some xs => match asL h y with
    | some ys => if xs.length ≤ LIM then .ok (.lst (zipD xs ys)) h else .bad
    | none => .bad
  | none => .bad
def D.isKd : D → Bool
  | .kd _ => true
  | _ => false
def dlstD (c : Bool) (x : D) (h : Hh) : R D := if x.isKd = true then .bad else match dictO h x with
  | some kvs => if kvs.length ≤ LIM then mkL c (kvs.map fun p => keyV p.1) h else .bad
  | none => .bad
def dputK (i : Nat) (o : Option (List (Key × D))) (k : Option Key) (v : D) (h : Hh) : R Unit := match o, k with
  | some kvs, some k => if kvs.length < LIM then .ok () (h.set i (.dct (putD kvs k v))) else .bad
  | _, _ => .bad
def dputD (x y v : D) (h : Hh) : R Unit := match x with
  | .cel i => dputK i (dctO h[i]?) (keyD y) v h
  | _ => .bad
/-! objects of the text's classes -/
def insO : Option O → Option (Str × List (Str × D))
  | some (.ins c fs) => some (c, fs)
  | _ => none
def fldK (c f : Str) (o : Option (Str × List (Str × D))) (h : Hh) : R D := match o with
  | some (k, fs) => if k = c then optD (fs.lookup f) h else .bad
  | none => .bad
def fldD (c f : Str) (x : D) (h : Hh) : R D := match x with
  | .cel i => fldK c f (insO h[i]?) h
  | _ => .bad
def isIn (c m : Str) (x : D) (h : Hh) : Bool := match x with
  | .cel i => match insO h[i]? with
    | some (k, fs) => decide (k = c) && (fs.lookup m).isNone
    | none => false
  | _ => false
def putFd (f : Str) (d : D) : List (Str × D) → List (Str × D)
  | [] => [(f, d)]
  | (g, x) :: r => if g = f then (g, d) :: r else (g, x) :: putFd f d r
def fsetK (i : Nat) (c f : Str) (o : Option (Str × List (Str × D))) (d : D) (h : Hh) : R Unit := match o with
  | some (k, fs) => if k = c ∧ fs.length < 1000 then .ok () (h.set i (.ins c (putFd f d fs))) else .bad
  | none => .bad
def fsetD (c f : Str) (x d : D) (h : Hh) : R Unit := match x with
  | .cel i => fsetK i c f (insO h[i]?) d h
  | _ => .bad
def newD (F : Fn) (c : Str) (xs : List D) (h : Hh) : R D := match F (.cel h.length :: xs) (h ++ [.ins c []]) with
  | .ok .non h2 => .ok (.cel h.length) h2
  | .exc k h2 => .exc k h2
  | _ => .bad
mutual
def evE : E → Ls → Hh → R D
  | .var i, ls, h => match ls[i]? with
    | some (some d) => .ok d h
    | _ => .bad
  | .int i, _, h => .ok (.int i) h
  | .bl b, _, h => .ok (.bl b) h
  | .non, _, h => .ok .non h
  | .str x, _, h => .ok (.str x) h
  | .glo _ d, _, h => .ok d h
  | .bty n, _, h => .ok (.ty n) h
  | .bin c o a b, ls, h => (evE a ls h).bind fun x h1 => (evE b ls h1).bind fun y h2 => binD c o x y h2
  | .neg a, ls, h => (evE a ls h).bind fun x h1 => negD x h1
  | .cmp o a b, ls, h => (evE a ls h).bind fun x h1 => (evE b ls h1).bind fun y h2 => ofB (cmpD o h2 x y) h2
  | .chn o o2 a b c, ls, h => (evE a ls h).bind fun x h1 => (evE b ls h1).bind fun y h2 => (ofB (cmpD o h2 x y) h2).bind fun r h3 => (truD r h3).bind fun k h4 =>
      if k = true then (evE c ls h4).bind fun z h5 => ofB (cmpD o2 h5 y z) h5 else .ok (.bl false) h4
  | .bop o es, ls, h => evB o es ls h
  | .not a, ls, h => (evE a ls h).bind fun x h1 => (truD x h1).bind fun k h2 => .ok (.bl !k) h2
  | .ife t a b, ls, h => (evE t ls h).bind fun x h1 => (truD x h1).bind fun k h2 => if k = true then evE a ls h2 else evE b ls h2
  | .lst c es, ls, h => (evEs es ls h).bind fun xs h1 => if xs.length ≤ LIM then mkL c xs h1 else .bad
  | .tup es, ls, h => (evEs es ls h).bind fun xs h1 => if xs.length ≤ LIM then .ok (.tup xs) h1 else .bad
  | .idx a i, ls, h => (evE a ls h).bind fun x h1 => (evE i ls h1).bind fun y h2 => idxD x y h2
  | .slU c a hi, ls, h => (evE a ls h).bind fun x h1 => (evE hi ls h1).bind fun y h2 => withI y fun j => slcD c x none (some j) h2
  | .slL c a lo, ls, h => (evE a ls h).bind fun x h1 => (evE lo ls h1).bind fun y h2 => withI y fun i => slcD c x (some i) none h2
  | .slB c a lo hi, ls, h => (evE a ls h).bind fun x h1 => (evE lo ls h1).bind fun y h2 => withI y fun i => (evE hi ls h2).bind fun z h3 => withI z fun j => slcD c x (some i) (some j) h3
  | .call m _ F es, ls, h => (evEs es ls h).bind fun xs h1 => callM m F xs h1
  | .bi b c es, ls, h => (evEs es ls h).bind fun xs h1 => biD b c xs h1
  | .isi a b, ls, h => (evE a ls h).bind fun x h1 => (evE b ls h1).bind fun y h2 => ofB (isiD h2 x y) h2
  | .me m c a es, ls, h => (evE a ls h).bind fun x h1 => if m.okR h1 x = true then (evEs es ls h1).bind fun xs h2 => meD m c x xs h2 else .bad
  | .comp c own tg it tt elt, ls, h => (evI it ls h).bind fun i h1 => (noX (compR i (asgT tg) (evTs tt) (evE elt) (wipeL ls own) h1)).bind fun ds h2 => mkL c ds h2
  | .rvl c a, ls, h => (evE a ls h).bind fun x h1 => revD c x h1
  | .lset a, ls, h => (evE a ls h).bind fun x h1 => lsetD x h1
  | .sset c a, ls, h => (evE a ls h).bind fun x h1 => ssetD c x h1
  | .strx _ a, ls, h => (evE a ls h).bind fun x h1 => strxD x h1
  | .lrg c a b, ls, h => (evE a ls h).bind fun x h1 => (evE b ls h1).bind fun y h2 => lrgD c x y h2
  | .dic ps, ls, h => dicD ls ps h
  | .dnew, _, h => .ok (.cel h.length) (h ++ [.dct []])
  | .dget a k, ls, h => (evE a ls h).bind fun x h1 => (evE k ls h1).bind fun y h2 => dgetD x y h2
  | .dhas n k a, ls, h => (evE k ls h).bind fun y h1 => (evE a ls h1).bind fun x h2 => dhasD n y x h2
  | .dlst c a, ls, h => (evE a ls h).bind fun x h1 => dlstD c x h1
  | .denu a, ls, h => (evE a ls h).bind fun x h1 => denD x h1
  | .lzip a b, ls, h => (evE a ls h).bind fun x h1 => (evE b ls h1).bind fun y h2 => lzipD x y h2
  | .fld c f a, ls, h => (evE a ls h).bind fun x h1 => fldD c f x h1
  | .mcall c m F a es, ls, h => (evE a ls h).bind fun x h1 => if isIn c m x h1 = true then (evEs es ls h1).bind fun xs h2 => F (x :: xs) h2 else .bad
  | .make c F es, ls, h => (evEs es ls h).bind fun xs h1 => newD F c xs h1
def evEs : Es → Ls → Hh → R (List D)
  | .nil, _, h => .ok [] h
  | .cons e es, ls, h => (evE e ls h).bind fun x h1 => (evEs es ls h1).bind fun xs h2 => .ok (x :: xs) h2
/-- and, or -/
def evB (o : BoolOp) : Es → Ls → Hh → R D
  | .nil, _, _ => .bad
  | .cons e .nil, ls, h => evE e ls h
  | .cons e (.cons e2 es), ls, h => (evE e ls h).bind fun x h1 => (truD x h1).bind fun k h2 => match o, k with
    | .And, true => evB o (.cons e2 es) ls h2
    | .And, false => .ok (.bl false) h2
    | .Or, true => .ok (.bl true) h2
    | .Or, false => evB o (.cons e2 es) ls h2
/-- a clause's tests: none or one -/
def evTs : Es → Ls → Hh → R Bool
  | .nil, _, h => .ok true h
  | .cons e .nil, ls, h => (evE e ls h).bind truD
  | .cons _ (.cons _ _), _, _ => .bad
def evI : I → Ls → Hh → R It
  | .seq e, ls, h => (evE e ls h).bind fun x h1 => mkR ((seqOf h1 x).map fun _ => .seq x) h1
  | .rng es, ls, h => (evEs es ls h).bind fun xs h1 => mkR (rngOf xs) h1
  | .enu e, ls, h => (evE e ls h).bind fun x h1 => mkR ((asL h1 x).map fun _ => .enu x) h1
  | .zip a b, ls, h => (evE a ls h).bind fun x h1 => (evE b ls h1).bind fun y h2 => mkR ((asL h2 x).bind fun _ => (asL h2 y).map fun _ => .zip x y) h2
  | .rev e, ls, h => (evE e ls h).bind fun x h1 => mkR ((asL h1 x).map fun xs => .rev x xs.length) h1
  | .zip3 a b c, ls, h => (evE a ls h).bind fun x h1 => (evE b ls h1).bind fun y h2 => (evE c ls h2).bind fun z h3 => mkR ((asL h3 x).bind fun _ => (asL h3 y).bind fun _ => (asL h3 z).map fun _ => .zip3 x y z) h3
  | .chs e, ls, h => (evE e ls h).bind fun x h1 => mkR (x.strO.map .chs) h1
end
def evT (e : E) (ls : Ls) (h : Hh) : R Bool := (evE e ls h).bind truD
def ofR {α : Type} (r : R α) (ls : Ls) (k : α → Hh → RS) : RS := match r with
  | .ok d h => k d h
  | .exc c h => .exc c ls h
  | .bad => .bad
def ofL (o : Option Ls) (h : Hh) : RS := match o with
  | some ls => .nx ls h
  | none => .bad
def augD (o : Operator) (a b : D) (h : Hh) : R D := match o, a, b with
  | .Add, .int i, .int j => .ok (.int (i + j)) h
  | .Sub, .int i, .int j => .ok (.int (i - j)) h
  | .Mult, .int i, .int j => if small i = true ∧ small j = true then .ok (.int (i * j)) h else .bad
  | _, _, _ => .bad
/-- by classes: the name of the class, those that stand over it -/
structure Cs where
  sub : Str → Str → Option Bool
mutual
def evS (C : Cs) : S → Ls → Hh → RS
  | .asg t e, ls, h => ofR (evE e ls h) ls fun d h1 => ofL (asgT t d ls) h1
  | .sub a i e, ls, h => ofR (evE e ls h) ls fun d h1 => ofR (evE a ls h1) ls fun x h2 => ofR (evE i ls h2) ls fun y h3 => ofR (setD x y d h3) ls fun _ h4 => .nx ls h4
  | .dput a i e, ls, h => ofR (evE e ls h) ls fun d h1 => ofR (evE a ls h1) ls fun x h2 => ofR (evE i ls h2) ls fun y h3 => ofR (dputD x y d h3) ls fun _ h4 => .nx ls h4
  | .aug i o e, ls, h => match ls[i]? with
    | some (some x) => ofR (evE e ls h) ls fun y h1 => ofR (augD o x y h1) ls fun z h2 => ofL (setN i z ls) h2
    | _ => .bad
  | .ex e, ls, h => ofR (evE e ls h) ls fun _ h1 => .nx ls h1
  | .ret e, ls, h => ofR (evE e ls h) ls fun d h1 => .rt d h1
  | .retN, _, h => .rt .non h
  | .ifs t a b, ls, h => ofR (evT t ls h) ls fun k h1 => if k = true then evSs C a ls h1 else evSs C b ls h1
  | .whl t b, ls, h => whileR (evT t) (evSs C b) FUEL ls h
  | .fr t it b, ls, h => ofR (evI it ls h) ls fun i h1 => forR i (asgT t) (evSs C b) ls h1
  | .pass, ls, h => .nx ls h
  | .brk, ls, h => .bk ls h
  | .cnt, ls, h => .ct ls h
  | .rais c, ls, h => .exc c ls h
  | .nev, _, _ => .bad
  | .tryN b c s, ls, h => match evSs C b ls h with
    | .exc k l1 h1 => match C.sub k c with
      | some true => evSs C s l1 h1
      | some false => .exc k l1 h1
      | none => .bad
    | r => r
  | .tryA b c i j, ls, h => match evSs C b ls h with
    | .exc k l1 h1 => if subX k c = true then (if j < l1.length then .nx ((l1.set j (some (.exc k))).set i none) h1 else .bad) else .exc k l1 h1
    | r => r
  | .tryK b c j v, ls, h => match evSs C b ls h with
    | .exc k l1 h1 => if subX k c = true then (if j < l1.length then .nx (l1.set j (some (.bl v))) h1 else .bad) else .exc k l1 h1
    | r => r
  | .tryT b c j v, ls, h => match evSs C b ls h with
    | .exc k l1 h1 => if subX k c = true then (if j < l1.length then .nx (l1.set j (some (.str v))) h1 else .bad) else .exc k l1 h1
    | r => r
  | .frK t j b, ls, h => keysR (asgT t) (evSs C b) ls[j]? ls h
  | .fset c f a e, ls, h => ofR (evE e ls h) ls fun d h1 => ofR (evE a ls h1) ls fun x h2 => ofR (fsetD c f x d h2) ls fun _ h3 => .nx ls h3
def evSs (C : Cs) : Ss → Ls → Hh → RS
  | .nil, ls, h => .nx ls h
  | .cons s r, ls, h => match evS C s ls h with
    | .nx l1 h1 => evSs C r l1 h1
    | o => o
end
def fnS (C : Cs) (n : Nat) (np : Nat) (b : Ss) : Fn := fun ds h => if ds.length = np then (match evSs C b (ds.map some ++ List.replicate (n - ds.length) none) h with
  | .rt d h1 => .ok d h1
  | .nx _ h1 => .ok .non h1
  | .exc c _ h1 => .exc c h1
  | _ => .bad) else .bad
end Tb
namespace Tb
open PySem PySem.Spec PyProof.Rows L2
/-! ### other cells -/
section
variable {Z : Zn} {W W1 W' : Wd} {H H1 : Hp} {h : Hh}
mutual
/-- more is known to be apart -/
theorem RelD.chg (hf : ∀ a, a ∈ W'.rho ∨ W'.F a → a ∈ W.rho ∨ W.F a) (hc : ∀ (i : Nat) a, W.rho[i]? = some a → W'.rho[i]? = some a) : ∀ (d : D) {v : V}, RelD Z W H d v → RelD Z W' H d v
  | .non, _, h => h
  | .bl _, _, h => h
  | .int _, _, h => h
  | .str _, _, h => h
  | .tup xs, _, ⟨a, vs, e, f, r⟩ => ⟨a, vs, e, f, RelDs.chg hf hc xs r⟩
  | .lst xs, _, ⟨a, vs, e, ⟨f1, f2, f3⟩, r⟩ => ⟨a, vs, e, ⟨f1, fun m => (hf a (.inl m)).elim f2 f3, fun m => (hf a (.inr m)).elim f2 f3⟩, RelDs.chg hf hc xs r⟩
  | .kl xs, _, ⟨a, vs, e, f, r⟩ => ⟨a, vs, e, by
      rcases f with ⟨o, f1, f2, f3⟩ | f
      · exact .inl ⟨o, f1, fun m => (hf a (.inl m)).elim f2 f3, fun m => (hf a (.inr m)).elim f2 f3⟩
      · exact .inr f, RelDs.chg hf hc xs r⟩
  | .dic kvs, _, ⟨a, vs, e, k, f2, f3, r⟩ => ⟨a, vs, e, k, fun m => (hf a (.inl m)).elim f2 f3, fun m => (hf a (.inr m)).elim f2 f3, RelKs.chg hf hc kvs r⟩
  | .kd kvs, _, ⟨a, vs, e, k, f2, f3, r⟩ => ⟨a, vs, e, k, fun m => (hf a (.inl m)).elim f2 f3, fun m => (hf a (.inr m)).elim f2 f3, RelRs.imp (fun b xs ⟨f1, f2, f3⟩ => ⟨f1, fun m => (hf b (.inl m)).elim f2 f3, fun m => (hf b (.inr m)).elim f2 f3⟩) kvs r⟩
  | .cel i, _, ⟨a, e, f⟩ => ⟨a, e, hc i a f⟩
  | .cls _, _, h => h
  | .ty _, _, h => h
  | .exc _, _, h => h
theorem RelDs.chg (hf : ∀ a, a ∈ W'.rho ∨ W'.F a → a ∈ W.rho ∨ W.F a) (hc : ∀ (i : Nat) a, W.rho[i]? = some a → W'.rho[i]? = some a) : ∀ (ds : List D) {vs : List V}, RelDs Z W H ds vs → RelDs Z W' H ds vs
  | [], _, h => h
  | d :: ds, _, ⟨v, r, e, h1, h2⟩ => ⟨v, r, e, RelD.chg hf hc d h1, RelDs.chg hf hc ds h2⟩
theorem RelKs.chg (hf : ∀ a, a ∈ W'.rho ∨ W'.F a → a ∈ W.rho ∨ W.F a) (hc : ∀ (i : Nat) a, W.rho[i]? = some a → W'.rho[i]? = some a) : ∀ (ds : List (Key × D)) {vs : List (Key × V)}, RelKs Z W H ds vs → RelKs Z W' H ds vs
  | [], _, h => h
  | (k, d) :: ds, _, ⟨v, r, e, h1, h2⟩ => ⟨v, r, e, RelD.chg hf hc d h1, RelKs.chg hf hc ds h2⟩
end
mutual
/-- .. of what has the first cells alone -/
theorem RelD.cut {n : Nat} (hf : ∀ a, a ∈ W'.rho ∨ W'.F a → a ∈ W.rho ∨ W.F a) (hc : ∀ (i : Nat) a, i < n → W.rho[i]? = some a → W'.rho[i]? = some a) : ∀ (d : D) {v : V}, d.under n = true → RelD Z W H d v → RelD Z W' H d v
  | .non, _, _, h => h
  | .bl _, _, _, h => h
  | .int _, _, _, h => h
  | .str _, _, _, h => h
  | .tup xs, _, u, ⟨a, vs, e, f, r⟩ => ⟨a, vs, e, f, RelDs.cut hf hc xs (by simpa [D.under] using u) r⟩
  | .lst xs, _, u, ⟨a, vs, e, ⟨f1, f2, f3⟩, r⟩ => ⟨a, vs, e, ⟨f1, fun m => (hf a (.inl m)).elim f2 f3, fun m => (hf a (.inr m)).elim f2 f3⟩, RelDs.cut hf hc xs (by simpa [D.under] using u) r⟩
  | .kl xs, _, u, ⟨a, vs, e, f, r⟩ => ⟨a, vs, e, by
      rcases f with ⟨o, f1, f2, f3⟩ | f
      · exact .inl ⟨o, f1, fun m => (hf a (.inl m)).elim f2 f3, fun m => (hf a (.inr m)).elim f2 f3⟩
      · exact .inr f, RelDs.cut hf hc xs (by simpa [D.under] using u) r⟩
  | .dic kvs, _, u, ⟨a, vs, e, k, f2, f3, r⟩ => ⟨a, vs, e, k, fun m => (hf a (.inl m)).elim f2 f3, fun m => (hf a (.inr m)).elim f2 f3, RelKs.cut hf hc kvs (by simpa [D.under] using u) r⟩
  | .kd kvs, _, u, ⟨a, vs, e, k, f2, f3, r⟩ => ⟨a, vs, e, k, fun m => (hf a (.inl m)).elim f2 f3, fun m => (hf a (.inr m)).elim f2 f3, RelRs.imp (fun b xs ⟨f1, f2, f3⟩ => ⟨f1, fun m => (hf b (.inl m)).elim f2 f3, fun m => (hf b (.inr m)).elim f2 f3⟩) kvs r⟩
  | .cel i, _, u, ⟨a, e, f⟩ => ⟨a, e, hc i a (by simpa [D.under] using u) f⟩
  | .cls _, _, _, h => h
  | .ty _, _, _, h => h
  | .exc _, _, _, h => h
theorem RelDs.cut {n : Nat} (hf : ∀ a, a ∈ W'.rho ∨ W'.F a → a ∈ W.rho ∨ W.F a) (hc : ∀ (i : Nat) a, i < n → W.rho[i]? = some a → W'.rho[i]? = some a) : ∀ (ds : List D) {vs : List V}, unders n ds = true → RelDs Z W H ds vs → RelDs Z W' H ds vs
  | [], _, _, h => h
  | d :: ds, _, u, ⟨v, r, e, h1, h2⟩ => by
    simp only [unders, Bool.and_eq_true] at u
    exact ⟨v, r, e, RelD.cut hf hc d u.1 h1, RelDs.cut hf hc ds u.2 h2⟩
theorem RelKs.cut {n : Nat} (hf : ∀ a, a ∈ W'.rho ∨ W'.F a → a ∈ W.rho ∨ W.F a) (hc : ∀ (i : Nat) a, i < n → W.rho[i]? = some a → W'.rho[i]? = some a) : ∀ (ds : List (Key × D)) {vs : List (Key × V)}, underK n ds = true → RelKs Z W H ds vs → RelKs Z W' H ds vs
  | [], _, _, h => h
  | (k, d) :: ds, _, u, ⟨v, r, e, h1, h2⟩ => by
    simp only [underK, Bool.and_eq_true] at u
    exact ⟨v, r, e, RelD.cut hf hc d u.1 h1, RelKs.cut hf hc ds u.2 h2⟩
end
mutual
theorem D.pure_under (n : Nat) : ∀ d : D, d.pure = true → d.under n = true
  | .non, _ => rfl
  | .bl _, _ => rfl
  | .int _, _ => rfl
  | .str _, _ => rfl
  | .tup xs, h => by simp only [D.under]; exact pures_under n xs (by simpa [D.pure] using h)
  | .lst xs, h => by simp only [D.under]; exact pures_under n xs (by simpa [D.pure] using h)
  | .kl xs, h => by simp only [D.under]; exact pures_under n xs (by simpa [D.pure] using h)
  | .dic kvs, h => by simp only [D.under]; exact pureK_under n kvs (by simpa [D.pure] using h)
  | .kd _, _ => rfl
  | .cel _, h => by simp [D.pure] at h
  | .cls _, _ => rfl
  | .ty _, _ => rfl
  | .exc _, _ => rfl
theorem pures_under (n : Nat) : ∀ ds : List D, pures ds = true → unders n ds = true
  | [], _ => rfl
  | d :: ds, h => by
    simp only [pures, Bool.and_eq_true] at h
    simp only [unders, Bool.and_eq_true]
    exact ⟨D.pure_under n d h.1, pures_under n ds h.2⟩
theorem pureK_under (n : Nat) : ∀ ds : List (Key × D), pureK ds = true → underK n ds = true
  | [], _ => rfl
  | (_, d) :: ds, h => by
    simp only [pureK, Bool.and_eq_true] at h
    simp only [underK, Bool.and_eq_true]
    exact ⟨D.pure_under n d h.1, pureK_under n ds h.2⟩
end
mutual
theorem D.nol_rel : ∀ (d : D) {v : V}, d.nol = true → RelD Z W H d v → RelD Z W' H d v
  | .non, _, _, h => h
  | .bl _, _, _, h => h
  | .int _, _, _, h => h
  | .str _, _, _, h => h
  | .tup xs, _, u, ⟨a, vs, e, f, r⟩ => ⟨a, vs, e, f, nols_rel xs (by simpa [D.nol] using u) r⟩
  | .lst xs, _, u, _ => by simp [D.nol] at u
  | .kl xs, _, u, _ => by simp [D.nol] at u
  | .dic kvs, _, u, _ => by simp [D.nol] at u
  | .kd _, _, u, _ => by simp [D.nol] at u
  | .cel i, _, u, _ => by simp [D.nol] at u
  | .cls _, _, _, h => h
  | .ty _, _, _, h => h
  | .exc _, _, _, h => h
theorem nols_rel : ∀ (ds : List D) {vs : List V}, nols ds = true → RelDs Z W H ds vs → RelDs Z W' H ds vs
  | [], _, _, h => h
  | d :: ds, _, u, ⟨v, r, e, h1, h2⟩ => by
    simp only [nols, Bool.and_eq_true] at u
    exact ⟨v, r, e, D.nol_rel d u.1 h1, nols_rel ds u.2 h2⟩
end
/-- the first n cells -/
def Wd.fst (W : Wd) (n : Nat) : Wd := ⟨W.rho.take n, W.F⟩
theorem fst_mem {n : Nat} (a : Addr) (m : a ∈ (W.fst n).rho ∨ (W.fst n).F a) : a ∈ W.rho ∨ W.F a := by
  rcases m with m | m
  · exact .inl (List.mem_of_mem_take m)
  · exact .inr m
theorem fst_at {n i : Nat} {a : Addr} (hi : i < n) (e : W.rho[i]? = some a) : (W.fst n).rho[i]? = some a := by
  show (W.rho.take n)[i]? = some a
  rw [List.getElem?_take_of_lt hi]; exact e
theorem frzL_rel {n : Nat} {f : D → Option D} (hf : ∀ d e v, f d = some e → RelD Z W H d v → RelD Z (W.fst n) H e v) : ∀ (ds es : List D) {vs : List V}, frzL f ds = some es → RelDs Z W H ds vs → RelDs Z (W.fst n) H es vs
  | [], es, vs, e, r => by cases e; exact r
  | d :: ds, es, vs, e, ⟨v, r, e1, h1, h2⟩ => by
    unfold frzL at e
    cases q : f d with
    | none => rw [q] at e; cases e
    | some d1 =>
      rw [q] at e
      cases q2 : frzL f ds with
      | none => rw [q2] at e; cases e
      | some ds1 =>
        rw [q2] at e
        cases e
        exact ⟨v, r, e1, hf d d1 v q h1, frzL_rel hf ds ds1 q2 h2⟩
theorem frz_rel {n : Nat} (hr : HRel Z W H h) : ∀ (k : Nat) (d e : D) (v : V), frz n h k d = some e → RelD Z W H d v → RelD Z (W.fst n) H e v
  | 0, d, e, v, q, r => by cases q
  | k + 1, d, e, v, q, r => by
    have ih := frz_rel (n := n) hr k
    have scal : (d.pure = true) → e = d → RelD Z (W.fst n) H e v := fun hp he => by
      subst he
      exact RelD.cut (n := n) fst_mem (fun i a hi e => fst_at hi e) e (D.pure_under n e hp) r
    cases d with
    | tup xs =>
      obtain ⟨a, vs, e1, f, r1⟩ := r
      unfold frz at q
      cases q2 : frzL (frz n h k) xs with
      | none => simp [q2] at q
      | some ys =>
        simp only [q2, Option.map_some, Option.some.injEq] at q
        subst q
        exact ⟨a, vs, e1, f, frzL_rel ih xs ys q2 r1⟩
    | lst xs =>
      obtain ⟨a, vs, e1, ⟨f1, f2, f3⟩, r1⟩ := r
      unfold frz at q
      cases q2 : frzL (frz n h k) xs with
      | none => simp [q2] at q
      | some ys =>
        simp only [q2, Option.map_some, Option.some.injEq] at q
        subst q
        exact ⟨a, vs, e1, ⟨f1, fun m => f2 (List.mem_of_mem_take m), f3⟩, frzL_rel ih xs ys q2 r1⟩
    | kl xs =>
      unfold frz at q
      by_cases hp : pures xs = true
      · simp only [hp, if_true, Option.some.injEq] at q
        exact scal (by simpa [D.pure] using hp) q.symm
      · simp [hp] at q
    | dic kvs =>
      unfold frz at q
      by_cases hp : pureK kvs = true
      · simp only [hp, if_true, Option.some.injEq] at q
        exact scal (by simpa [D.pure] using hp) q.symm
      · simp [hp] at q
    | kd kvs => unfold frz at q; cases q
    | cel i =>
      obtain ⟨a, e1, f⟩ := r
      unfold frz at q
      by_cases hi : i < n
      · simp only [hi, if_true, Option.some.injEq] at q
        subst q
        exact ⟨a, e1, fst_at hi f⟩
      · simp only [hi, if_false] at q
        cases q1 : h[i]? with
        | none => simp [q1, asO] at q
        | some o =>
          cases o with
          | ins c fs => simp [q1, asO] at q
          | dct kvs => simp [q1, asO] at q
          | lst xs =>
            simp only [q1, asO, Option.bind_some] at q
            cases q2 : frzL (frz n h k) xs with
            | none => simp [q2] at q
            | some ys =>
              simp only [q2, Option.map_some, Option.some.injEq] at q
              subst q
              obtain ⟨vs, ea, r1⟩ := hr.obj i a _ f q1
              refine ⟨a, vs, e1, ⟨ea, fun m => ?_, hr.dis a (List.mem_of_getElem? f)⟩, frzL_rel ih xs ys q2 r1⟩
              obtain ⟨j, hj, ej⟩ := List.getElem_of_mem (show a ∈ W.rho.take n from m)
              have hj' : (W.rho.take n)[j]? = some a := by rw [List.getElem?_eq_getElem hj, ej]
              have hjn : j < n := by
                have z : j < (W.rho.take n).length := hj
                rw [List.length_take] at z
                omega
              rw [List.getElem?_take_of_lt hjn] at hj'
              exact hi (nodup_ixA hr.nd hj' f ▸ hjn)
    | _ =>
      unfold frz at q
      simp only [Option.some.injEq] at q
      exact scal rfl q.symm
theorem fz_rel {n : Nat} (hr : HRel Z W H h) (d e : D) (v : V) (q : fz n h d = some e) (r : RelD Z W H d v) : RelD Z (W.fst n) H e v := by
  unfold fz at q
  by_cases hp : d.pure = true
  · simp only [hp, if_true, Option.some.injEq] at q
    subst q
    exact RelD.cut (n := n) fst_mem (fun i a hi e => fst_at hi e) _ (D.pure_under n _ hp) r
  · simp only [hp] at q
    exact frz_rel hr 8 d e v (by simpa using q) r
theorem fz_pures {n : Nat} : ∀ (ds es : List D), pures ds = true → frzL (fz n h) ds = some es → es = ds
  | [], es, _, e => by cases e; rfl
  | d :: ds, es, u, e => by
    simp only [pures, Bool.and_eq_true] at u
    unfold frzL at e
    have q : fz n h d = some d := by unfold fz; simp [u.1]
    rw [q] at e
    cases q2 : frzL (fz n h) ds with
    | none => rw [q2] at e; cases e
    | some ds1 =>
      rw [q2] at e
      cases e
      rw [fz_pures ds ds1 u.2 q2]
/-- every cell is tracked -/
theorem HRel.trkd (hr : HRel Z W H h) {a : Addr} (m : a ∈ W.rho) : H a ≠ none := fun n => hr.notin n m
/-- all that was there stays -/
theorem Gr.stay (keep : ∀ a o, H a = some o → H1 a = some o) (trk : ∀ a, H1 a = none → H a = none) : Gr W H W H1 :=
  ⟨⟨[], by simp, fun _ z => nomatch z⟩, rfl, fun a o e _ => keep a o e, fun a xs _ e => keep a _ e, trk⟩
theorem HRel.stay (hr : HRel Z W H h) (keep : ∀ a o, H a = some o → H1 a = some o) (trk : ∀ a, H1 a = none → H a = none) : HRel Z W H1 h :=
  ⟨hr.len, hr.nd, fun i a ob e1 e2 => ObjR.mono (Gr.stay keep trk) (fun u e => keep a u e) (hr.obj i a ob e1 e2), hr.dis, fun a f e => hr.frn a f (trk a e)⟩
theorem ownL_rel {h' : Hh} {k : Nat} {f : D → Option D} (ih : ∀ d e v, f d = some e → ownD h' k d = true → RelD Z W1 H d v → RelD Z W H e v) : ∀ (ds es : List D) {vs : List V}, frzL f ds = some es → ds.all (ownD h' k) = true → RelDs Z W1 H ds vs → RelDs Z W H es vs
  | [], es, vs, e, _, r => by cases e; exact r
  | d :: ds, es, vs, e, o, ⟨v, r, e1, h1, h2⟩ => by
    simp only [List.all_cons, Bool.and_eq_true] at o
    unfold frzL at e
    cases q : f d with
    | none => rw [q] at e; cases e
    | some d1 =>
      rw [q] at e
      cases q2 : frzL f ds with
      | none => rw [q2] at e; cases e
      | some ds1 =>
        rw [q2] at e
        cases e
        exact ⟨v, r, e1, ih d d1 v q o.1 h1, ownL_rel ih ds ds1 q2 o.2 h2⟩
/-- what the call made itself, frozen -/
theorem own_rel {h' : Hh} (hr : HRel Z W1 H h') (ap : ∀ a, a ∈ W1.rho → a ∉ W.rho ∧ ¬ W.F a) : ∀ (k : Nat) (d e : D) (v : V), frz 0 h' k d = some e → ownD h' k d = true → RelD Z W1 H d v → RelD Z W H e v
  | 0, d, e, v, q, _, _ => by cases q
  | k + 1, d, e, v, q, o, r => by
    have ih := own_rel hr ap k
    cases d with
    | tup xs =>
      obtain ⟨a, vs, e1, f, r1⟩ := r
      unfold frz at q
      cases q2 : frzL (frz 0 h' k) xs with
      | none => simp [q2] at q
      | some ys =>
        simp only [q2, Option.map_some, Option.some.injEq] at q
        subst q
        exact ⟨a, vs, e1, f, ownL_rel ih xs ys q2 (by simpa [ownD] using o) r1⟩
    | lst xs => simp [ownD] at o
    | kl xs => simp [ownD] at o
    | dic kvs => simp [ownD] at o
    | kd kvs => simp [ownD] at o
    | cel i =>
      obtain ⟨a, e1, f⟩ := r
      unfold frz at q
      simp only [Nat.not_lt_zero, if_false] at q
      cases q1 : h'[i]? with
      | none => simp [q1, asO] at q
      | some ob =>
        cases ob with
        | ins c fs => simp [q1, asO] at q
        | dct kvs => simp [q1, asO] at q
        | lst xs =>
          simp only [q1, asO, Option.bind_some] at q
          cases q2 : frzL (frz 0 h' k) xs with
          | none => simp [q2] at q
          | some ys =>
            simp only [q2, Option.map_some, Option.some.injEq] at q
            subst q
            obtain ⟨vs, ea, r1⟩ := hr.obj i a _ f q1
            have := ap a (List.mem_of_getElem? f)
            have o' : xs.all (ownD h' k) = true := by unfold ownD at o; simpa [q1, asO] using o
            exact ⟨a, vs, e1, ⟨ea, this.1, this.2⟩, ownL_rel ih xs ys q2 o' r1⟩
    | non => unfold frz at q; cases q; exact r
    | bl _ => unfold frz at q; cases q; exact r
    | int _ => unfold frz at q; cases q; exact r
    | str _ => unfold frz at q; cases q; exact r
    | cls _ => unfold frz at q; cases q; exact r
    | ty _ => unfold frz at q; cases q; exact r
    | exc _ => unfold frz at q; cases q; exact r
theorem asInts_D : ∀ {ds : List D} {ns : List Int}, asInts ds = some ns → ds = ns.map .int
  | [], ns, e => by cases e; rfl
  | d :: ds, ns, e => by
    cases d <;> simp only [asInts] at e <;> try (cases e; done)
    cases q : asInts ds with
    | none => rw [q] at e; cases e
    | some r => rw [q] at e; cases e; rw [asInts_D q]; rfl
theorem rows_rel (f : ∀ b xs, FzL W1 H b xs → FzL W H b xs) : ∀ (ks : List (Key × D)) {kvs : List (Int × List Int)} {vs : List (Key × V)}, rowsO ks = some kvs → RelKs Z W1 H ks vs → RelRs W H kvs vs
  | [], kvs, vs, e, r => by cases e; exact r
  | (.inl k, .lst xs) :: ks, kvs, vs, e, ⟨v, q, ev, ⟨b, us, eb, fb, rb⟩, rq⟩ => by
    unfold rowsO at e
    cases q1 : asInts xs with
    | none => rw [q1] at e; cases e
    | some ns =>
      rw [q1] at e
      cases q2 : rowsO ks with
      | none => rw [q2] at e; cases e
      | some r =>
        rw [q2] at e
        cases e
        have ex := asInts_D q1
        subst ex
        rw [RelDs.ints.mp rb] at fb
        exact ⟨b, q, by rw [ev, eb], f b _ fb, rows_rel f ks q2 rq⟩
  | (.inr _, _) :: _, _, _, e, _ => by cases e
  | (.inl _, .non) :: _, _, _, e, _ => by cases e
  | (.inl _, .bl _) :: _, _, _, e, _ => by cases e
  | (.inl _, .int _) :: _, _, _, e, _ => by cases e
  | (.inl _, .str _) :: _, _, _, e, _ => by cases e
  | (.inl _, .tup _) :: _, _, _, e, _ => by cases e
  | (.inl _, .kl _) :: _, _, _, e, _ => by cases e
  | (.inl _, .dic _) :: _, _, _, e, _ => by cases e
  | (.inl _, .kd _) :: _, _, _, e, _ => by cases e
  | (.inl _, .cel _) :: _, _, _, e, _ => by cases e
  | (.inl _, .cls _) :: _, _, _, e, _ => by cases e
  | (.inl _, .ty _) :: _, _, _, e, _ => by cases e
  | (.inl _, .exc _) :: _, _, _, e, _ => by cases e
/-- a call by what is only read -/
theorem call_P {F : Fn} {ds : List D} {vs : List V} {E : Str → Hp → Prop} {Q : VK} (hr : HRel Z W H h) (r : RelDs Z W H ds vs) (t : TriD Z E Q W H (callP F ds h)) :
    ∃ W' es, RelDs Z W' H es vs ∧ HRel Z W' H [] ∧ TriD Z E Q W' H (F es []) := by
  unfold callP at t
  cases q : frzL (fz 0 h) ds with
  | none => rw [q] at t; exact t.elim
  | some es =>
    rw [q] at t
    simp only at t
    have kept : ∀ {W' W1 : Wd} {H1 : Hp}, W'.rho = [] → Gr W' H W1 H1 → (∀ a o, H a = some o → H1 a = some o) ∧ ∀ a, H1 a = none → H a = none := fun {W' W1 H1} e0 g =>
      ⟨fun a o e => g.keep a o e (by rw [e0]; simp), g.trk⟩
    by_cases hp : pures ds = true
    · -- what is handed in has no cells
      have he := fz_pures ds es hp q
      subst he
      refine ⟨⟨[], fun a => W.F a ∨ a ∈ W.rho⟩, es, RelDs.cut (n := 0) (fun a m => ?_) (fun i a hi => absurd hi (Nat.not_lt_zero _)) es (pures_under 0 es hp) r, ⟨rfl, List.nodup_nil, fun i a o e => by simp at e, fun a m => by simp at m, fun a m => m.elim (hr.frn a) hr.trkd⟩, ?_⟩
      · rcases m with m | m
        · simp at m
        · exact m.symm
      · cases qf : F es [] with
        | bad => rw [qf] at t; exact t
        | exc c h' =>
          rw [qf] at t
          intro W1 H1 g hr1
          obtain ⟨k1, k2⟩ := kept rfl g
          exact t W H1 (Gr.stay k1 k2) (hr.stay k1 k2)
        | ok d h' =>
          rw [qf] at t
          simp only at t
          intro v W1 H1 g hr1 rl
          obtain ⟨k1, k2⟩ := kept rfl g
          cases qz : fz 0 h' d with
          | none =>
            rw [qz] at t
            cases d <;> try exact t.elim
            rename_i i
            simp only at t
            cases qk : kdO h'[i]? with
            | none => rw [qk] at t; exact t.elim
            | some kvs =>
              rw [qk] at t
              simp only [hp, if_true] at t
              refine t v W H1 (Gr.stay k1 k2) (hr.stay k1 k2) ?_
              obtain ⟨a, ea, fa⟩ := rl
              have out : ∀ b, b ∉ W1.rho → ¬ W1.F b → b ∉ W.rho ∧ ¬ W.F b := fun b _ nf => by
                rw [g.frn] at nf
                exact ⟨fun m => nf (.inr m), fun m => nf (.inl m)⟩
              have outA : a ∉ W.rho ∧ ¬ W.F a := by
                have nf := hr1.dis a (List.mem_of_getElem? fa)
                rw [g.frn] at nf
                exact ⟨fun m => nf (.inr m), fun m => nf (.inl m)⟩
              cases qo : h'[i]? with
              | none => rw [qo] at qk; cases qk
              | some o =>
                rw [qo] at qk
                cases o with
                | lst _ => cases qk
                | ins _ _ => cases qk
                | dct ks =>
                  obtain ⟨vs, e2, rk⟩ := hr1.obj i a _ fa qo
                  exact ⟨a, vs, ea, .inl e2, outA.1, outA.2, rows_rel (fun b xs z => ⟨z.1, out b z.2.1 z.2.2⟩) ks qk rk⟩
          | some e =>
            rw [qz] at t
            simp only [hp, true_or, if_true] at t
            refine t v W H1 (Gr.stay k1 k2) (hr.stay k1 k2) ?_
            have rl0 := fz_rel hr1 d e v qz rl
            refine RelD.chg (W := W1.fst 0) (fun a m => .inr ?_) (fun i a e => by simp [Wd.fst] at e) e rl0
            show W1.F a
            rw [g.frn]
            exact m.symm
    · refine ⟨W.fst 0, es, frzL_rel (n := 0) (fun d e v => fz_rel hr d e v) ds es q r, ⟨by simp [Wd.fst], by simp [Wd.fst], fun i a o e => by simp [Wd.fst] at e, fun a m => by simp [Wd.fst] at m, fun a m => hr.frn a m⟩, ?_⟩
      · cases qf : F es [] with
        | bad => rw [qf] at t; exact t
        | exc c h' =>
          rw [qf] at t
          intro W1 H1 g hr1
          obtain ⟨k1, k2⟩ := kept (by simp [Wd.fst]) g
          exact t W H1 (Gr.stay k1 k2) (hr.stay k1 k2)
        | ok d h' =>
          rw [qf] at t
          simp only at t
          intro v W1 H1 g hr1 rl
          obtain ⟨k1, k2⟩ := kept (by simp [Wd.fst]) g
          cases qz : fz 0 h' d with
          | none =>
            rw [qz] at t
            cases d <;> try exact t.elim
            rename_i i
            simp only at t
            cases qk : kdO h'[i]? with
            | none => rw [qk] at t; exact t.elim
            | some kvs =>
              rw [qk] at t
              simp only [hp] at t
              exact t.elim
          | some e =>
            rw [qz] at t
            by_cases hn : e.nol = true
            · simp only [hn, or_true, if_true] at t
              exact t v W H1 (Gr.stay k1 k2) (hr.stay k1 k2) (D.nol_rel e hn (fz_rel hr1 d e v qz rl))
            · by_cases ho : d.pure = false ∧ ownD h' 8 d = true
              · simp only [hp, hn, or_self, if_pos ho] at t
                have qz' : frz 0 h' 8 d = some e := by unfold fz at qz; simpa [ho.1] using qz
                obtain ⟨l, el, nl⟩ := g.pre
                refine t v W H1 (Gr.stay k1 k2) (hr.stay k1 k2) (own_rel hr1 (fun a m => ?_) 8 d e v qz' ho.2 rl)
                have ha : H a = none := nl a (by rw [el] at m; simpa [Wd.fst] using m)
                exact ⟨hr.notin ha, hr.nF ha⟩
              · simp only [hp, hn, or_self, if_neg ho] at t
                exact t.elim
theorem O.under_rel {n : Nat} {a : Addr} : ∀ {o : O}, o.under n = true → ObjR Z W H a o → ObjR Z (W.fst n) H a o
  | .lst xs, u, ⟨vs, e, r⟩ => ⟨vs, e, RelDs.cut (n := n) fst_mem (fun i a hi e => fst_at hi e) xs (by simpa [O.under] using u) r⟩
  | .ins c fs, u, ⟨C, dx, vs, e1, e2, r⟩ => by
    refine ⟨C, dx, vs, e1, e2, ?_⟩
    have go : ∀ (fs : List (Str × D)) (vs : List (Str × V)), (fs.all fun p => p.2.under n) = true → RelFs Z W H fs vs → RelFs Z (W.fst n) H fs vs := by
      intro fs
      induction fs with
      | nil => intro vs _ r; exact r
      | cons p fs ih =>
        obtain ⟨k, d⟩ := p
        intro vs u r
        obtain ⟨v, q, e, h1, h2⟩ := r
        simp only [List.all_cons, Bool.and_eq_true] at u
        exact ⟨v, q, e, RelD.cut (n := n) fst_mem (fun i a hi e => fst_at hi e) d u.1 h1, ih q u.2 h2⟩
    exact go fs vs (by simpa [O.under] using u) r
  | .dct kvs, u, ⟨vs, e, r⟩ => ⟨vs, e, RelKs.cut (n := n) fst_mem (fun i a hi e => fst_at hi e) kvs (by simpa [O.under] using u) r⟩
/-- a call behind which what is new is only read -/
theorem call_F {F : Fn} {ds : List D} {E : Str → Hp → Prop} {Q : VK} (hr : HRel Z W H h) (t : TriD Z E Q W H (callF F ds h)) : TriD Z E Q W H (F ds h) := by
  have back : ∀ {W1 : Wd} {H1 : Hp} {h' : Hh}, Gr W H W1 H1 → HRel Z W1 H1 h' → (h'.take h.length).all (O.under h.length) = true → Gr W H (W1.fst h.length) H1 ∧ HRel Z (W1.fst h.length) H1 (h'.take h.length) := fun {W1 H1 h'} g hr1 al => by
    obtain ⟨l, el, nl⟩ := g.pre
    have er : (W1.fst h.length).rho = W.rho := by
      show W1.rho.take h.length = W.rho
      rw [el, ← hr.len, List.take_left']
      rfl
    refine ⟨⟨⟨[], by rw [er]; simp, fun _ z => nomatch z⟩, g.frn, g.keep, g.tups, g.trk⟩, ⟨?_, ?_, ?_, ?_, ?_⟩⟩
    · show (W1.rho.take h.length).length = _
      rw [List.length_take, List.length_take, hr1.len]
    · rw [er]; exact hr.nd
    · intro i a o e1 e2
      have hi : i < h.length := by
        have z := (List.getElem?_eq_some_iff.mp e2).1
        rw [List.length_take] at z
        omega
      have e1' : W1.rho[i]? = some a := by
        have z : (W1.rho.take h.length)[i]? = some a := e1
        rw [List.getElem?_take_of_lt hi] at z
        exact z
      have e2' : h'[i]? = some o := by rw [List.getElem?_take_of_lt hi] at e2; exact e2
      exact O.under_rel (List.all_eq_true.mp al o (List.mem_of_getElem? e2)) (hr1.obj i a o e1' e2')
    · intro a m
      exact hr1.dis a (List.mem_of_mem_take m)
    · exact hr1.frn
  unfold callF at t
  cases qf : F ds h with
  | bad => rw [qf] at t; exact t
  | exc c h' =>
    rw [qf] at t
    simp only at t
    intro W1 H1 g hr1
    by_cases al : (h'.take h.length).all (O.under h.length) = true
    · rw [if_pos al] at t
      obtain ⟨g', hr'⟩ := back g hr1 al
      exact t _ H1 g' hr'
    · rw [if_neg al] at t
      exact t.elim
  | ok d h' =>
    rw [qf] at t
    simp only at t
    intro v W1 H1 g hr1 rl
    cases qz : fz h.length h' d with
    | none => rw [qz] at t; exact t.elim
    | some e =>
      rw [qz] at t
      simp only at t
      by_cases al : (h'.take h.length).all (O.under h.length) = true ∧ h.length ≤ h'.length
      · rw [if_pos al] at t
        obtain ⟨g', hr'⟩ := back g hr1 al.1
        exact t v _ H1 g' hr' (fz_rel hr1 d e v qz rl)
      · rw [if_neg al] at t
        exact t.elim
/-- a new list of its own comes -/
theorem call_C {F : Fn} {ds : List D} {vs : List V} {E : Str → Hp → Prop} {Q : VK} (hr : HRel Z W H h) (r : RelDs Z W H ds vs) (t : TriD Z E Q W H (callC F ds h)) :
    ∃ W' es, RelDs Z W' H es vs ∧ HRel Z W' H [] ∧ TriD Z E Q W' H (F es []) := by
  unfold callC at t
  cases q : frzL (fz 0 h) ds with
  | none => rw [q] at t; exact t.elim
  | some es =>
    rw [q] at t
    simp only at t
    -- behind the call, whatever was known apart
    have back : ∀ (W' : Wd), W'.rho = [] → (∀ b, W.F b → W'.F b) → (pures ds = true → ∀ b, b ∈ W.rho → W'.F b) → TriD Z E Q W' H (F es []) := by
      intro W' e0 fW rW
      cases qf : F es [] with
      | bad => rw [qf] at t; exact t
      | exc c h' =>
        rw [qf] at t
        intro W1 H1 g hr1
        have k1 : ∀ a o, H a = some o → H1 a = some o := fun a o e => g.keep a o e (by rw [e0]; simp)
        exact t W H1 (Gr.stay k1 g.trk) (hr.stay k1 g.trk)
      | ok d h' =>
        rw [qf] at t
        simp only at t
        intro v W1 H1 g hr1 rl
        have k1 : ∀ a o, H a = some o → H1 a = some o := fun a o e => g.keep a o e (by rw [e0]; simp)
        cases d <;> try exact t.elim
        rename_i i
        obtain ⟨a, ev, ea⟩ := rl
        cases qi : h'[i]? with
        | none => simp only [qi, asO] at t; exact t.elim
        | some ob =>
          cases ob with
          | ins c fs => simp only [qi, asO] at t; exact t.elim
          | dct kvs => simp only [qi, asO] at t; exact t.elim
          | lst xs =>
            simp only [qi, asO] at t
            by_cases hx : pures xs = true ∧ (pures ds = true ∨ nols xs = true)
            · rw [if_pos hx] at t
              obtain ⟨us, ho, rs⟩ := hr1.obj i a _ ea qi
              obtain ⟨l, el, nl⟩ := g.pre
              have ha : H a = none := nl a (by have := List.mem_of_getElem? ea; rw [el, e0] at this; simpa using this)
              have nin : a ∉ W.rho := hr.notin ha
              have mem1 : a ∈ W1.rho := List.mem_of_getElem? ea
              have fin : RelDs Z ⟨W.rho ++ [a], W.F⟩ H1 xs us := by
                rcases hx.2 with hp | hn
                · refine RelDs.cut (W := W1) (n := 0) (fun b m => ?_) (fun i a hi => absurd hi (Nat.not_lt_zero _)) xs (pures_under 0 xs hx.1) rs
                  rcases m with m | m
                  · rcases List.mem_append.mp m with m | m
                    · exact .inr (by rw [g.frn]; exact rW hp b m)
                    · rw [List.mem_singleton.mp m]; exact .inl mem1
                  · exact .inr (by rw [g.frn]; exact fW b m)
                · exact nols_rel xs hn rs
              refine t v ⟨W.rho ++ [a], W.F⟩ H1 ⟨⟨[a], rfl, fun b z => by rw [List.mem_singleton.mp z]; exact ha⟩, rfl, fun b o e _ => k1 b o e, fun b xs _ e => k1 b _ e, g.trk⟩ ⟨by simp [hr.len], ?_, fun j b ob e1 e2 => ?_, fun b m => ?_, fun b z e => hr.frn b z (g.trk b e)⟩ ⟨a, ev, ?_⟩
              · show (W.rho ++ [a]).Nodup
                rw [List.nodup_append]
                exact ⟨hr.nd, by simp, fun x hx y hy => by rw [List.mem_singleton.mp hy]; rintro rfl; exact nin hx⟩
              · have e1 : (W.rho ++ [a])[j]? = some b := e1
                by_cases hj : j < W.rho.length
                · rw [List.getElem?_append_left hj] at e1
                  rw [List.getElem?_append_left (by rw [← hr.len]; exact hj)] at e2
                  exact ObjR.mono (W := W) (W1 := ⟨W.rho ++ [a], W.F⟩) (H := H) ⟨⟨[a], rfl, fun b z => by rw [List.mem_singleton.mp z]; exact ha⟩, rfl, fun b o e _ => k1 b o e, fun b xs _ e => k1 b _ e, g.trk⟩ (fun u e => k1 b u e) (hr.obj j b ob e1 e2)
                · have hl := hr.len
                  have hj2 : j = W.rho.length := by
                    have := (List.getElem?_eq_some_iff.mp e1).1
                    simp at this; omega
                  subst hj2
                  rw [List.getElem?_append_right (Nat.le_refl _)] at e1
                  rw [hl, List.getElem?_append_right (Nat.le_refl _)] at e2
                  simp at e1 e2
                  subst e1 e2
                  exact ⟨us, ho, fin⟩
              · rcases List.mem_append.mp m with z | z
                · exact hr.dis b z
                · rw [List.mem_singleton.mp z]; exact hr.nF ha
              · show (W.rho ++ [a])[h.length]? = some a
                rw [← hr.len, List.getElem?_append_right (Nat.le_refl _)]; simp
            · rw [if_neg hx] at t; exact t.elim
    by_cases hp : pures ds = true
    · have he := fz_pures ds es hp q
      subst he
      refine ⟨⟨[], fun a => W.F a ∨ a ∈ W.rho⟩, es, RelDs.cut (n := 0) (fun a m => ?_) (fun i a hi => absurd hi (Nat.not_lt_zero _)) es (pures_under 0 es hp) r, ⟨rfl, List.nodup_nil, fun i a o e => by simp at e, fun a m => by simp at m, fun a m => m.elim (hr.frn a) hr.trkd⟩, back _ rfl (fun b z => .inl z) fun _ b z => .inr z⟩
      rcases m with m | m
      · simp at m
      · exact m.symm
    · exact ⟨W.fst 0, es, frzL_rel (n := 0) (fun d e v => fz_rel hr d e v) ds es q r, ⟨by simp [Wd.fst], by simp [Wd.fst], fun i a o e => by simp [Wd.fst] at e, fun a m => by simp [Wd.fst] at m, fun a m => hr.frn a m⟩, back _ (by simp [Wd.fst]) (fun b z => z) fun z => absurd z hp⟩
mutual
/-- the cells of a call, behind those that were there -/
theorem RelD.shf {N : List Addr} {G : Addr → Prop} (ap : ∀ a, a ∈ N ∨ G a → a ∉ W1.rho → W1.F a) (fr : ∀ a, a ∈ W1.rho → ¬ G a) : ∀ (d : D) {v : V}, RelD Z W1 H d v → RelD Z ⟨N ++ W1.rho, G⟩ H (d.sh N.length) v
  | .non, _, h => h
  | .bl _, _, h => h
  | .int _, _, h => h
  | .str _, _, h => h
  | .tup xs, _, ⟨a, vs, e, f, r⟩ => ⟨a, vs, e, f, RelDs.shf ap fr xs r⟩
  | .lst xs, _, ⟨a, vs, e, ⟨f1, f2, f3⟩, r⟩ => ⟨a, vs, e, ⟨f1, fun m => (List.mem_append.mp m).elim (fun m => f3 (ap a (.inl m) f2)) f2, fun m => f3 (ap a (.inr m) f2)⟩, RelDs.shf ap fr xs r⟩
  | .kl xs, _, ⟨a, vs, e, f, r⟩ => ⟨a, vs, e, by
      rcases f with ⟨o, f1, f2, f3⟩ | f
      · exact .inl ⟨o, f1, fun m => (List.mem_append.mp m).elim (fun m => f3 (ap a (.inl m) f2)) f2, fun m => f3 (ap a (.inr m) f2)⟩
      · exact .inr f, RelDs.shf ap fr xs r⟩
  | .dic kvs, _, ⟨a, vs, e, k, f2, f3, r⟩ => ⟨a, vs, e, k, fun m => (List.mem_append.mp m).elim (fun m => f3 (ap a (.inl m) f2)) f2, fun m => f3 (ap a (.inr m) f2), RelKs.shf ap fr kvs r⟩
  | .kd kvs, _, ⟨a, vs, e, k, f2, f3, r⟩ => ⟨a, vs, e, k, fun m => (List.mem_append.mp m).elim (fun m => f3 (ap a (.inl m) f2)) f2, fun m => f3 (ap a (.inr m) f2), RelRs.imp (fun b xs ⟨f1, f2, f3⟩ => ⟨f1, fun m => (List.mem_append.mp m).elim (fun m => f3 (ap b (.inl m) f2)) f2, fun m => f3 (ap b (.inr m) f2)⟩) kvs r⟩
  | .cel i, _, ⟨a, e, f⟩ => ⟨a, e, by show (N ++ W1.rho)[N.length + i]? = some a; rw [List.getElem?_append_right (by omega), show N.length + i - N.length = i by omega]; exact f⟩
  | .cls _, _, h => h
  | .ty _, _, h => h
  | .exc _, _, h => h
theorem RelDs.shf {N : List Addr} {G : Addr → Prop} (ap : ∀ a, a ∈ N ∨ G a → a ∉ W1.rho → W1.F a) (fr : ∀ a, a ∈ W1.rho → ¬ G a) : ∀ (ds : List D) {vs : List V}, RelDs Z W1 H ds vs → RelDs Z ⟨N ++ W1.rho, G⟩ H (shs N.length ds) vs
  | [], _, h => h
  | d :: ds, _, ⟨v, r, e, h1, h2⟩ => ⟨v, r, e, RelD.shf ap fr d h1, RelDs.shf ap fr ds h2⟩
theorem RelKs.shf {N : List Addr} {G : Addr → Prop} (ap : ∀ a, a ∈ N ∨ G a → a ∉ W1.rho → W1.F a) (fr : ∀ a, a ∈ W1.rho → ¬ G a) : ∀ (ds : List (Key × D)) {vs : List (Key × V)}, RelKs Z W1 H ds vs → RelKs Z ⟨N ++ W1.rho, G⟩ H (shK N.length ds) vs
  | [], _, h => h
  | (k, d) :: ds, _, ⟨v, r, e, h1, h2⟩ => ⟨v, r, e, RelD.shf ap fr d h1, RelKs.shf ap fr ds h2⟩
end
mutual
/-- .. where no list but cells stands in it -/
theorem RelD.shn {N : List Addr} {G : Addr → Prop} : ∀ (d : D) {v : V}, d.nlc = true → RelD Z W1 H d v → RelD Z ⟨N ++ W1.rho, G⟩ H (d.sh N.length) v
  | .non, _, _, h => h
  | .bl _, _, _, h => h
  | .int _, _, _, h => h
  | .str _, _, _, h => h
  | .tup xs, _, u, ⟨a, vs, e, f, r⟩ => ⟨a, vs, e, f, RelDs.shn xs (by simpa [D.nlc] using u) r⟩
  | .lst xs, _, u, _ => by simp [D.nlc] at u
  | .kl xs, _, u, _ => by simp [D.nlc] at u
  | .dic kvs, _, u, _ => by simp [D.nlc] at u
  | .kd kvs, _, u, _ => by simp [D.nlc] at u
  | .cel i, _, _, ⟨a, e, f⟩ => ⟨a, e, by show (N ++ W1.rho)[N.length + i]? = some a; rw [List.getElem?_append_right (by omega), show N.length + i - N.length = i by omega]; exact f⟩
  | .cls _, _, _, h => h
  | .ty _, _, _, h => h
  | .exc _, _, _, h => h
theorem RelDs.shn {N : List Addr} {G : Addr → Prop} : ∀ (ds : List D) {vs : List V}, nlcs ds = true → RelDs Z W1 H ds vs → RelDs Z ⟨N ++ W1.rho, G⟩ H (shs N.length ds) vs
  | [], _, _, h => h
  | d :: ds, _, u, ⟨v, r, e, h1, h2⟩ => by
    simp only [nlcs, Bool.and_eq_true] at u
    exact ⟨v, r, e, RelD.shn d u.1 h1, RelDs.shn ds u.2 h2⟩
theorem RelKs.shn {N : List Addr} {G : Addr → Prop} : ∀ (ds : List (Key × D)) {vs : List (Key × V)}, nlcK ds = true → RelKs Z W1 H ds vs → RelKs Z ⟨N ++ W1.rho, G⟩ H (shK N.length ds) vs
  | [], _, _, h => h
  | (k, d) :: ds, _, u, ⟨v, r, e, h1, h2⟩ => by
    simp only [nlcK, Bool.and_eq_true] at u
    exact ⟨v, r, e, RelD.shn d u.1 h1, RelKs.shn ds u.2 h2⟩
end
/-- new cells of its own come -/
theorem call_L {F : Fn} {ds : List D} {vs : List V} {E : Str → Hp → Prop} {Q : VK} (hr : HRel Z W H h) (r : RelDs Z W H ds vs) (t : TriD Z E Q W H (callL F ds h)) :
    ∃ W' es, RelDs Z W' H es vs ∧ HRel Z W' H [] ∧ TriD Z E Q W' H (F es []) := by
  unfold callL at t
  cases q : frzL (fz 0 h) ds with
  | none => rw [q] at t; exact t.elim
  | some es =>
    rw [q] at t
    simp only at t
    have back : ∀ (W' : Wd), W'.rho = [] → (pures ds = true → ∀ b, b ∈ W.rho ∨ W.F b → W'.F b) → TriD Z E Q W' H (F es []) := by
      intro W' e0 rW
      cases qf : F es [] with
      | bad => rw [qf] at t; exact t
      | exc c h' =>
        rw [qf] at t
        intro W1 H1 g hr1
        have k1 : ∀ a o, H a = some o → H1 a = some o := fun a o e => g.keep a o e (by rw [e0]; simp)
        exact t W H1 (Gr.stay k1 g.trk) (hr.stay k1 g.trk)
      | ok d h' =>
        rw [qf] at t
        simp only at t
        intro v W1 H1 g hr1 rl
        have k1 : ∀ a o, H a = some o → H1 a = some o := fun a o e => g.keep a o e (by rw [e0]; simp)
        by_cases hx : h'.all O.noI = true ∧ (pures ds = true ∨ (d.nlc = true ∧ h'.all O.nlc = true))
        · rw [if_pos hx] at t
          obtain ⟨l, el, nl⟩ := g.pre
          have el : W1.rho = l := by rw [el, e0]; rfl
          have nl : ∀ a, a ∈ W1.rho → H a = none := fun a m => nl a (el ▸ m)
          have gr : Gr W H ⟨W.rho ++ W1.rho, W.F⟩ H1 := ⟨⟨W1.rho, rfl, nl⟩, rfl, fun b o e _ => k1 b o e, fun b xs _ e => k1 b _ e, g.trk⟩
          have rD : ∀ (d : D) (v : V), (pures ds = true ∨ d.nlc = true) → RelD Z W1 H1 d v → RelD Z ⟨W.rho ++ W1.rho, W.F⟩ H1 (d.sh h.length) v := by
            intro d v hc rl
            rw [← hr.len]
            rcases hc with hp | hn
            · exact RelD.shf (fun a m _ => by rw [g.frn]; exact rW hp a m) (fun a m => hr.nF (nl a m)) d rl
            · exact RelD.shn d hn rl
          have rO : ∀ (o : O) (a : Addr), o.noI = true → (pures ds = true ∨ o.nlc = true) → ObjR Z W1 H1 a o → ObjR Z ⟨W.rho ++ W1.rho, W.F⟩ H1 a (o.sh h.length) := by
            intro o a ni hc ob
            rw [← hr.len]
            cases o with
            | ins c fs => cases ni
            | lst xs =>
              obtain ⟨us, e1, r1⟩ := ob
              refine ⟨us, e1, ?_⟩
              rcases hc with hp | hn
              · exact RelDs.shf (fun a m _ => by rw [g.frn]; exact rW hp a m) (fun a m => hr.nF (nl a m)) xs r1
              · exact RelDs.shn xs hn r1
            | dct kvs =>
              obtain ⟨us, e1, r1⟩ := ob
              refine ⟨us, e1, ?_⟩
              rcases hc with hp | hn
              · exact RelKs.shf (fun a m _ => by rw [g.frn]; exact rW hp a m) (fun a m => hr.nF (nl a m)) kvs r1
              · exact RelKs.shn kvs hn r1
          refine t v ⟨W.rho ++ W1.rho, W.F⟩ H1 gr ⟨by simp [hr.len, hr1.len], ?_, fun j b ob e1 e2 => ?_, fun b m => ?_, fun b z e => hr.frn b z (g.trk b e)⟩ (rD d v (hx.2.imp id And.left) rl)
          · show (W.rho ++ W1.rho).Nodup
            rw [List.nodup_append]
            exact ⟨hr.nd, hr1.nd, fun x hx y hy => by rintro rfl; exact hr.notin (nl x hy) hx⟩
          · have e1 : (W.rho ++ W1.rho)[j]? = some b := e1
            by_cases hj : j < W.rho.length
            · rw [List.getElem?_append_left hj] at e1
              rw [List.getElem?_append_left (by rw [← hr.len]; exact hj)] at e2
              exact ObjR.mono gr (fun u e => k1 b u e) (hr.obj j b ob e1 e2)
            · have hl := hr.len
              rw [List.getElem?_append_right (by omega)] at e1 e2
              rw [List.getElem?_map] at e2
              obtain ⟨o, e3, rfl⟩ := Option.map_eq_some_iff.mp e2
              refine rO o b (List.all_eq_true.mp hx.1 o (List.mem_of_getElem? e3)) (hx.2.imp id fun z => List.all_eq_true.mp z.2 o (List.mem_of_getElem? e3)) (hr1.obj _ b o e1 (by rw [hl]; exact e3))
          · rcases List.mem_append.mp m with z | z
            · exact hr.dis b z
            · exact hr.nF (nl b z)
        · rw [if_neg hx] at t; exact t.elim
    by_cases hp : pures ds = true
    · have he := fz_pures ds es hp q
      subst he
      refine ⟨⟨[], fun a => W.F a ∨ a ∈ W.rho⟩, es, RelDs.cut (n := 0) (fun a m => ?_) (fun i a hi => absurd hi (Nat.not_lt_zero _)) es (pures_under 0 es hp) r, ⟨rfl, List.nodup_nil, fun i a o e => by simp at e, fun a m => by simp at m, fun a m => m.elim (hr.frn a) hr.trkd⟩, back _ rfl fun _ b z => z.symm⟩
      rcases m with m | m
      · simp at m
      · exact m.symm
    · exact ⟨W.fst 0, es, frzL_rel (n := 0) (fun d e v => fz_rel hr d e v) ds es q r, ⟨by simp [Wd.fst], by simp [Wd.fst], fun i a o e => by simp [Wd.fst] at e, fun a m => by simp [Wd.fst] at m, fun a m => hr.frn a m⟩, back _ (by simp [Wd.fst]) fun z => absurd z hp⟩
/-- all of them -/
theorem call_M {m : Md} {F : Fn} {ds : List D} {vs : List V} {E : Str → Hp → Prop} {Q : VK} (hr : HRel Z W H h) (r : RelDs Z W H ds vs) (t : TriD Z E Q W H (callM m F ds h)) :
    ∃ W' es h', RelDs Z W' H es vs ∧ HRel Z W' H h' ∧ TriD Z E Q W' H (F es h') := by
  cases m with
  | P =>
    obtain ⟨W', es, a, b, c⟩ := call_P hr r t
    exact ⟨W', es, [], a, b, c⟩
  | S => exact ⟨W, ds, h, r, hr, t⟩
  | F => exact ⟨W, ds, h, r, hr, call_F hr t⟩
  | C =>
    obtain ⟨W', es, a, b, c⟩ := call_C hr r t
    exact ⟨W', es, [], a, b, c⟩
  | L =>
    obtain ⟨W', es, a, b, c⟩ := call_L hr r t
    exact ⟨W', es, [], a, b, c⟩
end
end Tb
namespace Tb
open PySem PySem.Spec PyProof.Rows L2
/-! ### calls where nothing is being shown (repr asks it) -/
def Quiet (A : Around) : Prop := A.guards = some []
structure FnG (P : Program) (w : World) (K : PySem.W.Frag) (mg : Str → Option Value) (base : Heap) (k : Nat) (f : Addr) (fd : FuncData) (ps : List Str) (sp : Sp) : Prop where
  size : ∀ {vs H Q E}, sp vs H Q E → vs.length = ps.length
  runs : ∀ {A : Around} {outer : List Env} {s : Shared} {H : Hp} {args : Args} {us : List Value} {vs : List V} {Q : VK} {E : XK}, Quiet A → Room k A → Env0 P w K mg base A outer s H → BindsTo s fd args (ps.zip us) → Vals vs us → sp vs H Q E →
    codeAny (model P w) A (.call (.ref f) args) (CR (L2.CX P w) outer P w H s Q E) s
theorem FnG.up {P : Program} {w : World} {K : PySem.W.Frag} {mg : Str → Option Value} {base : Heap} {j k : Nat} {f : Addr} {fd : FuncData} {ps : List Str} {sp : Sp} (F : FnG P w K mg base j f fd ps sp) (h : j ≤ k) : FnG P w K mg base k f fd ps sp :=
  ⟨F.size, fun hq hr => F.runs hq (hr.mono h)⟩
/-- a def by its body, as fn_of -/
theorem fnG_of {P : Program} {w : World} {K : PySem.W.Frag} {mg : Str → Option Value} {base : Heap} {k : Nat} {f : Addr} {name qual : Str} {params : Arguments} {body : List Stmt} {scope : Scope} {dV kV doc pm cdv ct oc : Value} {an od : Option Addr} {osl : Array (Option Value)}
    {N ps : List Str} {sp : Sp} (lk : K.lookup f = some ⟨oc, od, .func (PySem.W.fnOf name qual params body scope dV kV doc pm an cdv ct), osl⟩) (hcd : PySem.W.codeIn K cdv qual = true) (S : FnScope N ps scope) (size : ∀ {vs H Q E}, sp vs H Q E → vs.length = ps.length)
    (hbody : ∀ (A : Around) (outer : List Env) (s : Shared) (H : Hp) (vs : List V) (Q : VK) (E : XK), Quiet A → Room k (A.deeper (envOfC qual scope s.heap.objs.size f cdv)) → sp vs H Q E →
      ∃ t, PSs (cxOf (L2.CX P w) P w K mg base N qual scope f cdv A outer s H E) body t ∧ t { nx := fun _ H' => Q .non H', rt := Q } (start N vs) H) :
    FnG P w K mg base (k + 1) f (PySem.W.fnOf name qual params body scope dV kV doc pm an cdv ct) ps sp where
  size := size
  runs := by
    intro A outer s H args us vs Q E hQ hr e0 hb r hsp
    have hl := size hsp
    have old : ∀ b o, base.get? b = some o → s.heap.get? b = some o := fun b o e => (e0.bs b o e).1
    have KX := e0.mod.kin.keeps old
    have lim := e0.mod.nolimit.keeps old
    have kinds : ∀ y ∈ ps.zip us, scope.names.lookup y.1 = some .local ∨ (scope.names.lookup y.1 = some .cell ∧ ((cellsFrom (s.heap.objs.size + 1) scope.names []).lookup y.1).isSome = true) := by
      rintro ⟨n, v⟩ hy
      exact (S.par n (List.of_mem_zip hy).1).imp id fun q => ⟨q, PySem.W.cellsFrom_some _ _ _ (.inl q)⟩
    refine codeAny_call_function hr.depth (KX _ _ lk) rfl S.co S.gen rfl (PySem.W.codeRec_of KX hcd) (hb _ _ _ _ (wpAny_newFunctionEnv_cells S.kind kinds ?_))
    rintro env rfl s1 x
    obtain ⟨t, ht, hq⟩ := hbody A outer s H vs Q E hQ (hr.deeper _) hsp
    have I := inv_start (CX := L2.CX P w) (E := E) S hr.hd e0 hl r x
    refine ⟨lim.keeps x.toInCall.keep, codeAny_func (wpAny_mono (ht.run [] s1 (start N vs) H _ I hq) (fun fl s' hs => ?_) fun _ _ z => z)⟩
    cases fl with
    | ret u =>
      obtain ⟨v, σ', H', J, rv, q⟩ := hs
      exact ⟨v, H', J.os, J.bare, J.base, J.hok, rv, q⟩
    | next =>
      obtain ⟨σ', H', J, q⟩ := hs
      exact ⟨.non, H', J.os, J.bare, J.base, J.hok, rfl, q⟩
    | brk => exact hs.choose_spec.choose_spec.2.elim
    | cont => exact hs.choose_spec.choose_spec.2.elim
section
variable {X : Cx} {k : Nat} {f : Addr} {fd : FuncData} {ps : List Str} {sp : Sp} {E : L2.St → XK} {x : Str} {p pos : Pos} {e : Expr} {es : List Expr} {t : TA}
theorem run_G {pins : List (Addr × Obj)} {σ : L2.St} {H : Hp} {s : Shared} {Q : VK} {us : List Value} {vs : List V} (F : FnG X.prog X.w X.K X.mg X.base k f fd ps sp) (hq : Quiet X.A) (hr : Room k X.A) (hb : Binds X.K fd ps []) (hx : PassesAt (L2.CX X.prog X.w) X σ (E σ))
    (I : Inv X pins σ H s) (r : Vals vs us) (h : sp vs H Q (E σ)) : wpAny (model X.prog X.w) X.A (call (.ref f) us) (EP X pins σ Q) X.xe s := by
  have hl : us.length = ps.length := r.length ▸ F.size h
  have b := hb s us I.kIn (by simpa using hl)
  simp only [List.append_nil] at b
  refine wpAny_call (codeAny_mono (F.runs hq hr I.env0 b r h) fun q s' z => ?_)
  rcases q with e | fl
  · exact hx pins H s e s' I z
  · cases fl <;> first | exact I.after z | exact z.elim
theorem pe_callG (F : FnG X.prog X.w X.K X.mg X.base k f fd ps sp) (hq : Quiet X.A) (hr : Room k X.A) (hg : Gl X x) (hm : X.mg x = some (.ref f)) (hk : PySem.W.keepIn X.K (.ref f) = true) (hb : Binds X.K fd ps []) (hx : ∀ σ, PassesAt (L2.CX X.prog X.w) X σ (E σ)) (ha : PA X (e :: es) t)
    (hdb : (x == ("__debug__" : Str)) = false) (he : starEach (e :: es) X.env = (false, eval e X.env) :: starEach es X.env) (hpl : (backTo pos (starEach es X.env)).any (·.1) = false) : PE X (.Call (.Name x p) (e :: es) [] pos) (tCallS sp E t) where
  run := by
    intro pins s σ H Q I h
    exact wpAny_Call_Name_kw (ld_glob I hg hm (PySem.W.callWith_K (h₀ := X.base) I.ok.mod.kin hk (thn (ha.run pos pins s σ H _ I h) fun us s1 ⟨vs, H1, I1, r, q⟩ => ⟨I1.kIn, run_G F hq hr hb (hx σ) I1 r q⟩) he hpl) hdb)
theorem pe_callG0 (F : FnG X.prog X.w X.K X.mg X.base k f fd ps sp) (hq : Quiet X.A) (hr : Room k X.A) (hg : Gl X x) (hm : X.mg x = some (.ref f)) (hk : PySem.W.keepIn X.K (.ref f) = true) (hb : Binds X.K fd ps []) (hx : ∀ σ, PassesAt (L2.CX X.prog X.w) X σ (E σ))
    (hdb : (x == ("__debug__" : Str)) = false) : PE X (.Call (.Name x p) [] [] pos) (tCallS sp E tNil) where
  run := by
    intro pins s σ H Q I h
    exact wpAny_Call_Name_kw (ld_glob I hg hm (PySem.W.callWith_K0 I.kIn hk (run_G (us := []) F hq hr hb (hx σ) I .nil h)) hdb)
end
/-- the law's def is called with the script -/
theorem law_callG {P : Program} {w : World} {K : PySem.W.Frag} {mg mb : Str → Option Value} {k : Nat} {fa a : Addr} {fd : FuncData} {x : Str} {sp : Sp} {s₁ : Shared} {vs : List Value} {ns : List Int}
    (KX : K.In s₁.heap) (hns : s₁.heap.Ns mainGlobals mg) (hb : s₁.heap.Ns builtinsNs mb) (hbb : ∀ x : Str, x ≠ "__name__" → mb x = bootBuiltins x) (hlim : s₁.heap.NoLimit) (hg : s₁.gens = #[])
    (ha : s₁.heap.get? a = some { cls := .type "list", data := .seq vs.toArray }) (hi : IntsAre vs ns) (hl : ns.length ≤ sizeLine) (hr : Room k callerA)
    (F : ∀ base : Heap, K.In base → base.Ns mainGlobals mg → FnG P w K mg base k fa fd [x] sp) (hbind : ∀ (s : Shared) (u : Value), BindsTo s fd ⟨[u], []⟩ [(x, u)])
    (hsp : ∀ H : Hp, Only H → SqL K H a (ns.map V.int) → sp [.ref a] H (fun v _ => v = .bl true) fun _ _ _ => False) :
    codeAny (model P w) callerA (.call (.ref fa) ⟨[.ref a], []⟩) (fun r s' => r = .ok (.ret (.bool true)) ∧ OldK s₁.heap s'.heap ∧ s'.os = s₁.os ∧ AllBare s'.gens) s₁ := by
  have rv := vals_ints hi
  have lenV := hi.length
  -- whatever is tracked is the script alone, as it lies
  have main : ∀ H : Hp, Only H → SqL K H a (ns.map V.int) → HOk P w H s₁.heap → (∀ b, H b ≠ none → b = a ∧ K.lookup a = none) →
      codeAny (model P w) callerA (.call (.ref fa) ⟨[.ref a], []⟩) (fun r s' => r = .ok (.ret (.bool true)) ∧ OldK s₁.heap s'.heap ∧ s'.os = s₁.os ∧ AllBare s'.gens) s₁ := by
    intro H hO hS hok hA
    have dk : ∀ {b : Addr} {m : Str → Option Value}, s₁.heap.Ns b m → (hidT s₁.heap H).Ns b m := by
      rintro b m ⟨o, es, ep, e, d, r⟩
      refine ⟨o, es, ep, hidT_get e (Classical.byContradiction fun z => ?_), d, r⟩
      obtain ⟨rfl, _⟩ := hA b z
      rw [ha] at e
      cases e
      cases d
    have hKb : K.In (hidT s₁.heap H) := by
      intro b o e
      refine hidT_get (KX b o e) (Classical.byContradiction fun z => ?_)
      obtain ⟨rfl, z2⟩ := hA b z
      rw [z2] at e
      cases e
    obtain ⟨mc, l1, l2⟩ := hlim
    have e0 : Env0 P w K mg (hidT s₁.heap H) callerA [] s₁ H := ⟨rfl, ⟨hKb, dk hns, ⟨mb, dk hb, hbb⟩, ⟨mc, dk l1, l2⟩⟩, fun b o e => of_hidT e, Nat.le_of_eq (hidT_size _ _), trivial, fun b z => by simp [frs] at z, hok, .of_eq hg⟩
    refine codeAny_mono ((F _ hKb (dk hns)).runs (us := [.ref a]) (vs := [.ref a]) (show Quiet callerA from rfl) hr e0 (hbind s₁ (.ref a)) (.cons rfl .nil) (hsp H hO hS)) fun r s' h => ?_
    rcases r with e | fl
    · obtain ⟨_, _, _, _, _, _, _, _, _, _, _, _, z⟩ := h
      exact z.elim
    · cases fl <;> try exact False.elim h
      obtain ⟨v, H', os, bare, un, hok', r', q⟩ := h
      obtain rfl : v = .bl true := q
      cases r'
      refine ⟨rfl, OldK.of_keep fun b o e => ?_, os, bare⟩
      rcases hO b with z | ⟨ob, xs, z⟩
      · exact un.keep b o e z (by simp [frs]) (by simp)
      · have e1 := (hok b _ z).1
        rw [e] at e1
        cases e1
        exact (hok' b _ (un.frzs b _ _ z)).1
  cases hk : K.lookup a with
  | some o =>
    have e := KX a o hk
    rw [ha] at e
    cases e
    exact main (fun _ => none) (fun _ => .inl rfl) (.inr ⟨_, vs.toArray, _, hk, rfl, rfl, rfl, by rw [List.size_toArray, lenV]; exact hl, by simpa using rv⟩) (fun b u z => nomatch z) fun b z => absurd rfl z
  | none =>
    refine main (upd (fun _ => none) a (.frz { cls := .type "list", data := .seq vs.toArray } (.lst (ns.map V.int)))) (fun b => ?_) (.inl (.inr ⟨_, upd_same⟩)) (fun b u z => ?_) fun b z => ⟨Classical.byContradiction fun ne => z (upd_ne ne), hk⟩
    · by_cases q : b = a
      · subst q; exact .inr ⟨_, _, upd_same⟩
      · exact .inl (upd_ne q)
    · by_cases q : b = a
      · subst q
        rw [upd_same] at z
        cases z
        exact ⟨ha, by rw [List.length_map]; exact hl, vs, _, rv, ha⟩
      · rw [upd_ne q] at z; cases z
theorem walk_G {l : PySem.W.OpenLaw} {n k : Nat} {q : Program} {loose : List Str} {XP : (Str → Option Value) → Heap → Prop} {YP : World → Heap → Prop} {d : DefRec} {x : Str}
    (hn : l.most = some n) (hn2 : n ≤ sizeLine) (hdf : d.params.defaults = []) (hr : Room k callerA)
    (F : ∀ (w : World) (mg : Str → Option Value) (fa : Addr) (h : Heap), YP w h → h.Ns mainGlobals mg → mg d.name = some (.ref fa) →
      ∃ (K : PySem.W.Frag) (fd : FuncData) (sp : Sp), K.In h ∧ (∀ (s : Shared) (u : Value), BindsTo s fd ⟨[u], []⟩ [(x, u)]) ∧
        (∀ (H : Hp) (a : Addr) (ns : List Int), ns.length ≤ n → (∀ i ∈ ns, Builtin.Int.intBits i ≤ 1048576) → Only H → SqL K H a (ns.map V.int) → sp [.ref a] H (fun v _ => v = .bl true) fun _ _ _ => False) ∧
        ∀ base : Heap, K.In base → base.Ns mainGlobals mg → FnG l.prog w K mg base k fa fd [x] sp) :
    PySem.W.WalkO q loose XP YP l.row.toRowW d [] (fun f vs => PySem.call f vs) := by
  refine Att.attach_callB hn hdf fun w s₀ s₁ mg mb fa o pm cd doc a vs ns G Y ho hd hcd hmg hobj hints hlen hbits hg => ?_
  obtain ⟨K, fd, sp, KX, hb, hsp, hF⟩ := F w mg fa _ Y G.T.g hmg
  exact law_callG KX G.T.g G.T.b G.T.builtins G.T.nolimit hg hobj hints (Nat.le_trans hlen hn2) hr hF hb fun H hO hS => hsp H a ns hlen hbits hO hS
end Tb
namespace Tb
open PySem PySem.Spec PyProof.Rows L2
/-! ### the checker: own text against the row's text -/
structure Cc where
  N : List Str
  sc : Scope
  fs : Str → Bool
def isK (c : Cc) (x : Str) (k : NameKind) : Bool := decide (c.sc.names.lookup x = some k)
def seenB (c : Cc) (i : Nat) (x : Str) : Bool := decide (c.N[i]? = some x) && (isK c x .local || isK c x .cell || isK c x .free) && !(x == ("__debug__" : Str)) && !(x == ("__classdict__" : Str))
def globB (c : Cc) (x : Str) : Bool := isK c x .globalImplicit && !(x == ("__debug__" : Str))
def putB (c : Cc) (i : Nat) (x : Str) : Bool := decide (c.N[i]? = some x) && (isK c x .local || (isK c x .cell && c.fs x))
def nStar : Expr → Bool
  | .Starred _ _ => false
  | _ => true
def nSlc : Expr → Bool
  | .Slice _ _ _ _ => false
  | _ => true
def nSet : Expr → Bool
  | .Set _ _ _ => false
  | _ => true
def nC0 : Expr → Bool
  | .Call _ [] [] _ => false
  | _ => true
/-- tests of these forms are read by their parts -/
def nTst : Expr → Bool
  | .UnaryOp .Not _ _ => false
  | .BoolOp _ _ _ => false
  | .IfExp _ _ _ _ => false
  | .Compare _ _ _ _ => false
  | _ => true
def Bi.nm : Bi → String
  | .len => "len" | .abs => "abs" | .min => "min" | .max => "max" | .sum => "sum" | .sorted => "sorted" | .int => "int" | .str => "str" | .list => "list" | .tuple => "tuple" | .repr => "repr" | .dict => "dict"
def Bi.isTy : Bi → Bool
  | .int => true | .str => true | .list => true | .tuple => true | .dict => true
  | _ => false
def Me.nm : Me → String
  | .append => "append" | .pop => "pop" | .extend => "extend" | .insert => "insert" | .clear => "clear" | .reverse => "reverse"
  | .count => "count" | .index => "index" | .remove => "remove" | .join => "join" | .split => "split" | .partition => "partition"
def tyB (n : String) : Bool := decide (n ∈ (["int", "bool", "str", "list", "tuple", "dict", "ValueError"] : List String))
def Es.len : Es → Nat
  | .nil => 0
  | .cons _ es => es.len + 1
/-- a call of a built-in name with arguments, none of them starred -/
def callN (n : Str) : Expr → Option (List Expr)
  | .Call (.Name x _) es [] _ => if x = n ∧ es.all nStar = true then some es else none
  | _ => none
def okTg1 (c : Cc) : List Nat → List Expr → Bool
  | [], [] => true
  | i :: is, .Name x _ :: es => putB c i x && okTg1 c is es
  | _, _ => false
def okTg (c : Cc) : Tg → Expr → Bool
  | .nm i, .Name x _ => putB c i x
  | .tp is, .Tuple es _ _ => okTg1 c is es
  | _, _ => false
def Tg.inB (own : List Nat) : Tg → Bool
  | .nm k => own.contains k
  | .tp ks => ks.all fun k => own.contains k
def isTup : Expr → Bool
  | .Tuple _ _ _ => true
  | _ => false
def tripE : List Expr → Option (Expr × Expr × Expr)
  | [x, y, z] => some (x, y, z)
  | _ => none
def pairsE : List Expr → Option (Expr × Expr)
  | [a, b] => some (a, b)
  | _ => none
def oneE : List Expr → Option Expr
  | [a] => some a
  | _ => none
def E.isZ : E → Bool
  | .int i => i == 0
  | _ => false
theorem E.isZ_eq {a : E} (h : a.isZ = true) : a = .int 0 := by
  cases a <;> first | (simp [E.isZ] at h; subst h; rfl) | cases h
def okAt (c : Cc) : At → Expr → Bool
  | .v i, .Name n _ => seenB c i n
  | .n i, .Constant (.int j) _ _ => decide (i = j)
  | _, _ => false
def okKV (c : Cc) : List (At × At) → List (Option Expr) → List Expr → Bool
  | [], [], [] => true
  | [(a, b)], [some k], [v] => okAt c a k && okAt c b v
  | _, _, _ => false
mutual
def okE (c : Cc) : E → Expr → Bool
  | .var i, x => match x with
    | .Name n _ => seenB c i n
    | _ => false
  | .int i, x => match x with
    | .Constant (.int j) _ _ => decide (i = j)
    | _ => false
  | .bl b, x => match x with
    | .Constant (.bool d) _ _ => decide (b = d)
    | _ => false
  | .non, x => match x with
    | .Constant .none _ _ => true
    | _ => false
  | .str s, x => match x with
    | .Constant (.str d) _ _ => decide (s = d)
    | _ => false
  | .glo n _, x => match x with
    | .Name m _ => decide (n = m) && globB c m
    | _ => false
  | .bty n, x => match x with
    | .Name m _ => decide ((n : Str) = m) && tyB n && globB c m
    | _ => false
  | .bin _ o a b, x => match x with
    | .BinOp l p r _ => decide (o = p) && okE c a l && okE c b r
    | _ => false
  | .neg a, x => match x with
    | .UnaryOp .USub y _ => okE c a y
    | _ => false
  | .cmp o a b, x => match x with
    | .Compare l [p] [r] _ => decide (o = p) && nSet r && okE c a l && okE c b r
    | _ => false
  | .chn o o2 a b d, x => match x with
    | .Compare l [p, p2] [r, t] _ => decide (o = p) && decide (o2 = p2) && nSet t && okE c a l && okE c b r && okE c d t
    | _ => false
  | .bop o es, x => match x with
    | .BoolOp p xs _ => decide (o = p) && okEs c es xs
    | _ => false
  | .not a, x => match x with
    | .UnaryOp .Not y _ => okE c a y
    | _ => false
  | .ife t a b, x => match x with
    | .IfExp u l r _ => okE c t u && okE c a l && okE c b r
    | _ => false
  | .lst _ es, x => match x with
    | .List xs _ => okEs c es xs
    | _ => false
  | .tup es, x => match x with
    | .Tuple xs _ _ => okEs c es xs
    | _ => false
  | .idx a i, x => match x with
    | .Subscript l r _ => nSlc r && okE c a l && okE c i r
    | _ => false
  | .slU _ a hi, x => match x with
    | .Subscript l (.Slice none (some u) none _) _ => okE c a l && okE c hi u
    | _ => false
  | .slL _ a lo, x => match x with
    | .Subscript l (.Slice (some w) none none _) _ => okE c a l && okE c lo w
    | _ => false
  | .slB _ a lo hi, x => match x with
    | .Subscript l (.Slice (some w) (some u) none _) _ => okE c a l && okE c lo w && okE c hi u
    | _ => false
  | .call _ n _ es, x => match x with
    | .Call (.Name m _) xs [] _ => decide (n = m) && globB c m && okEs c es xs
    | _ => false
  | .bi b _ es, x => match x with
    | .Call (.Name m _) xs [] _ => decide ((b.nm : Str) = m) && !xs.isEmpty && globB c m && okEs c es xs
    | _ => false
  | .isi a b, x => match x with
    | .Call (.Name m _) [l, r] [] _ => decide (("isinstance" : Str) = m) && globB c m && okE c a l && okE c b r && nStar l && nStar r
    | _ => false
  | .me m _ a es, x => match x with
    | .Call (.Attribute o n ap) xs [] cp => decide ((m.nm : Str) = n) && nC0 o && (ap.endLine == cp.line) && decide (xs.length < 4) && okE c a o && okEs c es xs
    | _ => false
  | .comp _ own tg it tt elt, x => match x with
    | .ListComp el [⟨t, i, fs, 0⟩] sc _ => match own.mapM fun j => c.N[j]?.map fun n => (n, j) with
      | some ow => blkC c.N c.sc sc ow && okTg ⟨c.N, relS sc c.sc, fun x => sc.names.lookup x == some .cell⟩ tg t && okI c t it i && okEs ⟨c.N, relS sc c.sc, fun x => sc.names.lookup x == some .cell⟩ tt fs && okE ⟨c.N, relS sc c.sc, fun x => sc.names.lookup x == some .cell⟩ elt el && tg.inB own
      | none => false
    | _ => false
  | .rvl _ a, x => match x with
    | .Subscript l (.Slice none none (some (.UnaryOp .USub (.Constant (.int 1) _ _) _)) _) _ => okE c a l
    | _ => false
  | .lset a, x => match x with
    | .Call (.Name m _) [.Call (.Name m2 _) [y] [] _] [] _ => decide (("len" : Str) = m) && decide (("set" : Str) = m2) && globB c m && globB c m2 && nStar y && okE c a y
    | _ => false
  | .sset _ a, x => match x with
    | .Call (.Name m _) [.Call (.Name m2 _) [y] [] _] [] _ => decide (("sorted" : Str) = m) && decide (("set" : Str) = m2) && globB c m && globB c m2 && nStar y && okE c a y
    | _ => false
  | .strx n a, x => match x with
    | .Call (.Name m _) [.Call (.Name m2 _) [y] [] _] [] _ => decide (("str" : Str) = m) && decide (n = m2) && globB c m && globB c m2 && nStar y && okE c a y
    | _ => false
  | .dnew, x => match x with
    | .Dict [] [] _ => true
    | _ => false
  | .dget a k, x => match x with
    | .Subscript l r _ => nSlc r && okE c a l && okE c k r
    | _ => false
  | .dhas n k a, x => match x with
    | .Compare l [p] [r] _ => decide (p = if n then .NotIn else .In) && nSet r && okE c k l && okE c a r
    | _ => false
  | .dlst _ a, x => match x with
    | .Call (.Name m _) [y] [] _ => decide (("list" : Str) = m) && globB c m && nStar y && okE c a y
    | _ => false
  | .denu a, x => match x with
    | .Call (.Name m _) [.Call (.Name m2 _) [y] [] _] [] _ => decide (("dict" : Str) = m) && decide (("enumerate" : Str) = m2) && globB c m && globB c m2 && nStar y && okE c a y
    | _ => false
  | .lzip a b, x => match x with
    | .Call (.Name m _) [.Call (.Name m2 _) [y, z] [] _] [] _ => decide (("list" : Str) = m) && decide (("zip" : Str) = m2) && globB c m && globB c m2 && nStar y && nStar z && okE c a y && okE c b z
    | _ => false
  | .dic ps, x => match x with
    | .Dict ks vs _ => okKV c ps ks vs
    | _ => false
  | .fld _ f a, x => match x with
    | .Attribute o n _ => decide (f = n) && nC0 o && okE c a o
    | _ => false
  | .mcall _ m _ a es, x => match x with
    | .Call (.Attribute o n ap) xs [] cp => decide (m = n) && nC0 o && (ap.endLine == cp.line) && decide (xs.length < 20) && okE c a o && okEs c es xs
    | _ => false
  | .make n _ es, x => match x with
    | .Call (.Name m _) xs [] _ => decide (n = m) && globB c m && okEs c es xs
    | _ => false
  | .lrg _ a b, x => match x with
    | .Call (.Name m _) [.Call (.Name m2 _) [y, z] [] _] [] _ => decide (("list" : Str) = m) && decide (("range" : Str) = m2) && globB c m && globB c m2 && nStar y && nStar z && okE c a y && okE c b z
    | .Call (.Name m _) [.Call (.Name m2 _) [z] [] _] [] _ => decide (("list" : Str) = m) && decide (("range" : Str) = m2) && globB c m && globB c m2 && nStar z && a.isZ && okE c b z
    | _ => false
def okEs (c : Cc) : Es → List Expr → Bool
  | .nil, xs => xs.isEmpty
  | .cons e es, xs => match xs with
    | y :: ys => nStar y && okE c e y && okEs c es ys
    | [] => false
def okI (c : Cc) (t : Expr) : I → Expr → Bool
  | .seq e, x => nSet x && okE c e x
  | .rng es, x => match callN "range" x with
    | some xs => globB c "range" && okEs c es xs && decide (1 ≤ xs.length) && decide (xs.length ≤ 3)
    | none => false
  | .enu e, x => match callN "enumerate" x with
    | some xs => match oneE xs with
      | some y => globB c "enumerate" && isTup t && okE c e y && nStar y
      | none => false
    | none => false
  | .zip a b, x => match callN "zip" x with
    | some xs => match pairsE xs with
      | some (y, z) => globB c "zip" && isTup t && okE c a y && okE c b z && nStar y && nStar z
      | none => false
    | none => false
  | .rev e, x => match callN "reversed" x with
    | some xs => match oneE xs with
      | some y => globB c "reversed" && okE c e y && nStar y
      | none => false
    | none => false
  | .zip3 a b d, x => match callN "zip" x with
    | some xs => match tripE xs with
      | some (y, z, u) => globB c "zip" && isTup t && okE c a y && okE c b z && okE c d u && nStar y && nStar z && nStar u
      | none => false
    | none => false
  | .chs e, x => nSet x && okE c e x
end
/-! what is asked of the names -/
mutual
def AskE (P : Str → Fn → Nat → Prop) (G : Str → D → Prop) (M : Str → Str → Option (Fn × Nat) → Prop) : E → Prop
  | .glo n d => G n d
  | .bin _ _ a b => AskE P G M a ∧ AskE P G M b
  | .neg a => AskE P G M a
  | .cmp _ a b => AskE P G M a ∧ AskE P G M b
  | .chn _ _ a b d => AskE P G M a ∧ AskE P G M b ∧ AskE P G M d
  | .bop _ es => AskEs P G M es
  | .not a => AskE P G M a
  | .ife t a b => AskE P G M t ∧ AskE P G M a ∧ AskE P G M b
  | .lst _ es => AskEs P G M es
  | .tup es => AskEs P G M es
  | .idx a i => AskE P G M a ∧ AskE P G M i
  | .slU _ a hi => AskE P G M a ∧ AskE P G M hi
  | .slL _ a lo => AskE P G M a ∧ AskE P G M lo
  | .slB _ a lo hi => AskE P G M a ∧ AskE P G M lo ∧ AskE P G M hi
  | .call _ n F es => P n F es.len ∧ AskEs P G M es
  | .bi _ _ es => AskEs P G M es
  | .isi a b => AskE P G M a ∧ AskE P G M b
  | .me _ _ a es => AskE P G M a ∧ AskEs P G M es
  | .comp _ _ _ it tt elt => AskI P G M it ∧ AskEs P G M tt ∧ AskE P G M elt
  | .rvl _ a => AskE P G M a
  | .lset a => AskE P G M a
  | .sset _ a => AskE P G M a
  | .strx n a => G n (.cls n) ∧ AskE P G M a
  | .lrg _ a b => AskE P G M a ∧ AskE P G M b
  | .dget a k => AskE P G M a ∧ AskE P G M k
  | .dhas _ k a => AskE P G M k ∧ AskE P G M a
  | .dlst _ a => AskE P G M a
  | .denu a => AskE P G M a
  | .lzip a b => AskE P G M a ∧ AskE P G M b
  | .fld c f a => M c f none ∧ AskE P G M a
  | .mcall c m F a es => M c m (some (F, es.len + 1)) ∧ AskE P G M a ∧ AskEs P G M es
  | .make c F es => M c "__init__" (some (F, es.len + 1)) ∧ AskEs P G M es
  | _ => True
def AskEs (P : Str → Fn → Nat → Prop) (G : Str → D → Prop) (M : Str → Str → Option (Fn × Nat) → Prop) : Es → Prop
  | .nil => True
  | .cons e es => AskE P G M e ∧ AskEs P G M es
def AskI (P : Str → Fn → Nat → Prop) (G : Str → D → Prop) (M : Str → Str → Option (Fn × Nat) → Prop) : I → Prop
  | .seq e => AskE P G M e
  | .rng es => AskEs P G M es
  | .enu e => AskE P G M e
  | .zip a b => AskE P G M a ∧ AskE P G M b
  | .rev e => AskE P G M e
  | .zip3 a b c => AskE P G M a ∧ AskE P G M b ∧ AskE P G M c
  | .chs e => AskE P G M e
end
/-! ### the context -/
def EX (Z : Zn) (Wx : L2.St → Str → Hp → Prop) (σ : L2.St) : XK := fun cls d H => ∃ c C, Z.cl c = some C ∧ c ∈ Z.xs ∧ cls = .ref C ∧ d = none ∧ Wx σ c H
structure Gd (Z : Zn) (Wx : L2.St → Str → Hp → Prop) (k : Nat) (X : Cx) : Prop where
  hK : X.K = Z.K
  calm : X.calm = true
  nd : X.N.Nodup
  room : Room k X.A
  qt : Quiet X.A
  free : ∀ x ∈ freeN, X.mg x = none
  sys : SysOk X.K
  tk : Takes X fun cls d σ H => EX Z Wx σ cls d H
abbrev ccOf (X : Cx) : Cc := ⟨X.N, X.env.scope, X.fn⟩
/-- the promise of a def -/
def spF (Z : Zn) (n : Nat) (F : Fn) : Sp := fun vs H Q E => vs.length = n ∧ ∃ W h ds, RelDs Z W H ds vs ∧ HRel Z W H h ∧ TriD Z (fun c H' => c ∈ Z.xs → ∀ C, Z.cl c = some C → E (.ref C) none H') Q W H (F ds h)
def FnA (Z : Zn) (k : Nat) (X : Cx) (x : Str) (F : Fn) (n : Nat) : Prop := ∃ f fd ps, FnG X.prog X.w X.K X.mg X.base k f fd ps (spF Z n F) ∧ ps.length = n ∧ X.mg x = some (.ref f) ∧ PySem.W.keepIn X.K (.ref f) = true ∧ L2.Binds X.K fd ps []
def GloA (Z : Zn) (X : Cx) (x : Str) (d : D) : Prop := ∃ u v, X.mg x = some u ∧ RelV v u ∧ ∀ W H, RelD Z W H d v
/-- a class's name that no class of it has, or its method -/
def MtA (Z : Zn) (k : Nat) (X : Cx) (c m : Str) : Option (Fn × Nat) → Prop
  | none => ∃ C, Z.cl c = some C ∧ L2.Cls X.K C ∧ L2.NoAttr X.K C m
  | some (F, n) => ∃ C f fd ps, Z.cl c = some C ∧ L2.Cls X.K C ∧ L2.Meth X.K C m f ∧ FnG X.prog X.w X.K X.mg X.base k f fd ps (spF Z n F) ∧ ps.length = n ∧ L2.Binds X.K fd ps [] ∧ (m = "__init__" → L2.Mk X.K C f ∧ X.mg c = some (.ref C) ∧ ∃ j, j + 1 = k ∧ FnG X.prog X.w X.K X.mg X.base j f fd ps (spF Z n F))
abbrev AE (Z : Zn) (k : Nat) (X : Cx) := AskE (FnA Z k X) (GloA Z X) (MtA Z k X)
abbrev AEs (Z : Zn) (k : Nat) (X : Cx) := AskEs (FnA Z k X) (GloA Z X) (MtA Z k X)
abbrev AI (Z : Zn) (k : Nat) (X : Cx) := AskI (FnA Z k X) (GloA Z X) (MtA Z k X)
/-- what an own text does, as a reading -/
def TV {α β : Type} (Z : Zn) (Wx : L2.St → Str → Hp → Prop) (rel : Wd → Hp → α → β → Prop) (f : Ls → Hh → R α) (σ : L2.St) (H : Hp) (Q : β → Hp → Prop) : Prop :=
  ∃ W ls h, LRel Z W H ls σ ∧ HRel Z W H h ∧ Tri Z rel (Wx σ) Q W H (f ls h)
abbrev TVe (Z : Zn) (Wx : L2.St → Str → Hp → Prop) (f : Ls → Hh → R D) : TE := TV Z Wx (RelD Z) f
abbrev TVt (Z : Zn) (Wx : L2.St → Str → Hp → Prop) (f : Ls → Hh → R Bool) : TT := TV (α := Bool) (β := Bool) Z Wx (fun _ _ a b => a = b) f
abbrev TVa (Z : Zn) (Wx : L2.St → Str → Hp → Prop) (f : Ls → Hh → R (List D)) : TA := TV Z Wx (RelDs Z) f
theorem _root_.L2.PE.imp {X : Cx} {e : Expr} {t t' : TE} (h : PE X e t) (i : ∀ σ H Q, t' σ H Q → t σ H Q) : PE X e t' := ⟨fun pins s σ H Q I q => h.run pins s σ H Q I (i σ H Q q)⟩
theorem _root_.L2.PT.imp {X : Cx} {e : Expr} {t t' : TT} (h : PT X e t) (i : ∀ σ H Q, t' σ H Q → t σ H Q) : PT X e t' := ⟨fun pins s σ H Q I q => h.run pins s σ H Q I (i σ H Q q)⟩
theorem _root_.L2.PW.imp {X : Cx} {e : Expr} {t t' : TT} (h : PW X e t) (i : ∀ σ H Q, t' σ H Q → t σ H Q) : PW X e t' := ⟨fun wh pins s σ H Q I q => h.run wh pins s σ H Q I (i σ H Q q)⟩
theorem _root_.L2.PA.imp {X : Cx} {e : List Expr} {t t' : TA} (h : PA X e t) (i : ∀ σ H Q, t' σ H Q → t σ H Q) : PA X e t' := ⟨fun pos pins s σ H Q I q => h.run pos pins s σ H Q I (i σ H Q q)⟩
section
variable {α β γ δ : Type} {Z : Zn} {Wx : L2.St → Str → Hp → Prop} {rel : Wd → Hp → α → β → Prop} {rel2 : Wd → Hp → γ → δ → Prop} {σ : L2.St} {W : Wd} {H : Hp} {ls : Ls} {h : Hh}
/-- the first step of a bind -/
theorem step {f : Ls → Hh → R γ} {g : γ → Hh → R α} {Q : β → Hp → Prop} (lr : LRel Z W H ls σ) (hr : HRel Z W H h) (t : Tri Z rel (Wx σ) Q W H ((f ls h).bind g)) {Q2 : δ → Hp → Prop}
    (k : ∀ x H1 W1 d h1, Gr W H W1 H1 → LRel Z W1 H1 ls σ → HRel Z W1 H1 h1 → rel2 W1 H1 d x → Tri Z rel (Wx σ) Q W1 H1 (g d h1) → Q2 x H1) : TV Z Wx rel2 f σ H Q2 :=
  ⟨W, ls, h, lr, hr, (Tri.bind (rel2 := rel2) t).imp fun x H1 ⟨W1, d, h1, g1, hr1, rl, t1⟩ => k x H1 W1 d h1 g1 (lr.mono g1) hr1 rl t1⟩
/-- no exception comes -/
def NX {α : Type} (r : R α) : Prop := ∀ c h, r ≠ .exc c h
theorem Tri.noX {E E' : Str → Hp → Prop} {Q : β → Hp → Prop} {r : R α} (n : NX r) (t : Tri Z rel E Q W H r) : Tri Z rel E' Q W H r := by
  cases r with
  | ok d h => exact t
  | exc c h => exact (n c h rfl).elim
  | bad => exact t
end
end Tb
namespace Tb
open PySem PySem.Spec PyProof.Rows L2
/-! ### no exception comes of these -/
theorem mkL_nx {c xs h} : NX (mkL c xs h) := fun k h' => by unfold mkL; split <;> simp
theorem ofB_nx {o h} : NX (ofB o h) := fun k h' => by unfold ofB; cases o <;> simp
theorem optI_nx {o h} : NX (optI o h) := fun k h' => by unfold optI; cases o <;> simp
theorem optD_nx {o h} : NX (optD o h) := fun k h' => by unfold optD; cases o <;> simp
theorem bad_nx {α : Type} : NX (.bad : R α) := fun k h' => by simp
theorem ok_nx {α : Type} {a : α} {h : Hh} : NX (.ok a h : R α) := fun k h' => by simp
theorem nx_ite {α : Type} {p : Prop} [Decidable p] {a b : R α} (x : NX a) (y : NX b) : NX (if p then a else b) := by split <;> assumption
theorem addD_nx {c a b h} : NX (addD c a b h) := by
  unfold addD
  split <;> first | exact ok_nx | exact bad_nx | (apply nx_ite <;> first | exact ok_nx | exact bad_nx | exact mkL_nx) | (unfold addL; split <;> first | exact bad_nx | exact mkL_nx | (apply nx_ite <;> first | exact mkL_nx | exact bad_nx | exact ok_nx))
theorem subD_nx {a b h} : NX (subD a b h) := by
  unfold subD
  split <;> first | exact ok_nx | exact bad_nx
theorem mulD_nx {c a b h} : NX (mulD c a b h) := by
  unfold mulD
  split <;> first | exact ok_nx | exact bad_nx | (apply nx_ite <;> first | exact ok_nx | exact bad_nx) | (unfold mulL; split <;> first | exact bad_nx | exact mkL_nx | (apply nx_ite <;> first | exact mkL_nx | exact bad_nx | exact ok_nx))
theorem fdivD_nx {a b h} : NX (fdivD a b h) := by
  unfold fdivD
  split <;> first | exact ok_nx | exact bad_nx | (apply nx_ite <;> first | exact ok_nx | exact bad_nx)
theorem modD_nx {a b h} : NX (modD a b h) := by
  unfold modD
  split <;> first | exact ok_nx | exact bad_nx | (apply nx_ite <;> first | exact ok_nx | exact bad_nx | (apply nx_ite <;> first | exact ok_nx | exact bad_nx))
theorem powD_nx {a b h} : NX (powD a b h) := by
  unfold powD
  split <;> first | exact ok_nx | exact bad_nx | (apply nx_ite <;> first | exact ok_nx | exact bad_nx)
theorem binD_nx {c o a b h} : NX (binD c o a b h) := by
  cases o <;> unfold binD <;> first | exact addD_nx | exact subD_nx | exact mulD_nx | exact fdivD_nx | exact modD_nx | exact powD_nx | exact bad_nx
theorem idxD_nx {a b h} : NX (idxD a b h) := by
  unfold idxD
  split
  · split <;> first | exact optD_nx | (unfold idxL; split <;> first | exact optD_nx | exact bad_nx) | exact bad_nx
  all_goals first | exact bad_nx | (split <;> first | exact optD_nx | exact bad_nx)
theorem slcD_nx {c a lo hi h} : NX (slcD c a lo hi h) := by
  unfold slcD
  split <;> first | exact ok_nx | exact bad_nx | exact mkL_nx | (apply nx_ite <;> first | exact ok_nx | exact bad_nx) | (unfold slcL; split <;> first | exact bad_nx | exact mkL_nx)
theorem setD_nx {a i v h} : NX (setD a i v h) := by
  unfold setD
  split
  · split
    · split <;> first | exact ok_nx | exact bad_nx
    · exact bad_nx
  all_goals exact bad_nx
theorem negD_nx {a h} : NX (negD a h) := by unfold negD; split <;> first | exact ok_nx | exact bad_nx
theorem truD_nx {a h} : NX (truD a h) := by unfold truD; split <;> first | exact ok_nx | exact bad_nx
theorem mkR_nx {a h} : NX (mkR a h) := by unfold mkR; split <;> first | exact ok_nx | exact bad_nx
theorem revD_nx {c d h} : NX (revD c d h) := by
  have go : ∀ d, NX (revL c (asL h d) h) := fun d => by
    unfold revL
    split <;> first | exact mkL_nx | exact bad_nx
  have ne : (∃ z, d = .str z) ∨ revD c d h = revL c (asL h d) h := by cases d <;> first | exact .inl ⟨_, rfl⟩ | exact .inr rfl
  rcases ne with ⟨z, rfl⟩ | e
  · show NX (if _ then _ else _)
    apply nx_ite <;> first | exact ok_nx | exact bad_nx
  · rw [e]; exact go d
theorem lsetD_nx {d h} : NX (lsetD d h) := by
  unfold lsetD
  split <;> first | exact bad_nx | (apply nx_ite <;> first | exact ok_nx | exact bad_nx)
theorem ssetD_nx {c d h} : NX (ssetD c d h) := by
  unfold ssetD
  split <;> first | exact bad_nx | (apply nx_ite <;> first | exact mkL_nx | exact bad_nx)
theorem strxD_nx {d h} : NX (strxD d h) := by
  unfold strxD
  split <;> first | exact ok_nx | exact bad_nx
theorem dgetD_nx {a b h} : NX (dgetD a b h) := by
  unfold dgetD dgetK
  split <;> first | exact bad_nx | exact optD_nx
theorem dhasD_nx {n a b h} : NX (dhasD n a b h) := by
  unfold dhasD dhasK
  split <;> first | exact bad_nx | exact ok_nx
theorem denD_nx {a h} : NX (denD a h) := by
  unfold denD
  split <;> first | exact ok_nx | exact bad_nx
theorem lzipD_nx {a b h} : NX (lzipD a b h) := by
  unfold lzipD
  split
  · split
    · apply nx_ite <;> first | exact ok_nx | exact bad_nx
    · exact bad_nx
  · exact bad_nx
theorem dlstD_nx {c a h} : NX (dlstD c a h) := by
  unfold dlstD
  apply nx_ite
  · exact bad_nx
  split <;> first | exact bad_nx | (apply nx_ite <;> first | exact mkL_nx | exact bad_nx)
theorem dputD_nx {a b v h} : NX (dputD a b v h) := by
  unfold dputD dputK
  split
  · split <;> first | exact bad_nx | (apply nx_ite <;> first | exact ok_nx | exact bad_nx)
  · exact bad_nx
theorem lrgD_nx {c a b h} : NX (lrgD c a b h) := by
  unfold lrgD
  split <;> first | exact bad_nx | (apply nx_ite <;> first | exact mkL_nx | exact bad_nx)
theorem mkList_nx {c d h} : NX (mkList c d h) := by
  unfold mkList
  split
  · exact mkL_nx
  · split <;> first | exact mkL_nx | exact bad_nx
theorem mkTup_nx {d h} : NX (mkTup d h) := by
  unfold mkTup
  split
  · exact ok_nx
  · split <;> first | exact ok_nx | exact bad_nx
theorem mkSorted_nx {c o h} : NX (mkSorted c o h) := by unfold mkSorted; split <;> first | exact mkL_nx | exact bad_nx
theorem sortQL_nx {c xs h} : NX (sortQL c xs h) := by
  unfold sortQL
  split
  · split
    · exact mkL_nx
    · exact bad_nx
  · exact bad_nx
theorem sortD_nx {c d h} : NX (sortD c d h) := by
  unfold sortD
  split
  · exact mkSorted_nx
  · split
    · exact sortQL_nx
    · exact bad_nx
theorem mkDict_nx {d h} : NX (mkDict d h) := by
  unfold mkDict
  split <;> first | exact bad_nx | (apply nx_ite <;> first | exact ok_nx | exact bad_nx)
theorem sumD_nx {d h} : NX (sumD d h) := by unfold sumD; split <;> exact optI_nx
theorem maxOne_nx {d h} : NX (maxOne d h) := by unfold maxOne; split <;> first | exact optI_nx | exact optD_nx
theorem biD_nx {b c ds h} : NX (biD b c ds h) := by
  unfold biD
  split <;> first | exact ok_nx | exact bad_nx | exact optI_nx | exact optD_nx | exact sortD_nx | exact mkList_nx | exact mkTup_nx | exact mkDict_nx | exact mkL_nx | exact sumD_nx | exact maxOne_nx
theorem setC_nx {o i xs h} : NX (setC o i xs h) := by unfold setC; split <;> first | exact ok_nx | exact bad_nx
theorem remO_nx {i xs d h} : NX (remO i xs d h) := by
  unfold remO
  split
  · split <;> first | exact ok_nx | exact bad_nx
  · exact bad_nx
theorem meC_nx {m i xs ds h} : NX (meC m i xs ds h) := by
  unfold meC
  split <;> first
    | exact ok_nx | exact bad_nx | exact setC_nx | exact remO_nx
    | (apply nx_ite <;> first | exact ok_nx | exact bad_nx)
    | (split <;> first | exact setC_nx | exact bad_nx | exact remO_nx | (apply nx_ite <;> first | exact ok_nx | exact bad_nx) | (split <;> first | exact ok_nx | exact bad_nx))
theorem meD_nx {m c x ds h} : NX (meD m c x ds h) := by
  unfold meD
  split <;> first
    | (split <;> first
        | exact optI_nx | exact bad_nx
        | (apply nx_ite <;> first | exact ok_nx | exact bad_nx | exact mkL_nx)
        | (split <;> first | exact meC_nx | exact bad_nx | (apply nx_ite <;> first | exact ok_nx | exact bad_nx)))
/-! ### facts of the checker -/
section
variable {X : Cx} {Z : Zn} {Wx : L2.St → Str → Hp → Prop} {k : Nat} {x : Str} {i : Nat} {e : Expr} {es : List Expr} {env : Env} {pos : Pos}
theorem star_of (h : nStar e = true) : starEach (e :: es) env = (false, eval e env) :: starEach es env := by
  cases e <;> first | rfl | cases h
theorem star_all : ∀ {es : List Expr}, es.all nStar = true → (backTo pos (starEach es env)).any (·.1) = false
  | [], _ => rfl
  | e :: es, h => by
    simp only [List.all_cons, Bool.and_eq_true] at h
    rw [star_of h.1]
    show (false || (backTo pos (starEach es env)).any (·.1)) = false
    rw [star_all h.2]; rfl
theorem okEs_star {c : Cc} : ∀ {es : Es} {xs : List Expr}, okEs c es xs = true → xs.all nStar = true
  | .nil, xs, h => by
    unfold okEs at h
    rw [List.isEmpty_iff.mp h]; rfl
  | .cons e es, [], h => by simp [okEs] at h
  | .cons e es, y :: ys, h => by
    simp only [okEs, Bool.and_eq_true] at h
    simp only [List.all_cons, Bool.and_eq_true]
    exact ⟨h.1.1, okEs_star h.2⟩
theorem okEs_len {c : Cc} : ∀ {es : Es} {xs : List Expr}, okEs c es xs = true → xs.length = es.len
  | .nil, xs, h => by
    unfold okEs at h
    rw [List.isEmpty_iff.mp h]; rfl
  | .cons e es, [], h => by simp [okEs] at h
  | .cons e es, y :: ys, h => by
    simp only [okEs, Bool.and_eq_true] at h
    simp [Es.len, okEs_len h.2]
theorem marks_of {op : CmpOp} (h : nSet e = true) : behindInMarks op e = false := by
  cases e <;> first | rfl | cases h
theorem fold_of (h : nSet e = true) : ∀ x, foldedSetIterable e env x = pure x := by
  intro x
  cases e <;> first | rfl | cases h
theorem ix_of (h : nSlc e = true) : PlainIx e := by
  intro o i
  cases e <;> first | rfl | cases h
theorem base_of {n : Str} (h : nC0 e = true) : attributeBase e n env (eval e env) = eval e env := by
  cases e <;> try rfl
  rename_i f as ks p
  cases as with
  | nil =>
    cases ks with
    | nil => cases h
    | cons k ks => cases f <;> rfl
  | cons a as => cases f <;> rfl
theorem tst_of (h : nTst e = true) : ∀ whole, isTrue e env whole = (do let v ← whole; standAt e.pos; holding [v] (truthy v)) := by
  intro whole
  cases e <;> first | rfl | cases h | skip
  rename_i op y p
  cases op <;> first | rfl | cases h
theorem gl_of (h : globB (ccOf X) x = true) : Gl X x ∧ (x == ("__debug__" : Str)) = false := by
  simp only [globB, isK, Bool.and_eq_true, decide_eq_true_eq, Bool.not_eq_true'] at h
  exact h
theorem seen_of (h : seenB (ccOf X) i x = true) : X.N[i]? = some x ∧ Vis X.env.scope x ∧ (x == ("__debug__" : Str)) = false ∧ (x == ("__classdict__" : Str)) = false := by
  simp only [seenB, isK, Bool.and_eq_true, Bool.or_eq_true, decide_eq_true_eq, Bool.not_eq_true'] at h
  obtain ⟨⟨⟨h1, h2⟩, h3⟩, h4⟩ := h
  exact ⟨h1, by rcases h2 with (h2 | h2) | h2; exact .inl h2; exact .inr (.inl h2); exact .inr (.inr h2), h3, h4⟩
theorem put_of (h : putB (ccOf X) i x = true) : X.N[i]? = some x ∧ Loc X.env.scope x ∧ (X.fn x = true ∨ X.env.scope.names.lookup x = some .local) := by
  simp only [putB, isK, Bool.and_eq_true, Bool.or_eq_true, decide_eq_true_eq] at h
  obtain ⟨h1, h2⟩ := h
  rcases h2 with h2 | ⟨h2, h3⟩
  · exact ⟨h1, .inl h2, .inr h2⟩
  · exact ⟨h1, .inr h2, .inl h3⟩
theorem bty_of {n : String} (h : tyB n = true) : bootBuiltins (n : Str) = some (.type n) ∧ (n : Str) ∈ freeN ∧ (n : Str) ≠ "__name__" := by
  simp only [tyB, decide_eq_true_eq, List.mem_cons, List.not_mem_nil, or_false] at h
  rcases h with rfl | rfl | rfl | rfl | rfl | rfl | rfl
  all_goals exact ⟨by decide +kernel, by decide +kernel, by decide +kernel⟩
theorem bi_of (b : Bi) : bootBuiltins (b.nm : Str) = some (if b.isTy then .type b.nm else .builtin b.nm) ∧ (b.nm : Str) ∈ freeN ∧ (b.nm : Str) ≠ "__name__" := by
  cases b
  all_goals exact ⟨by decide +kernel, by decide +kernel, by decide +kernel⟩
end
end Tb
namespace Tb
open PySem PySem.Spec PyProof.Rows L2
section
variable {X : Cx} {Z : Zn} {Wx : L2.St → Str → Hp → Prop} {k : Nat}
theorem Gd.units (g : Gd Z Wx k X) : X.A.units + 65 < cLine := by have := g.room.un; omega
theorem Gd.pass (g : Gd Z Wx k X) (σ : L2.St) : PassesAt (L2.CX X.prog X.w) X σ (EX Z Wx σ) := fun _ _ _ e s' I c => g.tk e s' (XE.of_call I (fun _ _ _ h => h) c)
theorem truD_tri {E Q W H h} {d : D} {x : V} (t : TriB Z E Q W H (truD d h)) (hr : HRel Z W H h) (r : RelD Z W H d x) : ∃ b, d = .bl b ∧ x = .bl b ∧ Q b H := by
  cases d with
  | bl b => exact ⟨b, rfl, r, t.now hr rfl⟩
  | _ => exact t.elim
/-- a bool comes, then the rest -/
theorem tru_bind {α β : Type} {rel : Wd → Hp → α → β → Prop} {E : Str → Hp → Prop} {Q : β → Hp → Prop} {W H h} {d : D} {x : V} {g : Bool → Hh → R α} (t : Tri Z rel E Q W H ((truD d h).bind g)) (r : RelD Z W H d x) : ∃ b, d = .bl b ∧ x = .bl b ∧ Tri Z rel E Q W H (g b h) := by
  cases d with
  | bl b => exact ⟨b, rfl, r, t⟩
  | _ => exact t.elim
theorem e_var {i : Nat} {x : Str} {pos : Pos} (o : seenB (ccOf X) i x = true) : PE X (.Name x pos) (TVe Z Wx (evE (.var i))) := by
  obtain ⟨h1, h2, h3, h4⟩ := seen_of o
  refine (pe_var h1 h2 h3 h4).imp fun σ H Q ⟨W, ls, h, lr, hr, t⟩ => ?_
  unfold evE at t
  cases q : ls[i]? with
  | none => rw [q] at t; exact t.elim
  | some od =>
    cases od with
    | none => rw [q] at t; exact t.elim
    | some d =>
      rw [q] at t
      obtain ⟨v, e1, r⟩ := lr.2 i d q
      exact ⟨v, e1, t.now hr r⟩
theorem e_const {e : E} {x : Expr} {d : D} {v : V} (hv : ∀ W H, RelD Z W H d v) (he : ∀ ls h, evE e ls h = .ok d h) (p : PE X x (tC v)) : PE X x (TVe Z Wx (evE e)) :=
  p.imp fun σ H Q ⟨W, ls, h, lr, hr, t⟩ => by
    rw [he] at t
    exact t.now hr (hv W H)
theorem e_bin {c o} {a b : E} {l r : Expr} {pos : Pos} (g : Gd Z Wx k X) (ha : PE X l (TVe Z Wx (evE a))) (hb : PE X r (TVe Z Wx (evE b))) : PE X (.BinOp l o r pos) (TVe Z Wx (evE (.bin c o a b))) :=
  (pe_op (op_binD g.hK c o) ha hb).imp fun σ H Q ⟨W, ls, h, lr, hr, t⟩ =>
    step lr hr t fun x H1 W1 d h1 g1 lr1 hr1 rx t1 => step lr1 hr1 t1 fun y H2 W2 d2 h2 g2 lr2 hr2 ry t2 => ⟨W2, h2, d, d2, rx.mono g2, ry, hr2, t2.noX binD_nx⟩
theorem e_neg {a : E} {l : Expr} {pos : Pos} (ha : PE X l (TVe Z Wx (evE a))) : PE X (.UnaryOp .USub l pos) (TVe Z Wx (evE (.neg a))) :=
  (pe_un un_neg ha).imp fun σ H Q ⟨W, ls, h, lr, hr, t⟩ => step lr hr t fun x H1 W1 d h1 g1 lr1 hr1 rx t1 => by
    cases d with
    | int i => exact ⟨i, rx, t1.now hr1 rfl⟩
    | _ => exact t1.elim
theorem e_cmp {o} {a b : E} {l r : Expr} {pos : Pos} (g : Gd Z Wx k X) (ha : PE X l (TVe Z Wx (evE a))) (hb : PE X r (TVe Z Wx (evE b))) (hm : nSet r = true) : PE X (.Compare l [o] [r] pos) (TVe Z Wx (evE (.cmp o a b))) :=
  (pe_cmpR (op_cmpD g.hK g.units o) ha hb (marks_of hm)).imp fun σ H Q ⟨W, ls, h, lr, hr, t⟩ =>
    step lr hr t fun x H1 W1 d h1 g1 lr1 hr1 rx t1 => step lr1 hr1 t1 fun y H2 W2 d2 h2 g2 lr2 hr2 ry t2 => ⟨W2, h2, d, d2, rx.mono g2, ry, hr2, t2.noX ofB_nx⟩
/-- a test of a comparison: a bool comes -/
theorem tv_test {f : Ls → Hh → R D} {σ : L2.St} {H : Hp} {Q : Bool → Hp → Prop} (t : TVt Z Wx (fun ls h => (f ls h).bind truD) σ H Q) : TVe Z Wx f σ H fun x H1 => ∃ b, x = .bl b ∧ Q b H1 := by
  obtain ⟨W, ls, h, lr, hr, t⟩ := t
  exact step lr hr t fun x H1 W1 d h1 g1 lr1 hr1 rx t1 => by
    obtain ⟨b, _, e2, q⟩ := truD_tri t1 hr1 rx
    exact ⟨b, e2, q⟩
theorem t_cmp {o} {a b : E} {l r : Expr} {pos : Pos} (g : Gd Z Wx k X) (ha : PE X l (TVe Z Wx (evE a))) (hb : PE X r (TVe Z Wx (evE b))) (hm : nSet r = true) : PT X (.Compare l [o] [r] pos) (TVt Z Wx (evT (.cmp o a b))) :=
  (pt_cmpR (op_cmpD g.hK g.units o) ha hb (marks_of hm)).imp fun σ H Q t => by
    obtain ⟨W, ls, h, lr, hr, t⟩ := tv_test t
    exact step lr hr t fun x H1 W1 d h1 g1 lr1 hr1 rx t1 => step lr1 hr1 t1 fun y H2 W2 d2 h2 g2 lr2 hr2 ry t2 => ⟨W2, h2, d, d2, rx.mono g2, ry, hr2, t2.noX ofB_nx⟩
theorem chn_core {o o2} {a b c : E} {σ : L2.St} {H : Hp} {Q : VK} (t : TVe Z Wx (evE (.chn o o2 a b c)) σ H Q) :
    tChain (rD Z fun a b h => ofB (cmpD o h a b) h) (rD Z fun a b h => ofB (cmpD o2 h a b) h) (TVe Z Wx (evE a)) (TVe Z Wx (evE b)) (TVe Z Wx (evE c)) σ H Q := by
  obtain ⟨W, ls, h, lr, hr, t⟩ := t
  refine step lr hr t fun x H1 W1 d h1 g1 lr1 hr1 rx t1 => step lr1 hr1 t1 fun y H2 W2 d2 h2 g2 lr2 hr2 ry t2 => ⟨W2, h2, d, d2, rx.mono g2, ry, hr2, ?_⟩
  refine Tri.imp ((Tri.bind (rel2 := RelD Z) t2).noX ofB_nx) ?_
  rintro z H3 ⟨W3, d3, h3, g3, hr3, rz, t3⟩
  obtain ⟨kk, e1, e2, t4⟩ := tru_bind t3 rz
  subst e1
  refine ⟨kk, e2, ?_⟩
  cases kk with
  | true =>
    simp only [if_true] at t4 ⊢
    exact step (lr2.mono g3) hr3 t4 fun u H5 W5 d5 h5 g5 lr5 hr5 ru t5 => ⟨W5, h5, d2, d5, (ry.mono g3).mono g5, ru, hr5, t5.noX ofB_nx⟩
  | false =>
    simp only [Bool.false_eq_true, if_false] at t4 ⊢
    exact t4.now hr3 rfl
theorem e_chn {o o2} {a b c : E} {l r u : Expr} {pos : Pos} (g : Gd Z Wx k X) (ha : PE X l (TVe Z Wx (evE a))) (hb : PE X r (TVe Z Wx (evE b))) (hc : PE X u (TVe Z Wx (evE c))) (hm : nSet u = true) : PE X (.Compare l [o, o2] [r, u] pos) (TVe Z Wx (evE (.chn o o2 a b c))) :=
  (pe_chain (op_cmpD g.hK g.units o) (op_cmpD g.hK g.units o2) ha hb hc (show behindInMarks o2 u = false from marks_of hm)).imp fun σ H Q t => chn_core t
theorem t_chn {o o2} {a b c : E} {l r u : Expr} {pos : Pos} (g : Gd Z Wx k X) (ha : PE X l (TVe Z Wx (evE a))) (hb : PE X r (TVe Z Wx (evE b))) (hc : PE X u (TVe Z Wx (evE c))) (hm : nSet u = true) : PT X (.Compare l [o, o2] [r, u] pos) (TVt Z Wx (evT (.chn o o2 a b c))) :=
  (pt_chain (op_cmpD g.hK g.units o) (op_cmpD g.hK g.units o2) ha hb hc (show behindInMarks o2 u = false from marks_of hm)).imp fun σ H Q t => chn_core (tv_test t)
theorem t_val {a : E} {e : Expr} (h : PE X e (TVe Z Wx (evE a))) (n : nTst e = true) : PT X e (TVt Z Wx (evT a)) := (pt_val h (tst_of n)).imp fun σ H Q t => tv_test t
theorem R.bind_assoc {α β γ : Type} (r : R α) (f : α → Hh → R β) (g : β → Hh → R γ) : (r.bind f).bind g = r.bind fun a h => (f a h).bind g := by cases r <;> rfl
theorem e_not {a : E} {l : Expr} {pos : Pos} (ha : PE X l (TVe Z Wx (evE a))) : PE X (.UnaryOp .Not l pos) (TVe Z Wx (evE (.not a))) :=
  (pe_not ha).imp fun σ H Q ⟨W, ls, h, lr, hr, t⟩ => step lr hr t fun x H1 W1 d h1 g1 lr1 hr1 rx t1 => by
    obtain ⟨kk, e1, e2, t2⟩ := tru_bind t1 rx
    exact ⟨kk, e2, t2.now hr1 rfl⟩
theorem t_not {a : E} {l : Expr} {pos : Pos} (ha : PT X l (TVt Z Wx (evT a))) : PT X (.UnaryOp .Not l pos) (TVt Z Wx (evT (.not a))) :=
  (pt_not ha).imp fun σ H Q ⟨W, ls, h, lr, hr, t⟩ => by
    have t' : TriB Z (Wx σ) Q W H ((evT a ls h).bind fun kk h2 => .ok (!kk) h2) := by
      have e : evT (.not a) ls h = (evT a ls h).bind fun kk h2 => .ok (!kk) h2 := by
        unfold evT
        rw [show evE (.not a) ls h = (evE a ls h).bind fun x h1 => (truD x h1).bind fun k h2 => .ok (.bl !k) h2 from rfl, R.bind_assoc, R.bind_assoc]
        congr 1; funext x h1
        rw [R.bind_assoc]; rfl
      rw [e] at t; exact t
    exact step lr hr t' fun x H1 W1 d h1 g1 lr1 hr1 rx t1 => by subst rx; exact t1.now hr1 rfl
theorem e_ife {t a b : E} {u l r : Expr} {pos : Pos} (ht : PT X u (TVt Z Wx (evT t))) (ha : PE X l (TVe Z Wx (evE a))) (hb : PE X r (TVe Z Wx (evE b))) : PE X (.IfExp u l r pos) (TVe Z Wx (evE (.ife t a b))) :=
  (pe_ifExp ht ha hb).imp fun σ H Q ⟨W, ls, h, lr, hr, q⟩ => by
    have q' : TriD Z (Wx σ) Q W H ((evT t ls h).bind fun kk h2 => if kk = true then evE a ls h2 else evE b ls h2) := by
      unfold evT; rw [R.bind_assoc]; exact q
    exact step lr hr q' fun x H1 W1 d h1 g1 lr1 hr1 rx t1 => by
      subst rx
      cases d with
      | true => exact ⟨W1, ls, h1, lr1, hr1, t1⟩
      | false => exact ⟨W1, ls, h1, lr1, hr1, t1⟩
/-! and, or -/
theorem e_and {e e2 : E} {es : Es} {y z : Expr} {ys : List Expr} {pos : Pos} (ha : PE X y (TVe Z Wx (evE e))) (hb : PE X (.BoolOp .And (z :: ys) pos) (TVe Z Wx (evB .And (.cons e2 es)))) : PE X (.BoolOp .And (y :: z :: ys) pos) (TVe Z Wx (evB .And (.cons e (.cons e2 es)))) :=
  (pe_and ha hb).imp fun σ H Q ⟨W, ls, h, lr, hr, t⟩ => step lr hr t fun x H1 W1 d h1 g1 lr1 hr1 rx t1 => by
    obtain ⟨kk, e1, e2', t2⟩ := tru_bind t1 rx
    refine ⟨kk, e2', ?_⟩
    cases kk with
    | true => exact ⟨W1, ls, h1, lr1, hr1, t2⟩
    | false => exact t2.now hr1 rfl
theorem e_or {e e2 : E} {es : Es} {y z : Expr} {ys : List Expr} {pos : Pos} (ha : PE X y (TVe Z Wx (evE e))) (hb : PE X (.BoolOp .Or (z :: ys) pos) (TVe Z Wx (evB .Or (.cons e2 es)))) : PE X (.BoolOp .Or (y :: z :: ys) pos) (TVe Z Wx (evB .Or (.cons e (.cons e2 es)))) :=
  (pe_or ha hb).imp fun σ H Q ⟨W, ls, h, lr, hr, t⟩ => step lr hr t fun x H1 W1 d h1 g1 lr1 hr1 rx t1 => by
    obtain ⟨kk, e1, e2', t2⟩ := tru_bind t1 rx
    refine ⟨kk, e2', ?_⟩
    cases kk with
    | false => exact ⟨W1, ls, h1, lr1, hr1, t2⟩
    | true => exact t2.now hr1 rfl
def evBT (o : BoolOp) (es : Es) (ls : Ls) (h : Hh) : R Bool := (evB o es ls h).bind truD
theorem w_one {o : BoolOp} {e : E} {y : Expr} {pos : Pos} (ha : PT X y (TVt Z Wx (evT e))) : PW X (.BoolOp o [y] pos) (TVt Z Wx (evBT o (.cons e .nil))) := by
  cases o with
  | And => exact (pw_and1 ha).imp fun σ H Q t => t
  | Or => exact (pw_or1 ha).imp fun σ H Q t => t
theorem w_and {e e2 : E} {es : Es} {y z : Expr} {ys : List Expr} {pos : Pos} (ha : PT X y (TVt Z Wx (evT e))) (hb : PW X (.BoolOp .And (z :: ys) pos) (TVt Z Wx (evBT .And (.cons e2 es)))) : PW X (.BoolOp .And (y :: z :: ys) pos) (TVt Z Wx (evBT .And (.cons e (.cons e2 es)))) :=
  (pw_and ha hb).imp fun σ H Q ⟨W, ls, h, lr, hr, t⟩ => by
    have t' : TriB Z (Wx σ) Q W H ((evT e ls h).bind fun kk h2 => match kk with | true => evBT .And (.cons e2 es) ls h2 | false => .ok false h2) := by
      refine cast (congrArg _ ?_) t
      unfold evBT evT
      rw [show evB .And (.cons e (.cons e2 es)) ls h = (evE e ls h).bind fun x h1 => (truD x h1).bind fun k h2 => match BoolOp.And, k with | .And, true => evB .And (.cons e2 es) ls h2 | .And, false => .ok (.bl false) h2 | .Or, true => .ok (.bl true) h2 | .Or, false => evB .And (.cons e2 es) ls h2 from rfl, R.bind_assoc, R.bind_assoc]
      congr 1; funext x h1
      rw [R.bind_assoc]
      congr 1; funext b h2
      cases b <;> rfl
    exact step lr hr t' fun x H1 W1 d h1 g1 lr1 hr1 rx t1 => by
      subst rx
      cases d with
      | true => exact ⟨W1, ls, h1, lr1, hr1, t1⟩
      | false => exact t1.now hr1 rfl
theorem w_or {e e2 : E} {es : Es} {y z : Expr} {ys : List Expr} {pos : Pos} (ha : PT X y (TVt Z Wx (evT e))) (hb : PW X (.BoolOp .Or (z :: ys) pos) (TVt Z Wx (evBT .Or (.cons e2 es)))) : PW X (.BoolOp .Or (y :: z :: ys) pos) (TVt Z Wx (evBT .Or (.cons e (.cons e2 es)))) :=
  (pw_or ha hb).imp fun σ H Q ⟨W, ls, h, lr, hr, t⟩ => by
    have t' : TriB Z (Wx σ) Q W H ((evT e ls h).bind fun kk h2 => match kk with | false => evBT .Or (.cons e2 es) ls h2 | true => .ok true h2) := by
      refine cast (congrArg _ ?_) t
      unfold evBT evT
      rw [show evB .Or (.cons e (.cons e2 es)) ls h = (evE e ls h).bind fun x h1 => (truD x h1).bind fun k h2 => match BoolOp.Or, k with | .And, true => evB .Or (.cons e2 es) ls h2 | .And, false => .ok (.bl false) h2 | .Or, true => .ok (.bl true) h2 | .Or, false => evB .Or (.cons e2 es) ls h2 from rfl, R.bind_assoc, R.bind_assoc]
      congr 1; funext x h1
      rw [R.bind_assoc]
      congr 1; funext b h2
      cases b <;> rfl
    exact step lr hr t' fun x H1 W1 d h1 g1 lr1 hr1 rx t1 => by
      subst rx
      cases d with
      | false => exact ⟨W1, ls, h1, lr1, hr1, t1⟩
      | true => exact t1.now hr1 rfl
/-! argument lists, displays -/
theorem a_nil : PA X [] (TVa Z Wx (evEs .nil)) := pa_nil.imp fun σ H Q ⟨W, ls, h, lr, hr, t⟩ => t.now hr rfl
theorem a_cons {e : E} {es : Es} {y : Expr} {ys : List Expr} (ha : PE X y (TVe Z Wx (evE e))) (hb : PA X ys (TVa Z Wx (evEs es))) (n : nStar y = true) : PA X (y :: ys) (TVa Z Wx (evEs (.cons e es))) :=
  (pa_cons ha hb (star_of n)).imp fun σ H Q ⟨W, ls, h, lr, hr, t⟩ => step lr hr t fun x H1 W1 d h1 g1 lr1 hr1 rx t1 => step lr1 hr1 t1 fun xs H2 W2 ds h2 g2 lr2 hr2 rxs t2 => t2.now hr2 ⟨x, xs, rfl, rx.mono g2, rxs⟩
theorem e_lst {c} {es : Es} {xs : List Expr} {pos : Pos} (ha : PA X xs (TVa Z Wx (evEs es))) : PE X (.List xs pos) (TVe Z Wx (evE (.lst c es))) :=
  (pe_lst ha).imp fun σ H Q ⟨W, ls, h, lr, hr, t⟩ => step lr hr t fun xs H1 W1 ds h1 g1 lr1 hr1 rx t1 => by
    by_cases hl : ds.length ≤ LIM
    · rw [if_pos hl] at t1
      exact ⟨by rw [← rx.length]; exact Nat.le_trans hl lim_le, fun p n => t1.newL hr1 rx n⟩
    · rw [if_neg hl] at t1; exact t1.elim
theorem e_tup {es : Es} {xs : List Expr} {j : Nat} {pos : Pos} (ha : PA X xs (TVa Z Wx (evEs es))) : PE X (.Tuple xs j pos) (TVe Z Wx (evE (.tup es))) :=
  (pe_tup ha).imp fun σ H Q ⟨W, ls, h, lr, hr, t⟩ => step lr hr t fun xs H1 W1 ds h1 g1 lr1 hr1 rx t1 => by
    by_cases hl : ds.length ≤ LIM
    · rw [if_pos hl] at t1
      exact ⟨by rw [← rx.length]; exact Nat.le_trans hl lim_le, fun p n => t1.newT hr1 rx n⟩
    · rw [if_neg hl] at t1; exact t1.elim
theorem e_idx {a i : E} {l r : Expr} {pos : Pos} (g : Gd Z Wx k X) (ha : PE X l (TVe Z Wx (evE a))) (hb : PE X r (TVe Z Wx (evE i))) (n : nSlc r = true) : PE X (.Subscript l r pos) (TVe Z Wx (evE (.idx a i))) :=
  (pe_ix (ix_D g.hK) ha hb (ix_of n)).imp fun σ H Q ⟨W, ls, h, lr, hr, t⟩ =>
    step lr hr t fun x H1 W1 d h1 g1 lr1 hr1 rx t1 => step lr1 hr1 t1 fun y H2 W2 d2 h2 g2 lr2 hr2 ry t2 => ⟨W2, h2, d, d2, rx.mono g2, ry, hr2, t2.noX idxD_nx⟩
theorem e_slU {c} {a hi : E} {l u : Expr} {p pos : Pos} (g : Gd Z Wx k X) (ha : PE X l (TVe Z Wx (evE a))) (hb : PE X u (TVe Z Wx (evE hi))) : PE X (.Subscript l (.Slice none (some u) none p) pos) (TVe Z Wx (evE (.slU c a hi))) :=
  (pe_slice (sl_D g.hK c) ha po_none (po_some hb)).imp fun σ H Q ⟨W, ls, h, lr, hr, t⟩ =>
    step lr hr t fun x H1 W1 d h1 g1 lr1 hr1 rx t1 => step lr1 hr1 t1 fun y H2 W2 d2 h2 g2 lr2 hr2 ry t2 => by
      cases d2 with
      | int j => exact ⟨j, ry, W2, h2, d, rx.mono g2, hr2, t2.noX slcD_nx⟩
      | _ => exact t2.elim
theorem e_slL {c} {a lo : E} {l u : Expr} {p pos : Pos} (g : Gd Z Wx k X) (ha : PE X l (TVe Z Wx (evE a))) (hb : PE X u (TVe Z Wx (evE lo))) : PE X (.Subscript l (.Slice (some u) none none p) pos) (TVe Z Wx (evE (.slL c a lo))) :=
  (pe_slice (sl_D g.hK c) ha (po_some hb) po_none).imp fun σ H Q ⟨W, ls, h, lr, hr, t⟩ =>
    step lr hr t fun x H1 W1 d h1 g1 lr1 hr1 rx t1 => step lr1 hr1 t1 fun y H2 W2 d2 h2 g2 lr2 hr2 ry t2 => by
      cases d2 with
      | int j => exact ⟨j, ry, W2, h2, d, rx.mono g2, hr2, t2.noX slcD_nx⟩
      | _ => exact t2.elim
theorem e_slB {c} {a lo hi : E} {l u v : Expr} {p pos : Pos} (g : Gd Z Wx k X) (ha : PE X l (TVe Z Wx (evE a))) (hb : PE X u (TVe Z Wx (evE lo))) (hc : PE X v (TVe Z Wx (evE hi))) : PE X (.Subscript l (.Slice (some u) (some v) none p) pos) (TVe Z Wx (evE (.slB c a lo hi))) :=
  (pe_slice (sl_D g.hK c) ha (po_some hb) (po_some hc)).imp fun σ H Q ⟨W, ls, h, lr, hr, t⟩ =>
    step lr hr t fun x H1 W1 d h1 g1 lr1 hr1 rx t1 => step lr1 hr1 t1 fun y H2 W2 d2 h2 g2 lr2 hr2 ry t2 => by
      cases d2 with
      | int i =>
        refine ⟨i, ry, ?_⟩
        exact step lr2 hr2 t2 fun z H3 W3 d3 h3 g3 lr3 hr3 rz t3 => by
          cases d3 with
          | int j => exact ⟨j, rz, W3, h3, d, (rx.mono g2).mono g3, hr3, t3.noX slcD_nx⟩
          | _ => exact t3.elim
      | _ => exact t2.elim
/-! calls -/
theorem evEs_len : ∀ (es : Es) {ls : Ls} {h : Hh} {ds : List D} {h' : Hh}, evEs es ls h = .ok ds h' → ds.length = es.len
  | .nil, ls, h, ds, h', e => by cases e; rfl
  | .cons e es, ls, h, ds, h', q => by
    have q : ((evE e ls h).bind fun x h1 => (evEs es ls h1).bind fun xs h2 => .ok (x :: xs) h2) = .ok ds h' := q
    cases q1 : evE e ls h with
    | bad => rw [q1] at q; cases q
    | exc c h1 => rw [q1] at q; cases q
    | ok x h1 =>
      rw [q1] at q
      have q : ((evEs es ls h1).bind fun xs h2 => .ok (x :: xs) h2) = .ok ds h' := q
      cases q2 : evEs es ls h1 with
      | bad => rw [q2] at q; cases q
      | exc c h2 => rw [q2] at q; cases q
      | ok ys h2 =>
        rw [q2] at q
        cases q
        simp [Es.len, evEs_len es q2]
theorem e_call {m : Md} {n : Str} {F : Fn} {es : Es} {xs : List Expr} {p pos : Pos} (g : Gd Z Wx k X) (A : FnA Z k X n F es.len) (hg : globB (ccOf X) n = true) (ha : PA X xs (TVa Z Wx (evEs es))) (hs : xs.all nStar = true) (hl : xs.length = es.len) :
    PE X (.Call (.Name n p) xs [] pos) (TVe Z Wx (evE (.call m n F es))) := by
  obtain ⟨f, fd, ps, hF, hn, hm, hk, hb⟩ := A
  obtain ⟨g1, g2⟩ := gl_of hg
  have core : ∀ σ H Q, TVe Z Wx (evE (.call m n F es)) σ H Q → tCallS (spF Z es.len F) (EX Z Wx) (fun σ H Q => TVa Z Wx (evEs es) σ H fun vs H1 => vs.length = es.len → Q vs H1) σ H Q := fun σ H Q ⟨W, ls, h, lr, hr, t⟩ =>
    step lr hr t fun vs H1 W1 ds h1 g1 lr1 hr1 rx t1 hlen => by
      obtain ⟨W2, es2, h2, r2, hr2, t2⟩ := call_M hr1 rx t1
      refine ⟨hlen, W2, h2, es2, r2, hr2, ?_⟩
      cases q : F es2 h2 with
      | ok d h' => rw [q] at t2; exact t2
      | exc c h' => rw [q] at t2; exact fun W' H' g' hr' hm C hC => ⟨c, C, hC, hm, rfl, rfl, t2 W' H' g' hr'⟩
      | bad => rw [q] at t2; exact t2
  -- as many values as there are arguments
  have hlen : PA X xs (fun σ H Q => TVa Z Wx (evEs es) σ H fun vs H1 => vs.length = es.len → Q vs H1) := by
    refine ha.imp fun σ H Q ⟨W, ls, h, lr, hr, t⟩ => ⟨W, ls, h, lr, hr, ?_⟩
    cases q : evEs es ls h with
    | ok ds h' =>
      rw [q] at t
      intro v W' H' g' hr' r'
      exact t v W' H' g' hr' r' (by rw [← r'.length]; exact evEs_len es q)
    | exc c h' => rw [q] at t; exact t
    | bad => rw [q] at t; exact t
  cases xs with
  | nil =>
    refine (pe_callG0 hF g.qt g.room g1 hm hk hb g.pass g2).imp fun σ H Q t => ?_
    obtain ⟨W, ls, h, lr, hr, t⟩ := t
    have hz : es.len = 0 := hl.symm
    cases es with
    | nil =>
      have t1 : TriD Z (Wx σ) Q W H (callM m F [] h) := t
      obtain ⟨W2, es2, h2, r2, hr2, t2⟩ := call_M (ds := []) (vs := []) hr (show RelDs Z W H [] [] from rfl) t1
      refine ⟨rfl, W2, h2, es2, r2, hr2, ?_⟩
      cases q : F es2 h2 with
      | ok d h' => rw [q] at t2; exact t2
      | exc c h' => rw [q] at t2; exact fun W' H' g' hr' hm C hC => ⟨c, C, hC, hm, rfl, rfl, t2 W' H' g' hr'⟩
      | bad => rw [q] at t2; exact t2
    | cons e es => simp [Es.len] at hz
  | cons y ys =>
    simp only [List.all_cons, Bool.and_eq_true] at hs
    exact (pe_callG hF g.qt g.room g1 hm hk hb g.pass hlen g2 (star_of hs.1) (star_all hs.2)).imp core
end
end Tb
namespace Tb
open PySem PySem.Spec PyProof.Rows L2
section
variable {X : Cx} {Z : Zn} {Wx : L2.St → Str → Hp → Prop} {k : Nat}
theorem c_bi (g : Gd Z Wx k X) (b : Bi) (c : Bool) : CallR X (if b.isTy then .type b.nm else .builtin b.nm) (rC Z (biD b c)) := by
  cases b
  · exact c_len g.hK c
  · exact c_abs c
  · exact c_min g.hK g.calm c
  · exact c_max g.hK g.calm (by have := g.units; omega) c
  · exact c_sum g.hK g.calm c
  · exact c_sorted g.hK g.sys (by have := g.units; omega) c
  · exact c_int c
  · exact c_str c
  · exact c_list g.hK c
  · exact c_tuple g.hK c
  · exact c_repr g.hK g.sys g.qt (by have := g.units; omega) c
  · exact c_dict g.hK g.calm c
theorem e_bi {b : Bi} {c : Bool} {es : Es} {xs : List Expr} {p pos : Pos} (g : Gd Z Wx k X) (hg : globB (ccOf X) (b.nm : Str) = true) (he : xs ≠ []) (hs : xs.all nStar = true) (ha : PA X xs (TVa Z Wx (evEs es))) :
    PE X (.Call (.Name (b.nm : Str) p) xs [] pos) (TVe Z Wx (evE (.bi b c es))) := by
  obtain ⟨g1, g2⟩ := gl_of hg
  obtain ⟨b1, b2, b3⟩ := bi_of b
  have core : ∀ σ H Q, TVe Z Wx (evE (.bi b c es)) σ H Q → tCB (rC Z (biD b c)) (TVa Z Wx (evEs es)) σ H Q := fun σ H Q ⟨W, ls, h, lr, hr, t⟩ =>
    step lr hr t fun vs H1 W1 ds h1 g1 lr1 hr1 rx t1 => ⟨W1, h1, ds, rx, hr1, t1.noX biD_nx⟩
  cases xs with
  | nil => exact absurd rfl he
  | cons y ys =>
    simp only [List.all_cons, Bool.and_eq_true] at hs
    have cb := c_bi g b c
    cases hb : b.isTy with
    | true =>
      rw [hb] at cb b1
      exact (pe_callTy cb g1 (g.free _ b2) b1 ha b3 g2 (star_of hs.1) (star_all hs.2)).imp core
    | false =>
      rw [hb] at cb b1
      exact (pe_callB cb g1 (g.free _ b2) b1 ha b3 g2 (star_of hs.1) (star_all hs.2)).imp core
theorem e_isi {a b : E} {l r : Expr} {p pos : Pos} (g : Gd Z Wx k X) (hg : globB (ccOf X) ("isinstance" : Str) = true) (s1 : nStar l = true) (s2 : nStar r = true) (ha : PE X l (TVe Z Wx (evE a))) (hb : PE X r (TVe Z Wx (evE b))) :
    PE X (.Call (.Name ("isinstance" : Str) p) [l, r] [] pos) (TVe Z Wx (evE (.isi a b))) := by
  obtain ⟨g1, g2⟩ := gl_of hg
  refine (pe_callB (c_isi g.hK) g1 (g.free _ (by decide +kernel)) (by decide +kernel) (pa_cons ha (pa_cons hb pa_nil (star_of s2)) (star_of s1)) (by decide +kernel) g2 (star_of s1) (star_all (by simp [s2]))).imp fun σ H Q ⟨W, ls, h, lr, hr, t⟩ => ?_
  exact step lr hr t fun x H1 W1 d h1 g1 lr1 hr1 rx t1 => step lr1 hr1 t1 fun y H2 W2 d2 h2 g2 lr2 hr2 ry t2 => ⟨W2, h2, [d, d2], ⟨x, [y], rfl, rx.mono g2, y, [], rfl, ry, rfl⟩, hr2, t2.noX ofB_nx⟩
/-! methods -/
def Me.ty (m : Me) : String := if m.isStr then "str" else "list"
theorem me_of (m : Me) : PlainAttrs m.ty ∧ Slot m.ty (m.nm : Str) m.id ∧ typeOf (.builtin m.id) = pure (.type "method_descriptor") := by
  cases m
  · exact ⟨PySem.F.plainAttrs_list, PySem.F.slot_list_append, PySem.F.type_list_append⟩
  · exact ⟨PySem.F.plainAttrs_list, PySem.F.slot_list_pop, PySem.F.type_list_pop⟩
  · exact ⟨PySem.F.plainAttrs_list, PySem.F.slot_list_extend, PySem.F.type_list_extend⟩
  · exact ⟨PySem.F.plainAttrs_list, PySem.F.slot_list_insert, PySem.F.type_list_insert⟩
  · exact ⟨PySem.F.plainAttrs_list, PySem.F.slot_list_clear, PySem.F.type_list_clear⟩
  · exact ⟨PySem.F.plainAttrs_list, PySem.F.slot_list_reverse, PySem.F.type_list_reverse⟩
  · exact ⟨PySem.F.plainAttrs_list, PySem.F.slot_list_count, PySem.F.type_list_count⟩
  · exact ⟨PySem.F.plainAttrs_list, PySem.F.slot_list_index, PySem.F.type_list_index⟩
  · exact ⟨PySem.F.plainAttrs_list, PySem.F.slot_list_remove, PySem.F.type_list_remove⟩
  · exact ⟨PySem.F.plainAttrs_str, PySem.F.slot_str_join, PySem.F.type_str_join⟩
  · exact ⟨PySem.F.plainAttrs_str, PySem.F.slot_str_split, PySem.F.type_str_split⟩
  · exact ⟨PySem.F.plainAttrs_str, PySem.F.slot_str_partition, PySem.F.type_str_partition⟩
theorem m_of (g : Gd Z Wx k X) (m : Me) (c : Bool) : MtR X m.id (rM Z (meD m c)) := by
  cases m
  · exact m_append c
  · exact m_pop c
  · exact m_extend c
  · exact m_insert c
  · exact m_clear c
  · exact m_reverse c
  · exact m_count g.hK c
  · exact m_index g.hK g.units c
  · exact m_remove c
  · exact m_join g.hK c
  · exact m_split c
  · exact m_partition c
theorem okR_ty {W H h} {m : Me} {d : D} {x : V} (hK : X.K = Z.K) (hr : HRel Z W H h) (r : RelD Z W H d x) (o : m.okR h d = true) : tyV X.K m.ty x H := by
  unfold Me.okR at o
  unfold Me.ty
  cases hm : m.isStr with
  | true =>
    simp only [hm, if_true] at o ⊢
    cases d with
    | str z => cases r; rfl
    | _ => cases o
  | false =>
    simp only [hm, Bool.false_eq_true, if_false] at o ⊢
    cases q : asL h d with
    | none => rw [q] at o; cases o
    | some xs =>
      obtain ⟨a, vs, e, s, _⟩ := asL_sq hr r q
      subst e
      rw [← hK] at s
      exact .inl ⟨rfl, vs, s⟩
theorem e_me {m : Me} {c : Bool} {a : E} {es : Es} {o : Expr} {xs : List Expr} {ap cp : Pos} (g : Gd Z Wx k X) (hb : nC0 o = true) (hline : (ap.endLine == cp.line) = true) (hl : xs.length < 4) (hs : xs.all nStar = true) (ho : PE X o (TVe Z Wx (evE a))) (hes : xs.length = es.len) (ha : PA X xs (TVa Z Wx (evEs es))) :
    PE X (.Call (.Attribute o (m.nm : Str) ap) xs [] cp) (TVe Z Wx (evE (.me m c a es))) := by
  obtain ⟨p1, p2, p3⟩ := me_of m
  cases xs with
  | nil =>
    refine (pe_bm0 p1 p2 p3 (m_of g m c) ho (base_of hb) hline).imp fun σ H Q ⟨W, ls, h, lr, hr, t⟩ => ?_
    exact step lr hr t fun x H1 W1 d h1 g1 lr1 hr1 rx t1 => by
      by_cases ok : m.okR h1 d = true
      · rw [if_pos ok] at t1
        have he : es = .nil := by cases es with
          | nil => rfl
          | cons e es => simp [Es.len] at hes
        subst he
        exact ⟨okR_ty g.hK hr1 rx ok, W1, h1, d, [], rx, rfl, hr1, Tri.noX meD_nx t1⟩
      · rw [if_neg ok] at t1; exact t1.elim
  | cons y ys =>
    simp only [List.all_cons, Bool.and_eq_true] at hs
    have few : ((backTo cp (starEach (y :: ys) X.env)).all (fun x => !x.1) && (backToKw cp (keywordEach [] X.env)).all (fun x => x.1.isSome) && decide ((y :: ys).length + ([] : List Keyword).length + (if ([] : List Keyword).isEmpty then 0 else 1) < 30)) = true := by
      have z : ((backTo cp (starEach (y :: ys) X.env)).all (fun x => !x.1)) = true := by
        have q := star_all (pos := cp) (env := X.env) (es := y :: ys) (by simp [hs.1]; simpa using hs.2)
        rw [List.all_eq_not_any_not]
        simpa using q
      rw [z]
      have l2 : (y :: ys).length + ([] : List Keyword).length + (if ([] : List Keyword).isEmpty then 0 else 1) < 30 := by
        have : (if ([] : List Keyword).isEmpty then 0 else 1 : Nat) = 0 := rfl
        rw [this]
        simp only [List.length_nil]
        omega
      rw [decide_eq_true l2]
      rfl
    refine (pe_bm p1 p2 p3 (m_of g m c) ho ha (base_of hb) few hline (star_of hs.1) (star_all hs.2)).imp fun σ H Q ⟨W, ls, h, lr, hr, t⟩ => ?_
    exact step lr hr t fun x H1 W1 d h1 g1 lr1 hr1 rx t1 => by
      by_cases ok : m.okR h1 d = true
      · rw [if_pos ok] at t1
        exact ⟨okR_ty g.hK hr1 rx ok, step lr1 hr1 t1 fun vs H2 W2 ds h2 g2 lr2 hr2 rvs t2 => ⟨W2, h2, d, ds, rx.mono g2, rvs, hr2, t2.noX meD_nx⟩⟩
      · rw [if_neg ok] at t1; exact t1.elim
theorem rev_by (z : Str) (u : Tok) : Txt.sliceBy z none none (-1, u) = revS z := by
  refine Str.ext' (Array.toList_inj.mp ?_)
  rw [PyProof.Rows.step_rev_list]
  show _ = (z.cps.toList.reverse.toArray).toList
  rw [List.toList_toArray]
  apply List.ext_getElem
  · simp [Str.length]
  · intro i h1 h2
    simp only [List.length_map, List.length_range, Str.length] at h1
    have e : z.cps.getD (z.cps.size - 1 - i) 0 = z.cps[z.cps.size - 1 - i]'(by omega) := by
      rw [Array.getD_eq_getD_getElem?, Array.getElem?_eq_getElem (by omega)]; rfl
    rw [List.getElem_map, List.getElem_range, List.getElem_reverse, Array.getElem_toList]
    show z.cps.getD (z.cps.size - 1 - i) 0 = _
    rw [e]
    simp only [Array.length_toList]
def tRevX (K : PySem.W.Frag) (te : TE) : TE := fun σ H Q => te σ H fun x H1 => (∃ a xs, x = .ref a ∧ SqL K H1 a xs ∧ ∀ p, H1 p = none → Q (.ref p) (upd H1 p (.lst xs.reverse))) ∨ (∃ z, x = .str z ∧ z.length ≤ sizeLine ∧ Q (.str (revS z)) H1)
theorem pe_revX {e : Expr} {te : TE} {k : Nat} {p1 p2 p3 pos : Pos} (he : PE X e te) : PE X (.Subscript e (.Slice none none (some (.UnaryOp .USub (.Constant (.int 1) k p1) p2)) p3) pos) (tRevX X.K te) := by
  refine ⟨fun pins s σ H Q I h => ?_⟩
  refine Subscript_ (thn (he.run pins s σ H _ I h) fun v s1 ⟨x, H1, I1, r1, q1⟩ => ?_)
  have hst : PO X (some (.UnaryOp .USub (.Constant (.int 1) k p1) p2)) (tPart (tUn (rU fun i => .int (-i)) (tC (.int 1)))) := po_some (pe_un un_neg pe_int)
  refine wpAny_Slice (thn (po_none.run pins s1 σ H1 (fun o H2 => o = none ∧ H2 = H1) I1 ⟨rfl, rfl⟩) fun vl s2 ⟨l, H2, I2, pl, el, e2⟩ => ?_)
  subst el e2
  refine thn (po_none.run pins s2 σ H2 (fun o H3 => o = none ∧ H3 = H2) I2 ⟨rfl, rfl⟩) fun vu s3 ⟨u, H3, I3, pu, eu, e3⟩ => ?_
  subst eu e3
  refine thn (hst.run pins s3 σ H3 (fun o H4 => o = some (-1) ∧ H4 = H3) I3 ⟨1, rfl, -1, rfl, rfl, rfl⟩) fun vs s4 ⟨o, H4, I4, ps, eo, e4⟩ => ?_
  subst eo e4
  have I5 : Inv X pins σ H4 { s4 with heap := s4.heap.push { cls := .type "slice", data := .fields #[vl, vu, vs] } } := I4.kept (t' := s4.toks) fun b ob q => Heap.get?_push_of_some _ q
  rcases q1 with ⟨a, xs, ex, hx, q⟩ | ⟨z, ex, hz, q⟩
  · subst ex
    cases r1
    obtain ⟨its, r, ht, hz⟩ := I5.list hx
    have hlen := r.length
    refine tail_any (ops := [.ref a, .ref s4.heap.objs.size]) ht.isList.typeIs (PySem.slot_list_getitem.lookup) ?_ (by with_unfolding_all rfl)
    refine wpAny_getItem_list_slice ht.isList (Heap.IsSliceOf.new _ vl vu vs) pl pu ps (by decide) ?_ (by rw [List.size_toArray]; omega)
    rw [PySem.W.krv_pick]
    refine ⟨.ref _, _, I5.laid (t' := s4.toks) (o := .lst xs.reverse) (fun b ob q => Heap.get?_push_of_some _ q) (Nat.le_refl _) ?_, rfl, q _ (I5.hok.fresh (Nat.le_refl _))⟩
    exact ⟨by rw [List.length_reverse]; exact hz, _, 0, r.reverse, Heap.get?_push_size _ rfl⟩
  · subst ex
    obtain ⟨t, rfl⟩ := r1
    obtain ⟨l, rfl, hl⟩ := IsPart.raw pl
    obtain ⟨u, rfl, hu⟩ := IsPart.raw pu
    obtain ⟨st, rfl, hs⟩ := IsPart.raw ps
    cases l with | some _ => cases hl | none =>
    cases u with | some _ => cases hu | none =>
    cases st with | none => cases hs | some st =>
    obtain ⟨k1, uk⟩ := st
    have hk1 : k1 = -1 := by simpa using hs
    subst hk1
    refine tail_any (ops := [.str z t, .ref s4.heap.objs.size]) (PySem.typeIs_str _ _ _) (F.slot_str_getitem.lookup) ?_ (by with_unfolding_all rfl)
    refine wpAny_getItem_str_slice (l := none) (u := none) (st := some (-1, uk)) ⟨_, Heap.get?_push_size _ rfl, rfl, rfl⟩ rfl ?_
    exact post_val_or_str ⟨Nat.le_trans (Txt.sliceBy_le z _ _ (-1, uk) (by show (-1 : Int) ≠ 0; decide)) hz, fun t' c => ⟨.str _, H4, I5.tok _, ⟨_, rfl⟩, by
      show Q (.str (Txt.sliceBy z none none (-1, uk))) H4
      rw [rev_by]
      exact q⟩⟩
theorem e_rvl {c : Bool} {a : E} {l : Expr} {j : Nat} {p1 p2 p3 pos : Pos} (g : Gd Z Wx k X) (ha : PE X l (TVe Z Wx (evE a))) : PE X (.Subscript l (.Slice none none (some (.UnaryOp .USub (.Constant (.int 1) j p1) p2)) p3) pos) (TVe Z Wx (evE (.rvl c a))) :=
  (pe_revX ha).imp fun σ H Q ⟨W, ls, h, lr, hr, t⟩ => step lr hr t fun x H1 W1 d h1 g1 lr1 hr1 rx t1 => by
    have go : TriD Z (Wx σ) Q W1 H1 (revL c (asL h1 d) h1) → (∃ a xs, x = .ref a ∧ SqL X.K H1 a xs ∧ ∀ p, H1 p = none → Q (.ref p) (upd H1 p (.lst xs.reverse))) := fun t1 => by
      cases q : asL h1 d with
      | none => rw [q] at t1; exact t1.elim
      | some xs =>
        rw [q] at t1
        obtain ⟨a, vs, e, sq, rs⟩ := asL_sq hr1 rx q
        exact ⟨a, vs, e, by rw [g.hK]; exact sq, fun p n => Tri.newL t1 hr1 rs.reverse n⟩
    have ne : (∃ z, d = .str z) ∨ revD c d h1 = revL c (asL h1 d) h1 := by cases d <;> first | exact .inl ⟨_, rfl⟩ | exact .inr rfl
    rcases ne with ⟨z, rfl⟩ | ed
    · have t1 : TriD Z (Wx σ) Q W1 H1 (if z.length ≤ LIM then .ok (.str (revS z)) h1 else .bad) := t1
      by_cases hz : z.length ≤ LIM
      · rw [if_pos hz] at t1
        exact .inr ⟨z, rx, Nat.le_trans hz lim_le, t1.now hr1 rfl⟩
      · rw [if_neg hz] at t1; exact t1.elim
    · have t1 : TriD Z (Wx σ) Q W1 H1 (revD c d h1) := t1
      rw [ed] at t1
      exact .inl (go t1)
theorem intsL_eq : ∀ {ds : List D} {ns : List Int}, intsL ds = some ns → ds = ns.map .int
  | [], ns, e => by cases e; rfl
  | d :: ds, ns, e => by
    cases d <;> simp only [intsL] at e <;> try (cases e; done)
    cases q : intsL ds with
    | none => rw [q] at e; cases e
    | some r => rw [q] at e; cases e; rw [intsL_eq q]; rfl
theorem first_dst (ns : List Int) : PyProof.Rows.firstMet (fun i => ns.getD i 0) ns.length = dstI ns := by
  have e : (List.range ns.length).map (fun i => ns.getD i 0) = ns := by
    apply List.ext_getElem
    · simp
    · intro i h1 h2
      simp [List.getD_eq_getElem?_getD, List.getElem?_eq_getElem h2]
  unfold PyProof.Rows.firstMet dstI
  rw [e]
def tLS (K : PySem.W.Frag) (ta : TE) : TE := fun σ H Q => ta σ H fun x H1 => ∃ (l : Addr) (ns : List Int), x = .ref l ∧ SqL K H1 l (ns.map V.int) ∧ ns.length ≤ 4000 ∧ Q (.int ((dstI ns).length : Nat)) H1
/-- how many unlike ones -/
theorem pe_ls {a : Expr} {ta : TE} {p p2 q pos : Pos} (hg : Gl X "len") (hm : X.mg "len" = none) (hg2 : Gl X "set") (hm2 : X.mg "set" = none) (ha : PE X a ta) (hc : X.calm = true) (na : starEach [a] X.env = (false, eval a X.env) :: starEach [] X.env) :
    PE X (.Call (.Name "len" p) [.Call (.Name "set" p2) [a] [] q] [] pos) (tLS X.K ta) where
  run := by
    intro pins s σ H Q I h
    refine Call_ (ld_blt I hg hm PySem.boot_len (PyProof.Rows.callWith_builtin1 (PyProof.Rows.args_cons (Call_ (ld_blt I hg2 hm2 PyProof.Rows.boot_set ?_)) rfl) rfl rfl))
    refine PyProof.Rows.callWith_type1 (PyProof.Rows.args_cons (thn (ha.run pins s σ H _ I h) fun v s1 ⟨x, H1, I1, r1, l, ns, ex, hq, hl, q1⟩ => PyProof.Rows.args_nil ?_) na) na rfl
    subst ex
    cases r1
    obtain ⟨its, r, pl, hz⟩ := I1.list hq
    have hlen : its.toArray.size = ns.length := by rw [List.size_toArray, ← r.length, List.length_map]
    refine call_set_list (I1.ok.hd hc) pl.isList (by simpa using intsAre_of r) (by rw [hlen]; unfold scanBound; omega) fun h' tk hS hk => PyProof.Rows.args_nil ?_
    rw [hlen, first_dst] at hS
    obtain ⟨o, es, ep, t, ho, hex, hd, _, _, _, hf, hn⟩ := hS
    have I2 : Inv X pins σ H1 { s1 with heap := h', toks := tk } := I1.kept fun b o e => hk b o (Heap.lt_size e) e
    have hb : (dstI ns).length ≤ ns.length := by rw [← first_dst]; exact PyProof.Rows.firstMet_length_le _ _
    exact call_len_set ho hex hd hf (by rw [hn] <;> omega) ⟨.int ((dstI ns).length : Nat), H1, I2.tok _, ⟨_, by rw [hn]⟩, q1⟩
theorem e_lset {a : E} {y : Expr} {p p2 q pos : Pos} (g : Gd Z Wx k X) (hg : globB (ccOf X) ("len" : Str) = true) (hg2 : globB (ccOf X) ("set" : Str) = true) (n : nStar y = true) (ha : PE X y (TVe Z Wx (evE a))) : PE X (.Call (.Name ("len" : Str) p) [.Call (.Name ("set" : Str) p2) [y] [] q] [] pos) (TVe Z Wx (evE (.lset a))) :=
  (pe_ls (gl_of hg).1 (g.free _ (by decide +kernel)) (gl_of hg2).1 (g.free _ (by decide +kernel)) ha g.calm (star_of n)).imp fun σ H Q ⟨W, ls, h, lr, hr, t⟩ => step lr hr t fun x H1 W1 d h1 g1 lr1 hr1 rx t1 => by
    have t1 : TriD Z (Wx σ) Q W1 H1 (lsetD d h1) := t1
    unfold lsetD at t1
    cases q : asL h1 d with
    | none => rw [q] at t1; exact t1.elim
    | some xs =>
      rw [q] at t1
      cases q2 : intsL xs with
      | none => simp only [Option.bind_some, q2] at t1; exact t1.elim
      | some ns =>
        simp only [Option.bind_some, q2] at t1
        obtain ⟨a, vs, e, sq, rs⟩ := asL_sq hr1 rx q
        rw [intsL_eq q2] at rs
        rw [RelDs.ints.mp rs] at sq
        by_cases hl : ns.length ≤ 4000
        · rw [if_pos hl] at t1
          exact ⟨a, ns, e, by rw [g.hK]; exact sq, hl, t1.now hr1 rfl⟩
        · rw [if_neg hl] at t1; exact t1.elim
theorem dst_mem {ns : List Int} {k : Int} : k ∈ dstI ns ↔ k ∈ ns := by
  unfold dstI
  have go : ∀ (ns acc : List Int), k ∈ ns.foldl PyProof.Rows.step_dedup acc ↔ k ∈ acc ∨ k ∈ ns := by
    intro ns
    induction ns with
    | nil => intro acc; simp
    | cons n r ih =>
      intro acc
      rw [List.foldl_cons, ih]
      unfold PyProof.Rows.step_dedup
      by_cases q : acc.any (· == n) = true
      · rw [if_pos q]
        have m : n ∈ acc := by
          obtain ⟨x, hx, e⟩ := List.any_eq_true.mp q
          rw [← eq_of_beq e]; exact hx
        rw [List.mem_cons]
        constructor
        · rintro (z | z)
          · exact .inl z
          · exact .inr (.inr z)
        · rintro (z | rfl | z)
          · exact .inl z
          · exact .inl m
          · exact .inr z
      · rw [if_neg q, List.mem_append, List.mem_singleton, List.mem_cons, or_assoc]
  rw [go]; simp
theorem dst_nodup (ns : List Int) : (dstI ns).Nodup := by
  unfold dstI
  have go : ∀ (ns acc : List Int), acc.Nodup → (ns.foldl PyProof.Rows.step_dedup acc).Nodup := by
    intro ns
    induction ns with
    | nil => intro acc h; exact h
    | cons n r ih =>
      intro acc h
      rw [List.foldl_cons]
      refine ih _ ?_
      unfold PyProof.Rows.step_dedup
      by_cases q : acc.any (· == n) = true
      · rw [if_pos q]; exact h
      · rw [if_neg q, List.nodup_append]
        refine ⟨h, by simp, fun a ha b hb => ?_⟩
        rw [List.mem_singleton.mp hb]
        rintro rfl
        exact q (List.any_eq_true.mpr ⟨a, ha, by simp⟩)
  exact go ns [] List.nodup_nil
def tSS (K : PySem.W.Frag) (ta : TE) : TE := fun σ H Q => ta σ H fun x H1 => ∃ (l : Addr) (ns : List Int), x = .ref l ∧ SqL K H1 l (ns.map V.int) ∧ ns.length ≤ 60 ∧ ∀ p, H1 p = none → Q (.ref p) (upd H1 p (.lst ((sortI (dstI ns)).map V.int)))
/-- the unlike ones, sorted -/
theorem pe_ss {a : Expr} {ta : TE} {p p2 q pos : Pos} (hg : Gl X "sorted") (hm : X.mg "sorted" = none) (hg2 : Gl X "set") (hm2 : X.mg "set" = none) (ha : PE X a ta) (hc : X.calm = true) (na : starEach [a] X.env = (false, eval a X.env) :: starEach [] X.env) :
    PE X (.Call (.Name "sorted" p) [.Call (.Name "set" p2) [a] [] q] [] pos) (tSS X.K ta) where
  run := by
    intro pins s σ H Q I h
    refine Call_ (ld_blt I hg hm PyProof.Rows.boot_sorted (PyProof.Rows.callWith_builtin1 (PyProof.Rows.args_cons (Call_ (ld_blt I hg2 hm2 PyProof.Rows.boot_set ?_)) rfl) rfl rfl))
    refine PyProof.Rows.callWith_type1 (PyProof.Rows.args_cons (thn (ha.run pins s σ H _ I h) fun v s1 ⟨x, H1, I1, r1, l, ns, ex, hq, hl, q1⟩ => PyProof.Rows.args_nil ?_) na) na rfl
    subst ex
    cases r1
    obtain ⟨its, r, pl, hz⟩ := I1.list hq
    refine set_of_list ns (I1.ok.hd hc) pl.isList (by simpa using intsAre_of r) (by unfold scanBound; omega) fun g tk c R hcl hk => PyProof.Rows.args_nil ?_
    have I2 : Inv X pins σ H1 { s1 with heap := g, toks := tk } := I1.kept fun b o e => hk b o e
    refine sorted_set R (I2.ok.hd hc) (by omega) fun s' p out c2 ms k g2 o hp hgt hi hs hm3 hl3 => ?_
    have e : ms = sortI (dstI ns) := by
      have nd : ms.Nodup := hs.imp fun {a b} q => by omega
      have pm : ms.Perm (dstI ns) := (List.perm_ext_iff_of_nodup nd (dst_nodup ns)).mpr fun k => by rw [hm3, decide_eq_true_eq, dst_mem]
      exact sorted_one (pm.trans (sortI_perm _).symm) (hs.imp fun {a b} q => by omega) (sortI_sorted _)
    subst e
    have hlen : ((sortI (dstI ns)).map V.int).length ≤ sizeLine := by
      rw [List.length_map, hl3, sizeLine_eq]; omega
    have hn : H1 p = none := I2.hok.fresh hp
    have J : Inv X pins σ (upd H1 p (.lst ((sortI (dstI ns)).map V.int))) { s1 with heap := s'.heap, gens := s'.gens, drawn := s'.drawn, toks := s'.toks } :=
      Inv.call (s := { s1 with heap := g, toks := tk }) (ch := []) I2 (Un.laid k hp hn) (I2.hok.laid k hp ⟨hlen, out.toList, c2, vals_of_ints hi, hgt⟩) (by rw [g2]; exact I2.bare) (fun _ z => nomatch z)
    have es : s' = { s1 with heap := s'.heap, gens := s'.gens, drawn := s'.drawn, toks := s'.toks } := by
      cases s'
      cases s1
      cases o
      rfl
    rw [es]
    exact ⟨.ref p, _, J, rfl, q1 p hn⟩
theorem e_sset {c : Bool} {a : E} {y : Expr} {p p2 q pos : Pos} (g : Gd Z Wx k X) (hg : globB (ccOf X) ("sorted" : Str) = true) (hg2 : globB (ccOf X) ("set" : Str) = true) (n : nStar y = true) (ha : PE X y (TVe Z Wx (evE a))) : PE X (.Call (.Name ("sorted" : Str) p) [.Call (.Name ("set" : Str) p2) [y] [] q] [] pos) (TVe Z Wx (evE (.sset c a))) :=
  (pe_ss (gl_of hg).1 (g.free _ (by decide +kernel)) (gl_of hg2).1 (g.free _ (by decide +kernel)) ha g.calm (star_of n)).imp fun σ H Q ⟨W, ls, h, lr, hr, t⟩ => step lr hr t fun x H1 W1 d h1 g1 lr1 hr1 rx t1 => by
    have t1 : TriD Z (Wx σ) Q W1 H1 (ssetD c d h1) := t1
    unfold ssetD at t1
    cases q : asL h1 d with
    | none => rw [q] at t1; exact t1.elim
    | some xs =>
      rw [q] at t1
      cases q2 : intsL xs with
      | none => simp only [Option.bind_some, q2] at t1; exact t1.elim
      | some ns =>
        simp only [Option.bind_some, q2] at t1
        obtain ⟨a, vs, e, sq, rs⟩ := asL_sq hr1 rx q
        rw [intsL_eq q2] at rs
        rw [RelDs.ints.mp rs] at sq
        by_cases hl : ns.length ≤ 60
        · rw [if_pos hl] at t1
          exact ⟨a, ns, e, by rw [g.hK]; exact sq, hl, fun p n => Tri.newL t1 hr1 (RelDs.ints.mpr rfl) n⟩
        · rw [if_neg hl] at t1; exact t1.elim
theorem mkB_ok {K : PySem.W.Frag} {C : Addr} (h : mkB K C = true) : PySem.W.excIn K C [.type "ValueError", .type "Exception", .type "BaseException", .type "object"] "ValueError.__new__" = true ∧ PySem.W.keepIn K (.ref C) = true ∧ PySem.W.findIn K (.ref C) "__str__" = some (some (.builtin "BaseException.__str__")) ∧ PySem.W.subIn K (.ref C) (.type "BaseException") = some true := by
  unfold mkB at h
  simp only [Bool.and_eq_true, decide_eq_true_eq] at h
  exact ⟨h.1.1.1, h.1.1.2, h.1.2, h.2⟩
/-- the text of an exception that was just made of a text -/
theorem pe_strx {C : Addr} {x : Str} {e : Expr} {ta : TE} {p p2 q pos : Pos} (hg : Gl X "str") (hm : X.mg "str" = none) (mk : mkB X.K C = true) (gC : X.mg x = some (.ref C)) (hgx : Gl X x) (hdb : (x == ("__debug__" : Str)) = false) (he : PE X e ta) (hu : X.A.units + 64 < cLine) (hs : starEach [e] X.env = (false, eval e X.env) :: starEach [] X.env) :
    PE X (.Call (.Name "str" p) [.Call (.Name x p2) [e] [] q] [] pos) (fun σ H Q => ta σ H fun v H1 => ∃ m, v = .str m ∧ Q (.str m) H1) where
  run := by
    intro pins s σ H Q I h
    obtain ⟨qx, kC, fS, sB⟩ := mkB_ok mk
    refine Call_ (ld_blt I hg hm PyProof.Rows.boot_str ?_)
    refine PyProof.Rows.callWith_type1 (PyProof.Rows.args_cons ?_ rfl) rfl rfl
    refine wpAny_Call_Name_kw (ld_glob I hgx gC ?_ hdb)
    refine PySem.W.callWith_K (h₀ := X.base) I.ok.mod.kin kC ?_ hs (by rfl)
    rw [hs]
    show wpAny _ _ (spliced ((false, eval e X.env) :: backTo q (starEach [] X.env))) _ _ s
    refine Calls.spliced_cons (thn (he.run pins s σ H _ I h) fun u s1 ⟨v, H1, I1, r1, m, em, q1⟩ => ?_)
    subst em
    obtain ⟨tk, rfl⟩ := r1
    refine Calls.spliced_nil ⟨I1.kIn, ?_⟩
    show wpAny _ _ (call (.ref C) [.str m tk]) _ _ _
    obtain ⟨bm, N, nm, qn, bs, hdct, sn, sub, ab, col, dd, k0, k1, k2, k3, k5, mN, hC, hN, hni, T⟩ := exc_obj I1.kIn qx
    refine wpAny_call_exc_subT PySem.F.excBase_ValueError T hC hN hni (fun h' a hmd => ?_) (by show 1 ≤ sizeLine; rw [sizeLine_eq]; omega)
    obtain ⟨t, ht, _, ht2⟩ := hmd.there
    have I2 : Inv X pins σ H1 { s1 with heap := h' } := I1.kept fun b o e => hmd.keeps b o e
    refine PyProof.Rows.args_nil ?_
    refine PySem.P.str_of_C_one (K := X.K) (C := C) (e := a) (t0 := t) (by omega) ⟨I2.kIn, _, _, ht, rfl, rfl, rfl⟩ ⟨_, _, ht2, rfl, rfl⟩ fS sB ?_
    exact ⟨.str m, H1, I2, ⟨_, rfl⟩, q1⟩
theorem e_strx {a : E} {n : Str} {y : Expr} {p p2 q pos : Pos} (g : Gd Z Wx k X) (hg : globB (ccOf X) ("str" : Str) = true) (hg2 : globB (ccOf X) n = true) (hn : nStar y = true) (A : GloA Z X n (.cls n)) (ha : PE X y (TVe Z Wx (evE a))) : PE X (.Call (.Name ("str" : Str) p) [.Call (.Name n p2) [y] [] q] [] pos) (TVe Z Wx (evE (.strx n a))) := by
  obtain ⟨u, v, m1, r1, rd⟩ := A
  obtain ⟨C, e1, _, _, mk⟩ := rd ⟨[], fun _ => False⟩ (fun _ => none)
  subst e1
  cases r1
  refine (pe_strx (gl_of hg).1 (g.free _ (by decide +kernel)) (by rw [g.hK]; exact mk) m1 (gl_of hg2).1 (gl_of hg2).2 ha (by have := g.units; omega) (star_of hn)).imp fun σ H Q ⟨W, ls, h, lr, hr, t⟩ => step lr hr t fun x H1 W1 d h1 g1 lr1 hr1 rx t1 => by
    have t1 : TriD Z (Wx σ) Q W1 H1 (strxD d h1) := t1
    cases d with
    | str s => exact ⟨s, rx, t1.now hr1 rfl⟩
    | _ => exact t1.elim
theorem rel_rg {W H} (a b : Int) : RelDs Z W H (rngL a 1 (b - a).toNat) (rgV a b) := by
  have go : ∀ (n : Nat) (a : Int), RelDs Z W H (rngL a 1 n) ((List.range n).map fun (i : Nat) => V.int (a + i)) := by
    intro n
    induction n with
    | zero => intro a; rfl
    | succ n ih =>
      intro a
      rw [List.range_succ_eq_map]
      refine ⟨V.int a, (List.range n).map fun (i : Nat) => V.int (a + 1 + i), ?_, rfl, ih (a + 1)⟩
      rw [List.map_cons, List.map_map]
      congr 1
      · simp
      · apply List.map_congr_left
        intro i _
        show V.int (a + ((i + 1 : Nat) : Int)) = V.int _
        congr 1
        omega
  exact go _ _
theorem e_lrg {c : Bool} {a b : E} {y z : Expr} {p p2 q pos : Pos} (g : Gd Z Wx k X) (hg : globB (ccOf X) ("list" : Str) = true) (hg2 : globB (ccOf X) ("range" : Str) = true) (n : nStar y = true) (n2 : nStar z = true) (ha : PE X y (TVe Z Wx (evE a))) (hb : PE X z (TVe Z Wx (evE b))) :
    PE X (.Call (.Name ("list" : Str) p) [.Call (.Name ("range" : Str) p2) [y, z] [] q] [] pos) (TVe Z Wx (evE (.lrg c a b))) :=
  (pe_listRg g.calm (gl_of hg).1 (g.free _ (by decide +kernel)) (prg_2 (gl_of hg2).1 (g.free _ (by decide +kernel)) ha hb (star_of n) (star_of n2) (star_all (by simp [n2]))) rfl).imp fun σ H Q ⟨W, ls, h, lr, hr, t⟩ => step lr hr t fun x H1 W1 d h1 g1 lr1 hr1 rx t1 => step lr1 hr1 t1 fun y H2 W2 d2 h2 g2 lr2 hr2 ry t2 => by
    have t2 : TriD Z (Wx σ) Q W2 H2 (lrgD c d d2 h2) := t2
    cases d with
    | int i =>
      cases d2 with
      | int j =>
        have t2 : TriD Z (Wx σ) Q W2 H2 (if smallR i = true ∧ smallR j = true ∧ (j - i).toNat ≤ LIM then mkL c (rngL i 1 (j - i).toNat) h2 else .bad) := t2
        by_cases hs : smallR i = true ∧ smallR j = true ∧ (j - i).toNat ≤ LIM
        · rw [if_pos hs] at t2
          have s1 : -1000000000000 ≤ i ∧ i ≤ 1000000000000 := by have := Nat.le_of_ble_eq_true hs.1; omega
          have s2 : -1000000000000 ≤ j ∧ j ≤ 1000000000000 := by have := Nat.le_of_ble_eq_true hs.2.1; omega
          have s3 : (j - i).toNat ≤ 1000000 := hs.2.2
          exact ⟨i, j, rx, ry, ⟨by omega, by omega, by omega, by omega, by omega⟩, fun p n => Tri.newL t2 hr2 (rel_rg i j) n⟩
        · rw [if_neg hs] at t2; exact t2.elim
      | _ => exact t2.elim
    | _ => cases d2 <;> exact t2.elim
theorem e_lrg1 {c : Bool} {b : E} {z : Expr} {p p2 q pos : Pos} (g : Gd Z Wx k X) (hg : globB (ccOf X) ("list" : Str) = true) (hg2 : globB (ccOf X) ("range" : Str) = true) (n2 : nStar z = true) (hb : PE X z (TVe Z Wx (evE b))) :
    PE X (.Call (.Name ("list" : Str) p) [.Call (.Name ("range" : Str) p2) [z] [] q] [] pos) (TVe Z Wx (evE (.lrg c (.int 0) b))) :=
  (pe_listRg g.calm (gl_of hg).1 (g.free _ (by decide +kernel)) (prg_1 (gl_of hg2).1 (g.free _ (by decide +kernel)) hb (star_of n2)) rfl).imp fun σ H Q ⟨W, ls, h, lr, hr, t⟩ => step (f := evE b) (g := fun y h2 => lrgD c (.int 0) y h2) lr hr t fun y H2 W2 d2 h2 g2 lr2 hr2 ry t2 => by
    have t2 : TriD Z (Wx σ) Q W2 H2 (lrgD c (.int 0) d2 h2) := t2
    cases d2 with
    | int j =>
      have t2 : TriD Z (Wx σ) Q W2 H2 (if smallR 0 = true ∧ smallR j = true ∧ (j - 0).toNat ≤ LIM then mkL c (rngL 0 1 (j - 0).toNat) h2 else .bad) := t2
      by_cases hs : smallR 0 = true ∧ smallR j = true ∧ (j - 0).toNat ≤ LIM
      · rw [if_pos hs] at t2
        have s2 : -1000000000000 ≤ j ∧ j ≤ 1000000000000 := by have := Nat.le_of_ble_eq_true hs.2.1; omega
        have s3 : (j - 0).toNat ≤ 1000000 := hs.2.2
        exact ⟨j, ry, ⟨by omega, by omega, by omega, by omega, by omega⟩, fun p n => Tri.newL t2 hr2 (rel_rg 0 j) n⟩
      · rw [if_neg hs] at t2; exact t2.elim
    | _ => exact t2.elim
/-! ### targets -/
theorem LRel.put {W H} {ls : Ls} {σ : L2.St} {i : Nat} {d : D} {v : V} (lr : LRel Z W H ls σ) (r : RelD Z W H d v) : LRel Z W H (ls.set i (some d)) (σ.set i (some v)) := by
  refine ⟨by simp [lr.1], fun j e q => ?_⟩
  by_cases hj : i = j
  · subst hj
    have hi : i < ls.length := by
      have := (List.getElem?_eq_some_iff.mp q).1
      simpa using this
    rw [List.getElem?_set_self hi] at q
    cases q
    exact ⟨v, by rw [List.getElem?_set_self (by rw [← lr.1]; exact hi)], r⟩
  · rw [List.getElem?_set_ne hj] at q
    obtain ⟨w, e1, r1⟩ := lr.2 j e q
    exact ⟨w, by rw [List.getElem?_set_ne hj]; exact e1, r1⟩
/-- a target stores -/
def TGv (Z : Zn) (tg : Tg) : TG := fun v σ H Q => ∃ W d ls l2, LRel Z W H ls σ ∧ RelD Z W H d v ∧ asgT tg d ls = some l2 ∧ ∀ σ2, LRel Z W H l2 σ2 → (∀ own : List Nat, tg.inB own = true → wipe σ2 own = wipe σ own) → Q σ2 H
theorem wipe_set {σ : L2.St} {i : Nat} {v : Option V} : ∀ {own : List Nat}, own.contains i = true → wipe (σ.set i v) own = wipe σ own
  | [], h => by simp at h
  | j :: own, h => by
    unfold wipe
    by_cases hj : i = j
    · subst hj
      by_cases ho : own.contains i = true
      · rw [wipe_set ho]
      · have : ∀ own : List Nat, (wipe (σ.set i v) own).set i none = (wipe σ own).set i none := by
          intro own
          induction own with
          | nil => simp [wipe]
          | cons j own ih =>
            unfold wipe
            by_cases hj : j = i
            · subst hj; simp only [List.set_set]; exact ih
            · rw [List.set_comm _ _ hj, ih, List.set_comm _ _ (Ne.symm hj)]
        exact this own
    · have ho : own.contains i = true := by
        simp only [List.contains_cons, Bool.or_eq_true, beq_iff_eq] at h
        rcases h with h | h
        · exact absurd h hj
        · exact h
      rw [wipe_set ho]
theorem PG_imp {e : Expr} {t t' : TG} (h : PG X e t) (i : ∀ v σ H Q, t' v σ H Q → t v σ H Q) : PG X e t' := ⟨fun pins s σ H v u Q I r q => h.run pins s σ H v u Q I r (i v σ H Q q)⟩
theorem PGs_imp {e : List Expr} {t t' : TGs} (h : PGs X e t) (i : ∀ v σ H Q, t' v σ H Q → t v σ H Q) : PGs X e t' := ⟨fun pins s σ H v u Q I r q => h.run pins s σ H v u Q I r (i v σ H Q q)⟩
def TGsv (Z : Zn) (is : List Nat) : TGs := fun vs σ H Q => ∃ W ds ls l2, LRel Z W H ls σ ∧ RelDs Z W H ds vs ∧ setNs is ds ls = some l2 ∧ ∀ σ2, LRel Z W H l2 σ2 → (∀ own : List Nat, (is.all fun k => own.contains k) = true → wipe σ2 own = wipe σ own) → Q σ2 H
theorem g_list (hN : X.N.Nodup) : ∀ {is : List Nat} {es : List Expr}, okTg1 (ccOf X) is es = true → PGs X es (TGsv Z is) ∧ es.length = is.length ∧ (es.all fun e => match e with | .Name _ _ => true | _ => false) = true
  | [], [], _ => by
    refine ⟨PGs_imp pgs_nil fun vs σ H Q ⟨W, ds, ls, l2, lr, r, e, k⟩ => ?_, rfl, rfl⟩
    cases ds with
    | nil =>
      have r : vs = [] := r
      cases e
      exact ⟨r, k σ lr fun _ _ => rfl⟩
    | cons d ds => cases e
  | [], _ :: _, h => by simp [okTg1] at h
  | i :: is, [], h => by simp [okTg1] at h
  | i :: is, e :: es, h => by
    cases e <;> simp only [okTg1, Bool.false_eq_true, Bool.and_eq_true] at h
    obtain ⟨h1, h2⟩ := h
    obtain ⟨p1, p2, p3⟩ := put_of h1
    obtain ⟨q1, q2, q3⟩ := g_list hN h2
    refine ⟨PGs_imp (pgs_cons (pg_name hN p1 p2 p3) q1) fun vs σ H Q ⟨W, ds, ls, l2, lr, r, e, k⟩ => ?_, by simp [q2], by simp [q3]⟩
    cases ds with
    | nil => cases e
    | cons d ds =>
      obtain ⟨v, rest, e1, rv, rr⟩ := r
      refine ⟨v, rest, e1, ?_⟩
      unfold setNs setN at e
      by_cases hi : i < ls.length
      · simp only [hi, if_true, Option.bind_some] at e
        refine ⟨W, ds, ls.set i (some d), l2, lr.put rv, rr, e, fun σ2 l kk => k σ2 l fun own ho => ?_⟩
        simp only [List.all_cons, Bool.and_eq_true] at ho
        rw [kk own ho.2, wipe_set ho.1]
      · simp only [hi, if_false] at e
        cases e
theorem names_each {env : Env} : ∀ {es : List Expr}, (es.all fun e => match e with | .Name _ _ => true | _ => false) = true → (assignEach es env).length = es.length ∧ (assignEach es env).findIdx? (·.1) = none
  | [], _ => ⟨rfl, rfl⟩
  | e :: es, h => by
    cases e <;> simp only [List.all_cons, Bool.false_and, Bool.true_and, Bool.false_eq_true] at h
    obtain ⟨h1, h2⟩ := names_each (env := env) h
    rename_i x p
    have q : assignEach (.Name x p :: es) env = (false, assign (.Name x p) env) :: assignEach es env := rfl
    refine ⟨by rw [q, List.length_cons, List.length_cons, h1], ?_⟩
    rw [q, List.findIdx?_cons, h2]
    rfl
theorem g_tg (hK : X.K = Z.K) (hc : X.calm = true) (hN : X.N.Nodup) {tg : Tg} {e : Expr} (h : okTg (ccOf X) tg e = true) : PG X e (TGv Z tg) := by
  cases tg with
  | nm i =>
    cases e <;> simp only [okTg, Bool.false_eq_true] at h
    obtain ⟨p1, p2, p3⟩ := put_of h
    refine PG_imp (pg_name hN p1 p2 p3) fun v σ H Q ⟨W, d, ls, l2, lr, r, e, k⟩ => ?_
    unfold asgT setN at e
    by_cases hi : i < ls.length
    · simp only [hi, if_true, Option.some.injEq] at e
      subst e
      exact k _ (lr.put r) fun own ho => wipe_set ho
    · simp [hi] at e
  | tp is =>
    cases e <;> simp only [okTg, Bool.false_eq_true] at h
    rename_i es kk pos
    obtain ⟨q1, q2, q3⟩ := g_list (Z := Z) hN h
    obtain ⟨n1, n2⟩ := names_each (env := X.env) q3
    have both : PG X (.Tuple es kk pos) (fun v σ H Q => gTup X.K es.length (TGsv Z is) v σ H Q ∨ gLst X.K es.length (TGsv Z is) v σ H Q) := ⟨fun pins s σ H v u Q I r hw => by
      rcases hw with h | h
      · exact (pg_tup hc q1 n1 n2).run pins s σ H v u Q I r h
      · exact (pg_lst hc q1 n1 n2).run pins s σ H v u Q I r h⟩
    refine PG_imp both fun v σ H Q ⟨W, d, ls, l2, lr, r, e, k⟩ => ?_
    unfold asgT at e
    have go : ∀ (is : List Nat) (ds : List D) (ls l2 : Ls), setNs is ds ls = some l2 → ds.length = is.length := by
      intro is
      induction is with
      | nil => intro ds ls l2 e; cases ds with
        | nil => rfl
        | cons d ds => cases e
      | cons i is ih => intro ds ls l2 e; cases ds with
        | nil => cases e
        | cons d ds =>
          unfold setNs at e
          cases q : setN i d ls with
          | none => rw [q] at e; cases e
          | some l1 => rw [q] at e; simp [ih ds l1 l2 e]
    cases d with
    | tup ds =>
      obtain ⟨a, vs, e1, f, rr⟩ := r
      have hl := go is ds ls l2 e
      exact .inl ⟨a, vs, e1, hK ▸ f.sq, by rw [← rr.length, hl, q2], W, ds, ls, l2, lr, rr, e, k⟩
    | lst ds =>
      obtain ⟨a, vs, e1, f, rr⟩ := r
      have hl := go is ds ls l2 e
      exact .inr ⟨a, vs, e1, f.sq, by rw [← rr.length, hl, q2], W, ds, ls, l2, lr, rr, e, k⟩
    | _ => cases e
/-! dicts that change -/
theorem keyD_rel {d : D} {k : Key} {v : V} {W H} (e : keyD d = some k) (r : RelD Z W H d v) : v = kV k := by
  cases d with
  | int i => cases e; exact r
  | str x => cases e; exact r
  | _ => cases e
theorem keyV_rel {k : Key} {W H} : RelD Z W H (keyV k) (kV k) := by cases k <;> rfl
theorem valD_rel {W H} {kd : Key} : ∀ {kvs : List (Key × D)} {vs : List (Key × V)}, RelKs Z W H kvs vs → (∀ d, valD kvs kd = some d → ∃ v, valV vs kd = some v ∧ RelD Z W H d v) ∧ (valV vs kd).isSome = (valD kvs kd).isSome
  | [], _, r => by rw [show _ = [] from r]; exact ⟨fun d e => (by cases e), rfl⟩
  | (a, d) :: ds, _, ⟨v, q, e, h1, h2⟩ => by
    subst e
    obtain ⟨i1, i2⟩ := valD_rel (kd := kd) h2
    by_cases z : a = kd
    · subst z
      have e1 : valD ((a, d) :: ds) a = some d := by simp [valD]
      have e2 : valV ((a, v) :: q) a = some v := by simp [valV]
      rw [e1, e2]
      exact ⟨fun x e => by cases e; exact ⟨v, rfl, h1⟩, rfl⟩
    · have e1 : valD ((a, d) :: ds) kd = valD ds kd := by simp [valD, z]
      have e2 : valV ((a, v) :: q) kd = valV q kd := by simp [valV, z]
      rw [e1, e2]
      exact ⟨i1, i2⟩
theorem relK_map {W H} {kd : Key} {d : D} {v : V} (rd : RelD Z W H d v) : ∀ {kvs : List (Key × D)} {vs : List (Key × V)}, RelKs Z W H kvs vs → RelKs Z W H (kvs.map fun p => if p.1 = kd then (p.1, d) else p) (vs.map fun p => if p.1 = kd then (p.1, v) else p)
  | [], _, r => by rw [show _ = [] from r]; rfl
  | (a, e) :: ds, _, ⟨u, q, e1, h1, h2⟩ => by
    subst e1
    rw [List.map_cons, List.map_cons]
    by_cases z : a = kd
    · simp only [z, if_true]; exact ⟨_, _, rfl, rd, relK_map rd h2⟩
    · simp only [z, if_false]; exact ⟨_, _, rfl, h1, relK_map rd h2⟩
theorem relK_snoc {W H} {kd : Key} {d : D} {v : V} (rd : RelD Z W H d v) : ∀ {kvs : List (Key × D)} {vs : List (Key × V)}, RelKs Z W H kvs vs → RelKs Z W H (kvs ++ [(kd, d)]) (vs ++ [(kd, v)])
  | [], _, r => by rw [show _ = [] from r]; exact ⟨_, _, rfl, rd, rfl⟩
  | (a, e) :: ds, _, ⟨u, q, e1, h1, h2⟩ => by
    subst e1
    exact ⟨_, _, rfl, h1, relK_snoc rd h2⟩
theorem relK_an {W H} {kd : Key} : ∀ {kvs : List (Key × D)} {vs : List (Key × V)}, RelKs Z W H kvs vs → (vs.any fun p => decide (p.1 = kd)) = (kvs.any fun p => decide (p.1 = kd))
  | [], _, r => by rw [show _ = [] from r]; rfl
  | (a, e) :: ds, _, ⟨u, q, e1, h1, h2⟩ => by
    subst e1
    rw [List.any_cons, List.any_cons, relK_an h2]
theorem relK_len {W H} : ∀ {kvs : List (Key × D)} {vs : List (Key × V)}, RelKs Z W H kvs vs → kvs.length = vs.length
  | [], _, r => by rw [show _ = [] from r]; rfl
  | (a, e) :: ds, _, ⟨u, q, e1, h1, h2⟩ => by subst e1; simp [relK_len h2]
theorem relK_keys {W H} : ∀ {kvs : List (Key × D)} {vs : List (Key × V)}, RelKs Z W H kvs vs → RelDs Z W H (kvs.map fun p => keyV p.1) (vs.map fun p => kV p.1)
  | [], _, r => by rw [show _ = [] from r]; rfl
  | (a, e) :: ds, _, ⟨u, q, e1, h1, h2⟩ => by subst e1; exact ⟨_, _, rfl, keyV_rel, relK_keys h2⟩
theorem putD_rel {W H} {kd : Key} {d : D} {v : V} {kvs : List (Key × D)} {vs : List (Key × V)} (rd : RelD Z W H d v) (r : RelKs Z W H kvs vs) : RelKs Z W H (putD kvs kd d) (putK vs kd v) := by
  unfold putD putK
  rw [relK_an r]
  by_cases z : (kvs.any fun p => decide (p.1 = kd)) = true
  · rw [if_pos z, if_pos z]; exact relK_map rd r
  · rw [if_neg z, if_neg z]; exact relK_snoc rd r
theorem rowsD_rel {W H} : ∀ (kvs : List (Int × List Int)) {vs : List (Key × V)}, RelRs W H kvs vs → RelKs Z W H (rowsD kvs) vs
  | [], _, h => h
  | (k, ns) :: r, _, ⟨b, q, e, f, h⟩ => ⟨.ref b, q, e, ⟨b, _, rfl, f, RelDs.ints.mpr rfl⟩, rowsD_rel r h⟩
theorem dictR_rel {W H} {h : Hh} {d : D} {v : V} {kvs : List (Key × D)} (hr : HRel Z W H h) (r : RelD Z W H d v) (e : dictO h d = some kvs) : ∃ a vs, v = .ref a ∧ L2.Rd H a (.dK vs) ∧ RelKs Z W H kvs vs ∧ (d.isKd = false → H a = some (.dK vs)) := by
  cases d with
  | dic x =>
    cases e
    obtain ⟨a, vs, e1, f, _, _, r1⟩ := r
    exact ⟨a, vs, e1, .inl f, r1, fun _ => f⟩
  | kd x =>
    cases e
    obtain ⟨a, vs, e1, f, _, _, r1⟩ := r
    exact ⟨a, vs, e1, f, rowsD_rel x r1, fun z => by cases z⟩
  | cel i =>
    obtain ⟨a, e1, f⟩ := r
    have e : dctO h[i]? = some kvs := e
    cases q : h[i]? with
    | none => rw [q] at e; cases e
    | some o =>
      rw [q] at e
      cases o with
      | dct x =>
        cases e
        obtain ⟨vs, e2, r2⟩ := hr.obj i a _ f q
        exact ⟨a, vs, e1, .inl e2, r2, fun _ => e2⟩
      | lst x => cases e
      | ins c x => cases e
  | _ => cases e
theorem dget_at {H : Hp} {a : Addr} {kvs : List (Key × V)} {k : Key} (e : L2.Rd H a (.dK kvs)) : DGet H a (kV k) (valV kvs k) := .inl ⟨kvs, k, e, rfl, rfl⟩
theorem e_dnew {pos : Pos} : PE X (.Dict [] [] pos) (TVe Z Wx (evE .dnew)) :=
  pe_dnewK.imp fun σ H Q ⟨W, ls, h, lr, hr, t⟩ p n => t (.ref p) (W.add p) (upd H p (.dK [])) (Gr.cell hr n) (hr.cell n ⟨[], upd_same, rfl⟩) ⟨p, rfl, by
    show (W.rho ++ [p])[h.length]? = some p
    rw [← hr.len, List.getElem?_append_right (Nat.le_refl _)]; simp⟩
theorem e_dget {a i : E} {l r : Expr} {pos : Pos} (g : Gd Z Wx k X) (ha : PE X l (TVe Z Wx (evE a))) (hb : PE X r (TVe Z Wx (evE i))) (n : nSlc r = true) : PE X (.Subscript l r pos) (TVe Z Wx (evE (.dget a i))) :=
  (pe_dget (by have := g.units; omega) ha hb (fun _ _ => by cases r <;> first | rfl | cases n)).imp fun σ H Q ⟨W, ls, h, lr, hr, t⟩ =>
    step lr hr t fun x H1 W1 d h1 g1 lr1 hr1 rx t1 => step lr1 hr1 t1 fun y H2 W2 d2 h2 g2 lr2 hr2 ry t2 => by
      have t2 : TriD Z (Wx σ) Q W2 H2 (dgetK (dictO h2 d) (keyD d2) h2) := t2
      cases q1 : dictO h2 d with
      | none => rw [q1] at t2; exact t2.elim
      | some kvs =>
        cases q2 : keyD d2 with
        | none => rw [q1, q2] at t2; exact t2.elim
        | some kd =>
          rw [q1, q2] at t2
          have t2 : TriD Z (Wx σ) Q W2 H2 (optD (valD kvs kd) h2) := t2
          cases q3 : valD kvs kd with
          | none => rw [q3] at t2; exact t2.elim
          | some dv =>
            rw [q3] at t2
            obtain ⟨a, vs, e1, f, r1, _⟩ := dictR_rel hr2 (rx.mono g2) q1
            obtain ⟨v, e2, rv⟩ := (valD_rel (kd := kd) r1).1 dv q3
            have ek := keyD_rel q2 ry
            subst ek
            refine ⟨a, v, e1, ?_, t2.now hr2 rv⟩
            rw [← e2]
            exact dget_at f
theorem dhas_core {n : Bool} {Q : VK} {σ : L2.St} {W2 H2 h2} {d d2 : D} {x y : V} (hr2 : HRel Z W2 H2 h2) (rx : RelD Z W2 H2 d x) (ry : RelD Z W2 H2 d2 y) (t2 : TriD Z (Wx σ) Q W2 H2 (dhasD n d2 d h2)) : ∃ a o, x = .ref a ∧ DGet H2 a y o ∧ Q (.bl (if n then !o.isSome else o.isSome)) H2 := by
  have t2 : TriD Z (Wx σ) Q W2 H2 (dhasK n (dictO h2 d) (keyD d2) h2) := t2
  cases q1 : dictO h2 d with
  | none => rw [q1] at t2; exact t2.elim
  | some kvs =>
    cases q2 : keyD d2 with
    | none => rw [q1, q2] at t2; exact t2.elim
    | some kd =>
      rw [q1, q2] at t2
      have t2 : TriD Z (Wx σ) Q W2 H2 (.ok (.bl (if n then !(valD kvs kd).isSome else (valD kvs kd).isSome)) h2) := t2
      obtain ⟨a, vs, e1, f, r1, _⟩ := dictR_rel hr2 rx q1
      have ek := keyD_rel q2 ry
      subst ek
      refine ⟨a, _, e1, dget_at f, ?_⟩
      rw [(valD_rel (kd := kd) r1).2]
      exact t2.now hr2 rfl
theorem e_dhas {n : Bool} {a i : E} {l r : Expr} {pos : Pos} (g : Gd Z Wx k X) (hb : PE X l (TVe Z Wx (evE i))) (ha : PE X r (TVe Z Wx (evE a))) (hm : nSet r = true) : PE X (.Compare l [if n then .NotIn else .In] [r] pos) (TVe Z Wx (evE (.dhas n i a))) := by
  cases n with
  | false =>
    exact (pe_cmp (pc_din (by have := g.units; omega) hb ha) (marks_of hm)).imp fun σ H Q ⟨W, ls, h, lr, hr, t⟩ =>
      step lr hr t fun y H1 W1 d2 h1 g1 lr1 hr1 ry t1 => step lr1 hr1 t1 fun x H2 W2 d h2 g2 lr2 hr2 rx t2 => dhas_core (n := false) hr2 rx (ry.mono g2) t2
  | true =>
    exact (pe_cmp (pc_dnotin (by have := g.units; omega) hb ha) (marks_of hm)).imp fun σ H Q ⟨W, ls, h, lr, hr, t⟩ =>
      step lr hr t fun y H1 W1 d2 h1 g1 lr1 hr1 ry t1 => step lr1 hr1 t1 fun x H2 W2 d h2 g2 lr2 hr2 rx t2 => dhas_core (n := true) hr2 rx (ry.mono g2) t2
theorem t_dhas {n : Bool} {a i : E} {l r : Expr} {pos : Pos} (g : Gd Z Wx k X) (hb : PE X l (TVe Z Wx (evE i))) (ha : PE X r (TVe Z Wx (evE a))) (hm : nSet r = true) : PT X (.Compare l [if n then .NotIn else .In] [r] pos) (TVt Z Wx (evT (.dhas n i a))) := by
  cases n with
  | false =>
    refine (pt_cmp (pc_din (by have := g.units; omega) hb ha) (marks_of hm)).imp fun σ H Q t => ?_
    obtain ⟨W, ls, h, lr, hr, t⟩ := tv_test t
    exact step lr hr t fun y H1 W1 d2 h1 g1 lr1 hr1 ry t1 => step lr1 hr1 t1 fun x H2 W2 d h2 g2 lr2 hr2 rx t2 => dhas_core (n := false) hr2 rx (ry.mono g2) t2
  | true =>
    refine (pt_cmp (pc_dnotin (by have := g.units; omega) hb ha) (marks_of hm)).imp fun σ H Q t => ?_
    obtain ⟨W, ls, h, lr, hr, t⟩ := tv_test t
    exact step lr hr t fun y H1 W1 d2 h1 g1 lr1 hr1 ry t1 => step lr1 hr1 t1 fun x H2 W2 d h2 g2 lr2 hr2 rx t2 => dhas_core (n := true) hr2 rx (ry.mono g2) t2
/-! dict(enumerate(xs)) -/
theorem enuKs_len {α : Type} : ∀ (n : Nat) (xs : List α), (enuKs n xs).length = xs.length
  | _, [] => rfl
  | n, x :: r => by show _ + 1 = _ + 1; rw [enuKs_len (n + 1) r]
theorem enuKs_get {α : Type} : ∀ (n : Nat) (xs : List α) (i : Nat) (x : α), xs[i]? = some x → (enuKs n xs)[i]? = some (.inl ((n + i : Nat) : Int), x)
  | _, [], i, x, e => by simp at e
  | n, y :: r, 0, x, e => by
    have e : y = x := by simpa using e
    subst e; rfl
  | n, y :: r, i + 1, x, e => by
    have e : r[i]? = some x := by simpa using e
    have h := enuKs_get (n + 1) r i x e
    show (enuKs (n + 1) r)[i]? = _
    rw [h, show n + 1 + i = n + (i + 1) by omega]
theorem enuKs_keys {α : Type} : ∀ (n : Nat) (xs : List α), ∀ k ∈ (enuKs n xs).map (·.1), ∃ m : Nat, n ≤ m ∧ k = (.inl (m : Int) : Key)
  | _, [], k, h => by simp [enuKs] at h
  | n, x :: r, k, h => by
    rcases List.mem_cons.mp (show k ∈ (Sum.inl (n : Int) : Key) :: (enuKs (n + 1) r).map (·.1) from h) with q | q
    · exact ⟨n, Nat.le_refl _, q⟩
    · obtain ⟨m, h1, h2⟩ := enuKs_keys (n + 1) r k q
      exact ⟨m, by omega, h2⟩
theorem enuKs_nodup {α : Type} : ∀ (n : Nat) (xs : List α), ((enuKs n xs).map (·.1)).Nodup
  | _, [] => List.nodup_nil
  | n, x :: r => by
    refine List.nodup_cons.mpr ⟨fun h => ?_, enuKs_nodup (n + 1) r⟩
    obtain ⟨m, h1, h2⟩ := enuKs_keys (n + 1) r _ h
    injection h2 with h2
    omega
theorem enuKs_kv : ∀ (n : Nat) {xs : List V} {us : List Value}, Vals xs us → KV (enuKs n xs) (enuKs n us)
  | _, [], _, .nil => .nil
  | n, x :: r, _, .cons h t => .cons ⟨rfl, h⟩ (enuKs_kv (n + 1) t)
def tDEn (K : PySem.W.Frag) (ta : TE) : TE := fun σ H Q => ta σ H fun v H1 => ∃ a xs, v = .ref a ∧ SqL K H1 a xs ∧ ∀ p, H1 p = none → Q (.ref p) (upd H1 p (.dK (enuKs 0 xs)))
theorem pe_den {X : Cx} {a : Expr} {ta : TE} {p p2 q pos : Pos} (hg : Gl X "dict") (hm : X.mg "dict" = none) (hg2 : Gl X "enumerate") (hm2 : X.mg "enumerate" = none) (ha : PE X a ta) (hc : X.calm = true) (na : starEach [a] X.env = (false, eval a X.env) :: starEach [] X.env) :
    PE X (.Call (.Name "dict" p) [.Call (.Name "enumerate" p2) [a] [] q] [] pos) (tDEn X.K ta) where
  run := by
    intro pins s σ H Q I h
    refine Call_ (ld_blt I hg hm boot_dict (PyProof.Rows.callWith_type1 (PyProof.Rows.args_cons (Call_ (ld_blt I hg2 hm2 boot_enumerate ?_)) rfl) rfl rfl))
    refine PyProof.Rows.callWith_type1 (PyProof.Rows.args_cons (thn (ha.run pins s σ H _ I h) fun v s1 ⟨x, H1, I1, r1, l, xs, ex, hq, q1⟩ => PyProof.Rows.args_nil ?_) na) na rfl
    subst ex
    cases r1
    obtain ⟨its, rv, pl, hz⟩ := I1.list hq
    have hsz : its.toArray.size = its.length := List.size_toArray
    have hli : l < s1.heap.objs.size := by obtain ⟨_, e, _⟩ := pl.isList; exact Heap.lt_size e
    refine call_enumerate_list pl.isList fun h' he hit hs2 hk => PyProof.Rows.args_nil ?_
    have I2 : Inv X pins σ H1 { s1 with heap := h' } := I1.kept (t' := s1.toks) hk
    have hlen := rv.length
    refine PySem.call_dict_pairs (s := { s1 with heap := h' }) (knd := mixKind X.prog X.w) (kvs := enuKs 0 its) (PairArg.enumerate (s1.heap.objs.size + 1) s1.heap.objs.size l (Nat.succ_ne_self _) (Nat.ne_of_lt (Nat.lt_succ_of_lt hli)) (Nat.ne_of_lt hli) its.toArray)
      (I1.ok.hd hc) ⟨⟨.none, he⟩, hit, pl.isList.at fun o e => hk _ o e⟩ ⟨by rw [enuKs_len, hsz], fun i key v hr => ?_⟩ (by rw [hsz, ← hlen]; exact hz) fun h2 tk hd hk2 => ?_
    · obtain ⟨⟨t, rfl⟩, hv⟩ := hr
      refine ⟨_, enuKs_get 0 its i v (by simpa using hv), ?_⟩
      rw [Nat.zero_add]
      exact mixKind_int X.prog X.w i t
    · have hsm : ((h' : Heap).objs.size == sysModules) = false := beq_eq_false_iff_ne.mpr (Nat.ne_of_gt I2.big)
      have fp : ∀ b ∈ [s1.heap.objs.size + 1, s1.heap.objs.size], FpOk X pins H1 b := fun b hb => by
        have e' : b = s1.heap.objs.size + 1 ∨ b = s1.heap.objs.size := by simpa using hb
        have hle : s1.heap.objs.size ≤ b := by
          rcases e' with z | z
          · rw [z]; exact Nat.le_add_right _ _
          · rw [z]; exact Nat.le_refl _
        exact I1.fpOk hle (I1.hok.fresh hle)
      have rel : KV (enuKs 0 xs) (merged [] (enuKs 0 its)) := by
        have r := KV.merge (enuKs_kv 0 rv) (show KV ([] : List (Key × V)) [] from .nil)
        rw [mergeK_nodup (enuKs 0 xs) [] (by rw [List.nil_append]; exact enuKs_nodup 0 xs), List.nil_append] at r
        exact r
      have new : ObjOk X.prog X.w (upd H1 h'.objs.size (.dK (enuKs 0 xs))) h2 h'.objs.size (.dK (enuKs 0 xs)) :=
        dk_new (by rw [enuKs_len]; exact hz) hsm rel hd
      exact ⟨.ref h'.objs.size, _, I2.turnedNew (t' := tk) hk2 fp (Nat.le_refl _) new, rfl, q1 _ (I2.hok.fresh (Nat.le_refl _))⟩
theorem relK_enu {Z : Zn} {W : Wd} {H : Hp} : ∀ (n : Nat) {ds : List D} {vs : List V}, RelDs Z W H ds vs → RelKs Z W H (enuKs n ds) (enuKs n vs)
  | _, [], _, e => by cases (show _ = [] from e); rfl
  | n, d :: ds, _, ⟨v, r, e, r1, r2⟩ => by
    cases e
    exact ⟨v, enuKs (n + 1) r, rfl, r1, relK_enu (n + 1) r2⟩
theorem e_denu {a : E} {y : Expr} {p p2 q pos : Pos} (g : Gd Z Wx k X) (hg : globB (ccOf X) ("dict" : Str) = true) (hg2 : globB (ccOf X) ("enumerate" : Str) = true) (n : nStar y = true) (ha : PE X y (TVe Z Wx (evE a))) : PE X (.Call (.Name ("dict" : Str) p) [.Call (.Name ("enumerate" : Str) p2) [y] [] q] [] pos) (TVe Z Wx (evE (.denu a))) :=
  (pe_den (gl_of hg).1 (g.free _ (by decide +kernel)) (gl_of hg2).1 (g.free _ (by decide +kernel)) ha g.calm (star_of n)).imp fun σ H Q ⟨W, ls, h, lr, hr, t⟩ => step lr hr t fun x H1 W1 d h1 g1 lr1 hr1 rx t1 => by
    have t1 : TriD Z (Wx σ) Q W1 H1 (denD d h1) := t1
    unfold denD at t1
    cases q : asL h1 d with
    | none => rw [q] at t1; exact t1.elim
    | some xs =>
      rw [q] at t1
      obtain ⟨a, vs, rfl, hp, r1⟩ := asL_sq hr1 rx q
      refine ⟨a, vs, rfl, g.hK ▸ hp, fun p np => ?_⟩
      exact t1 (.ref p) W1 (upd H1 p (.dK (enuKs 0 vs))) (Gr.fresh hr1 np) (hr1.fresh np) ⟨p, enuKs 0 vs, rfl, upd_same, hr1.notin np, hr1.nF np, RelKs.mono (Gr.fresh hr1 np) _ (relK_enu 0 r1)⟩
/-! list(zip(xs, ys)) -/
def zipV (xs ys : List V) : List (List V) := List.zipWith (fun x y => [x, y]) xs ys
def putP : Hp → List Addr → List (List V) → Hp
  | H, a :: as, p :: ps => putP (upd H a (.tup p)) as ps
  | H, _, _ => H
theorem putP_off {b : Addr} : ∀ (as : List Addr) (ps : List (List V)) (H : Hp), b ∉ as → putP H as ps b = H b
  | [], _, _, _ => rfl
  | _ :: _, [], _, _ => rfl
  | a :: as, p :: ps, H, h => by
    show putP (upd H a (.tup p)) as ps b = H b
    rw [putP_off as ps _ (fun z => h (List.mem_cons_of_mem _ z)), upd_ne (fun z => h (by rw [z]; exact List.mem_cons_self))]
theorem putP_at : ∀ (as : List Addr) (ps : List (List V)) (H : Hp) (j : Nat) (a : Addr), as.length = ps.length → as.Nodup → as[j]? = some a → ∃ p, ps[j]? = some p ∧ putP H as ps a = some (.tup p)
  | [], _, _, _, _, _, _, h => by cases h
  | _ :: _, [], _, _, _, h, _, _ => by cases h
  | b :: as, p :: ps, H, 0, a, h, hn, e => by
    have e : b = a := by simpa using e
    subst e
    refine ⟨p, rfl, ?_⟩
    show putP (upd H b (.tup p)) as ps b = _
    rw [putP_off as ps _ (List.nodup_cons.mp hn).1, upd_same]
  | b :: as, p :: ps, H, j + 1, a, h, hn, e => putP_at as ps _ j a (Nat.succ.inj h) (List.nodup_cons.mp hn).2 (by simpa using e)
theorem valsR : ∀ as : List Addr, Vals (as.map V.ref) (as.map Value.ref)
  | [] => .nil
  | _ :: as => .cons rfl (valsR as)
theorem valsIx : ∀ {xs : List V} {us : List Value} (i : Nat) {u : Value}, Vals xs us → us[i]? = some u → ∃ x, xs[i]? = some x ∧ RelV x u
  | _, _, i, u, .nil, h => by cases h
  | _, _, 0, u, .cons r t, h => by
    have e := Option.some.inj h
    subst e
    exact ⟨_, rfl, r⟩
  | _, _, i + 1, u, .cons r t, h => valsIx i t h
theorem zipV_get : ∀ {xs ys : List V} {i : Nat} {x y : V}, xs[i]? = some x → ys[i]? = some y → (zipV xs ys)[i]? = some [x, y] := fun {xs ys i x y} e1 e2 => by
  unfold zipV
  rw [List.getElem?_zipWith, e1, e2]
section
variable {X : Cx} {e : Expr} {p apos cpos pos : Pos}
theorem zip_laid {pins : List (Addr × Obj)} {σ : L2.St} {H : Hp} {s : Shared} {h' : Heap} {tk : Nat} {xs ys : List V} {us ws : List Value} {acc : Array Value} {c : Nat} {as : List Addr} {S : Addr} (I : Inv X pins σ H s) (hz : us.length ≤ sizeLine) (rv : Vals xs us) (rw' : Vals ys ws)
    (hge : s.heap.objs.size ≤ S) (hk : ∀ b o, s.heap.get? b = some o → h'.get? b = some o) (hS : h'.get? S = some { cls := .type "list", dict := none, data := .seq acc c, slots := #[] }) (hl : as.length = min us.toArray.size ws.toArray.size) (hG : LZ.ZlG us.toArray ws.toArray S h' as) (hacc : acc.toList = as.map Value.ref) :
    H S = none ∧ (∀ t ∈ as, H t = none) ∧ as.Nodup ∧ S ∉ as ∧ as.length = (zipV xs ys).length ∧ Inv X pins σ (putP (upd H S (.lst (as.map V.ref))) as (zipV xs ys)) { s with heap := h', toks := tk } := by
  have hSn : S ∉ as := fun z => Nat.lt_irrefl _ (hG.above _ z)
  have nd : as.Nodup := List.Pairwise.imp (fun {a b} (h : a < b) => Nat.ne_of_lt h) hG.rise
  have new : ∀ t ∈ as, H t = none := fun t ht => I.hok.fresh (Nat.le_trans hge (Nat.le_of_lt (hG.above t ht)))
  have newS : H S = none := I.hok.fresh hge
  have l1 := rv.length
  have l2 := rw'.length
  have hlen : as.length = (zipV xs ys).length := by
    unfold zipV
    rw [hl, List.length_zipWith, l1, l2]
    simp
  have off : ∀ b, b ∉ as → b ≠ S → putP (upd H S (.lst (as.map V.ref))) as (zipV xs ys) b = H b := fun b h1 h2 => by rw [putP_off as _ _ h1, upd_ne h2]
  have low : ∀ b o, s.heap.get? b = some o → b ∉ as ∧ b ≠ S := fun b o e => ⟨fun z => absurd (Heap.lt_size e) (Nat.not_lt.mpr (Nat.le_trans hge (Nat.le_of_lt (hG.above b z)))), Nat.ne_of_lt (Nat.lt_of_lt_of_le (Heap.lt_size e) hge)⟩
  have kp : ∀ b u, H b = some u → (putP (upd H S (.lst (as.map V.ref))) as (zipV xs ys)) b = some u := fun b u e => by
    rw [off b (fun z => by rw [new b z] at e; cases e) (fun z => by rw [z, newS] at e; cases e)]
    exact e
  have eS : putP (upd H S (.lst (as.map V.ref))) as (zipV xs ys) S = some (.lst (as.map V.ref)) := by rw [putP_off as _ _ hSn, upd_same]
  refine ⟨newS, new, nd, hSn, hlen, ?_⟩
  refine I.call' (ch := []) rfl ⟨fun b o q _ _ _ => hk b o q, fun b o q _ _ _ => ⟨o.slots, hk b o q⟩, fun b o q n _ => ?_, fun b o q _ => ⟨o, hk b o q⟩, fun b xs q => kp b _ q, fun b o u q => kp b _ q, fun b ps q => ⟨#[], by rw [kp b _ q]; simp⟩⟩ (fun b u q => ?_) I.bare fun b z => by simp at z
  · obtain ⟨z1, z2⟩ := low b o q
    rw [off b z1 z2]
    exact n
  · by_cases hb : b ∈ as
    · obtain ⟨j, hj⟩ := List.mem_iff_getElem?.mp hb
      obtain ⟨pq, e1, e2⟩ := putP_at as (zipV xs ys) (upd H S (.lst (as.map V.ref))) j b hlen nd hj
      rw [e2] at q
      cases q
      obtain ⟨x, y, f1, f2, f3⟩ := hG.pairs j b hj
      obtain ⟨x', g1, g2⟩ := valsIx j rv (u := x) (by simpa using f1)
      obtain ⟨y', g3, g4⟩ := valsIx j rw' (u := y) (by simpa using f2)
      rw [zipV_get g1 g3] at e1
      cases e1
      exact ⟨by show 2 ≤ sizeLine; decide, [x, y], .cons g2 (.cons g4 .nil), ⟨_, f3, rfl, _, rfl⟩⟩
    · by_cases hb2 : b = S
      · rw [hb2] at q ⊢
        rw [eS] at q
        cases q
        refine ⟨by rw [List.length_map, hl]; exact Nat.le_trans (Nat.min_le_left _ _) (by simpa using hz), acc.toList, c, by rw [hacc]; exact valsR as, ?_⟩
        rw [Array.toArray_toList]
        exact hS
      · rw [off b hb hb2] at q
        exact (I.hok b u q).stay (fun d v _ y => hk d v y) (fun d y => kp d _ y) fun d xs y => kp d _ y
def iLz (K : PySem.W.Frag) (ta : TA) : TE := fun σ H Q => ta σ H fun vs H1 => ∃ a b xs ys, vs = [.ref a, .ref b] ∧ SqL K H1 a xs ∧ SqL K H1 b ys ∧ ∀ S as, H1 S = none → (∀ t ∈ as, H1 t = none) → as.Nodup → S ∉ as → as.length = (zipV xs ys).length → Q (.ref S) (putP (upd H1 S (.lst (as.map V.ref))) as (zipV xs ys))
theorem pe_lzip {e2 : Expr} {ta : TA} {p2 q : Pos} (hc : X.calm = true) (hg : Gl X "list") (hm : X.mg "list" = none) (hg2 : Gl X "zip") (hm2 : X.mg "zip" = none) (ha : PA X [e, e2] ta)
    (hs : starEach [e, e2] X.env = (false, eval e X.env) :: starEach [e2] X.env) (hpl : (backTo q (starEach [e2] X.env)).any (·.1) = false) :
    PE X (.Call (.Name "list" p) [.Call (.Name "zip" p2) [e, e2] [] q] [] pos) (iLz X.K ta) where
  run := by
    intro pins s σ H Q I h
    refine Call_ (ld_blt I hg hm boot_list (PyProof.Rows.callWith_type1 (PyProof.Rows.args_cons (Call_ (ld_blt I hg2 hm2 PyProof.Rows.boot_zip ?_)) rfl) rfl rfl))
    refine PyProof.Rows.callWith_type1 (thn (ha.run q pins s σ H _ I h) fun us s1 ⟨vs, H1, I1, r1, q1⟩ => ?_) hs hpl
    obtain ⟨a, b, xs, ys, ex, hqx, hqy, q⟩ := q1
    subst ex
    cases r1 with
    | cons r rr =>
      cases rr with
      | cons r' rr =>
        cases rr
        cases r
        cases r'
        obtain ⟨its, rv, p1, hz⟩ := I1.list hqx
        obtain ⟨its2, rv2, p2, _⟩ := I1.list hqy
        have hlen := rv.length
        have hz' : its.length ≤ sizeLine := by rw [← hlen]; exact hz
        refine wpAny_mono (LZ.zl_call (Q := EP X pins σ Q) (I1.ok.hd hc) p1.isList p2.isList (Nat.le_trans (Nat.min_le_left _ _) (by simpa using hz')) fun h' tk acc c as S hge hk hS hl hG hacc => ?_) (fun v s2 h2 => PyProof.Rows.args_nil h2) fun _ _ x => x
        obtain ⟨k1, k2, k3, k4, k5, J⟩ := zip_laid (tk := tk) I1 hz' rv rv2 hge hk hS hl hG hacc
        exact ⟨.ref S, _, J, rfl, q S as k1 k2 k3 k4 k5⟩
end
theorem rel_putP {Z : Zn} {W : Wd} {h : Hh} : ∀ (as : List Addr) (ps : List (List V)) (H : Hp), as.length = ps.length → as.Nodup → (∀ t ∈ as, H t = none) → HRel Z W H h → Gr W H W (putP H as ps) ∧ HRel Z W (putP H as ps) h
  | [], _, H, _, _, _, hr => ⟨Gr.refl, hr⟩
  | _ :: _, [], H, h, _, _, _ => by cases h
  | a :: as, p :: ps, H, hl, nd, hn, hr => by
    have nd' := List.nodup_cons.mp nd
    have na := hn a List.mem_cons_self
    obtain ⟨g1, h1⟩ := rel_putP as ps (upd H a (.tup p)) (Nat.succ.inj hl) nd'.2 (fun t ht => by
      rw [upd_ne (fun z => nd'.1 (by rw [← z]; exact ht))]; exact hn t (List.mem_cons_of_mem _ ht)) (hr.fresh na)
    exact ⟨(Gr.fresh hr na).trans g1, h1⟩
theorem rel_zip {Z : Zn} {W W' : Wd} {H H' : Hp} (g : Gr W H W' H') : ∀ {xs ys : List D} {vs us : List V} (as : List Addr), RelDs Z W H xs vs → RelDs Z W H ys us → as.length = (zipV vs us).length → (∀ (j : Nat) (a : Addr), as[j]? = some a → ∃ p, (zipV vs us)[j]? = some p ∧ H' a = some (.tup p)) → RelDs Z W' H' (zipD xs ys) (as.map V.ref)
  | [], _, _, us, as, r, _, hl, _ => by
    cases (show _ = [] from r)
    have : as = [] := List.length_eq_zero_iff.mp (by simpa [zipV] using hl)
    subst this; rfl
  | _ :: _, [], vs, _, as, r, r2, hl, _ => by
    obtain ⟨v, q, rfl, _, _⟩ := r
    cases (show _ = [] from r2)
    have : as = [] := List.length_eq_zero_iff.mp (by simpa [zipV] using hl)
    subst this; rfl
  | x :: xs, y :: ys, _, _, as, ⟨v, q, e, rx, rq⟩, ⟨u, t, e2, ry, rt⟩, hl, hp => by
    subst e; subst e2
    cases as with
    | nil => simp [zipV] at hl
    | cons a as =>
      obtain ⟨p, e1, e3⟩ := hp 0 a rfl
      have e1 : [v, u] = p := by simpa [zipV] using e1
      subst e1
      refine ⟨.ref a, as.map V.ref, rfl, ⟨a, [v, u], rfl, .inl e3, v, [u], rfl, rx.mono g, u, [], rfl, ry.mono g, rfl⟩, ?_⟩
      exact rel_zip g as rq rt (by simpa [zipV] using hl) fun j b hj => by
        obtain ⟨p, e4, e5⟩ := hp (j + 1) b (by simpa using hj)
        exact ⟨p, by simpa [zipV] using e4, e5⟩
theorem e_lzip {a b : E} {y z : Expr} {p p2 q pos : Pos} (g : Gd Z Wx k X) (hg : globB (ccOf X) ("list" : Str) = true) (hg2 : globB (ccOf X) ("zip" : Str) = true) (n : nStar y = true) (n2 : nStar z = true) (ha : PE X y (TVe Z Wx (evE a))) (hb : PE X z (TVe Z Wx (evE b))) : PE X (.Call (.Name ("list" : Str) p) [.Call (.Name ("zip" : Str) p2) [y, z] [] q] [] pos) (TVe Z Wx (evE (.lzip a b))) :=
  (pe_lzip g.calm (gl_of hg).1 (g.free _ (by decide +kernel)) (gl_of hg2).1 (g.free _ (by decide +kernel)) (pa_cons ha (pa_cons hb pa_nil (star_of n2)) (star_of n)) (star_of n) (star_all (by simp [n2]))).imp fun σ H Q ⟨W, ls, h, lr, hr, t⟩ =>
    step lr hr t fun x H1 W1 d h1 g1 lr1 hr1 rx t1 => step lr1 hr1 t1 fun u H2 W2 d2 h2 g2 lr2 hr2 ry t2 => by
      have t2 : TriD Z (Wx σ) Q W2 H2 (lzipD d d2 h2) := t2
      unfold lzipD at t2
      cases q1 : asL h2 d with
      | none => rw [q1] at t2; exact t2.elim
      | some xs =>
        rw [q1] at t2
        cases q2 : asL h2 d2 with
        | none => rw [q2] at t2; exact t2.elim
        | some ys =>
          rw [q2] at t2
          simp only at t2
          by_cases hl : xs.length ≤ LIM
          · rw [if_pos hl] at t2
            obtain ⟨a, vs, e1, s1, r1⟩ := asL_sq hr2 (rx.mono g2) q1
            obtain ⟨b, us, e2, s2, r2⟩ := asL_sq hr2 ry q2
            subst e1 e2
            refine ⟨a, b, vs, us, rfl, by rw [g.hK]; exact s1, by rw [g.hK]; exact s2, fun S as nS na nd nm hlen => ?_⟩
            obtain ⟨g3, hr3⟩ := rel_putP as (zipV vs us) (upd H2 S (.lst (as.map V.ref))) hlen nd (fun t ht => by rw [upd_ne (fun z => nm (by rw [← z]; exact ht))]; exact na t ht) (hr2.fresh nS)
            have g4 := (Gr.fresh (o := .lst (as.map V.ref)) hr2 nS).trans g3
            exact t2 (.ref S) W2 _ g4 hr3 ⟨S, as.map V.ref, rfl, ⟨by rw [putP_off as _ _ nm, upd_same], hr2.notin nS, hr2.nF nS⟩, rel_zip g4 as r1 r2 hlen fun j a hj => putP_at as _ _ j a hlen nd hj⟩
          · rw [if_neg hl] at t2; exact t2.elim
theorem e_dlst {c : Bool} {a : E} {y : Expr} {p pos : Pos} (g : Gd Z Wx k X) (hg : globB (ccOf X) ("list" : Str) = true) (n : nStar y = true) (ha : PE X y (TVe Z Wx (evE a))) : PE X (.Call (.Name ("list" : Str) p) [y] [] pos) (TVe Z Wx (evE (.dlst c a))) := by
  obtain ⟨g1, g2⟩ := gl_of hg
  refine (pe_callTy (call_listD g.calm) g1 (g.free _ (by decide +kernel)) (by decide +kernel) (pa_cons ha pa_nil (star_of n)) (by decide +kernel) g2 (star_of n) (star_all rfl)).imp fun σ H Q ⟨W, ls, h, lr, hr, t⟩ => ?_
  exact step lr hr t fun x H1 W1 d h1 g1 lr1 hr1 rx t1 => by
    have t1 : TriD Z (Wx σ) Q W1 H1 (dlstD c d h1) := t1
    unfold dlstD at t1
    by_cases hk : d.isKd = true
    · rw [if_pos hk] at t1; exact t1.elim
    rw [if_neg hk] at t1
    cases q : dictO h1 d with
    | none => rw [q] at t1; exact t1.elim
    | some kvs =>
      rw [q] at t1
      simp only at t1
      by_cases hl : kvs.length ≤ LIM
      · rw [if_pos hl] at t1
        obtain ⟨a, vs, rfl, _, r1, f⟩ := dictR_rel hr1 rx q
        exact ⟨a, vs, rfl, .inl (f (Bool.eq_false_iff.mpr hk)), fun p np => t1.newL hr1 (relK_keys r1) np⟩
      · rw [if_neg hl] at t1; exact t1.elim
/-! displays of dicts -/
def tAt : At → TE
  | .v i => tVar i
  | .n i => tC (.int i)
theorem pe_at {a : At} {e : Expr} (h : okAt (ccOf X) a e = true) : PE X e (tAt a) := by
  cases a with
  | v i =>
    cases e <;> try (cases h; done)
    obtain ⟨h1, h2, h3, h4⟩ := seen_of h
    exact pe_var h1 h2 h3 h4
  | n i =>
    cases e <;> try (cases h; done)
    rename_i c t p
    cases c <;> try (cases h; done)
    have e : i = _ := of_decide_eq_true h
    subst e
    exact pe_int
theorem at_tri {a : At} {W : Wd} {H : Hp} {ls : Ls} {σ : L2.St} {d : D} {Q : VK} {H1 : Hp} (lr : LRel Z W H ls σ) (e : evAt ls a = some d) (q : ∀ v, RelD Z W H d v → Q v H1) : tAt a σ H1 Q := by
  cases a with
  | v i =>
    have e : (match ls[i]? with | some (some d) => some d | _ => none) = some d := e
    cases q1 : ls[i]? with
    | none => rw [q1] at e; cases e
    | some od =>
      cases od with
      | none => rw [q1] at e; cases e
      | some d' =>
        rw [q1] at e
        cases e
        obtain ⟨v, ev, rv⟩ := lr.2 i d q1
        exact ⟨v, ev, q v rv⟩
  | n i =>
    cases e
    exact q _ rfl
theorem e_dic {ps : List (At × At)} {ks : List (Option Expr)} {vs : List Expr} {pos : Pos} (h : okKV (ccOf X) ps ks vs = true) : PE X (.Dict ks vs pos) (TVe Z Wx (evE (.dic ps))) := by
  unfold okKV at h
  split at h
  · refine pe_dnewK.imp fun σ H Q ⟨W, ls, h, lr, hr, t⟩ p n => ?_
    exact t (.ref p) W (upd H p (.dK [])) (Gr.fresh hr n) (hr.fresh n) ⟨p, [], rfl, upd_same, hr.notin n, hr.nF n, rfl⟩
  · rename_i a b k v
    simp only [Bool.and_eq_true] at h
    refine (pe_disp (pps_cons (pe_at h.1) (pe_at h.2) pps_nil) rfl rfl (by simp) (by simp)).imp fun σ H Q ⟨W, ls, h, lr, hr, t⟩ p n => ?_
    have t : TriD Z (Wx σ) Q W H (match evKV ls (a, b) with | some kv => .ok (.dic [kv]) h | none => .bad) := t
    unfold evKV at t
    cases e1 : evAt ls a with
    | none => simp only [e1] at t; exact t.elim
    | some d1 =>
      cases e2 : evAt ls b with
      | none => simp only [e1, e2] at t; cases d1 <;> exact t.elim
      | some d2 =>
        simp only [e1, e2] at t
        have fin : ∀ (key : Key) (v2 : V), RelD Z W H d2 v2 → TriD Z (Wx σ) Q W H (.ok (.dic [(key, d2)]) h) → Q (.ref p) (upd (upd H p (.dK [])) p (.dK (mergeK [] [(key, v2)]))) := fun key v2 r2 t => by
          rw [upd_upd]
          exact t (.ref p) W (upd H p (.dK [(key, v2)])) (Gr.fresh hr n) (hr.fresh n) ⟨p, [(key, v2)], rfl, upd_same, hr.notin n, hr.nF n, v2, [], rfl, r2.mono (Gr.fresh hr n), rfl⟩
        refine at_tri lr e1 fun v1 r1 => at_tri lr e2 fun v2 r2 => ?_
        cases d1 with
        | int i => exact ⟨upd_same, [(.inl i, v2)], by rw [show v1 = V.int i from r1]; rfl, by simp, fin _ _ r2 t⟩
        | str x => exact ⟨upd_same, [(.inr x, v2)], by rw [show v1 = V.str x from r1]; rfl, by simp, fin _ _ r2 t⟩
        | _ => exact t.elim
  · cases h
end
/-! ### objects of the text's classes -/
section
variable {Z : Zn} {W : Wd} {H : Hp} {h : Hh}
theorem relF_look {f : Str} : ∀ {fs : List (Str × D)} {vs : List (Str × V)}, RelFs Z W H fs vs → (∀ d, fs.lookup f = some d → ∃ v, vs.lookup f = some v ∧ RelD Z W H d v) ∧ (fs.lookup f = none → vs.lookup f = none)
  | [], vs, r => by rw [show vs = [] from r]; exact ⟨fun d e => (by cases e), fun _ => rfl⟩
  | (g, d) :: fs, vs, ⟨v, us, e, r1, r2⟩ => by
    subst e
    have ih := relF_look (f := f) r2
    by_cases z : f = g
    · have hb : (f == g) = true := beq_iff_eq.mpr z
      simp only [List.lookup, hb]
      exact ⟨fun d' q => (by cases q; exact ⟨v, rfl, r1⟩), fun q => (by cases q)⟩
    · have hb : (f == g) = false := beq_eq_false_iff_ne.mpr z
      simp only [List.lookup, hb]
      exact ih
theorem relF_len : ∀ {fs : List (Str × D)} {vs : List (Str × V)}, RelFs Z W H fs vs → fs.length = vs.length
  | [], vs, r => by rw [show vs = [] from r]; rfl
  | (g, d) :: fs, vs, ⟨v, us, e, r1, r2⟩ => by subst e; simp [relF_len r2]
theorem relF_put {f : Str} {d : D} {v : V} (rd : RelD Z W H d v) : ∀ {fs : List (Str × D)} {vs : List (Str × V)}, RelFs Z W H fs vs → RelFs Z W H (putFd f d fs) (L2.putF f v vs)
  | [], vs, r => by rw [show vs = [] from r]; exact ⟨v, [], rfl, rd, rfl⟩
  | (g, x) :: fs, vs, ⟨u, us, e, r1, r2⟩ => by
    subst e
    unfold putFd L2.putF
    by_cases z : g = f
    · rw [if_pos z, if_pos z]; exact ⟨v, us, rfl, rd, r2⟩
    · rw [if_neg z, if_neg z]; exact ⟨u, _, rfl, r1, relF_put rd r2⟩
theorem ins_at {i : Nat} {v : V} {c : Str} {fs : List (Str × D)} (hr : HRel Z W H h) (r : RelD Z W H (.cel i) v) (q : insO h[i]? = some (c, fs)) : ∃ a C dx vs, v = .ref a ∧ W.rho[i]? = some a ∧ h[i]? = some (.ins c fs) ∧ Z.cl c = some C ∧ H a = some (.ins C dx vs) ∧ RelFs Z W H fs vs := by
  obtain ⟨a, e1, f⟩ := r
  cases o : h[i]? with
  | none => rw [o] at q; cases q
  | some ob =>
    rw [o] at q
    cases ob with
    | lst _ => cases q
    | dct _ => cases q
    | ins k gs =>
      cases q
      obtain ⟨C, dx, vs, e2, e3, rf⟩ := hr.obj i a _ f o
      exact ⟨a, C, dx, vs, e1, f, rfl, e2, e3, rf⟩
end
section
variable {X : Cx} {Z : Zn} {Wx : L2.St → Str → Hp → Prop} {k : Nat}
theorem e_fld {c f : Str} {a : E} {o : Expr} {pos : Pos} (A : MtA Z k X c f none) (hb : nC0 o = true) (ha : PE X o (TVe Z Wx (evE a))) : PE X (.Attribute o f pos) (TVe Z Wx (evE (.fld c f a))) :=
  (pe_fld ha (base_of hb)).imp fun σ H Q ⟨W, ls, h, lr, hr, t⟩ => step lr hr t fun x H1 W1 d h1 g1 lr1 hr1 rx t1 => by
    obtain ⟨C, hC, hc, hn⟩ := A
    cases d with
    | cel i =>
      have t1 : TriD Z (Wx σ) Q W1 H1 (fldK c f (insO h1[i]?) h1) := t1
      cases q : insO h1[i]? with
      | none => rw [q] at t1; exact t1.elim
      | some p =>
        obtain ⟨k', fs⟩ := p
        rw [q] at t1
        have t2 : TriD Z (Wx σ) Q W1 H1 (if k' = c then optD (fs.lookup f) h1 else .bad) := t1
        by_cases z : k' = c
        · rw [if_pos z] at t2
          subst z
          cases l : fs.lookup f with
          | none => rw [l] at t2; exact t2.elim
          | some d =>
            rw [l] at t2
            obtain ⟨a', C', dx, vs, e1, e2, e3, e4, e5, rf⟩ := ins_at hr1 rx q
            rw [hC] at e4; cases e4
            obtain ⟨v, lv, rv⟩ := (relF_look rf).1 d l
            exact ⟨a', C, dx, vs, v, e1, e5, hc, hn, lv, t2.now hr1 rv⟩
        · rw [if_neg z] at t2; exact t2.elim
    | _ => exact t1.elim
/-- a method's call -/
def tMethS (C : Addr) (m : Str) (sp : Sp) (E : L2.St → XK) (ta : TE) (t : TA) : TE := fun σ H Q => ta σ H fun x H1 => ∃ a dx fs, x = .ref a ∧ H1 a = some (.ins C dx fs) ∧ fs.lookup m = none ∧ t σ H1 fun vs H2 => sp (x :: vs) H2 Q (E σ)
section
variable {C f : Addr} {fd : FuncData} {ps : List Str} {sp : Sp} {E : L2.St → XK} {m : Str} {apos pos : Pos} {e o : Expr} {es : List Expr} {ta : TE} {t : TA}
theorem pe_methG {pl : Sem Bool} (he : PE X o ta) (c : L2.Cls X.K C) (hm : L2.Meth X.K C m f) (F : FnG X.prog X.w X.K X.mg X.base k f fd ps sp) (hq : Quiet X.A) (hr : Room k X.A) (hb : Binds X.K fd ps []) (hx : ∀ σ, PassesAt (L2.CX X.prog X.w) X σ (E σ)) (ha : PA X (e :: es) t)
    (hst : starEach (e :: es) X.env = (false, eval e X.env) :: starEach es X.env) (hpl : (backTo pos (starEach es X.env)).any (·.1) = false)
    (ht : eval (.Call (.Attribute o m apos) (e :: es) [] pos) X.env = (do
      let ov ← eval o X.env
      standAt apos.atName
      let (f, first) ← holding [ov] (getMethod ov m pl)
      callWith pos f first (backTo pos (starEach (e :: es) X.env)) (backToKw pos (keywordEach [] X.env)))) :
    PE X (.Call (.Attribute o m apos) (e :: es) [] pos) (tMethS C m sp E ta t) := by
  refine ⟨fun pins s σ H Q I h => ?_⟩
  refine PySem.W.methodCall_KW (pl := pl) (thn (he.run pins s σ H _ I h) fun u s1 ⟨x, H1, I1, rx, a, dx, fs, ex, ea, l, q⟩ => ?_) ht
  subst ex
  obtain rfl : u = Value.ref a := rx
  refine getmeth_ok I1 ea c hm l ?_
  refine PySem.W.callWith_K (first := [.ref a]) (h₀ := X.base) I.ok.mod.kin hm.kp (thn (ha.run pos pins s1 σ H1 _ I1 q) fun us s2 ⟨vs, H2, I2, r, q2⟩ => ⟨I2.kIn, ?_⟩) hst hpl
  exact run_G (us := .ref a :: us) (vs := .ref a :: vs) F hq hr hb (hx σ) I2 (.cons rfl r) q2
theorem pe_methG0 {pl : Sem Bool} (he : PE X o ta) (c : L2.Cls X.K C) (hm : L2.Meth X.K C m f) (F : FnG X.prog X.w X.K X.mg X.base k f fd ps sp) (hq : Quiet X.A) (hr : Room k X.A) (hb : Binds X.K fd ps []) (hx : ∀ σ, PassesAt (L2.CX X.prog X.w) X σ (E σ))
    (ht : eval (.Call (.Attribute o m apos) [] [] pos) X.env = (do
      let ov ← eval o X.env
      standAt apos.atName
      let (f, first) ← holding [ov] (getMethod ov m pl)
      callWith pos f first (backTo pos (starEach [] X.env)) (backToKw pos (keywordEach [] X.env)))) :
    PE X (.Call (.Attribute o m apos) [] [] pos) (tMethS C m sp E ta tNil) := by
  refine ⟨fun pins s σ H Q I h => ?_⟩
  refine PySem.W.methodCall_KW (pl := pl) (thn (he.run pins s σ H _ I h) fun u s1 ⟨x, H1, I1, rx, a, dx, fs, ex, ea, l, q⟩ => ?_) ht
  subst ex
  obtain rfl : u = Value.ref a := rx
  refine getmeth_ok I1 ea c hm l ?_
  exact PySem.W.callWith_K0 (first := [.ref a]) I1.kIn hm.kp (run_G (us := [.ref a]) (vs := [.ref a]) F hq hr hb (hx σ) I1 (.cons rfl .nil) q)
end
/-- as many values as there are arguments -/
theorem ev_lenA {es : Es} {xs : List Expr} (ha : PA X xs (TVa Z Wx (evEs es))) : PA X xs (fun σ H Q => TVa Z Wx (evEs es) σ H fun vs H1 => vs.length = es.len → Q vs H1) := by
  refine ha.imp fun σ H Q ⟨W, ls, h, lr, hr, t⟩ => ⟨W, ls, h, lr, hr, ?_⟩
  cases q : evEs es ls h with
  | ok ds h' =>
    rw [q] at t
    intro v W' H' g' hr' r'
    exact t v W' H' g' hr' r' (by rw [← r'.length]; exact evEs_len es q)
  | exc c h' => rw [q] at t; exact t
  | bad => rw [q] at t; exact t
theorem isIn_ex {c m : Str} {d : D} {h : Hh} (q : isIn c m d h = true) : ∃ i fs, d = .cel i ∧ insO h[i]? = some (c, fs) ∧ fs.lookup m = none := by
  cases d with
  | cel i =>
    have q : (match insO h[i]? with
      | some (k, fs) => decide (k = c) && (fs.lookup m).isNone
      | none => false) = true := q
    cases o : insO h[i]? with
    | none => rw [o] at q; cases q
    | some p =>
      obtain ⟨k', fs⟩ := p
      rw [o] at q
      simp only [Bool.and_eq_true, decide_eq_true_eq, Option.isNone_iff_eq_none] at q
      obtain ⟨rfl, z⟩ := q
      exact ⟨i, fs, rfl, o, z⟩
  | _ => cases q
theorem e_mcall {c m : Str} {F : Fn} {a : E} {es : Es} {o : Expr} {xs : List Expr} {ap cp : Pos} (g : Gd Z Wx k X) (A : MtA Z k X c m (some (F, es.len + 1))) (hb : nC0 o = true) (hline : (ap.endLine == cp.line) = true) (hl : xs.length < 20) (hs : xs.all nStar = true) (ho : PE X o (TVe Z Wx (evE a))) (hes : xs.length = es.len) (ha : PA X xs (TVa Z Wx (evEs es))) :
    PE X (.Call (.Attribute o m ap) xs [] cp) (TVe Z Wx (evE (.mcall c m F a es))) := by
  obtain ⟨C, f, fd, ps, hC, hc, hm, hF, hn, hbi, _⟩ := A
  have few : methodCallForm (xs.length + ([] : List Keyword).length) (backTo cp (starEach xs X.env)) (backToKw cp (keywordEach [] X.env)) = true := by
    unfold methodCallForm
    have z : ((backTo cp (starEach xs X.env)).all (fun x => !x.1)) = true := by
      have q := star_all (pos := cp) (env := X.env) (es := xs) hs
      rw [List.all_eq_not_any_not]
      simpa using q
    rw [z]
    have e0 : backToKw cp (keywordEach [] X.env) = [] := rfl
    rw [e0]
    simp only [List.all_nil, List.isEmpty_nil, if_true, Bool.true_and, decide_eq_true_eq, List.length_nil]
    omega
  have ht : eval (.Call (.Attribute o m ap) xs [] cp) X.env = (do
      let ov ← eval o X.env
      standAt ap.atName
      let (f, first) ← holding [ov] (getMethod ov m (do return (← importBound o X.env).getD true))
      callWith cp f first (backTo cp (starEach xs X.env)) (backToKw cp (keywordEach [] X.env))) := by
    refine mcall_of (base_of hb) fun ov => ?_
    unfold methodCall
    rw [few]
    have e1 : methodCallPos true o X.env ap cp = pure cp := by
      unfold methodCallPos
      rw [hline]; rfl
    rw [e1]
    rfl
  have fin : ∀ {σ : L2.St} {Q : VK} {W2 H2 h2} {ds : List D} {vs : List V}, HRel Z W2 H2 h2 → RelDs Z W2 H2 ds vs → vs.length = es.len + 1 → TriD Z (Wx σ) Q W2 H2 (F ds h2) → spF Z (es.len + 1) F vs H2 Q (EX Z Wx σ) := fun {σ Q W2 H2 h2 ds vs} hr2 r2 hl2 t2 => by
    refine ⟨hl2, W2, h2, ds, r2, hr2, ?_⟩
    cases q : F ds h2 with
    | ok d h' => rw [q] at t2; exact t2
    | exc c h' => rw [q] at t2; exact fun W' H' g' hr' hm C hC => ⟨c, C, hC, hm, rfl, rfl, t2 W' H' g' hr'⟩
    | bad => rw [q] at t2; exact t2
  cases xs with
  | nil =>
    refine (pe_methG0 ho hc hm hF g.qt g.room hbi g.pass ht).imp fun σ H Q ⟨W, ls, h, lr, hr, t⟩ => step lr hr t fun x H1 W1 d h1 g1 lr1 hr1 rx t1 => ?_
    have hz : es = .nil := by
      cases es with
      | nil => rfl
      | cons e es => simp [Es.len] at hes
    subst hz
    by_cases q : isIn c m d h1 = true
    · rw [if_pos q] at t1
      obtain ⟨i, fs, rfl, qi, ln⟩ := isIn_ex q
      obtain ⟨a', C', dx, vs, e1, e2, e3, e4, e5, rf⟩ := ins_at hr1 rx qi
      rw [hC] at e4; cases e4
      exact ⟨a', dx, vs, e1, e5, (relF_look rf).2 ln, fin (vs := [x]) hr1 (RelDs.one rx) rfl t1⟩
    · rw [if_neg q] at t1; exact t1.elim
  | cons y ys =>
    simp only [List.all_cons, Bool.and_eq_true] at hs
    refine (pe_methG ho hc hm hF g.qt g.room hbi g.pass (ev_lenA ha) (star_of hs.1) (star_all hs.2) ht).imp fun σ H Q ⟨W, ls, h, lr, hr, t⟩ => step lr hr t fun x H1 W1 d h1 g1 lr1 hr1 rx t1 => ?_
    by_cases q : isIn c m d h1 = true
    · rw [if_pos q] at t1
      obtain ⟨i, fs, rfl, qi, ln⟩ := isIn_ex q
      obtain ⟨a', C', dx, vs, e1, e2, e3, e4, e5, rf⟩ := ins_at hr1 rx qi
      rw [hC] at e4; cases e4
      refine ⟨a', dx, vs, e1, e5, (relF_look rf).2 ln, step lr1 hr1 t1 fun us H2 W2 ds h2 g2 lr2 hr2 rvs t2 hlen => ?_⟩
      exact fin (ds := .cel i :: ds) (vs := x :: us) hr2 ⟨x, us, rfl, rx.mono g2, rvs⟩ (by simp [hlen]) t2
    · rw [if_neg q] at t1; exact t1.elim
/-- a new object -/
def tMakeS (C : Addr) (sp : Sp) (E : L2.St → XK) (t : TA) : TE := fun σ H Q => t σ H fun vs H1 => ∀ x dx, H1 x = none → H1 dx = none → dx ≠ x → sp (.ref x :: vs) (upd (upd H1 dx (.own x)) x (.ins C dx [])) (fun v H2 => v = .non ∧ Q (.ref x) H2) (E σ)
section
variable {C f : Addr} {fd : FuncData} {ps : List Str} {sp : Sp} {E : L2.St → XK} {x : Str} {p pos : Pos} {e o : Expr} {es : List Expr} {t : TA}
theorem run_makeG {pins : List (Addr × Obj)} {σ : L2.St} {H : Hp} {s : Shared} {Q : VK} {us : List Value} {vs : List V} (M : L2.Mk X.K C f) (F : FnG X.prog X.w X.K X.mg X.base k f fd ps sp) (hq : Quiet X.A) (hr : Room (k + 1) X.A) (hb : Binds X.K fd ps [])
    (hx : ∀ σ, PassesAt (L2.CX X.prog X.w) X σ (E σ)) (I : Inv X pins σ H s) (r : Vals vs us)
    (h : ∀ x dx, H x = none → H dx = none → dx ≠ x → sp (.ref x :: vs) (upd (upd H dx (.own x)) x (.ins C dx [])) (fun v H2 => v = .non ∧ Q (.ref x) H2) (E σ)) :
    wpAny (model X.prog X.w) X.A (call (.ref C) us) (EP X pins σ Q) X.xe s := by
  have hq2 := h (s.heap.objs.size + 1) s.heap.objs.size (I.hok.fresh (Nat.le_succ _)) (I.hok.fresh (Nat.le_refl _)) (Nat.ne_of_lt (Nat.lt_succ_self _))
  have I2 := Inv.made (C := C) I
  have r2 : Vals (V.ref (s.heap.objs.size + 1) :: vs) (Value.ref (s.heap.objs.size + 1) :: us) := .cons rfl r
  have hl : (Value.ref (s.heap.objs.size + 1) :: us).length = ps.length := by
    rw [← r2.length]
    exact F.size hq2
  have hqt : Quiet (X.A.under (.builtin "type.__call__" ⟨.ref C :: us, []⟩)) := by
    unfold Quiet at *
    first
      | exact hq
      | (simpa [Around.under, Code.envs, Code.isFrame, pushEnvs] using hq)
  have bt := hb _ (Value.ref (s.heap.objs.size + 1) :: us) I2.kIn (by simpa using hl)
  simp only [List.append_nil] at bt
  refine wpAny_call (make_map (f := f) I.kIn M.makes M.init (beq_iff_eq.mp M.fn) (codeAny_mono (F.runs (outer := X.stack) (E := E σ) hqt (hr.make C us []) (I2.env0.make C us []) bt r2 hq2) fun r s' hq' => ?_))
  cases r with
  | error e => exact hx σ pins _ _ e s' I2 hq'
  | ok fl =>
    cases fl with
    | ret u =>
      obtain ⟨v, H', I3, rv, ev, q3⟩ := I2.after hq'
      subst ev
      exact ⟨rv, ⟨V.ref (s.heap.objs.size + 1), H', I3, rfl, q3⟩⟩
    | next => exact False.elim hq'
    | brk => exact False.elim hq'
    | cont => exact False.elim hq'
theorem pe_makeG (M : L2.Mk X.K C f) (F : FnG X.prog X.w X.K X.mg X.base k f fd ps sp) (hq : Quiet X.A) (hr : Room (k + 1) X.A) (hg : Gl X x) (hm : X.mg x = some (.ref C)) (hb : Binds X.K fd ps []) (hx : ∀ σ, PassesAt (L2.CX X.prog X.w) X σ (E σ))
    (ha : PA X (e :: es) t) (hdb : (x == ("__debug__" : Str)) = false) (he : starEach (e :: es) X.env = (false, eval e X.env) :: starEach es X.env) (hpl : (backTo pos (starEach es X.env)).any (·.1) = false) :
    PE X (.Call (.Name x p) (e :: es) [] pos) (tMakeS C sp E t) := by
  refine ⟨fun pins s σ H Q I h => ?_⟩
  refine wpAny_Call_Name_kw (ld_glob I hg hm ?_ hdb)
  refine PySem.W.callWith_K (h₀ := X.base) I.ok.mod.kin M.kp (thn (ha.run pos pins s σ H _ I h) fun us s1 ⟨vs, H1, I1, r, q⟩ => ⟨I1.kIn, ?_⟩) he hpl
  exact run_makeG M F hq hr hb hx I1 r q
theorem pe_makeG0 (M : L2.Mk X.K C f) (F : FnG X.prog X.w X.K X.mg X.base k f fd ps sp) (hq : Quiet X.A) (hr : Room (k + 1) X.A) (hg : Gl X x) (hm : X.mg x = some (.ref C)) (hb : Binds X.K fd ps []) (hx : ∀ σ, PassesAt (L2.CX X.prog X.w) X σ (E σ))
    (hdb : (x == ("__debug__" : Str)) = false) : PE X (.Call (.Name x p) [] [] pos) (tMakeS C sp E tNil) := by
  refine ⟨fun pins s σ H Q I h => ?_⟩
  refine wpAny_Call_Name_kw (ld_glob I hg hm ?_ hdb)
  exact PySem.W.callWith_K0 I.kIn M.kp (run_makeG (us := []) M F hq hr hb hx I .nil h)
end
theorem e_make {c : Str} {F : Fn} {es : Es} {xs : List Expr} {p pos : Pos} (g : Gd Z Wx k X) (A : MtA Z k X c "__init__" (some (F, es.len + 1))) (hg : globB (ccOf X) c = true) (hs : xs.all nStar = true) (hes : xs.length = es.len) (ha : PA X xs (TVa Z Wx (evEs es))) :
    PE X (.Call (.Name c p) xs [] pos) (TVe Z Wx (evE (.make c F es))) := by
  obtain ⟨C, f, fd, ps, hC, hc, hm, _, hn, hbi, hmk⟩ := A
  obtain ⟨mk, mg, j, ej, hF⟩ := hmk rfl
  subst ej
  obtain ⟨g1, g2⟩ := gl_of hg
  have fin : ∀ {σ : L2.St} {Q : VK} {W2 H2 h2} {ds : List D} {vs : List V}, HRel Z W2 H2 h2 → RelDs Z W2 H2 ds vs → vs.length = es.len → TriD Z (Wx σ) Q W2 H2 (newD F c ds h2) → ∀ x dx, H2 x = none → H2 dx = none → dx ≠ x →
      spF Z (es.len + 1) F (.ref x :: vs) (upd (upd H2 dx (.own x)) x (.ins C dx [])) (fun v H2 => v = .non ∧ Q (.ref x) H2) (EX Z Wx σ) := fun {σ Q W2 H2 h2 ds vs} hr2 r2 hl2 t2 x dx nx ndx ne => by
    have gd := Gr.fresh (o := .own x) hr2 ndx
    have hrd := hr2.fresh (o := .own x) ndx
    have nx2 : upd H2 dx (.own x) x = none := by rw [upd_ne (Ne.symm ne)]; exact nx
    have gc := Gr.cell (o := .ins C dx []) hrd nx2
    have hrc := hrd.cell (o := .ins C dx []) (ob := .ins c []) nx2 ⟨C, dx, [], hC, upd_same, rfl⟩
    have gg := gd.trans gc
    have at_ : (W2.add x).rho[h2.length]? = some x := by
      show (W2.rho ++ [x])[h2.length]? = some x
      rw [← hr2.len, List.getElem?_append_right (Nat.le_refl _)]; simp
    refine ⟨by simp [hl2], W2.add x, h2 ++ [.ins c []], .cel h2.length :: ds, ⟨.ref x, vs, rfl, ⟨x, rfl, at_⟩, RelDs.mono gg ds r2⟩, hrc, ?_⟩
    unfold newD at t2
    cases q : F (.cel h2.length :: ds) (h2 ++ [.ins c []]) with
    | ok d h' =>
      rw [q] at t2
      cases d with
      | non => exact fun v W' H' g' hr' r' => ⟨r', t2 (.ref x) W' H' (gg.trans g') hr' ⟨x, rfl, g'.at at_⟩⟩
      | _ => exact t2.elim
    | exc k' h' => rw [q] at t2; exact fun W' H' g' hr' hm C hC => ⟨k', C, hC, hm, rfl, rfl, t2 W' H' (gg.trans g') hr'⟩
    | bad => rw [q] at t2; exact t2
  cases xs with
  | nil =>
    refine (pe_makeG0 mk hF g.qt g.room g1 mg hbi g.pass g2).imp fun σ H Q ⟨W, ls, h, lr, hr, t⟩ => ?_
    have hz : es = .nil := by
      cases es with
      | nil => rfl
      | cons e es => simp [Es.len] at hes
    subst hz
    exact fun x dx nx ndx ne => fin (vs := []) (ds := []) hr rfl rfl t x dx nx ndx ne
  | cons y ys =>
    simp only [List.all_cons, Bool.and_eq_true] at hs
    refine (pe_makeG mk hF g.qt g.room g1 mg hbi g.pass (ev_lenA ha) g2 (star_of hs.1) (star_all hs.2)).imp fun σ H Q ⟨W, ls, h, lr, hr, t⟩ => ?_
    exact step lr hr t fun us H2 W2 ds h2 g2 lr2 hr2 rvs t2 hlen => fun x dx nx ndx ne => fin hr2 rvs hlen t2 x dx nx ndx ne
end
end Tb
namespace L2
open PySem PySem.Spec PyProof.Rows
/-! ### zip of three lists -/
/-- the lists at a, b and c as they stand at each turn, the items in new triples -/
def Itz3 (K : PySem.W.Frag) (a b c : Addr) : It :=
  ⟨fun i H => ∃ (xs ys zs : List V) (x y z : V), SqL K H a xs ∧ SqL K H b ys ∧ SqL K H c zs ∧ xs[i]? = some x ∧ ys[i]? = some y ∧ zs[i]? = some z,
    fun i H v H' => ∃ T x y z, v = .ref T ∧ H T = none ∧ H' = upd H T (.tup [x, y, z]) ∧ (∀ xs, SqL K H a xs → xs[i]? = some x) ∧ (∀ ys, SqL K H b ys → ys[i]? = some y) ∧ ∀ zs, SqL K H c zs → zs[i]? = some z,
    fun i H => ∃ xs ys zs : List V, SqL K H a xs ∧ SqL K H b ys ∧ SqL K H c zs ∧ (xs.length ≤ i ∨ ys.length ≤ i ∨ zs.length ≤ i)⟩
/-- a list's iterator that stands at i, wherever the list ends -/
theorem drawsAt {prog : Program} {w : World} {A : Around} (hh : A.handled = none) (it l : Addr) (hne : l ≠ it) (items : Array Value) (i : Nat) :
    ∃ n P St, Draws prog w A it [it, l] n P St ∧ (∀ h : Heap, h.IsListIter it l i → h.IsList l items → St i h) ∧ i ≤ n ∧ (items.size ≤ i → i = n) := by
  by_cases q : items.size ≤ i
  · refine ⟨i, fun _ _ => True, fun j h => j = i ∧ h.IsListIter it l i ∧ h.IsList l items, ?_, fun h a b => ⟨rfl, a, b⟩, Nat.le_refl _, fun _ => rfl⟩
    exact {
      live := fun _ _ st => let ⟨o, ho, _⟩ := st.2.1; ⟨o, ho⟩
      frame := fun _ _ _ st hk => ⟨st.1, st.2.1.at fun o e => hk it (by simp) o e, st.2.2.at fun o e => hk l (by simp) o e⟩
      item := fun j s Q E hi st hQ => absurd st.1 (Nat.ne_of_lt hi)
      done := fun s Q E st hE => wpAny_nextOf_list_end hh st.2.1 st.2.2 (by simpa using q) hE }
  · exact ⟨items.size, _, _, Draws.list hh it l hne items, fun h a b => ⟨a, b⟩, Nat.le_of_not_le q, fun z => absurd z q⟩
theorem turn_zip3 {P : Program} {w : World} {K : PySem.W.Frag} {elts : List Expr} {kk : Nat} {tpos : Pos} {a b c z TI TO i1 i2 i3 : Addr} (D : ZipSep3 z TI TO i1 i2 i3 [i1, a] [i2, b] [i3, c])
    (n1 : a ≠ i1) (n2 : b ≠ i2) (n3 : c ≠ i3) :
    Turn P w K (.Tuple elts kk tpos) (Itz3 K a b c) [z, TI, TO, i1, i2, i3] z (fun i h => IsZip h z TI TO .none ∧ IsTupOf3 h TI (.ref i1) (.ref i2) (.ref i3) ∧ (∃ x y u, IsTupOf3 h TO x y u) ∧ h.IsListIter i1 a i ∧ h.IsListIter i2 b i ∧ h.IsListIter i3 c i) where
  mem := by simp
  obj := fun i h st q hc => by
    obtain ⟨hz, hTI, ⟨x, y, u, hTO⟩, ⟨o1, e1, _, d1⟩, ⟨o2, e2, _, d2⟩, ⟨o3, e3, _, d3⟩⟩ := st
    have e' : q = z ∨ q = TI ∨ q = TO ∨ q = i1 ∨ q = i2 ∨ q = i3 := by simpa using hc
    rcases e' with r | r | r | r | r | r
    · rw [r]; exact ⟨_, hz, fun v q => nomatch q⟩
    · rw [r]; exact ⟨_, hTI, fun v q => nomatch q⟩
    · rw [r]; exact ⟨_, hTO, fun v q => nomatch q⟩
    · rw [r]; exact ⟨o1, e1, fun v q => by rw [d1] at q; cases q⟩
    · rw [r]; exact ⟨o2, e2, fun v q => by rw [d2] at q; cases q⟩
    · rw [r]; exact ⟨o3, e3, fun v q => by rw [d3] at q; cases q⟩
  keep := fun i h h' st k => by
    obtain ⟨hz, hTI, ⟨x, y, u, hTO⟩, h1, h2, h3⟩ := st
    exact ⟨k z (by simp) _ hz, k TI (by simp) _ hTI, ⟨x, y, u, k TO (by simp) _ hTO⟩, h1.at fun o q => k i1 (by simp) o q, h2.at fun o q => k i2 (by simp) o q, h3.at fun o q => k i3 (by simp) o q⟩
  item := by
    intro X hP hw hK hc i pins s σ H E I hf st hg
    subst hP hw hK
    obtain ⟨hz, hTI, ⟨x0, y0, u0, hTO⟩, h1, h2, h3⟩ := st
    obtain ⟨xs, ys, us, x, y, v, hqx, hqy, hqu, hx, hy, hv⟩ := hg
    obtain ⟨its, rv, p, _⟩ := I.list hqx
    obtain ⟨its2, rv2, p2, _⟩ := I.list hqy
    obtain ⟨its3, rv3, p3, _⟩ := I.list hqu
    obtain ⟨u, hu, ru⟩ := rv.get hx
    obtain ⟨u2, hu2, ru2⟩ := rv2.get hy
    obtain ⟨u3, hu3, ru3⟩ := rv3.get hv
    have hzl : z < s.heap.objs.size := Heap.lt_size hz
    have hd : X.A.in1.handled = none := I.ok.hd hc
    refine wpAny_pyNext_zipD3_item D (Draws.list hd i1 a n1 its.toArray) (Draws.list hd i2 b n2 its2.toArray) (Draws.list hd i3 c n3 its3.toArray) hz hTI hTO ⟨h1, p.isList⟩ ⟨h2, p2.isList⟩ ⟨h3, p3.isList⟩
      (by simpa using (List.getElem?_eq_some_iff.mp hu).1) (by simpa using (List.getElem?_eq_some_iff.mp hu2).1) (by simpa using (List.getElem?_eq_some_iff.mp hu3).1) fun v1 v2 v3 h' tk e1 e2 e3 z' TO' h1' h2' h3' hT hsz hk => ?_
    have q1 : v1 = u := by
      have : its[i]? = some v1 := by simpa using e1
      rw [hu] at this; cases this; rfl
    have q2 : v2 = u2 := by
      have : its2[i]? = some v2 := by simpa using e2
      rw [hu2] at this; cases this; rfl
    have q3 : v3 = u3 := by
      have : its3[i]? = some v3 := by simpa using e3
      rw [hu3] at this; cases this; rfl
    subst q1 q2 q3
    refine ⟨_, rfl, wpAny_letOwnedTupleGo_zip (s := { s with heap := h', toks := tk }) z' fun h'' z'' sb => ?_⟩
    have hT2 : h''.get? s.heap.objs.size = some { cls := .type "tuple", data := .seq #[v1, v2, v3] } := (sb.2 _ (Nat.ne_of_gt hzl)).trans hT
    have new : ObjOk X.prog X.w (upd H s.heap.objs.size (.tup [x, y, v])) h'' s.heap.objs.size (.tup [x, y, v]) :=
      ⟨by show 3 ≤ sizeLine; decide, [v1, v2, v3], .cons ru (.cons ru2 (.cons ru3 .nil)), ⟨_, hT2, rfl, _, rfl⟩⟩
    have I1 : Inv X pins σ (upd H s.heap.objs.size (.tup [x, y, v])) { s with heap := h'', toks := tk } :=
      I.turnedNew (t' := tk) (ch := [z, TI, TO, i1, i2, i3]) (fun c o hb q => (sb.2 c (fun q' => hb (by simp [q']))).trans (hk c o (fun q' => hb (by simp [q'])) (fun q' => hb (by simp [q'])) (fun q' => hb (by simp [q'])) (fun q' => hb (by simp [q'])) (fun q' => hb (by simp [q'])) q)) hf (Nat.le_refl _) new
    refine ⟨.ref s.heap.objs.size, _, I1, rfl, ⟨_, x, y, v, rfl, I.hok.fresh (Nat.le_refl _), rfl, fun l hl => by rw [I.list_inj hl hqx]; exact hx, fun l hl => by rw [I.list_inj hl hqy]; exact hy, fun l hl => by rw [I.list_inj hl hqu]; exact hv⟩, ⟨z'', ?_, ⟨v1, v2, v3, ?_⟩, ?_, ?_, ?_⟩, fun c hcm => ?_⟩
    · exact (sb.2 _ D.TIz).trans (hk _ _ D.TIz D.TITO D.TIi1 D.TIi2 D.TIi3 hTI)
    · exact (sb.2 _ D.TOz).trans TO'
    · exact h1'.1.at fun o q => (sb.2 _ (Ne.symm D.zi1)).trans q
    · exact h2'.1.at fun o q => (sb.2 _ (Ne.symm D.zi2)).trans q
    · exact h3'.1.at fun o q => (sb.2 _ (Ne.symm D.zi3)).trans q
    · have hlt : c < s.heap.objs.size := by
        have e' : c = z ∨ c = TI ∨ c = TO ∨ c = i1 ∨ c = i2 ∨ c = i3 := by simpa using hcm
        rcases e' with q | q | q | q | q | q
        · rw [q]; exact hzl
        · rw [q]; exact Heap.lt_size hTI
        · rw [q]; exact Heap.lt_size hTO
        · rw [q]; obtain ⟨_, e1, _⟩ := h1; exact Heap.lt_size e1
        · rw [q]; obtain ⟨_, e2, _⟩ := h2; exact Heap.lt_size e2
        · rw [q]; obtain ⟨_, e3, _⟩ := h3; exact Heap.lt_size e3
      rw [upd_ne (Nat.ne_of_lt hlt)]
      exact (hf c hcm).1
  done := by
    intro X hP hw hK hc i pins s σ H E I hf st hg
    subst hP hw hK
    obtain ⟨hz, hTI, ⟨x0, y0, u0, hTO⟩, h1, h2, h3⟩ := st
    obtain ⟨xs, ys, us, hqx, hqy, hqu, hend⟩ := hg
    obtain ⟨its, rv, p, _⟩ := I.list hqx
    obtain ⟨its2, rv2, p2, _⟩ := I.list hqy
    obtain ⟨its3, rv3, p3, _⟩ := I.list hqu
    have m1 := rv.length
    have m2 := rv2.length
    have m3 := rv3.length
    have hd : X.A.in1.handled = none := I.ok.hd hc
    obtain ⟨k1, P1, S1, D1, w1, l1, f1⟩ := drawsAt (prog := X.prog) (w := X.w) hd i1 a n1 its.toArray i
    obtain ⟨k2, P2, S2, D2, w2, l2, f2⟩ := drawsAt (prog := X.prog) (w := X.w) hd i2 b n2 its2.toArray i
    obtain ⟨k3, P3, S3, D3, w3, l3, f3⟩ := drawsAt (prog := X.prog) (w := X.w) hd i3 c n3 its3.toArray i
    have hend' : i = k1 ∨ i = k2 ∨ i = k3 := by
      rcases hend with q | q | q
      · exact .inl (f1 (by simp; omega))
      · exact .inr (.inl (f2 (by simp; omega)))
      · exact .inr (.inr (f3 (by simp; omega)))
    exact wpAny_pyNext_zipD3_end D D1 D2 D3 hz hTI hTO (w1 _ h1 p.isList) (w2 _ h2 p2.isList) (w3 _ h3 p3.isList) l1 l2 l3 hend' fun h' tk hk => ⟨rfl, I.turnedL (t' := tk) (ch := [z, TI, TO, i1, i2, i3]) (fun c o hb q =>
      hk c o (fun q' => hb (by simp [q'])) (fun q' => hb (by simp [q'])) (fun q' => hb (by simp [q'])) (fun q' => hb (by simp [q'])) (fun q' => hb (by simp [q'])) q) hf⟩
  self := fun A i s Q E st h => wpAny_pyIter_zip st.1 h
def iZip3 (K : PySem.W.Frag) (ta : TA) : TI := fun σ H R => ta σ H fun vs H1 => ∃ a b c xs ys zs, vs = [.ref a, .ref b, .ref c] ∧ SqL K H1 a xs ∧ SqL K H1 b ys ∧ SqL K H1 c zs ∧ R (Itz3 K a b c) H1
theorem pi_zip3 {X : Cx} {e e2 e3 : Expr} {ta : TA} {p pos tpos : Pos} {elts : List Expr} {kk : Nat} (hg : Gl X "zip") (hm : X.mg "zip" = none) (ha : PA X [e, e2, e3] ta)
    (hs : starEach [e, e2, e3] X.env = (false, eval e X.env) :: starEach [e2, e3] X.env := by rfl) (hpl : (backTo pos (starEach [e2, e3] X.env)).any (·.1) = false := by rfl) :
    PI X (.Tuple elts kk tpos) (.Call (.Name "zip" p) [e, e2, e3] [] pos) (iZip3 X.K ta) := by
  refine ⟨fun pins s σ H R I h => ?_⟩
  refine Call_ (ld_blt I hg hm PyProof.Rows.boot_zip (PyProof.Rows.callWith_type1 (thn (ha.run pos pins s σ H _ I h) fun us s1 ⟨vs, H1, I1, r1, q1⟩ => ?_) hs hpl))
  obtain ⟨a, b, c, xs, ys, zs, ex, hqx, hqy, hqz, q⟩ := q1
  subst ex
  cases r1 with
  | cons r rr =>
    cases rr with
    | cons r' rr =>
      cases rr with
      | cons r'' rr =>
      cases rr
      cases r
      cases r'
      cases r''
      obtain ⟨its, rv, p1, _⟩ := I1.list hqx
      obtain ⟨its2, rv2, p2, _⟩ := I1.list hqy
      obtain ⟨its3, rv3, p3, _⟩ := I1.list hqz
      have la : a < s1.heap.objs.size := p1.lt
      have lb : b < s1.heap.objs.size := p2.lt
      have lc : c < s1.heap.objs.size := p3.lt
      refine zip_begins3 (begins_list a its.toArray) (begins_list b its2.toArray) (begins_list c its3.toArray) p1.isList p2.isList p3.isList fun h' hz hTI hTO h1 h2 h3 hsz hk => wpAny_pyIter_zip hz ?_
      have I2 : Inv X pins σ H1 { s1 with heap := h' } := I1.kept (t' := s1.toks) hk
      refine ⟨s1.heap.objs.size + 5, [s1.heap.objs.size + 5, s1.heap.objs.size + 3, s1.heap.objs.size + 4, s1.heap.objs.size, s1.heap.objs.size + 1, s1.heap.objs.size + 2], _, _, H1, rfl, I2,
        turn_zip3 (zip_sep3 (N := s1.heap.objs.size) (fp1 := [a]) (fp2 := [b]) (fp3 := [c]) (by simpa using la) (by simpa using lb) (by simpa using lc)) (Nat.ne_of_lt la) (Nat.ne_of_lt (Nat.lt_add_right 1 lb)) (Nat.ne_of_lt (Nat.lt_add_right 2 lc)), ⟨hz, hTI, ⟨_, _, _, hTO⟩, ⟨_, h1, rfl, rfl⟩, ⟨_, h2, rfl, rfl⟩, ⟨_, h3, rfl, rfl⟩⟩, fun c hcm => ?_, q⟩
      have e' : c = s1.heap.objs.size + 5 ∨ c = s1.heap.objs.size + 3 ∨ c = s1.heap.objs.size + 4 ∨ c = s1.heap.objs.size ∨ c = s1.heap.objs.size + 1 ∨ c = s1.heap.objs.size + 2 := by simpa using hcm
      have hle : s1.heap.objs.size ≤ c := by
        rcases e' with z | z | z | z | z | z
        · rw [z]; exact Nat.le_add_right _ _
        · rw [z]; exact Nat.le_add_right _ _
        · rw [z]; exact Nat.le_add_right _ _
        · rw [z]; exact Nat.le_refl _
        · rw [z]; exact Nat.le_add_right _ _
        · rw [z]; exact Nat.le_add_right _ _
      exact I1.fpOk hle (I1.hok.fresh hle)
end L2
namespace Tb
open PySem PySem.Spec PyProof.Rows L2
/-! ### what is walked -/
def D.isTup : D → Bool
  | .tup _ => true
  | _ => false
def ItR (Z : Zn) (W : Wd) (H : Hp) : Tb.It → L2.It → Prop
  | .seq d, J => ∃ a, RelD Z W H d (.ref a) ∧ J = (if d.isTup = true then Itt Z.K a else Itl Z.K a)
  | .enu d, J => ∃ a, RelD Z W H d (.ref a) ∧ J = Ite Z.K a
  | .zip d e, J => ∃ a b, RelD Z W H d (.ref a) ∧ RelD Z W H e (.ref b) ∧ J = Itz Z.K a b
  | .rev d n, J => ∃ a, RelD Z W H d (.ref a) ∧ J = Itv Z.K a n
  | .rng lo n st, J => (st = 1 ∧ J = Itr lo n) ∨ (st = -1 ∧ J = Itc lo (-1) n)
  | .dks kvs, J => ∃ a o vs, H a = some (.frz o (.dK vs)) ∧ a ∉ W.rho ∧ RelRs W H kvs vs ∧ J = Itk a o vs
  | .zip3 d e f, J => ∃ a b c, RelD Z W H d (.ref a) ∧ RelD Z W H e (.ref b) ∧ RelD Z W H f (.ref c) ∧ J = Itz3 Z.K a b c
  | .chs x, J => J = Its x
section
variable {Z : Zn} {W W1 : Wd} {H H1 : Hp} {h : Hh} {it : Tb.It} {J : L2.It}
theorem ItR.mono (g : Gr W H W1 H1) (r : ItR Z W H it J) : ItR Z W1 H1 it J := by
  cases it with
  | seq d => obtain ⟨a, r, e⟩ := r; exact ⟨a, r.mono g, e⟩
  | enu d => obtain ⟨a, r, e⟩ := r; exact ⟨a, r.mono g, e⟩
  | zip d e => obtain ⟨a, b, r, r2, e⟩ := r; exact ⟨a, b, r.mono g, r2.mono g, e⟩
  | zip3 d e f => obtain ⟨a, b, c, r, r2, r3, e⟩ := r; exact ⟨a, b, c, r.mono g, r2.mono g, r3.mono g, e⟩
  | rev d n => obtain ⟨a, r, e⟩ := r; exact ⟨a, r.mono g, e⟩
  | rng lo n st => exact r
  | chs x => exact r
  | dks kvs => obtain ⟨a, o, vs, e, n, r, q⟩ := r; exact ⟨a, o, vs, g.keep _ _ e n, g.out e n, RelRs.imp (fun b xs z => z.mono g) kvs r, q⟩
theorem sq_one {K : PySem.W.Frag} {a : Addr} {xs ys : List V} (h1 : SqL K H a xs) (h2 : SqL K H a ys) (hK : ∀ o, K.lookup a = some o → H a = none) : xs = ys ∨ True := .inr trivial
theorem rows_len : ∀ {kvs : List (Int × List Int)} {vs : List (Key × V)}, RelRs W H kvs vs → kvs.length = vs.length
  | [], _, h => by rw [show _ = [] from h]; rfl
  | (k, ns) :: r, _, ⟨b, q, e, _, h⟩ => by rw [e, List.length_cons, List.length_cons, rows_len h]
theorem rows_get : ∀ {kvs : List (Int × List Int)} {vs : List (Key × V)} {i : Nat} {p : Int × List Int}, RelRs W H kvs vs → kvs[i]? = some p → ∃ b, vs[i]? = some (.inl p.1, .ref b)
  | [], _, i, _, _, e => by simp at e
  | (k, ns) :: r, _, 0, p, ⟨b, q, e, _, h⟩, z => by simp at z; subst z; subst e; exact ⟨b, rfl⟩
  | (k, ns) :: r, _, i + 1, p, ⟨b, q, e, _, h⟩, z => by subst e; simpa using rows_get h (by simpa using z)
theorem seqOf_list {d : D} {xs : List D} (e : seqOf h d = some xs) (n : d.isTup = false) : asL h d = some xs := by
  cases d <;> first | exact e | cases n
theorem enumL_get : ∀ (xs : List D) (n i : Nat), (enumL n xs)[i]? = xs[i]?.map fun d => .tup [.int ((n + i : Nat) : Int), d]
  | [], n, i => by simp [enumL]
  | x :: xs, n, 0 => by simp [enumL]
  | x :: xs, n, i + 1 => by simp [enumL, enumL_get xs (n + 1) i, Nat.add_right_comm, Nat.add_assoc, Nat.add_comm 1 i]
theorem enumL_len : ∀ (xs : List D) (n : Nat), (enumL n xs).length = xs.length
  | [], n => rfl
  | x :: xs, n => by simp [enumL, enumL_len xs (n + 1)]
theorem zipL_get : ∀ (xs ys : List D) (i : Nat) (d : D), (zipL xs ys)[i]? = some d → ∃ a b, xs[i]? = some a ∧ ys[i]? = some b ∧ d = .tup [a, b]
  | [], ys, i, d, e => by simp [zipL] at e
  | x :: xs, [], i, d, e => by simp [zipL] at e
  | x :: xs, y :: ys, 0, d, e => by simp [zipL] at e; exact ⟨x, y, rfl, rfl, e.symm⟩
  | x :: xs, y :: ys, i + 1, d, e => by
    obtain ⟨a, b, h1, h2, h3⟩ := zipL_get xs ys i d (by simpa [zipL] using e)
    exact ⟨a, b, by simpa using h1, by simpa using h2, h3⟩
theorem zipL_len : ∀ (xs ys : List D), (zipL xs ys).length = min xs.length ys.length
  | [], ys => by simp [zipL]
  | x :: xs, [] => by simp [zipL]
  | x :: xs, y :: ys => by simp [zipL, zipL_len xs ys]
theorem zipL3_get : ∀ (xs ys zs : List D) (i : Nat) (d : D), (zipL3 xs ys zs)[i]? = some d → ∃ a b c, xs[i]? = some a ∧ ys[i]? = some b ∧ zs[i]? = some c ∧ d = .tup [a, b, c]
  | [], ys, zs, i, d, e => by simp [zipL3] at e
  | x :: xs, [], zs, i, d, e => by simp [zipL3] at e
  | x :: xs, y :: ys, [], i, d, e => by simp [zipL3] at e
  | x :: xs, y :: ys, z :: zs, 0, d, e => by simp [zipL3] at e; exact ⟨x, y, z, rfl, rfl, rfl, e.symm⟩
  | x :: xs, y :: ys, z :: zs, i + 1, d, e => by
    obtain ⟨a, b, c, h1, h2, h3, h4⟩ := zipL3_get xs ys zs i d (by simpa [zipL3] using e)
    exact ⟨a, b, c, by simpa using h1, by simpa using h2, by simpa using h3, h4⟩
theorem zipL3_len : ∀ (xs ys zs : List D), (zipL3 xs ys zs).length = min (min xs.length ys.length) zs.length
  | [], ys, zs => by simp [zipL3]
  | x :: xs, [], zs => by simp [zipL3]
  | x :: xs, y :: ys, [] => by simp [zipL3]
  | x :: xs, y :: ys, z :: zs => by simp [zipL3, zipL3_len xs ys zs]
theorem rngL_get (st : Int) : ∀ (n i : Nat) (lo : Int), i < n → (rngL lo st n)[i]? = some (.int (lo + (i : Int) * st))
  | 0, i, lo, h => absurd h (Nat.not_lt_zero _)
  | n + 1, 0, lo, h => by simp [rngL]
  | n + 1, i + 1, lo, h => by
    have := rngL_get st n i (lo + st) (by omega)
    simp only [rngL, List.getElem?_cons_succ, this]
    congr 2
    rw [Int.natCast_succ, Int.add_mul]
    omega
theorem rngL_len (st : Int) : ∀ (n : Nat) (lo : Int), (rngL lo st n).length = n
  | 0, _ => rfl
  | n + 1, lo => by simp [rngL, rngL_len st n]
theorem ItR.stop (hr : HRel Z W H h) (r : ItR Z W H it J) {xs : List D} (e : it.items h = some xs) {i : Nat} (hi : xs.length ≤ i) : J.stop i H := by
  cases it with
  | seq d =>
    obtain ⟨a, r, eJ⟩ := r
    have e : seqOf h d = some xs := e
    cases ht : d.isTup with
    | true =>
      cases d <;> first | (cases ht; done) | skip
      rw [ht] at eJ
      subst eJ
      obtain ⟨a', vs, e1, f, rs⟩ := r
      cases e1
      cases e
      exact ⟨vs, f.sq, by rw [← rs.length]; exact hi⟩
    | false =>
      rw [ht] at eJ
      subst eJ
      obtain ⟨a', vs, e1, s, rs⟩ := asL_sq hr r (seqOf_list e ht)
      cases e1
      exact ⟨vs, s, by rw [← rs.length]; exact hi⟩
  | enu d =>
    obtain ⟨a, r, eJ⟩ := r
    subst eJ
    have e : (asL h d).map (enumL 0) = some xs := e
    cases q : asL h d with
    | none => rw [q] at e; cases e
    | some ys =>
      rw [q] at e
      cases e
      obtain ⟨a', vs, e1, s, rs⟩ := asL_sq hr r q
      cases e1
      rw [enumL_len] at hi
      exact ⟨vs, s, by rw [← rs.length]; exact hi⟩
  | zip d e' =>
    obtain ⟨a, b, r, r2, eJ⟩ := r
    subst eJ
    have e : ((asL h d).bind fun xs => (asL h e').map fun ys => zipL xs ys) = some xs := e
    cases q : asL h d with
    | none => rw [q] at e; cases e
    | some us =>
      rw [q] at e
      cases q2 : asL h e' with
      | none => rw [q2] at e; cases e
      | some ws =>
        rw [q2] at e
        cases e
        obtain ⟨a', vs, e1, s, rs⟩ := asL_sq hr r q
        obtain ⟨b', vs2, e2, s2, rs2⟩ := asL_sq hr r2 q2
        cases e1
        cases e2
        rw [zipL_len] at hi
        refine ⟨vs, vs2, s, s2, ?_⟩
        rw [← rs.length, ← rs2.length]
        omega
  | zip3 d e' f' =>
    obtain ⟨a, b, c, r, r2, r3, eJ⟩ := r
    subst eJ
    have e : ((asL h d).bind fun xs => (asL h e').bind fun ys => (asL h f').map fun zs => zipL3 xs ys zs) = some xs := e
    cases q : asL h d with
    | none => rw [q] at e; cases e
    | some us =>
      rw [q] at e
      cases q2 : asL h e' with
      | none => rw [q2] at e; cases e
      | some ws =>
        rw [q2] at e
        cases q3 : asL h f' with
        | none => rw [q3] at e; cases e
        | some ts =>
        rw [q3] at e
        cases e
        obtain ⟨a', vs, e1, s, rs⟩ := asL_sq hr r q
        obtain ⟨b', vs2, e2, s2, rs2⟩ := asL_sq hr r2 q2
        obtain ⟨c', vs3, e3, s3, rs3⟩ := asL_sq hr r3 q3
        cases e1
        cases e2
        cases e3
        rw [zipL3_len] at hi
        refine ⟨vs, vs2, vs3, s, s2, s3, ?_⟩
        rw [← rs.length, ← rs2.length, ← rs3.length]
        omega
  | rev d n =>
    obtain ⟨a, r, eJ⟩ := r
    subst eJ
    have e : ((asL h d).bind fun xs => if xs.length = n then some xs.reverse else none) = some xs := e
    cases q : asL h d with
    | none => rw [q] at e; cases e
    | some ys =>
      rw [q] at e
      simp only [Option.bind_some] at e
      by_cases hl : ys.length = n
      · rw [if_pos hl] at e
        cases e
        show n ≤ i
        rw [List.length_reverse] at hi
        omega
      · rw [if_neg hl] at e; cases e
  | rng lo n st =>
    have e : some (rngL lo st n) = some xs := e
    cases e
    rw [rngL_len] at hi
    rcases r with ⟨_, eJ⟩ | ⟨_, eJ⟩ <;> (subst eJ; exact hi)
  | chs x =>
    have eJ : J = Its x := r
    subst eJ
    have e : some (chsL x) = some xs := e
    cases e
    have hi : x.cps.size ≤ i := by
      rw [chsL, List.length_map, Array.length_toList] at hi; exact hi
    exact hi
  | dks kvs =>
    obtain ⟨a, o, vs, e1, n, r, q⟩ := r
    subst q
    cases e
    rw [List.length_map] at hi
    exact ⟨e1, by rw [← rows_len r]; exact hi⟩
theorem ItR.go (hr : HRel Z W H h) (r : ItR Z W H it J) {xs : List D} (e : it.items h = some xs) {i : Nat} {d : D} (hi : xs[i]? = some d) : J.go i H ∧ ∀ x H', J.yld i H x H' → Gr W H W H' ∧ HRel Z W H' h ∧ RelD Z W H' d x := by
  have same : ∀ {x : V} {H' : Hp}, H' = H → RelD Z W H d x → Gr W H W H' ∧ HRel Z W H' h ∧ RelD Z W H' d x := fun e r => by subst e; exact ⟨Gr.refl, hr, r⟩
  cases it with
  | seq d' =>
    obtain ⟨a, r, eJ⟩ := r
    have e : seqOf h d' = some xs := e
    cases ht : d'.isTup with
    | true =>
      cases d' <;> first | (cases ht; done) | skip
      rw [ht] at eJ
      subst eJ
      obtain ⟨a', vs, e1, f, rs⟩ := r
      cases e1
      cases e
      obtain ⟨v, ev, rv⟩ := rs.get hi
      refine ⟨⟨vs, v, f.sq, ev⟩, fun x H' ⟨eH, y⟩ => same eH ?_⟩
      have z := y vs f.sq
      rw [ev] at z; cases z
      exact rv
    | false =>
      rw [ht] at eJ
      subst eJ
      obtain ⟨a', vs, e1, s, rs⟩ := asL_sq hr r (seqOf_list e ht)
      cases e1
      obtain ⟨v, ev, rv⟩ := rs.get hi
      refine ⟨⟨vs, v, s, ev⟩, fun x H' ⟨eH, y⟩ => same eH ?_⟩
      have z := y vs s
      rw [ev] at z; cases z
      exact rv
  | enu d' =>
    obtain ⟨a, r, eJ⟩ := r
    subst eJ
    have e : (asL h d').map (enumL 0) = some xs := e
    cases q : asL h d' with
    | none => rw [q] at e; cases e
    | some ys =>
      rw [q] at e
      cases e
      obtain ⟨a', vs, e1, s, rs⟩ := asL_sq hr r q
      cases e1
      rw [enumL_get] at hi
      cases q2 : ys[i]? with
      | none => rw [q2] at hi; cases hi
      | some dd =>
        rw [q2] at hi
        simp only [Option.map_some, Nat.zero_add, Option.some.injEq] at hi
        subst hi
        obtain ⟨v, ev, rv⟩ := rs.get q2
        refine ⟨⟨vs, v, s, ev⟩, fun x H' ⟨T, w, eT, nT, eH, y⟩ => ?_⟩
        have z := y vs s
        rw [ev] at z; cases z
        subst eH
        exact ⟨Gr.fresh hr nT, hr.fresh nT, T, [.int (i : Int), v], eT, .inl upd_same, _, _, rfl, rfl, _, _, rfl, rv.mono (Gr.fresh hr nT), rfl⟩
  | zip d' e' =>
    obtain ⟨a, b, r, r2, eJ⟩ := r
    subst eJ
    have e : ((asL h d').bind fun xs => (asL h e').map fun ys => zipL xs ys) = some xs := e
    cases q : asL h d' with
    | none => rw [q] at e; cases e
    | some us =>
      rw [q] at e
      cases q2 : asL h e' with
      | none => rw [q2] at e; cases e
      | some ws =>
        rw [q2] at e
        cases e
        obtain ⟨a', vs, e1, s, rs⟩ := asL_sq hr r q
        obtain ⟨b', vs2, e2, s2, rs2⟩ := asL_sq hr r2 q2
        cases e1
        cases e2
        obtain ⟨d1, d2, q3, q4, q5⟩ := zipL_get us ws i d hi
        subst q5
        obtain ⟨v, ev, rv⟩ := rs.get q3
        obtain ⟨v2, ev2, rv2⟩ := rs2.get q4
        refine ⟨⟨vs, vs2, v, v2, s, s2, ev, ev2⟩, fun x H' ⟨T, w, w2, eT, nT, eH, y, y2⟩ => ?_⟩
        have z := y vs s
        rw [ev] at z; cases z
        have z2 := y2 vs2 s2
        rw [ev2] at z2; cases z2
        subst eH
        exact ⟨Gr.fresh hr nT, hr.fresh nT, T, [v, v2], eT, .inl upd_same, _, _, rfl, rv.mono (Gr.fresh hr nT), _, _, rfl, rv2.mono (Gr.fresh hr nT), rfl⟩
  | zip3 d' e' f' =>
    obtain ⟨a, b, c, r, r2, r3, eJ⟩ := r
    subst eJ
    have e : ((asL h d').bind fun xs => (asL h e').bind fun ys => (asL h f').map fun zs => zipL3 xs ys zs) = some xs := e
    cases q : asL h d' with
    | none => rw [q] at e; cases e
    | some us =>
      rw [q] at e
      cases q2 : asL h e' with
      | none => rw [q2] at e; cases e
      | some ws =>
        rw [q2] at e
        cases qq : asL h f' with
        | none => rw [qq] at e; cases e
        | some ts =>
        rw [qq] at e
        cases e
        obtain ⟨a', vs, e1, s, rs⟩ := asL_sq hr r q
        obtain ⟨b', vs2, e2, s2, rs2⟩ := asL_sq hr r2 q2
        obtain ⟨c', vs3, e3, s3, rs3⟩ := asL_sq hr r3 qq
        cases e1
        cases e2
        cases e3
        obtain ⟨d1, d2, d3, q3, q4, q5, q6⟩ := zipL3_get us ws ts i d hi
        subst q6
        obtain ⟨v, ev, rv⟩ := rs.get q3
        obtain ⟨v2, ev2, rv2⟩ := rs2.get q4
        obtain ⟨v3, ev3, rv3⟩ := rs3.get q5
        refine ⟨⟨vs, vs2, vs3, v, v2, v3, s, s2, s3, ev, ev2, ev3⟩, fun x H' ⟨T, w, w2, w3, eT, nT, eH, y, y2, y3⟩ => ?_⟩
        have z := y vs s
        rw [ev] at z; cases z
        have z2 := y2 vs2 s2
        rw [ev2] at z2; cases z2
        have z3 := y3 vs3 s3
        rw [ev3] at z3; cases z3
        subst eH
        exact ⟨Gr.fresh hr nT, hr.fresh nT, T, [v, v2, v3], eT, .inl upd_same, _, _, rfl, rv.mono (Gr.fresh hr nT), _, _, rfl, rv2.mono (Gr.fresh hr nT), _, _, rfl, rv3.mono (Gr.fresh hr nT), rfl⟩
  | chs x =>
    have eJ : J = Its x := r
    subst eJ
    have e : some (chsL x) = some xs := e
    cases e
    rw [chsL, List.getElem?_map, Array.getElem?_toList] at hi
    obtain ⟨c, ec, rfl⟩ := Option.map_eq_some_iff.mp hi
    refine ⟨(Array.getElem?_eq_some_iff.mp ec).1, fun v H' ⟨eH, c', ec', ev⟩ => same eH ?_⟩
    rw [ec] at ec'
    cases ec'
    exact ev
  | rev d' n =>
    obtain ⟨a, r, eJ⟩ := r
    subst eJ
    have e : ((asL h d').bind fun xs => if xs.length = n then some xs.reverse else none) = some xs := e
    cases q : asL h d' with
    | none => rw [q] at e; cases e
    | some ys =>
      rw [q] at e
      simp only [Option.bind_some] at e
      by_cases hl : ys.length = n
      · rw [if_pos hl] at e
        cases e
        obtain ⟨a', vs, e1, s, rs⟩ := asL_sq hr r q
        cases e1
        have hlt : i < ys.length := by
          have := (List.getElem?_eq_some_iff.mp hi).1
          rw [List.length_reverse] at this
          exact this
        rw [List.getElem?_reverse hlt] at hi
        obtain ⟨v, ev, rv⟩ := rs.get hi
        rw [hl] at ev
        refine ⟨⟨by omega, vs, v, s, ev⟩, fun x H' ⟨eH, y⟩ => same eH ?_⟩
        have z := y vs s
        rw [ev] at z; cases z
        exact rv
      · rw [if_neg hl] at e; cases e
  | rng lo n st =>
    have e : some (rngL lo st n) = some xs := e
    cases e
    have hlt : i < n := by
      have := (List.getElem?_eq_some_iff.mp hi).1
      rw [rngL_len] at this
      exact this
    rw [rngL_get st n i lo hlt] at hi
    cases hi
    rcases r with ⟨es, eJ⟩ | ⟨es, eJ⟩
    · subst eJ; subst es
      exact ⟨hlt, fun x H' ⟨eH, y⟩ => same eH (by rw [y]; show V.int _ = V.int _; congr 1; omega)⟩
    · subst eJ; subst es
      exact ⟨hlt, fun x H' ⟨eH, y⟩ => same eH (by rw [y]; rfl)⟩
  | dks kvs =>
    obtain ⟨a, o, vs, e1, n, r, q⟩ := r
    subst q
    cases e
    rw [List.getElem?_map, Option.map_eq_some_iff] at hi
    obtain ⟨p, ep, rfl⟩ := hi
    obtain ⟨b, eb⟩ := rows_get r ep
    refine ⟨⟨e1, (List.getElem?_eq_some_iff.mp eb).1⟩, fun x H' ⟨eH, k, v, ek, ex⟩ => same eH ?_⟩
    rw [eb] at ek
    cases ek
    exact ex
theorem cst_items {h h' : Hh} : ∀ {it : Tb.It}, it.cst = true → it.items h = it.items h'
  | .seq d, c => by cases d <;> first | rfl | cases c
  | .enu d, c => by cases d <;> first | rfl | cases c
  | .zip d e, c => by
    simp only [It.cst, Bool.and_eq_true] at c
    have h1 : asL h d = asL h' d := by cases d <;> first | rfl | cases c.1
    have h2 : asL h e = asL h' e := by cases e <;> first | rfl | cases c.2
    show ((asL h d).bind fun xs => (asL h e).map fun ys => zipL xs ys) = _
    rw [h1, h2]; rfl
  | .rev d n, c => by cases d <;> first | rfl | cases c
  | .rng _ _ _, _ => rfl
  | .dks _, _ => rfl
  | .chs _, _ => rfl
  | .zip3 d e f, c => by
    simp only [It.cst, Bool.and_eq_true] at c
    have h1 : asL h d = asL h' d := by cases d <;> first | rfl | cases c.1.1
    have h2 : asL h e = asL h' e := by cases e <;> first | rfl | cases c.1.2
    have h3 : asL h f = asL h' f := by cases f <;> first | rfl | cases c.2
    show ((asL h d).bind fun xs => (asL h e).bind fun ys => (asL h f).map fun zs => zipL3 xs ys zs) = _
    rw [h1, h2, h3]; rfl
end
section
variable {X : Cx} {Z : Zn} {Wx : L2.St → Str → Hp → Prop} {k : Nat} {tg : Expr}
abbrev TVi (Z : Zn) (Wx : L2.St → Str → Hp → Prop) (f : Ls → Hh → R Tb.It) : TI := TV Z Wx (ItR Z) f
theorem PI_imp {e : Expr} {t t' : TI} (h : PI X tg e t) (i : ∀ σ H Q, t' σ H Q → t σ H Q) : PI X tg e t' := ⟨fun pins s σ H Q I q => h.run pins s σ H Q I (i σ H Q q)⟩
/-- a list or a tuple, whichever comes -/
def iSeq (K : PySem.W.Frag) (tl : TE) : TI := fun σ H R => tl σ H fun x H1 => ∃ a, x = .ref a ∧ (((∃ xs, SqL K H1 a xs) ∧ R (Itl K a) H1) ∨ ((∃ xs, SqT K H1 a xs) ∧ R (Itt K a) H1))
theorem pi_seq {l : Expr} {tl : TE} (hl : PE X l tl) : PI X tg l (iSeq X.K tl) where
  run := by
    intro pins s σ H R I h
    refine thn (hl.run pins s σ H _ I h) fun v s1 ⟨x, H1, I1, r1, a, e, q1⟩ => ?_
    subst e
    cases r1
    have fp : ∀ b ∈ [s1.heap.objs.size], FpOk X pins H1 b := fun b hb => by
      rw [List.mem_singleton.mp hb]
      exact I1.fpOk (Nat.le_refl _) (I1.hok.fresh (Nat.le_refl _))
    rcases q1 with ⟨⟨xs, hq⟩, q⟩ | ⟨⟨xs, hq⟩, q⟩
    · obtain ⟨its, rv, p, hz⟩ := I1.list hq
      exact wpAny_pyIter_list p.isList ⟨_, _, _, _, H1, rfl, I1.kept (t' := s1.toks) fun b o e => Heap.get?_push_of_some _ e, turn_list a _, ⟨_, Heap.get?_push_size _ rfl, rfl, rfl⟩, fp, q⟩
    · obtain ⟨its, rv, p, hz⟩ := I1.tuple hq
      exact wpAny_pyIter_tuple (show s1.heap.IsTuple a its.toArray from p) ⟨_, _, _, _, H1, rfl, I1.kept (t' := s1.toks) fun b o e => Heap.get?_push_of_some _ e, turn_tuple a _, ⟨_, Heap.get?_push_size _ rfl, rfl, rfl⟩, fp, q⟩
theorem mkR_tri {E Q W H h} {o : Option Tb.It} (t : Tri Z (ItR Z) E Q W H (mkR o h)) : ∃ i, o = some i ∧ Tri Z (ItR Z) E Q W H (.ok i h) := by
  cases o with
  | none => exact t.elim
  | some i => exact ⟨i, rfl, t⟩
theorem i_seq {e : E} {x : Expr} (g : Gd Z Wx k X) (he : PE X x (TVe Z Wx (evE e))) : PI X tg x (TVi Z Wx (evI (.seq e))) :=
  PI_imp (pi_seq he) fun σ H Q ⟨W, ls, h, lr, hr, t⟩ => step lr hr t fun v H1 W1 d h1 g1 lr1 hr1 rx t1 => by
    obtain ⟨i, ei, t2⟩ := mkR_tri t1
    cases q : seqOf h1 d with
    | none => rw [q] at ei; cases ei
    | some xs =>
      rw [q] at ei
      cases ei
      cases ht : d.isTup with
      | true =>
        cases d <;> first | (cases ht; done) | skip
        obtain ⟨a, vs, e1, f, rs⟩ := rx
        subst e1
        exact ⟨a, rfl, .inr ⟨⟨vs, by rw [g.hK]; exact f.sq⟩, t2.now hr1 ⟨a, ⟨a, vs, rfl, f, rs⟩, by rw [g.hK]; rfl⟩⟩⟩
      | false =>
        obtain ⟨a, vs, e1, s, rs⟩ := asL_sq hr1 rx (seqOf_list q ht)
        subst e1
        exact ⟨a, rfl, .inl ⟨⟨vs, by rw [g.hK]; exact s⟩, t2.now hr1 ⟨a, rx, by rw [g.hK, ht]; rfl⟩⟩⟩
theorem i_chs {e : E} {x : Expr} (g : Gd Z Wx k X) (he : PE X x (TVe Z Wx (evE e))) : PI X tg x (TVi Z Wx (evI (.chs e))) :=
  PI_imp (pi_str he) fun σ H Q ⟨W, ls, h, lr, hr, t⟩ => step lr hr t fun v H1 W1 d h1 g1 lr1 hr1 rx t1 => by
    obtain ⟨i, ei, t2⟩ := mkR_tri t1
    cases d with
    | str y =>
      cases ei
      exact ⟨y, by rw [show v = V.str y from rx], t2.now hr1 rfl⟩
    | _ => cases ei
theorem i_enu {e : E} {y : Expr} {p pos tp : Pos} {elts : List Expr} {kk : Nat} (g : Gd Z Wx k X) (hg : globB (ccOf X) ("enumerate" : Str) = true) (n : nStar y = true) (he : PE X y (TVe Z Wx (evE e))) :
    PI X (.Tuple elts kk tp) (.Call (.Name ("enumerate" : Str) p) [y] [] pos) (TVi Z Wx (evI (.enu e))) :=
  PI_imp (pi_enum (gl_of hg).1 (g.free _ (by decide +kernel)) (pa_cons he pa_nil (star_of n)) (star_of n)) fun σ H Q ⟨W, ls, h, lr, hr, t⟩ => step lr hr t fun v H1 W1 d h1 g1 lr1 hr1 rx t1 => by
    obtain ⟨i, ei, t2⟩ := mkR_tri t1
    cases q : asL h1 d with
    | none => rw [q] at ei; cases ei
    | some xs =>
      rw [q] at ei
      cases ei
      obtain ⟨a, vs, e1, s, rs⟩ := asL_sq hr1 rx q
      subst e1
      exact ⟨a, vs, rfl, by rw [g.hK]; exact s, t2.now hr1 ⟨a, rx, by rw [g.hK]⟩⟩
theorem i_rev {e : E} {y : Expr} {p pos : Pos} (g : Gd Z Wx k X) (hg : globB (ccOf X) ("reversed" : Str) = true) (n : nStar y = true) (he : PE X y (TVe Z Wx (evE e))) :
    PI X tg (.Call (.Name ("reversed" : Str) p) [y] [] pos) (TVi Z Wx (evI (.rev e))) :=
  PI_imp (pi_reversed (gl_of hg).1 (g.free _ (by decide +kernel)) (pa_cons he pa_nil (star_of n)) (star_of n)) fun σ H Q ⟨W, ls, h, lr, hr, t⟩ => step lr hr t fun v H1 W1 d h1 g1 lr1 hr1 rx t1 => by
    obtain ⟨i, ei, t2⟩ := mkR_tri t1
    cases q : asL h1 d with
    | none => rw [q] at ei; cases ei
    | some xs =>
      rw [q] at ei
      cases ei
      obtain ⟨a, vs, e1, s, rs⟩ := asL_sq hr1 rx q
      subst e1
      exact ⟨a, vs, rfl, by rw [g.hK]; exact s, t2.now hr1 ⟨a, rx, by rw [g.hK, rs.length]⟩⟩
theorem i_zip {e f : E} {y z : Expr} {p pos tp : Pos} {elts : List Expr} {kk : Nat} (g : Gd Z Wx k X) (hg : globB (ccOf X) ("zip" : Str) = true) (n : nStar y = true) (n2 : nStar z = true) (he : PE X y (TVe Z Wx (evE e))) (hf : PE X z (TVe Z Wx (evE f))) :
    PI X (.Tuple elts kk tp) (.Call (.Name ("zip" : Str) p) [y, z] [] pos) (TVi Z Wx (evI (.zip e f))) :=
  PI_imp (pi_zip (gl_of hg).1 (g.free _ (by decide +kernel)) (pa_cons he (pa_cons hf pa_nil (star_of n2)) (star_of n)) (star_of n) (star_all (by simp [n2]))) fun σ H Q ⟨W, ls, h, lr, hr, t⟩ =>
    step lr hr t fun v H1 W1 d h1 g1 lr1 hr1 rx t1 => step lr1 hr1 t1 fun u H2 W2 d2 h2 g2 lr2 hr2 ry t2 => by
      obtain ⟨i, ei, t3⟩ := mkR_tri t2
      cases q : asL h2 d with
      | none => rw [q] at ei; cases ei
      | some xs =>
        rw [q] at ei
        cases q2 : asL h2 d2 with
        | none => rw [q2] at ei; cases ei
        | some ys =>
          rw [q2] at ei
          cases ei
          obtain ⟨a, vs, e1, s, rs⟩ := asL_sq hr2 (rx.mono g2) q
          obtain ⟨b, us, e2, s2, rs2⟩ := asL_sq hr2 ry q2
          subst e1 e2
          exact ⟨a, b, vs, us, rfl, by rw [g.hK]; exact s, by rw [g.hK]; exact s2, t3.now hr2 ⟨a, b, rx.mono g2, ry, by rw [g.hK]⟩⟩
theorem i_zip3 {e f f2 : E} {y z u : Expr} {p pos tp : Pos} {elts : List Expr} {kk : Nat} (g : Gd Z Wx k X) (hg : globB (ccOf X) ("zip" : Str) = true) (n : nStar y = true) (n2 : nStar z = true) (n3 : nStar u = true) (he : PE X y (TVe Z Wx (evE e))) (hf : PE X z (TVe Z Wx (evE f))) (hf2 : PE X u (TVe Z Wx (evE f2))) :
    PI X (.Tuple elts kk tp) (.Call (.Name ("zip" : Str) p) [y, z, u] [] pos) (TVi Z Wx (evI (.zip3 e f f2))) :=
  PI_imp (pi_zip3 (gl_of hg).1 (g.free _ (by decide +kernel)) (pa_cons he (pa_cons hf (pa_cons hf2 pa_nil (star_of n3)) (star_of n2)) (star_of n)) (star_of n) (star_all (by simp [n2, n3]))) fun σ H Q ⟨W, ls, h, lr, hr, t⟩ =>
    step lr hr t fun v H1 W1 d h1 g1 lr1 hr1 rx t1 => step lr1 hr1 t1 fun u H2 W2 d2 h2 g2 lr2 hr2 ry t2 => step lr2 hr2 t2 fun u3 H3 W3 d3 h3 g3 lr3 hr3 rz t4 => by
      obtain ⟨i, ei, t3⟩ := mkR_tri t4
      cases q : asL h3 d with
      | none => rw [q] at ei; cases ei
      | some xs =>
        rw [q] at ei
        cases q2 : asL h3 d2 with
        | none => rw [q2] at ei; cases ei
        | some ys =>
          rw [q2] at ei
          cases q3 : asL h3 d3 with
          | none => rw [q3] at ei; cases ei
          | some zs =>
          rw [q3] at ei
          cases ei
          obtain ⟨a, vs, e1, s, rs⟩ := asL_sq hr3 ((rx.mono g2).mono g3) q
          obtain ⟨b, us, e2, s2, rs2⟩ := asL_sq hr3 (ry.mono g3) q2
          obtain ⟨c, ws, e3, s3, rs3⟩ := asL_sq hr3 rz q3
          subst e1 e2 e3
          exact ⟨a, b, c, vs, us, ws, rfl, by rw [g.hK]; exact s, by rw [g.hK]; exact s2, by rw [g.hK]; exact s3, t3.now hr3 ⟨a, b, c, (rx.mono g2).mono g3, ry.mono g3, rz, by rw [g.hK]⟩⟩
theorem smallR_of {i : Int} (h : smallR i = true) : -(2 ^ 62) ≤ i ∧ i < 2 ^ 62 := by
  have := Nat.le_of_ble_eq_true h
  omega
theorem i_rng {es : Es} {xs : List Expr} {p pos : Pos} (g : Gd Z Wx k X) (hg : globB (ccOf X) ("range" : Str) = true) (hs : xs.all nStar = true) (h1 : 1 ≤ xs.length) (h3 : xs.length ≤ 3) (hl : xs.length = es.len) (ha : PA X xs (TVa Z Wx (evEs es))) :
    PI X tg (.Call (.Name ("range" : Str) p) xs [] pos) (TVi Z Wx (evI (.rng es))) := by
  have gl := (gl_of hg).1
  have fr := g.free "range" (by decide +kernel)
  have ln : PA X xs (fun σ H Q => TVa Z Wx (evEs es) σ H fun vs H1 => vs.length = es.len → Q vs H1) := ha.imp fun σ H Q ⟨W, ls, h, lr, hr, t⟩ => by
    refine ⟨W, ls, h, lr, hr, ?_⟩
    cases q : evEs es ls h with
    | ok ds h' =>
      rw [q] at t
      intro v W' H' g' hr' r'
      exact t v W' H' g' hr' r' (by rw [← r'.length]; exact evEs_len es q)
    | exc c h' => rw [q] at t; exact t
    | bad => rw [q] at t; exact t
  have shape : ∀ {W H h} {ds : List D} {vs : List V} {Q : L2.It → Hp → Prop} {E}, RelDs Z W H ds vs → HRel Z W H h → Tri Z (ItR Z) E Q W H (mkR (rngOf ds) h) →
      (∃ j : Int, vs = [.int j] ∧ smallR j = true ∧ Q (Itr 0 j.toNat) H) ∨ (∃ i j : Int, vs = [.int i, .int j] ∧ smallR i = true ∧ smallR j = true ∧ Q (Itr i (j - i).toNat) H) ∨ ∃ i j : Int, vs = [.int i, .int j, .int (-1)] ∧ smallR i = true ∧ smallR j = true ∧ Q (Itc i (-1) (i - j).toNat) H := by
    intro W H h ds vs Q E r hr t
    obtain ⟨it, ei, t2⟩ := mkR_tri t
    unfold rngOf at ei
    split at ei
    · rename_i j
      split at ei
      · rename_i hj
        cases ei
        obtain ⟨v, q, rfl, r1, rfl⟩ := r
        cases r1
        exact .inl ⟨j, rfl, hj, t2.now hr (.inl ⟨rfl, rfl⟩)⟩
      · cases ei
    · rename_i i j
      split at ei
      · rename_i hj
        cases ei
        obtain ⟨v, q, rfl, r1, v2, q2, rfl, r2, rfl⟩ := r
        cases r1; cases r2
        exact .inr (.inl ⟨i, j, rfl, hj.1, hj.2, t2.now hr (.inl ⟨rfl, rfl⟩)⟩)
      · cases ei
    · rename_i i j
      split at ei
      · rename_i hj
        cases ei
        obtain ⟨v, q, rfl, r1, v2, q2, rfl, r2, v3, q3, rfl, r3, rfl⟩ := r
        cases r1; cases r2; cases r3
        exact .inr (.inr ⟨i, j, rfl, hj.1, hj.2, t2.now hr (.inr ⟨rfl, rfl⟩)⟩)
      · cases ei
    · cases ei
  match xs, h1, h3, hs, hl, ln with
  | [], h1, _, _, _, _ => exact absurd h1 (by simp)
  | [a], _, _, hs, hl, ln =>
    simp only [List.all_cons, Bool.and_eq_true] at hs
    refine PI_imp (pi_range1 gl fr ln (star_of hs.1)) fun σ H Q ⟨W, ls, h, lr, hr, t⟩ => step lr hr t fun vs H1 W1 ds h1 g1 lr1 hr1 rx t1 hv => ?_
    rw [← hl] at hv
    rcases shape rx hr1 t1 with ⟨j, rfl, sj, q⟩ | ⟨i, j, rfl, _⟩ | ⟨i, j, rfl, _⟩
    · exact ⟨j, rfl, (smallR_of sj).1, (smallR_of sj).2, q⟩
    · simp at hv
    · simp at hv
  | [a, b], _, _, hs, hl, ln =>
    simp only [List.all_cons, Bool.and_eq_true] at hs
    refine PI_imp (pi_range2 gl fr ln (by rw [star_of hs.1, star_of hs.2.1]; rfl) (star_of hs.2.1)) fun σ H Q ⟨W, ls, h, lr, hr, t⟩ => step lr hr t fun vs H1 W1 ds h1 g1 lr1 hr1 rx t1 hv => ?_
    rw [← hl] at hv
    rcases shape rx hr1 t1 with ⟨j, rfl, sj, q⟩ | ⟨i, j, rfl, si, sj, q⟩ | ⟨i, j, rfl, _⟩
    · simp at hv
    · exact ⟨i, j, rfl, ⟨(smallR_of si).1, (smallR_of si).2, (smallR_of sj).1, (smallR_of sj).2⟩, q⟩
    · simp at hv
  | [a, b, c], _, _, hs, hl, ln =>
    simp only [List.all_cons, Bool.and_eq_true] at hs
    refine PI_imp (pi_range3 gl fr ln (star_of hs.1) (star_all (by simp [hs.2.1, hs.2.2.1]))) fun σ H Q ⟨W, ls, h, lr, hr, t⟩ => step lr hr t fun vs H1 W1 ds h1 g1 lr1 hr1 rx t1 hv => ?_
    rw [← hl] at hv
    rcases shape rx hr1 t1 with ⟨j, rfl, sj, q⟩ | ⟨i, j, rfl, si, sj, q⟩ | ⟨i, j, rfl, si, sj, q⟩
    · simp at hv
    · simp at hv
    · exact ⟨i, j, -1, _, rfl, RgC.neg (smallR_of si).1 (smallR_of si).2 (smallR_of sj).1 (smallR_of sj).2, q⟩
  | _ :: _ :: _ :: _ :: _, _, h3, _, _, _ => exact absurd h3 (by simp)
end
end Tb
namespace Tb
open PySem PySem.Spec PyProof.Rows L2
/-! ### comprehensions -/
/-- D is not ours -/
def Wd.forg (W : Wd) (D : Addr) : Wd := ⟨W.rho, fun a => W.F a ∨ a = D⟩
section
variable {Z : Zn} {W W1 W' : Wd} {H H1 : Hp} {h : Hh} {Da : Addr}
mutual
theorem RelD.forg (n : H Da = none) : ∀ (d : D) {v : V}, RelD Z W H d v → RelD Z (W.forg Da) H d v
  | .non, _, h => h
  | .bl _, _, h => h
  | .int _, _, h => h
  | .str _, _, h => h
  | .tup xs, _, ⟨a, vs, e, f, r⟩ => ⟨a, vs, e, f, RelDs.forg n xs r⟩
  | .lst xs, _, ⟨a, vs, e, ⟨f1, f2, f3⟩, r⟩ => ⟨a, vs, e, ⟨f1, f2, fun m => m.elim f3 fun q => by rw [q, n] at f1; cases f1⟩, RelDs.forg n xs r⟩
  | .kl xs, _, ⟨a, vs, e, f, r⟩ => ⟨a, vs, e, by
      rcases f with ⟨o, f1, f2, f3⟩ | f
      · exact .inl ⟨o, f1, f2, fun m => m.elim f3 fun q => by rw [q, n] at f1; cases f1⟩
      · exact .inr f, RelDs.forg n xs r⟩
  | .dic kvs, _, ⟨a, vs, e, f1, f2, f3, r⟩ => ⟨a, vs, e, f1, f2, fun m => m.elim f3 (fun q => (by rw [q, n] at f1; cases f1)), RelKs.forg n kvs r⟩
  | .kd kvs, _, ⟨a, vs, e, f1, f2, f3, r⟩ => ⟨a, vs, e, f1, f2, fun m => m.elim f3 (fun q => by
      rcases f1 with f1 | ⟨o, f1⟩ <;> (rw [q, n] at f1; cases f1)), RelRs.imp (fun b xs ⟨g1, g2, g3⟩ => ⟨g1, g2, fun m => m.elim g3 fun q => by rw [q, n] at g1; cases g1⟩) kvs r⟩
  | .cel i, _, h => h
  | .cls _, _, h => h
  | .ty _, _, h => h
  | .exc _, _, h => h
theorem RelDs.forg (n : H Da = none) : ∀ (ds : List D) {vs : List V}, RelDs Z W H ds vs → RelDs Z (W.forg Da) H ds vs
  | [], _, h => h
  | d :: ds, _, ⟨v, r, e, h1, h2⟩ => ⟨v, r, e, RelD.forg n d h1, RelDs.forg n ds h2⟩
theorem RelKs.forg (n : H Da = none) : ∀ (ds : List (Key × D)) {vs : List (Key × V)}, RelKs Z W H ds vs → RelKs Z (W.forg Da) H ds vs
  | [], _, h => h
  | (k, d) :: ds, _, ⟨v, r, e, h1, h2⟩ => ⟨v, r, e, RelD.forg n d h1, RelKs.forg n ds h2⟩
end
mutual
/-- a list that is not ours changes -/
theorem RelD.oth {o : HO} {us : List V} (f : W.F Da) (e0 : H Da = some (.lst us)) : ∀ (d : D) {v : V}, RelD Z W H d v → RelD Z W (upd H Da o) d v
  | .non, _, h => h
  | .bl _, _, h => h
  | .int _, _, h => h
  | .str _, _, h => h
  | .tup xs, _, ⟨a, vs, e, g, r⟩ => ⟨a, vs, e, by
      rcases g with g | g
      · exact .inl (by rw [upd_ne (show a ≠ Da from fun q => by rw [q, e0] at g; cases g)]; exact g)
      · exact .inr g, RelDs.oth f e0 xs r⟩
  | .lst xs, _, ⟨a, vs, e, ⟨f1, f2, f3⟩, r⟩ => ⟨a, vs, e, ⟨by rw [upd_ne (show a ≠ Da from fun q => f3 (q ▸ f))]; exact f1, f2, f3⟩, RelDs.oth f e0 xs r⟩
  | .kl xs, _, ⟨a, vs, e, g, r⟩ => ⟨a, vs, e, by
      rcases g with ⟨o, f1, f2, f3⟩ | g
      · exact .inl ⟨o, by rw [upd_ne (show a ≠ Da from fun q => f3 (q ▸ f))]; exact f1, f2, f3⟩
      · exact .inr g, RelDs.oth f e0 xs r⟩
  | .dic kvs, _, ⟨a, vs, e, f1, f2, f3, r⟩ => ⟨a, vs, e, by rw [upd_ne (show a ≠ Da from fun q => f3 (q ▸ f))]; exact f1, f2, f3, RelKs.oth f e0 kvs r⟩
  | .kd kvs, _, ⟨a, vs, e, f1, f2, f3, r⟩ => ⟨a, vs, e, by
      have ne : a ≠ Da := fun q => f3 (q ▸ f)
      rcases f1 with f1 | ⟨p, f1⟩
      · exact .inl (by rw [upd_ne ne]; exact f1)
      · exact .inr ⟨p, by rw [upd_ne ne]; exact f1⟩, f2, f3, RelRs.imp (fun b xs ⟨g1, g2, g3⟩ => ⟨by rw [upd_ne (show b ≠ Da from fun q => g3 (q ▸ f))]; exact g1, g2, g3⟩) kvs r⟩
  | .cel i, _, h => h
  | .cls _, _, h => h
  | .ty _, _, h => h
  | .exc _, _, ⟨a, C, e1, e2, e3, e4, e5⟩ => ⟨a, C, e1, e2, e3, e4, by rw [upd_ne (show a ≠ Da from fun q => by rw [q, e0] at e5; cases e5)]; exact e5⟩
theorem RelDs.oth {o : HO} {us : List V} (f : W.F Da) (e0 : H Da = some (.lst us)) : ∀ (ds : List D) {vs : List V}, RelDs Z W H ds vs → RelDs Z W (upd H Da o) ds vs
  | [], _, h => h
  | d :: ds, _, ⟨v, r, e, h1, h2⟩ => ⟨v, r, e, RelD.oth f e0 d h1, RelDs.oth f e0 ds h2⟩
theorem RelKs.oth {o : HO} {us : List V} (f : W.F Da) (e0 : H Da = some (.lst us)) : ∀ (ds : List (Key × D)) {vs : List (Key × V)}, RelKs Z W H ds vs → RelKs Z W (upd H Da o) ds vs
  | [], _, h => h
  | (k, d) :: ds, _, ⟨v, r, e, h1, h2⟩ => ⟨v, r, e, RelD.oth f e0 d h1, RelKs.oth f e0 ds h2⟩
end
/-- what the items of an object are, by any way of reading data anew -/
theorem ObjR.map {a : Addr} {H' : Hp} (hk : ∀ o, H a = some o → H' a = some o) (hd : ∀ (d : D) v, RelD Z W H d v → RelD Z W' H' d v) : ∀ {o : O}, ObjR Z W H a o → ObjR Z W' H' a o
  | .lst xs, ⟨vs, e, r⟩ => by
    have go : ∀ (xs : List D) (vs : List V), RelDs Z W H xs vs → RelDs Z W' H' xs vs := by
      intro xs
      induction xs with
      | nil => intro vs r; exact r
      | cons x xs ih => intro vs r; obtain ⟨v, q, e, h1, h2⟩ := r; exact ⟨v, q, e, hd x v h1, ih q h2⟩
    exact ⟨vs, hk _ e, go xs vs r⟩
  | .ins c fs, ⟨C, dx, vs, e1, e2, r⟩ => by
    have go : ∀ (fs : List (Str × D)) (vs : List (Str × V)), RelFs Z W H fs vs → RelFs Z W' H' fs vs := by
      intro fs
      induction fs with
      | nil => intro vs r; exact r
      | cons p fs ih => obtain ⟨k, d⟩ := p; intro vs r; obtain ⟨v, q, e, h1, h2⟩ := r; exact ⟨v, q, e, hd d v h1, ih q h2⟩
    exact ⟨C, dx, vs, e1, hk _ e2, go fs vs r⟩
  | .dct kvs, ⟨vs, e, r⟩ => by
    have go : ∀ (fs : List (Key × D)) (vs : List (Key × V)), RelKs Z W H fs vs → RelKs Z W' H' fs vs := by
      intro fs
      induction fs with
      | nil => intro vs r; exact r
      | cons p fs ih => obtain ⟨k, d⟩ := p; intro vs r; obtain ⟨v, q, e, h1, h2⟩ := r; exact ⟨v, q, e, hd d v h1, ih q h2⟩
    exact ⟨vs, hk _ e, go kvs vs r⟩
theorem HRel.forg (hr : HRel Z W H h) (n : H Da = none) {o : HO} : HRel Z (W.forg Da) (upd H Da o) h := by
  have g := Gr.fresh (o := o) hr n
  refine ⟨hr.len, hr.nd, fun i a ob e1 e2 => ?_, fun a m => ?_, fun a m => ?_⟩
  · have q := hr.obj i a ob e1 e2
    refine ObjR.map (fun u e => by rw [upd_ne (ne_of_none e n)]; exact e) (fun d v r => ?_) q
    exact RelD.mono (W := W.forg Da) (W1 := W.forg Da) ⟨⟨[], by simp, fun _ z => nomatch z⟩, rfl, fun a u e _ => by rw [upd_ne (ne_of_none e n)]; exact e, fun a xs _ e => by rw [upd_ne (ne_of_none e n)]; exact e, g.trk⟩ d (RelD.forg n d r)
  · rintro (f | f)
    · exact hr.dis a m f
    · subst f; exact hr.notin n m
  · rcases m with m | m
    · exact fun e => hr.frn a m (g.trk a e)
    · subst m; rw [upd_same]; simp
theorem HRel.oth (hr : HRel Z W H h) {o : HO} {us : List V} (f : W.F Da) (e0 : H Da = some (.lst us)) : HRel Z W (upd H Da o) h :=
  ⟨hr.len, hr.nd, fun i a ob e1 e2 => ObjR.map (fun u e => by rw [upd_ne (show a ≠ Da from fun q => hr.dis a (List.mem_of_getElem? e1) (q ▸ f))]; exact e) (fun d v r => RelD.oth f e0 d r) (hr.obj i a ob e1 e2), hr.dis, fun a m e => by
    by_cases q : a = Da
    · subst q; rw [upd_same] at e; cases e
    · rw [upd_ne q] at e; exact hr.frn a m e⟩
/-- from a start where Da was not there -/
theorem Gr.oth (g : Gr W H W1 H1) (n : H Da = none) {o : HO} : Gr W H W1 (upd H1 Da o) :=
  ⟨g.pre, g.frn, fun a u e m => by rw [upd_ne (ne_of_none e n)]; exact g.keep a u e m, fun a xs f e => by rw [upd_ne (ne_of_none e n)]; exact g.tups a xs f e, fun a e => by
    by_cases q : a = Da
    · subst q; exact n
    · rw [upd_ne q] at e; exact g.trk a e⟩
end
/-- what is left of a comprehension, by the turn -/
structure Rst (it : Tb.It) (g : D → Ls → Option Ls) (t : Ls → Hh → R Bool) (f : Ls → Hh → R D) (ls : Ls) (rest : Nat → Nat → Hh → R (List D)) (Iv : Nat → Nat → Prop) : Prop where
  un : ∀ m i h, Iv m i → rest m i h = .bad ∨ ∃ xs, it.items h = some xs ∧ ((xs.length ≤ i ∧ rest m i h = .ok [] h) ∨ ∃ d l1 m', xs[i]? = some d ∧ g d ls = some l1 ∧ m' < m ∧ Iv m' (i + 1) ∧ i < LIM ∧
    rest m i h = (t l1 h).bind fun b h1 => if b = true then (f l1 h1).bind fun d h2 => (rest m' (i + 1) h2).bind fun ds h3 => .ok (d :: ds) h3 else rest m' (i + 1) h1)
theorem rst_L {it : Tb.It} {g t f ls} {h0 : Hh} {xs : List D} (c : it.cst = true) (e : it.items h0 = some xs) (hl : xs.length ≤ LIM) : Rst it g t f ls (fun _ i h => compL g t f ls (xs.drop i) h) (fun m i => m = xs.length - i) := by
  refine ⟨fun m i h hm => ?_⟩
  have e' : it.items h = some xs := by rw [cst_items c (h' := h0)]; exact e
  by_cases hi : i < xs.length
  · have un : compL g t f ls (xs.drop i) h = match g xs[i] ls with
        | none => .bad
        | some l1 => (t l1 h).bind fun b h1 => if b = true then (f l1 h1).bind fun d h2 => (compL g t f ls (xs.drop (i + 1)) h2).bind fun ds h3 => .ok (d :: ds) h3 else compL g t f ls (xs.drop (i + 1)) h1 := by
      rw [List.drop_eq_getElem_cons hi]; rfl
    cases q : g xs[i] ls with
    | none => rw [q] at un; exact .inl un
    | some l1 => rw [q] at un; exact .inr ⟨xs, e', .inr ⟨xs[i], l1, xs.length - (i + 1), by simp [hi], q, by omega, rfl, by omega, un⟩⟩
  · refine .inr ⟨xs, e', .inl ⟨by omega, ?_⟩⟩
    show compL g t f ls (xs.drop i) h = _
    rw [List.drop_eq_nil_of_le (by omega)]
    rfl
theorem rst_I {it : Tb.It} {g t f ls} : Rst it g t f ls (fun m i h => compI it g t f ls m i h) (fun m i => m + i ≤ FUEL) := by
  refine ⟨fun m i h hm => ?_⟩
  cases m with
  | zero => exact .inl rfl
  | succ m =>
    have un : compI it g t f ls (m + 1) i h = match it.items h with
        | none => .bad
        | some xs => match xs[i]? with
          | none => .ok [] h
          | some x => match g x ls with
            | none => .bad
            | some l1 => (t l1 h).bind fun b h1 => if b = true then (f l1 h1).bind fun d h2 => (compI it g t f ls m (i + 1) h2).bind fun ds h3 => .ok (d :: ds) h3 else compI it g t f ls m (i + 1) h1 := rfl
    cases q : it.items h with
    | none => rw [q] at un; exact .inl un
    | some xs =>
      rw [q] at un
      simp only at un
      cases q2 : xs[i]? with
      | none => rw [q2] at un; exact .inr ⟨xs, rfl, .inl ⟨by simpa using q2, un⟩⟩
      | some d =>
        rw [q2] at un
        simp only at un
        cases q3 : g d ls with
        | none => rw [q3] at un; exact .inl un
        | some l1 => rw [q3] at un; exact .inr ⟨xs, rfl, .inr ⟨d, l1, m, q2, q3, by omega, by omega, by unfold FUEL at hm; unfold LIM; omega, un⟩⟩
abbrev noW : L2.St → Str → Hp → Prop := fun _ _ _ => False
theorem wipeL_rel {Z : Zn} {W H} {ls : Ls} {σ : L2.St} (lr : LRel Z W H ls σ) : ∀ own : List Nat, LRel Z W H (wipeL ls own) (wipe σ own)
  | [] => lr
  | v :: vs => by
    have ih := wipeL_rel lr vs
    refine ⟨by simp [wipeL, wipe, ih.1], fun i d e => ?_⟩
    unfold wipeL at e
    by_cases hi : v = i
    · subst hi
      by_cases hv : v < (wipeL ls vs).length
      · rw [List.getElem?_set_self hv] at e; cases e
      · rw [List.getElem?_eq_none (by simpa using hv)] at e; cases e
    · rw [List.getElem?_set_ne hi] at e
      obtain ⟨w, e1, r⟩ := ih.2 i d e
      refine ⟨w, ?_, r⟩
      unfold wipe
      rw [List.getElem?_set_ne hi]; exact e1
theorem wipe_idem {σ : L2.St} : ∀ own : List Nat, wipe (wipe σ own) own = wipe σ own := by
  have comm : ∀ (own : List Nat) (τ : L2.St) (v : Nat), wipe (τ.set v none) own = (wipe τ own).set v none := by
    intro own
    induction own with
    | nil => intro τ v; rfl
    | cons j own ih =>
      intro τ v
      unfold wipe
      rw [ih]
      by_cases hj : v = j
      · subst hj; rfl
      · rw [List.set_comm _ _ hj]
  intro own
  induction own with
  | nil => rfl
  | cons j own ih =>
    show (wipe ((wipe σ own).set j none) own).set j none = (wipe σ own).set j none
    rw [comm, ih, List.set_set]
section
variable {X : Cx} {Z : Zn} {Wx : L2.St → Str → Hp → Prop} {k : Nat}
theorem comp_core {it : Tb.It} {J : L2.It} {W1 : Wd} {H1 : Hp} {h1 : Hh} {ls : Ls} {σ : L2.St} {own : List Nat} {tgt : Tg} {t : Ls → Hh → R Bool} {f : Ls → Hh → R D} {rest : Nat → Nat → Hh → R (List D)} {Iv : Nat → Nat → Prop} {Q : VK} {c : Bool} {m0 : Nat} {E : Str → Hp → Prop}
    (hR : Rst it (asgT tgt) t f (wipeL ls own) rest Iv) (lr : LRel Z W1 H1 ls σ) (hr : HRel Z W1 H1 h1) (ir : ItR Z W1 H1 it J) (iv : Iv m0 0)
    (hown : tgt.inB own = true)
    (q : TriD Z E Q W1 H1 ((noX (rest m0 0 h1)).bind fun ds h2 => mkL c ds h2)) (Da : Addr) (nD : H1 Da = none) :
    ∃ Wm : Nat → Nat → Hp → Prop, (∃ m, Wm 0 m (upd H1 Da (.lst []))) ∧ ∀ i m H, Wm i m H →
      (J.stop i H ∧ Q (.ref Da) H) ∨ (J.go i H ∧ ∃ Nx : Hp → Prop, (∀ H', Nx H' → ∃ m', m' < m ∧ Wm (i + 1) m' H') ∧ ∀ x H', J.yld i H x H' → TGv Z tgt x (wipe σ own) H' fun σ2 H2 => wipe σ2 own = wipe σ own ∧ TVt Z noW t σ2 H2 fun b H3 =>
        if b = true then TVe Z noW f σ2 H3 fun y H4 => ∃ acc, H4 Da = some (.lst acc) ∧ acc.length < sizeLine ∧ Nx (upd H4 Da (.lst (acc ++ [y]))) else Nx H3) := by
  -- what is wanted of the end, by the items so far
  let Fin : R (List D) → List D → Prop := fun r acc => match r with
    | .ok ds hf => ∀ Wf Hf vs, Gr (W1.forg Da) H1 Wf Hf → Hf Da = some (.lst vs) → RelDs Z Wf Hf (acc ++ ds) vs → HRel Z Wf Hf hf → Q (.ref Da) Hf
    | _ => False
  have fin0 : Fin (rest m0 0 h1) [] := by
    cases e : rest m0 0 h1 with
    | bad => rw [e] at q; exact q
    | exc c' h' => rw [e] at q; exact q
    | ok ds hf =>
      rw [e] at q
      have q : TriD Z E Q W1 H1 (mkL c ds hf) := q
      intro Wf Hf vs g eD rs hrf
      rw [List.nil_append] at rs
      have fD : Wf.F Da := by rw [g.frn]; exact .inr rfl
      have nin : Da ∉ Wf.rho := fun m => hrf.dis Da m fD
      have nF1 : ¬ W1.F Da := hr.nF nD
      have subF : ∀ a, W1.F a → Wf.F a := fun a z => by rw [g.frn]; exact .inl z
      cases c with
      | false =>
        refine q (.ref Da) ⟨Wf.rho, W1.F⟩ Hf ⟨g.pre, rfl, g.keep, g.tups, g.trk⟩ ⟨hrf.len, hrf.nd, fun i a o e1 e2 => ObjR.map (W := Wf) (W' := ⟨Wf.rho, W1.F⟩) (fun _ z => z) (fun d v r => RelD.chg (W := Wf) (W' := ⟨Wf.rho, W1.F⟩) (fun a m => m.imp id (subF a)) (fun _ _ z => z) d r) (hrf.obj i a o e1 e2), fun a m z => hrf.dis a m (subF a z), fun a z => hrf.frn a (subF a z)⟩ ?_
        exact ⟨Da, vs, rfl, ⟨eD, nin, nF1⟩, RelDs.chg (W := Wf) (W' := ⟨Wf.rho, W1.F⟩) (fun a m => m.imp id (subF a)) (fun _ _ z => z) ds rs⟩
      | true =>
        obtain ⟨l, el, nl⟩ := g.pre
        have toD : ∀ (d : D) v, RelD Z Wf Hf d v → RelD Z ⟨Wf.rho ++ [Da], W1.F⟩ Hf d v := fun d v r => RelD.chg (W := Wf) (W' := ⟨Wf.rho ++ [Da], W1.F⟩) (fun a m => by
          rcases m with m | m
          · rcases List.mem_append.mp m with m | m
            · exact .inl m
            · rw [List.mem_singleton.mp m]; exact .inr fD
          · exact .inr (subF a m)) (fun i a z => by
            show (Wf.rho ++ [Da])[i]? = some a
            rw [List.getElem?_append_left (List.getElem?_eq_some_iff.mp z).1]; exact z) d r
        refine q (.ref Da) ⟨Wf.rho ++ [Da], W1.F⟩ Hf ⟨⟨l ++ [Da], by show Wf.rho ++ [Da] = _; rw [el, List.append_assoc]; rfl, fun a m => ?_⟩, rfl, g.keep, g.tups, g.trk⟩ ⟨by simp [hrf.len], ?_, fun i a o e1 e2 => ?_, fun a m z => ?_, fun a z => hrf.frn a (subF a z)⟩ ⟨Da, rfl, ?_⟩
        · rcases List.mem_append.mp m with m | m
          · exact nl a m
          · rw [List.mem_singleton.mp m]; exact nD
        · show (Wf.rho ++ [Da]).Nodup
          rw [List.nodup_append]
          exact ⟨hrf.nd, by simp, fun a ha b hb => by rw [List.mem_singleton.mp hb]; rintro rfl; exact nin ha⟩
        · have e1 : (Wf.rho ++ [Da])[i]? = some a := e1
          by_cases hi : i < Wf.rho.length
          · rw [List.getElem?_append_left hi] at e1
            rw [List.getElem?_append_left (by rw [← hrf.len]; exact hi)] at e2
            exact ObjR.map (fun _ z => z) toD (hrf.obj i a o e1 e2)
          · have hl := hrf.len
            have hi2 : i = Wf.rho.length := by
              have := (List.getElem?_eq_some_iff.mp e1).1
              simp at this; omega
            subst hi2
            rw [List.getElem?_append_right (Nat.le_refl _)] at e1
            rw [hl, List.getElem?_append_right (Nat.le_refl _)] at e2
            simp at e1 e2
            subst e1 e2
            have go : ∀ (xs : List D) (vs : List V), RelDs Z Wf Hf xs vs → RelDs Z ⟨Wf.rho ++ [Da], W1.F⟩ Hf xs vs := by
              intro xs
              induction xs with
              | nil => intro vs r; exact r
              | cons x xs ih => intro vs r; obtain ⟨v, q, e, h1, h2⟩ := r; exact ⟨v, q, e, toD x v h1, ih q h2⟩
            exact ⟨vs, eD, go ds vs rs⟩
        · rcases List.mem_append.mp m with m | m
          · exact hrf.dis a m (subF a z)
          · rw [List.mem_singleton.mp m] at z; exact nF1 z
        · show (Wf.rho ++ [Da])[hf.length]? = some Da
          rw [← hrf.len, List.getElem?_append_right (Nat.le_refl _)]; simp
  refine ⟨fun i m H => ∃ Wk hk accD accV, H Da = some (.lst accV) ∧ RelDs Z Wk H accD accV ∧ HRel Z Wk H hk ∧ Gr (W1.forg Da) H1 Wk H ∧ accD.length ≤ i ∧ Iv m i ∧ Fin (rest m i hk) accD, ⟨m0, W1.forg Da, h1, [], [], upd_same, rfl, hr.forg nD, Gr.oth Gr.refl nD, Nat.le_refl _, iv, fin0⟩, ?_⟩
  rintro i m H ⟨Wk, hk, accD, accV, eD, rs, hrk, gk, hlen, ivk, fk⟩
  have lrk : LRel Z Wk H (wipeL ls own) (wipe σ own) := by
    have l0 : LRel Z (W1.forg Da) H1 ls σ := ⟨lr.1, fun i d e => let ⟨v, e1, r⟩ := lr.2 i d e; ⟨v, e1, RelD.forg nD d r⟩⟩
    exact wipeL_rel (l0.mono gk) own
  have irk : ItR Z Wk H it J := by
    have i0 : ItR Z (W1.forg Da) H1 it J := by
      cases it with
      | seq d => obtain ⟨a, r, e⟩ := ir; exact ⟨a, RelD.forg nD d r, e⟩
      | enu d => obtain ⟨a, r, e⟩ := ir; exact ⟨a, RelD.forg nD d r, e⟩
      | zip d e => obtain ⟨a, b, r, r2, e'⟩ := ir; exact ⟨a, b, RelD.forg nD d r, RelD.forg nD e r2, e'⟩
      | zip3 d e f => obtain ⟨a, b, c, r, r2, r3, e'⟩ := ir; exact ⟨a, b, c, RelD.forg nD d r, RelD.forg nD e r2, RelD.forg nD f r3, e'⟩
      | rev d n => obtain ⟨a, r, e⟩ := ir; exact ⟨a, RelD.forg nD d r, e⟩
      | rng lo n st => exact ir
      | chs x => exact ir
      | dks kvs => obtain ⟨a, o, vs, e, n, r, q⟩ := ir; exact ⟨a, o, vs, e, n, RelRs.imp (fun b xs ⟨g1, g2, g3⟩ => ⟨g1, g2, fun m => m.elim g3 fun q => by rw [q, nD] at g1; cases g1⟩) kvs r, q⟩
    exact i0.mono gk
  have fD : ∀ {Wf Hf}, Gr (W1.forg Da) H1 Wf Hf → Wf.F Da := fun g => by rw [g.frn]; exact .inr rfl
  have nin : ∀ {Wf Hf hf}, Gr (W1.forg Da) H1 Wf Hf → HRel Z Wf Hf hf → Da ∉ Wf.rho := fun g hrf m => hrf.dis Da m (fD g)
  rcases hR.un m i hk ivk with bad | ⟨xs, ex, ⟨hi, er⟩ | ⟨d, l1, m', ed, eg, hm, iv', hL, er⟩⟩
  · rw [bad] at fk; exact fk.elim
  · rw [er] at fk
    exact .inl ⟨irk.stop hrk ex hi, fk Wk H accV gk eD (by simpa using rs) hrk⟩
  · rw [er] at fk
    obtain ⟨go, yl⟩ := irk.go hrk ex ed
    refine .inr ⟨go, fun H' => ∃ m', m' < m ∧ ∃ Wk hk accD accV, H' Da = some (.lst accV) ∧ RelDs Z Wk H' accD accV ∧ HRel Z Wk H' hk ∧ Gr (W1.forg Da) H1 Wk H' ∧ accD.length ≤ i + 1 ∧ Iv m' (i + 1) ∧ Fin (rest m' (i + 1) hk) accD, fun H' z => z, fun x H' y => ?_⟩
    obtain ⟨g2, hr2, rx⟩ := yl x H' y
    refine ⟨Wk, d, wipeL ls own, l1, lrk.mono g2, rx, eg, fun σ2 lr2 hw => ⟨by rw [hw own hown, wipe_idem], Wk, l1, hk, lr2, hr2, ?_⟩⟩
    have eD2 : H' Da = some (.lst accV) := g2.keep Da _ eD (nin gk hrk)
    cases et : t l1 hk with
    | bad => rw [et] at fk; exact fk
    | exc c' h' => rw [et] at fk; exact False.elim fk
    | ok b h3 =>
      rw [et] at fk
      intro b' W3 H3 g3 hr3 eb
      subst eb
      have gk3 := (gk.trans g2).trans g3
      have eD3 : H3 Da = some (.lst accV) := g3.keep Da _ eD2 (nin (gk.trans g2) hr2)
      cases b with
      | false =>
        simp only [Bool.false_eq_true, if_false]
        exact ⟨m', hm, W3, h3, accD, accV, eD3, RelDs.mono g3 _ (RelDs.mono g2 _ rs), hr3, gk3, by omega, iv', fk⟩
      | true =>
        simp only [if_true]
        refine ⟨W3, l1, h3, lr2.mono g3, hr3, ?_⟩
        have fk : Fin ((f l1 h3).bind fun d h2 => (rest m' (i + 1) h2).bind fun ds h3 => .ok (d :: ds) h3) accD := fk
        cases ef : f l1 h3 with
        | bad => rw [ef] at fk; exact fk
        | exc c' h' => rw [ef] at fk; exact False.elim fk
        | ok dv h4 =>
          rw [ef] at fk
          intro yv W4 H4 g4 hr4 ry
          have gk4 := gk3.trans g4
          have eD4 : H4 Da = some (.lst accV) := g4.keep Da _ eD3 (nin gk3 hr3)
          have f4 := fD gk4
          have rs4 : RelDs Z W4 H4 accD accV := RelDs.mono g4 _ (RelDs.mono g3 _ (RelDs.mono g2 _ rs))
          refine ⟨accV, eD4, ?_, m', hm, W4, h4, accD ++ [dv], accV ++ [yv], upd_same, RelDs.oth f4 eD4 _ (RelDs.append rs4 (RelDs.one ry)), hr4.oth f4 eD4, gk4.oth nD, by simp; omega, iv', ?_⟩
          · rw [← rs4.length]
            exact lim_lt (Nat.le_of_lt (Nat.lt_of_le_of_lt hlen hL))
          · have fk : Fin ((rest m' (i + 1) h4).bind fun ds h3 => .ok (dv :: ds) h3) accD := fk
            cases er2 : rest m' (i + 1) h4 with
            | bad => rw [er2] at fk; exact fk
            | exc c' h' => rw [er2] at fk; exact fk
            | ok ds hf =>
              rw [er2] at fk
              intro Wf Hf vs g' e' r' hr'
              exact fk Wf Hf vs g' e' (by simpa using r') hr'
theorem comp_run {it : Tb.It} {J : L2.It} {W1 : Wd} {H1 : Hp} {h1 : Hh} {ls : Ls} {σ : L2.St} {own : List Nat} {tgt : Tg} {t : Ls → Hh → R Bool} {f : Ls → Hh → R D} {Q : VK} {c : Bool} {E : Str → Hp → Prop}
    (lr : LRel Z W1 H1 ls σ) (hr : HRel Z W1 H1 h1) (ir : ItR Z W1 H1 it J) (hown : tgt.inB own = true)
    (q : TriD Z E Q W1 H1 ((noX (compR it (asgT tgt) t f (wipeL ls own) h1)).bind fun ds h2 => mkL c ds h2)) (Da : Addr) (nD : H1 Da = none) :
    ∃ Wm : Nat → Nat → Hp → Prop, (∃ m, Wm 0 m (upd H1 Da (.lst []))) ∧ ∀ i m H, Wm i m H →
      (J.stop i H ∧ Q (.ref Da) H) ∨ (J.go i H ∧ ∃ Nx : Hp → Prop, (∀ H', Nx H' → ∃ m', m' < m ∧ Wm (i + 1) m' H') ∧ ∀ x H', J.yld i H x H' → TGv Z tgt x (wipe σ own) H' fun σ2 H2 => wipe σ2 own = wipe σ own ∧ TVt Z noW t σ2 H2 fun b H3 =>
        if b = true then TVe Z noW f σ2 H3 fun y H4 => ∃ acc, H4 Da = some (.lst acc) ∧ acc.length < sizeLine ∧ Nx (upd H4 Da (.lst (acc ++ [y]))) else Nx H3) := by
  unfold compR at q
  by_cases hc : it.cst = true
  · rw [if_pos hc] at q
    cases e : it.items h1 with
    | none => rw [e] at q; exact q.elim
    | some xs =>
      rw [e] at q
      simp only at q
      by_cases hl : xs.length ≤ LIM
      · rw [if_pos hl] at q
        exact comp_core (rst_L hc e hl) lr hr ir (m0 := xs.length) rfl hown (by simpa using q) Da nD
      · rw [if_neg hl] at q; exact q.elim
  · rw [if_neg hc] at q
    exact comp_core rst_I lr hr ir (m0 := FUEL) (by omega) hown q Da nD
theorem Gd.blk (g : Gd Z Wx k X) (s : Shared) (H : Hp) (scope : Scope) (ce : Env) (fp : List Addr) : Gd Z noW k (X.blk s H scope ce fp) :=
  ⟨g.hK, g.calm, g.nd, g.room, g.qt, g.free, g.sys, fun u s' ⟨_, _, _, _, _, _, _, _, _, _, _, _, _, _, _, _, z⟩ => by
    obtain ⟨_, _, _, _, _, _, z⟩ := z
    exact z.elim⟩
theorem cc_blk {s : Shared} {H : Hp} {scope : Scope} {cl : List (Str × Addr)} {C : Addr} {fp : List Addr} : ccOf (X.blk s H scope (compEnvC scope cl C X.env) fp) = ⟨X.N, relS scope X.env.scope, fun x => scope.names.lookup x == some .cell⟩ := rfl
theorem e_comp {c : Bool} {own : List Nat} {tgt : Tg} {it : I} {tt : Es} {elt : E} {el t i : Expr} {fs : List Expr} {sc : Scope} {pos : Pos} {ow : List (Str × Nat)} (g : Gd Z Wx k X) (ok : blkC X.N X.env.scope sc ow = true) (ho : ow.map (·.2) = own)
    (hi : PI X t i (TVi Z Wx (evI it))) (hs : nSet i = true) (ht : okTg ⟨X.N, relS sc X.env.scope, fun x => sc.names.lookup x == some .cell⟩ tgt t = true)
    (hown : tgt.inB own = true)
    (hf : ∀ (s : Shared) (H : Hp) (C : Addr) (cl : List (Str × Addr)) (fp : List Addr), PTs (X.blk s H sc (compEnvC sc cl C X.env) fp) fs (TVt Z noW (evTs tt)))
    (he : ∀ (s : Shared) (H : Hp) (C : Addr) (cl : List (Str × Addr)) (fp : List Addr), PE (X.blk s H sc (compEnvC sc cl C X.env) fp) el (TVe Z noW (evE elt))) :
    PE X (.ListComp el [⟨t, i, fs, 0⟩] sc pos) (TVe Z Wx (evE (.comp c own tgt it tt elt))) := by
  subst ho
  refine (pe_lc g.calm g.nd hi (blkOk_by ok) (fun s H C cl fp => g_tg (X := X.blk s H sc (compEnvC sc cl C X.env) fp) g.hK g.calm g.nd ht) hf he (fold_of hs)).imp fun σ H Q ⟨W, ls, h, lr, hr, q⟩ => ?_
  exact step lr hr q fun J H1 W1 iv h1 g1 lr1 hr1 ir t1 Da nD => comp_run lr1 hr1 ir hown t1 Da nD
/-- name = [..] on one line -/
theorem s_comp {c : Bool} {own : List Nat} {tgt : Tg} {it : I} {tt : Es} {elt : E} {el t i : Expr} {fs : List Expr} {sc : Scope} {pos spos py : Pos} {ow : List (Str × Nat)} {j : Nat} {y : Str} (g : Gd Z Wx k X) (kind : X.env.scope.kind = .function) (ok : blkC X.N X.env.scope sc ow = true) (ho : ow.map (·.2) = own)
    (hj : X.N[j]? = some y) (hy : X.env.scope.names.lookup y = some .local) (hl : (py.line == pos.line) = true) (hn : (sc.names.any fun (n, k) => n == y && (k == .local || k == .cell)) = false)
    (hi : PI X t i (TVi Z Wx (evI it))) (hs : nSet i = true) (ht : okTg ⟨X.N, relS sc X.env.scope, fun x => sc.names.lookup x == some .cell⟩ tgt t = true)
    (hown : tgt.inB own = true)
    (hf : ∀ (s : Shared) (H : Hp) (C : Addr) (cl : List (Str × Addr)) (fp : List Addr), PTs (X.blk s H sc (compEnvC sc cl C X.env) fp) fs (TVt Z noW (evTs tt)))
    (he : ∀ (s : Shared) (H : Hp) (C : Addr) (cl : List (Str × Addr)) (fp : List Addr), PE (X.blk s H sc (compEnvC sc cl C X.env) fp) el (TVe Z noW (evE elt))) :
    ∃ te : TE, PS X (.Assign [.Name y py] (.ListComp el [⟨t, i, fs, 0⟩] sc pos) spos) (tAsg te (gName j)) ∧ ∀ σ H Q, TVe Z Wx (evE (.comp c own tgt it tt elt)) σ H Q → te σ H Q := by
  subst ho
  refine ⟨_, ps_setLc g.calm g.nd hj hy (sw_true kind hy hl hn) hi (blkOk_by ok) (fun s H C cl fp => g_tg (X := X.blk s H sc (compEnvC sc cl C X.env) fp) g.hK g.calm g.nd ht) hf he (fold_of hs), fun σ H Q ⟨W, ls, h, lr, hr, q⟩ => ?_⟩
  exact step lr hr q fun J H1 W1 iv h1 g1 lr1 hr1 ir t1 Da nD => comp_run lr1 hr1 ir hown t1 Da nD
end
end Tb
namespace Tb
open PySem PySem.Spec PyProof.Rows L2
theorem mapM_own {N : List Str} : ∀ {own : List Nat} {ow : List (Str × Nat)}, own.mapM (fun j => N[j]?.map fun n => (n, j)) = some ow → ow.map (·.2) = own
  | [], ow, e => by simp at e; subst e; rfl
  | j :: own, ow, e => by
    simp only [List.mapM_cons, Option.bind_eq_bind] at e
    cases q : N[j]? with
    | none => simp [q] at e
    | some n =>
      cases q2 : own.mapM fun j => N[j]?.map fun n => (n, j) with
      | none => simp [q, q2] at e
      | some r =>
        simp only [q, q2, Option.map_some, Option.bind_some, pure, Option.some.injEq] at e
        subst e
        simp [mapM_own q2]
theorem callN_of {n : Str} {x : Expr} {xs : List Expr} (h : callN n x = some xs) : ∃ p pos, x = .Call (.Name n p) xs [] pos ∧ xs.all nStar = true := by
  unfold callN at h
  split at h
  · split at h
    · rename_i h2
      cases h
      obtain ⟨rfl, h3⟩ := h2
      exact ⟨_, _, rfl, h3⟩
    · cases h
  · cases h
theorem okI_set {c : Cc} {t : Expr} {i : I} {x : Expr} (h : okI c t i x = true) : nSet x = true := by
  have go : ∀ {n : Str} {xs : List Expr}, callN n x = some xs → nSet x = true := fun q => by
    obtain ⟨_, _, rfl, _⟩ := callN_of q
    rfl
  cases i with
  | seq e => simp only [okI, Bool.and_eq_true] at h; exact h.1
  | chs e => simp only [okI, Bool.and_eq_true] at h; exact h.1
  | rng es =>
    unfold okI at h
    split at h
    · exact go (by assumption)
    · cases h
  | enu e =>
    unfold okI at h
    split at h
    · exact go (by assumption)
    · cases h
  | zip a b =>
    unfold okI at h
    split at h
    · exact go (by assumption)
    · cases h
  | zip3 a b c =>
    unfold okI at h
    split at h
    · exact go (by assumption)
    · cases h
  | rev e =>
    unfold okI at h
    split at h
    · exact go (by assumption)
    · cases h
theorem isTup_of {t : Expr} (h : isTup t = true) : ∃ es k p, t = .Tuple es k p := by
  cases t <;> first | (cases h; done) | exact ⟨_, _, _, rfl⟩
theorem oneE_of {xs : List Expr} {y : Expr} (h : oneE xs = some y) : xs = [y] := by
  unfold oneE at h
  split at h
  · cases h; rfl
  · cases h
theorem tripE_of {xs : List Expr} {y z u : Expr} (h : tripE xs = some (y, z, u)) : xs = [y, z, u] := by
  unfold tripE at h
  split at h
  · cases h; rfl
  · cases h
theorem pairsE_of {xs : List Expr} {y z : Expr} (h : pairsE xs = some (y, z)) : xs = [y, z] := by
  unfold pairsE at h
  split at h
  · cases h; rfl
  · cases h
theorem t_ife {X : Cx} {Z : Zn} {Wx : L2.St → Str → Hp → Prop} {t a b : E} {u l r : Expr} {pos : Pos} (ht : PT X u (TVt Z Wx (evT t))) (ha : PT X l (TVt Z Wx (evT a))) (hb : PT X r (TVt Z Wx (evT b))) : PT X (.IfExp u l r pos) (TVt Z Wx (evT (.ife t a b))) where
  run := by
    rintro pins s σ H Q I ⟨W, ls, h, lr, hr, q⟩
    have q' : TriB Z (Wx σ) Q W H ((evT t ls h).bind fun kk h2 => if kk = true then evT a ls h2 else evT b ls h2) := by
      refine cast (congrArg _ ?_) q
      unfold evT
      rw [show evE (.ife t a b) ls h = (evE t ls h).bind fun x h1 => (truD x h1).bind fun k h2 => if k = true then evE a ls h2 else evE b ls h2 from rfl, R.bind_assoc, R.bind_assoc]
      congr 1; funext x h1
      rw [R.bind_assoc]
      congr 1; funext c h2
      cases c <;> rfl
    refine isTrue_IfExp (thn (ht.run pins s σ H _ I (step (rel2 := fun _ _ a b => a = b) (Q2 := fun c H1 => if c = true then TVt Z Wx (evT a) σ H1 Q else TVt Z Wx (evT b) σ H1 Q) lr hr q' fun x H1 W1 d h1 g1 lr1 hr1 rx t1 => ?_)) fun c s1 ⟨H1, I1, z⟩ => ?_)
    · subst rx
      cases d with
      | true => exact ⟨W1, ls, h1, lr1, hr1, t1⟩
      | false => exact ⟨W1, ls, h1, lr1, hr1, t1⟩
    · cases c with
      | true => exact ha.run pins s1 σ H1 Q I1 z
      | false => exact hb.run pins s1 σ H1 Q I1 z
def DnE (Z : Zn) (k : Nat) (e : E) : Prop := ∀ ⦃X : Cx⦄ ⦃Wx : L2.St → Str → Hp → Prop⦄ ⦃x : Expr⦄, Gd Z Wx k X → okE (ccOf X) e x = true → AE Z k X e → PE X x (TVe Z Wx (evE e)) ∧ PT X x (TVt Z Wx (evT e))
def DnEs (Z : Zn) (k : Nat) (es : Es) : Prop := ∀ ⦃X : Cx⦄ ⦃Wx : L2.St → Str → Hp → Prop⦄ ⦃xs : List Expr⦄, Gd Z Wx k X → okEs (ccOf X) es xs = true → AEs Z k X es →
  PA X xs (TVa Z Wx (evEs es)) ∧ (∀ o pos, es ≠ .nil → PE X (.BoolOp o xs pos) (TVe Z Wx (evB o es)) ∧ PW X (.BoolOp o xs pos) (TVt Z Wx (evBT o es))) ∧ PTs X xs (TVt Z Wx (evTs es))
def DnI (Z : Zn) (k : Nat) (i : I) : Prop := ∀ ⦃X : Cx⦄ ⦃Wx : L2.St → Str → Hp → Prop⦄ ⦃tg x : Expr⦄, Gd Z Wx k X → okI (ccOf X) tg i x = true → AI Z k X i → PI X tg x (TVi Z Wx (evI i))
theorem both {X : Cx} {Z : Zn} {Wx : L2.St → Str → Hp → Prop} {e : E} {x : Expr} (n : nTst x = true) (p : PE X x (TVe Z Wx (evE e))) : PE X x (TVe Z Wx (evE e)) ∧ PT X x (TVt Z Wx (evT e)) := ⟨p, t_val p n⟩
mutual
theorem sdE {Z : Zn} {k : Nat} : ∀ e : E, DnE Z k e
  | .var i => by
    intro X Wx x g h A
    unfold okE at h
    split at h
    · exact both rfl (e_var h)
    · cases h
  | .int i => by
    intro X Wx x g h A
    unfold okE at h
    split at h
    · cases of_decide_eq_true h
      exact both rfl (e_const (d := .int _) (v := .int _) (fun _ _ => rfl) (fun _ _ => rfl) pe_int)
    · cases h
  | .bl b => by
    intro X Wx x g h A
    unfold okE at h
    split at h
    · cases of_decide_eq_true h
      exact both rfl (e_const (d := .bl _) (v := .bl _) (fun _ _ => rfl) (fun _ _ => rfl) pe_bl)
    · cases h
  | .non => by
    intro X Wx x g h A
    unfold okE at h
    split at h
    · exact both rfl (e_const (d := .non) (v := .non) (fun _ _ => rfl) (fun _ _ => rfl) pe_non)
    · cases h
  | .str s => by
    intro X Wx x g h A
    unfold okE at h
    split at h
    · cases of_decide_eq_true h
      exact both rfl (e_const (d := .str _) (v := .str _) (fun _ _ => rfl) (fun _ _ => rfl) pe_str)
    · cases h
  | .glo n d => by
    intro X Wx x g h A
    unfold okE at h
    split at h
    · simp only [Bool.and_eq_true, decide_eq_true_eq] at h
      obtain ⟨rfl, h2⟩ := h
      have A : GloA Z X n d := A
      obtain ⟨u, v, m, r, rd⟩ := A
      exact both rfl (e_const rd (fun _ _ => rfl) (pe_glob (gl_of h2).1 m r (gl_of h2).2))
    · cases h
  | .bty n => by
    intro X Wx x g h A
    unfold okE at h
    split at h
    · simp only [Bool.and_eq_true, decide_eq_true_eq] at h
      obtain ⟨⟨rfl, h1⟩, h2⟩ := h
      obtain ⟨b1, b2, b3⟩ := bty_of h1
      exact both rfl (e_const (d := .ty n) (v := .ty n) (fun _ _ => rfl) (fun _ _ => rfl) (pe_bltn (gl_of h2).1 (g.free _ b2) b1 rfl b3 (gl_of h2).2))
    · cases h
  | .bin c o a b => by
    intro X Wx x g h A
    unfold okE at h
    split at h
    · simp only [Bool.and_eq_true, decide_eq_true_eq] at h
      obtain ⟨⟨rfl, h1⟩, h2⟩ := h
      have A : AE Z k X a ∧ AE Z k X b := A
      exact both rfl (e_bin g (sdE a g h1 A.1).1 (sdE b g h2 A.2).1)
    · cases h
  | .neg a => by
    intro X Wx x g h A
    unfold okE at h
    split at h
    · have A : AE Z k X a := A
      exact both rfl (e_neg (sdE a g h A).1)
    · cases h
  | .cmp o a b => by
    intro X Wx x g h A
    unfold okE at h
    split at h
    · simp only [Bool.and_eq_true, decide_eq_true_eq] at h
      obtain ⟨⟨⟨rfl, h0⟩, h1⟩, h2⟩ := h
      have A : AE Z k X a ∧ AE Z k X b := A
      exact ⟨e_cmp g (sdE a g h1 A.1).1 (sdE b g h2 A.2).1 h0, t_cmp g (sdE a g h1 A.1).1 (sdE b g h2 A.2).1 h0⟩
    · cases h
  | .chn o o2 a b c => by
    intro X Wx x g h A
    unfold okE at h
    split at h
    · simp only [Bool.and_eq_true, decide_eq_true_eq] at h
      obtain ⟨⟨⟨⟨⟨rfl, rfl⟩, h0⟩, h1⟩, h2⟩, h3⟩ := h
      have A : AE Z k X a ∧ AE Z k X b ∧ AE Z k X c := A
      exact ⟨e_chn g (sdE a g h1 A.1).1 (sdE b g h2 A.2.1).1 (sdE c g h3 A.2.2).1 h0, t_chn g (sdE a g h1 A.1).1 (sdE b g h2 A.2.1).1 (sdE c g h3 A.2.2).1 h0⟩
    · cases h
  | .bop o es => by
    intro X Wx x g h A
    unfold okE at h
    split at h
    · simp only [Bool.and_eq_true, decide_eq_true_eq] at h
      obtain ⟨rfl, h1⟩ := h
      have A : AEs Z k X es := A
      by_cases hn : es = .nil
      · subst hn
        exact ⟨⟨fun pins s σ H Q I ⟨W, ls, h, lr, hr, t⟩ => t.elim⟩, ⟨fun pins s σ H Q I ⟨W, ls, h, lr, hr, t⟩ => t.elim⟩⟩
      · obtain ⟨p1, p2⟩ := (sdEs es g h1 A).2.1 o _ hn
        exact ⟨p1, p2.pt⟩
    · cases h
  | .not a => by
    intro X Wx x g h A
    unfold okE at h
    split at h
    · have A : AE Z k X a := A
      exact ⟨e_not (sdE a g h A).1, t_not (sdE a g h A).2⟩
    · cases h
  | .ife t a b => by
    intro X Wx x g h A
    unfold okE at h
    split at h
    · simp only [Bool.and_eq_true, decide_eq_true_eq] at h
      obtain ⟨⟨h1, h2⟩, h3⟩ := h
      have A : AE Z k X t ∧ AE Z k X a ∧ AE Z k X b := A
      exact ⟨e_ife (sdE t g h1 A.1).2 (sdE a g h2 A.2.1).1 (sdE b g h3 A.2.2).1, t_ife (sdE t g h1 A.1).2 (sdE a g h2 A.2.1).2 (sdE b g h3 A.2.2).2⟩
    · cases h
  | .lst c es => by
    intro X Wx x g h A
    unfold okE at h
    split at h
    · have A : AEs Z k X es := A
      exact both rfl (e_lst (sdEs es g h A).1)
    · cases h
  | .tup es => by
    intro X Wx x g h A
    unfold okE at h
    split at h
    · have A : AEs Z k X es := A
      exact both rfl (e_tup (sdEs es g h A).1)
    · cases h
  | .idx a i => by
    intro X Wx x g h A
    unfold okE at h
    split at h
    · simp only [Bool.and_eq_true] at h
      obtain ⟨⟨h0, h1⟩, h2⟩ := h
      have A : AE Z k X a ∧ AE Z k X i := A
      exact both rfl (e_idx g (sdE a g h1 A.1).1 (sdE i g h2 A.2).1 h0)
    · cases h
  | .slU c a hi => by
    intro X Wx x g h A
    unfold okE at h
    split at h
    · simp only [Bool.and_eq_true] at h
      have A : AE Z k X a ∧ AE Z k X hi := A
      exact both rfl (e_slU g (sdE a g h.1 A.1).1 (sdE hi g h.2 A.2).1)
    · cases h
  | .slL c a lo => by
    intro X Wx x g h A
    unfold okE at h
    split at h
    · simp only [Bool.and_eq_true] at h
      have A : AE Z k X a ∧ AE Z k X lo := A
      exact both rfl (e_slL g (sdE a g h.1 A.1).1 (sdE lo g h.2 A.2).1)
    · cases h
  | .slB c a lo hi => by
    intro X Wx x g h A
    unfold okE at h
    split at h
    · simp only [Bool.and_eq_true] at h
      have A : AE Z k X a ∧ AE Z k X lo ∧ AE Z k X hi := A
      exact both rfl (e_slB g (sdE a g h.1.1 A.1).1 (sdE lo g h.1.2 A.2.1).1 (sdE hi g h.2 A.2.2).1)
    · cases h
  | .call m n F es => by
    intro X Wx x g h A
    unfold okE at h
    split at h
    · simp only [Bool.and_eq_true, decide_eq_true_eq] at h
      obtain ⟨⟨rfl, h1⟩, h2⟩ := h
      have A : FnA Z k X n F es.len ∧ AEs Z k X es := A
      exact both rfl (e_call g A.1 h1 (sdEs es g h2 A.2).1 (okEs_star h2) (okEs_len h2))
    · cases h
  | .bi b c es => by
    intro X Wx x g h A
    unfold okE at h
    split at h
    · simp only [Bool.and_eq_true, decide_eq_true_eq] at h
      obtain ⟨⟨⟨rfl, h0⟩, h1⟩, h2⟩ := h
      have A : AEs Z k X es := A
      exact both rfl (e_bi g h1 (fun q => by rw [q] at h0; cases h0) (okEs_star h2) (sdEs es g h2 A).1)
    · cases h
  | .isi a b => by
    intro X Wx x g h A
    unfold okE at h
    split at h
    · simp only [Bool.and_eq_true, decide_eq_true_eq] at h
      obtain ⟨⟨⟨⟨⟨rfl, h1⟩, h2⟩, h3⟩, h4⟩, h5⟩ := h
      have A : AE Z k X a ∧ AE Z k X b := A
      exact both rfl (e_isi g h1 h4 h5 (sdE a g h2 A.1).1 (sdE b g h3 A.2).1)
    · cases h
  | .me m c a es => by
    intro X Wx x g h A
    unfold okE at h
    split at h
    · simp only [Bool.and_eq_true, decide_eq_true_eq] at h
      obtain ⟨⟨⟨⟨⟨rfl, h1⟩, h2⟩, h3⟩, h4⟩, h5⟩ := h
      have A : AE Z k X a ∧ AEs Z k X es := A
      exact both rfl (e_me g h1 h2 h3 (okEs_star h5) (sdE a g h4 A.1).1 (okEs_len h5) (sdEs es g h5 A.2).1)
    · cases h
  | .comp c own tg it tt elt => by
    intro X Wx x g h A
    unfold okE at h
    split at h
    · split at h
      · rename_i ow hm
        simp only [Bool.and_eq_true] at h
        obtain ⟨⟨⟨⟨⟨h1, h2⟩, h3⟩, h4⟩, h5⟩, h6⟩ := h
        have A : AI Z k X it ∧ AEs Z k X tt ∧ AE Z k X elt := A
        exact both rfl (e_comp g h1 (mapM_own hm) (sdI it g h3 A.1) (okI_set h3) h2 h6 (fun s H C cl fp => (sdEs tt (g.blk s H _ _ fp) h4 A.2.1).2.2) (fun s H C cl fp => (sdE elt (g.blk s H _ _ fp) h5 A.2.2).1))
      · cases h
    · cases h
  | .rvl c a => by
    intro X Wx x g h A
    unfold okE at h
    split at h
    · have A : AE Z k X a := A
      exact both rfl (e_rvl g (sdE a g h A).1)
    · cases h
  | .strx n a => by
    intro X Wx x g h A
    unfold okE at h
    split at h
    · simp only [Bool.and_eq_true, decide_eq_true_eq] at h
      obtain ⟨⟨⟨⟨⟨rfl, rfl⟩, h1⟩, h2⟩, h3⟩, h4⟩ := h
      have A : GloA Z X n (.cls n) ∧ AE Z k X a := A
      exact both rfl (e_strx g h1 h2 h3 A.1 (sdE a g h4 A.2).1)
    · cases h
  | .lset a => by
    intro X Wx x g h A
    unfold okE at h
    split at h
    · simp only [Bool.and_eq_true, decide_eq_true_eq] at h
      obtain ⟨⟨⟨⟨⟨rfl, rfl⟩, h1⟩, h2⟩, h3⟩, h4⟩ := h
      have A : AE Z k X a := A
      exact both rfl (e_lset g h1 h2 h3 (sdE a g h4 A).1)
    · cases h
  | .sset c a => by
    intro X Wx x g h A
    unfold okE at h
    split at h
    · simp only [Bool.and_eq_true, decide_eq_true_eq] at h
      obtain ⟨⟨⟨⟨⟨rfl, rfl⟩, h1⟩, h2⟩, h3⟩, h4⟩ := h
      have A : AE Z k X a := A
      exact both rfl (e_sset g h1 h2 h3 (sdE a g h4 A).1)
    · cases h
  | .lrg c a b => by
    intro X Wx x g h A
    unfold okE at h
    split at h
    · simp only [Bool.and_eq_true, decide_eq_true_eq] at h
      obtain ⟨⟨⟨⟨⟨⟨⟨rfl, rfl⟩, h1⟩, h2⟩, h3⟩, h4⟩, h5⟩, h6⟩ := h
      have A : AE Z k X a ∧ AE Z k X b := A
      exact both rfl (e_lrg g h1 h2 h3 h4 (sdE a g h5 A.1).1 (sdE b g h6 A.2).1)
    · simp only [Bool.and_eq_true, decide_eq_true_eq] at h
      obtain ⟨⟨⟨⟨⟨⟨rfl, rfl⟩, h1⟩, h2⟩, h3⟩, h4⟩, h5⟩ := h
      have A : AE Z k X a ∧ AE Z k X b := A
      have hb := (sdE b g h5 A.2).1
      have hz := E.isZ_eq h4
      subst hz
      exact both rfl (e_lrg1 g h1 h2 h3 hb)
    · cases h
  | .dnew => by
    intro X Wx x g h A
    unfold okE at h
    split at h
    · exact both rfl e_dnew
    · cases h
  | .dget a i => by
    intro X Wx x g h A
    unfold okE at h
    split at h
    · simp only [Bool.and_eq_true] at h
      obtain ⟨⟨h0, h1⟩, h2⟩ := h
      have A : AE Z k X a ∧ AE Z k X i := A
      exact both rfl (e_dget g (sdE a g h1 A.1).1 (sdE i g h2 A.2).1 h0)
    · cases h
  | .dhas n i a => by
    intro X Wx x g h A
    unfold okE at h
    split at h
    · simp only [Bool.and_eq_true, decide_eq_true_eq] at h
      obtain ⟨⟨⟨rfl, h0⟩, h1⟩, h2⟩ := h
      have A : AE Z k X i ∧ AE Z k X a := A
      exact ⟨e_dhas g (sdE i g h1 A.1).1 (sdE a g h2 A.2).1 h0, t_dhas g (sdE i g h1 A.1).1 (sdE a g h2 A.2).1 h0⟩
    · cases h
  | .dlst c a => by
    intro X Wx x g h A
    unfold okE at h
    split at h
    · simp only [Bool.and_eq_true, decide_eq_true_eq] at h
      obtain ⟨⟨⟨rfl, h1⟩, h2⟩, h3⟩ := h
      have A : AE Z k X a := A
      exact both rfl (e_dlst g h1 h2 (sdE a g h3 A).1)
    · cases h
  | .denu a => by
    intro X Wx x g h A
    unfold okE at h
    split at h
    · simp only [Bool.and_eq_true, decide_eq_true_eq] at h
      obtain ⟨⟨⟨⟨⟨rfl, rfl⟩, h1⟩, h2⟩, h3⟩, h4⟩ := h
      have A : AE Z k X a := A
      exact both rfl (e_denu g h1 h2 h3 (sdE a g h4 A).1)
    · cases h
  | .lzip a b => by
    intro X Wx x g h A
    unfold okE at h
    split at h
    · simp only [Bool.and_eq_true, decide_eq_true_eq] at h
      obtain ⟨⟨⟨⟨⟨⟨⟨rfl, rfl⟩, h1⟩, h2⟩, h3⟩, h3'⟩, h4⟩, h5⟩ := h
      have A : AE Z k X a ∧ AE Z k X b := A
      exact both rfl (e_lzip g h1 h2 h3 h3' (sdE a g h4 A.1).1 (sdE b g h5 A.2).1)
    · cases h
  | .fld c f a => by
    intro X Wx x g h A
    unfold okE at h
    split at h
    · simp only [Bool.and_eq_true, decide_eq_true_eq] at h
      obtain ⟨⟨rfl, h1⟩, h2⟩ := h
      have A : MtA Z k X c f none ∧ AE Z k X a := A
      exact both rfl (e_fld A.1 h1 (sdE a g h2 A.2).1)
    · cases h
  | .mcall c m F a es => by
    intro X Wx x g h A
    unfold okE at h
    split at h
    · simp only [Bool.and_eq_true, decide_eq_true_eq] at h
      obtain ⟨⟨⟨⟨⟨rfl, h1⟩, h2⟩, h3⟩, h4⟩, h5⟩ := h
      have A : MtA Z k X c m (some (F, es.len + 1)) ∧ AE Z k X a ∧ AEs Z k X es := A
      exact both rfl (e_mcall g A.1 h1 h2 h3 (okEs_star h5) (sdE a g h4 A.2.1).1 (okEs_len h5) (sdEs es g h5 A.2.2).1)
    · cases h
  | .make c F es => by
    intro X Wx x g h A
    unfold okE at h
    split at h
    · simp only [Bool.and_eq_true, decide_eq_true_eq] at h
      obtain ⟨⟨rfl, h1⟩, h2⟩ := h
      have A : MtA Z k X c "__init__" (some (F, es.len + 1)) ∧ AEs Z k X es := A
      exact both rfl (e_make g A.1 h1 (okEs_star h2) (okEs_len h2) (sdEs es g h2 A.2).1)
    · cases h
  | .dic ps => by
    intro X Wx x g h A
    unfold okE at h
    split at h
    · exact both rfl (e_dic h)
    · cases h
theorem sdEs {Z : Zn} {k : Nat} : ∀ es : Es, DnEs Z k es
  | .nil => by
    intro X Wx xs g h A
    have e : xs = [] := by unfold okEs at h; exact List.isEmpty_iff.mp h
    subst e
    exact ⟨a_nil, fun _ _ n => absurd rfl n, ⟨fun pins s σ H Q I ⟨W, ls, hh, lr, hr, t⟩ => (pts_nil (X := X)).run pins s σ H Q I (t.now hr rfl)⟩⟩
  | .cons e es => by
    intro X Wx xs g h A
    unfold okEs at h
    split at h
    · rename_i y ys
      simp only [Bool.and_eq_true] at h
      obtain ⟨⟨h1, h2⟩, h3⟩ := h
      have A : AE Z k X e ∧ AEs Z k X es := A
      obtain ⟨p1, p2⟩ := sdE e g h2 A.1
      obtain ⟨q1, q2, q3⟩ := sdEs es g h3 A.2
      refine ⟨a_cons p1 q1 h1, fun o pos _ => ?_, ?_⟩
      · cases es with
        | nil =>
          have e : ys = [] := by unfold okEs at h3; exact List.isEmpty_iff.mp h3
          subst e
          exact ⟨pe_one p1, w_one p2⟩
        | cons e2 es =>
          obtain ⟨r1, r2⟩ := q2 o pos (by simp)
          cases ys with
          | nil => simp [okEs] at h3
          | cons z ys =>
            cases o with
            | And => exact ⟨e_and p1 r1, w_and p2 r2⟩
            | Or => exact ⟨e_or p1 r1, w_or p2 r2⟩
      · cases es with
        | nil =>
          have e : ys = [] := by unfold okEs at h3; exact List.isEmpty_iff.mp h3
          subst e
          exact pts_one p2
        | cons e2 es => exact ⟨fun pins s σ H Q I ⟨W, ls, hh, lr, hr, t⟩ => t.elim⟩
    · cases h
theorem sdI {Z : Zn} {k : Nat} : ∀ i : I, DnI Z k i
  | .seq e => by
    intro X Wx tg x g h A
    simp only [okI, Bool.and_eq_true] at h
    have A : AE Z k X e := A
    exact i_seq g (sdE e g h.2 A).1
  | .chs e => by
    intro X Wx tg x g h A
    simp only [okI, Bool.and_eq_true] at h
    have A : AE Z k X e := A
    exact i_chs g (sdE e g h.2 A).1
  | .rng es => by
    intro X Wx tg x g h A
    unfold okI at h
    split at h
    · rename_i xs hc
      obtain ⟨p, pos, rfl, hs⟩ := callN_of hc
      simp only [Bool.and_eq_true, decide_eq_true_eq] at h
      obtain ⟨⟨⟨h1, h2⟩, h3⟩, h4⟩ := h
      have A : AEs Z k X es := A
      exact i_rng g h1 hs h3 h4 (okEs_len h2) (sdEs es g h2 A).1
    · cases h
  | .enu e => by
    intro X Wx tg x g h A
    unfold okI at h
    split at h
    · rename_i xs hc
      obtain ⟨p, pos, rfl, hs⟩ := callN_of hc
      split at h
      · rename_i y ho
        cases oneE_of ho
        simp only [Bool.and_eq_true] at h
        obtain ⟨⟨⟨h1, h2⟩, h3⟩, h4⟩ := h
        obtain ⟨es, kk, tp, rfl⟩ := isTup_of h2
        have A : AE Z k X e := A
        exact i_enu g h1 h4 (sdE e g h3 A).1
      · cases h
    · cases h
  | .zip a b => by
    intro X Wx tg x g h A
    unfold okI at h
    split at h
    · rename_i xs hc
      obtain ⟨p, pos, rfl, hs⟩ := callN_of hc
      split at h
      · rename_i y z ho
        cases pairsE_of ho
        simp only [Bool.and_eq_true] at h
        obtain ⟨⟨⟨⟨⟨h1, h2⟩, h3⟩, h4⟩, h5⟩, h6⟩ := h
        obtain ⟨es, kk, tp, rfl⟩ := isTup_of h2
        have A : AE Z k X a ∧ AE Z k X b := A
        exact i_zip g h1 h5 h6 (sdE a g h3 A.1).1 (sdE b g h4 A.2).1
      · cases h
    · cases h
  | .zip3 a b d => by
    intro X Wx tg x g h A
    unfold okI at h
    split at h
    · rename_i xs hc
      obtain ⟨p, pos, rfl, hs⟩ := callN_of hc
      split at h
      · rename_i y z u ho
        cases tripE_of ho
        simp only [Bool.and_eq_true] at h
        obtain ⟨⟨⟨⟨⟨⟨⟨h1, h2⟩, h3⟩, h4⟩, h5⟩, h6⟩, h7⟩, h8⟩ := h
        obtain ⟨es, kk, tp, rfl⟩ := isTup_of h2
        have A : AE Z k X a ∧ AE Z k X b ∧ AE Z k X d := A
        exact i_zip3 g h1 h6 h7 h8 (sdE a g h3 A.1).1 (sdE b g h4 A.2.1).1 (sdE d g h5 A.2.2).1
      · cases h
    · cases h
  | .rev e => by
    intro X Wx tg x g h A
    unfold okI at h
    split at h
    · rename_i xs hc
      obtain ⟨p, pos, rfl, hs⟩ := callN_of hc
      split at h
      · rename_i y ho
        cases oneE_of ho
        simp only [Bool.and_eq_true] at h
        obtain ⟨⟨h1, h3⟩, h4⟩ := h
        have A : AE Z k X e := A
        exact i_rev g h1 h4 (sdE e g h3 A).1
      · cases h
    · cases h
end
end Tb
namespace Tb
open PySem PySem.Spec PyProof.Rows L2
/-! ### statements -/
def TriS (Z : Zn) (D : Ends) (Wx : L2.St → Str → Hp → Prop) (W : Wd) (H : Hp) : RS → Prop
  | .nx ls h => ∀ W' σ' H', Gr W H W' H' → HRel Z W' H' h → LRel Z W' H' ls σ' → D.nx σ' H'
  | .rt d h => ∀ W' v H', Gr W H W' H' → HRel Z W' H' h → RelD Z W' H' d v → D.rt v H'
  | .bk ls h => ∀ W' σ' H', Gr W H W' H' → HRel Z W' H' h → LRel Z W' H' ls σ' → D.bk σ' H'
  | .ct ls h => ∀ W' σ' H', Gr W H W' H' → HRel Z W' H' h → LRel Z W' H' ls σ' → D.ct σ' H'
  | .exc c ls h => ∀ W' σ' H', Gr W H W' H' → HRel Z W' H' h → LRel Z W' H' ls σ' → Wx σ' c H'
  | .bad => False
def TSv (Z : Zn) (Wx : L2.St → Str → Hp → Prop) (f : Ls → Hh → RS) : TS := fun D σ H => ∃ W ls h, LRel Z W H ls σ ∧ HRel Z W H h ∧ TriS Z D Wx W H (f ls h)
theorem PS_imp {X : Cx} {e : Stmt} {t t' : TS} (h : PS X e t) (i : ∀ D σ H, t' D σ H → t D σ H) : PS X e t' := ⟨fun pins s σ H D I q => h.run pins s σ H D I (i D σ H q)⟩
theorem PSs_imp {X : Cx} {e : List Stmt} {t t' : TS} (h : PSs X e t) (i : ∀ D σ H, t' D σ H → t D σ H) : PSs X e t' := ⟨fun pins s σ H D I q => h.run pins s σ H D I (i D σ H q)⟩
section
variable {Z : Zn} {Wx : L2.St → Str → Hp → Prop} {D : Ends} {W W1 : Wd} {H H1 : Hp} {σ : L2.St} {ls : Ls} {h : Hh}
theorem TriS.grow {r : RS} (g : Gr W H W1 H1) (t : TriS Z D Wx W H r) : TriS Z D Wx W1 H1 r := by
  cases r with
  | nx l h => exact fun W' σ' H' g' => t W' σ' H' (g.trans g')
  | rt d h => exact fun W' v H' g' => t W' v H' (g.trans g')
  | bk l h => exact fun W' σ' H' g' => t W' σ' H' (g.trans g')
  | ct l h => exact fun W' σ' H' g' => t W' σ' H' (g.trans g')
  | exc c l h => exact fun W' σ' H' g' => t W' σ' H' (g.trans g')
  | bad => exact t
theorem stepS {γ δ : Type} {rel2 : Wd → Hp → γ → δ → Prop} {f : Ls → Hh → R γ} {g : γ → Hh → RS} (lr : LRel Z W H ls σ) (hr : HRel Z W H h) (t : TriS Z D Wx W H (ofR (f ls h) ls g)) {Q2 : δ → Hp → Prop}
    (k : ∀ x H1 W1 d h1, Gr W H W1 H1 → LRel Z W1 H1 ls σ → HRel Z W1 H1 h1 → rel2 W1 H1 d x → TriS Z D Wx W1 H1 (g d h1) → Q2 x H1) : TV Z Wx rel2 f σ H Q2 := by
  refine ⟨W, ls, h, lr, hr, ?_⟩
  cases q : f ls h with
  | ok d h1 =>
    rw [q] at t
    exact fun x W1 H1 g1 hr1 rx => k x H1 W1 d h1 g1 (lr.mono g1) hr1 rx (TriS.grow g1 t)
  | exc c h1 =>
    rw [q] at t
    exact fun W1 H1 g1 hr1 => t W1 σ H1 g1 hr1 (lr.mono g1)
  | bad => rw [q] at t; exact t
/-- now -/
theorem TriS.next (t : TriS Z D Wx W H (.nx ls h)) (hr : HRel Z W H h) (lr : LRel Z W H ls σ) : D.nx σ H := t W σ H Gr.refl hr lr
/-- behind a statement the others -/
theorem TriS.seq {r : RS} {k : Ls → Hh → RS} (t : TriS Z D Wx W H (match r with | .nx l1 h1 => k l1 h1 | o => o)) : TriS Z { D with nx := fun σ' H' => TSv Z Wx k D σ' H' } Wx W H r := by
  cases r with
  | nx l1 h1 => exact fun W' σ' H' g hr lr => ⟨W', l1, h1, lr, hr, TriS.grow g t⟩
  | rt d h => exact t
  | bk l h => exact t
  | ct l h => exact t
  | exc c l h => exact t
  | bad => exact t
end
section
variable {X : Cx} {Z : Zn} {Wx : L2.St → Str → Hp → Prop} {k : Nat} {C : Cs}
theorem s_nil : PSs X [] (TSv Z Wx (evSs C .nil)) := PSs_imp pss_nil fun D σ H ⟨W, ls, h, lr, hr, t⟩ => t.next hr lr
theorem s_cons {s : S} {r : Ss} {st : Stmt} {sts : List Stmt} (h1 : PS X st (TSv Z Wx (evS C s))) (h2 : PSs X sts (TSv Z Wx (evSs C r))) : PSs X (st :: sts) (TSv Z Wx (evSs C (.cons s r))) :=
  PSs_imp (pss_cons h1 h2) fun D σ H ⟨W, ls, h, lr, hr, t⟩ => ⟨W, ls, h, lr, hr, TriS.seq t⟩
theorem s_pass {pos : Pos} : PS X (.Pass pos) (TSv Z Wx (evS C .pass)) := PS_imp ps_pass fun D σ H ⟨W, ls, h, lr, hr, t⟩ => t.next hr lr
theorem s_brk {pos : Pos} : PS X (.Break pos) (TSv Z Wx (evS C .brk)) := PS_imp ps_break fun D σ H ⟨W, ls, h, lr, hr, t⟩ => t W σ H Gr.refl hr lr
theorem s_cnt {pos : Pos} : PS X (.Continue pos) (TSv Z Wx (evS C .cnt)) := PS_imp ps_continue fun D σ H ⟨W, ls, h, lr, hr, t⟩ => t W σ H Gr.refl hr lr
theorem s_nev {st : Stmt} : PS X st (TSv Z Wx (evS C .nev)) := PS_imp ps_never fun D σ H ⟨W, ls, h, lr, hr, t⟩ => t
theorem s_retN {pos : Pos} : PS X (.Return none pos) (TSv Z Wx (evS C .retN)) := PS_imp ps_retN fun D σ H ⟨W, ls, h, lr, hr, t⟩ => t W .non H Gr.refl hr rfl
theorem s_ret {e : E} {x : Expr} {pos : Pos} (he : PE X x (TVe Z Wx (evE e))) : PS X (.Return (some x) pos) (TSv Z Wx (evS C (.ret e))) :=
  PS_imp (ps_ret he) fun D σ H ⟨W, ls, h, lr, hr, t⟩ => stepS lr hr t fun x H1 W1 d h1 g1 lr1 hr1 rx t1 => t1 W1 x H1 Gr.refl hr1 rx
theorem s_ex {e : E} {x : Expr} {pos : Pos} (he : PE X x (TVe Z Wx (evE e))) (hs : swapsWith x none pos.line X.env = pure false) : PS X (.Expr x pos) (TSv Z Wx (evS C (.ex e))) :=
  PS_imp (ps_expr he hs) fun D σ H ⟨W, ls, h, lr, hr, t⟩ => stepS lr hr t fun x H1 W1 d h1 g1 lr1 hr1 rx t1 => t1.next hr1 lr1
theorem s_ifs {e : E} {a b : Ss} {x : Expr} {as bs : List Stmt} {pos : Pos} (he : PT X x (TVt Z Wx (evT e))) (ha : PSs X as (TSv Z Wx (evSs C a))) (hb : PSs X bs (TSv Z Wx (evSs C b))) : PS X (.If x as bs pos) (TSv Z Wx (evS C (.ifs e a b))) :=
  PS_imp (ps_if he ha hb) fun D σ H ⟨W, ls, h, lr, hr, t⟩ => stepS lr hr t fun x H1 W1 d h1 g1 lr1 hr1 rx t1 => by
    subst rx
    cases d with
    | true => exact ⟨W1, ls, h1, lr1, hr1, t1⟩
    | false => exact ⟨W1, ls, h1, lr1, hr1, t1⟩
theorem ofL_tri {D : Ends} {W : Wd} {H : Hp} {h : Hh} {o : Option Ls} (t : TriS Z D Wx W H (ofL o h)) : ∃ l, o = some l ∧ TriS Z D Wx W H (.nx l h) := by
  cases o with
  | none => exact t.elim
  | some l => exact ⟨l, rfl, t⟩
theorem s_asg {t : Tg} {e : E} {tg x : Expr} {pos : Pos} (g : Gd Z Wx k X) (ht : okTg (ccOf X) t tg = true) (he : PE X x (TVe Z Wx (evE e))) (hs : swapsWithSole [tg] x pos.line X.env = pure false) (hw : swappedStores [tg] x X.env = pure none) :
    PS X (.Assign [tg] x pos) (TSv Z Wx (evS C (.asg t e))) := by
  have h1 : (assignEach [tg] X.env).map (·.2) = [assign tg X.env] := by
    cases tg <;> first | rfl | (cases t <;> cases ht)
  refine PS_imp (ps_asg he (g_tg (Z := Z) g.hK g.calm g.nd ht) hs hw h1) fun D σ H ⟨W, ls, h, lr, hr, t⟩ => stepS lr hr t fun x H1 W1 d h1 g1 lr1 hr1 rx t1 => ?_
  obtain ⟨l2, e2, t2⟩ := ofL_tri t1
  exact ⟨W1, d, ls, l2, lr1, rx, e2, fun σ2 lr2 _ => t2.next hr1 lr2⟩
theorem s_asgC {i : Nat} {e : E} {y : Str} {x : Expr} {py pos : Pos} (g : Gd Z Wx k X) (hi : putB (ccOf X) i y = true) {te : TE} (p : PS X (.Assign [.Name y py] x pos) (tAsg te (gName i))) (imp : ∀ σ H Q, TVe Z Wx (evE e) σ H Q → te σ H Q) :
    PS X (.Assign [.Name y py] x pos) (TSv Z Wx (evS C (.asg (.nm i) e))) := by
  refine PS_imp p fun D σ H ⟨W, ls, h, lr, hr, t⟩ => imp σ H _ (stepS lr hr t fun x H1 W1 d h1 g1 lr1 hr1 rx t1 => ?_)
  obtain ⟨l2, e2, t2⟩ := ofL_tri t1
  unfold asgT setN at e2
  by_cases hl : i < ls.length
  · simp only [hl, if_true, Option.some.injEq] at e2
    subst e2
    exact t2.next hr1 (lr1.put rx)
  · simp [hl] at e2
theorem s_par {i j : Nat} {a b : E} {x y : Str} {l r : Expr} {px py pt pos : Pos} {kt k2 pt2} (g : Gd Z Wx k X) (hi : X.N[i]? = some x) (hj : X.N[j]? = some y) (hij : i ≠ j) (hx : X.env.scope.names.lookup x = some .local) (hy : X.env.scope.names.lookup y = some .local)
    (ha : PA X [l, r] (TVa Z Wx (evEs (.cons a (.cons b .nil))))) (hw : swappedStores [.Tuple [.Name x px, .Name y py] kt pt] (.Tuple [l, r] k2 pt2) X.env = pure (some [x, y])) (hs : swapsWithSole [.Tuple [.Name x px, .Name y py] kt pt] (.Tuple [l, r] k2 pt2) pos.line X.env = pure false) :
    PS X (.Assign [.Tuple [.Name x px, .Name y py] kt pt] (.Tuple [l, r] k2 pt2) pos) (TSv Z Wx (evS C (.asg (.tp [i, j]) (.tup (.cons a (.cons b .nil)))))) := by
  refine PS_imp (ps_par g.calm g.nd hi hj hij hx hy ha hw hs) fun D σ H ⟨W, ls, h, lr, hr, t⟩ => ?_
  have t' : TriS Z D Wx W H (ofR (evEs (.cons a (.cons b .nil)) ls h) ls fun xs h1 => ofL (asgT (.tp [i, j]) (.tup xs) ls) h1) := by
    have e : evS C (.asg (.tp [i, j]) (.tup (.cons a (.cons b .nil)))) ls h = ofR ((evEs (.cons a (.cons b .nil)) ls h).bind fun xs h1 => if xs.length ≤ LIM then .ok (.tup xs) h1 else .bad) ls fun d h1 => ofL (asgT (.tp [i, j]) d ls) h1 := rfl
    rw [e] at t
    cases q : evEs (.cons a (.cons b .nil)) ls h with
    | ok xs h1 =>
      rw [q] at t
      have hl := evEs_len _ q
      have hl2 : xs.length ≤ LIM := by rw [hl]; show 2 ≤ LIM; decide
      have t : TriS Z D Wx W H (ofR (if xs.length ≤ LIM then .ok (.tup xs) h1 else .bad) ls fun d h1 => ofL (asgT (.tp [i, j]) d ls) h1) := t
      rw [if_pos hl2] at t
      exact t
    | exc c h1 => rw [q] at t; exact t
    | bad => rw [q] at t; exact t
  exact stepS lr hr t' fun vs H1 W1 ds h1 g1 lr1 hr1 rx t1 => by
    obtain ⟨l2, e2, t2⟩ := ofL_tri t1
    have e2 : setNs [i, j] ds ls = some l2 := e2
    cases ds with
    | nil => cases e2
    | cons d1 ds =>
      cases ds with
      | nil =>
        unfold setNs at e2
        cases q : setN i d1 ls with
        | none => rw [q] at e2; cases e2
        | some l => rw [q] at e2; cases e2
      | cons d2 ds =>
        cases ds with
        | cons d3 ds =>
          unfold setNs at e2
          cases q : setN i d1 ls with
          | none => rw [q] at e2; cases e2
          | some l =>
            rw [q] at e2
            simp only [Option.bind_some] at e2
            unfold setNs at e2
            cases q2 : setN j d2 l with
            | none => rw [q2] at e2; cases e2
            | some l' => rw [q2] at e2; cases e2
        | nil =>
          obtain ⟨v, r1, e3, rv, w, r2, e4, rw', e5⟩ := rx
          have e5 : r2 = [] := e5
          subst e5 e4
          refine ⟨v, w, e3, ?_⟩
          unfold setNs setN at e2
          by_cases h1' : i < ls.length
          · simp only [h1', if_true, Option.bind_some] at e2
            unfold setNs setN at e2
            by_cases h2' : j < (ls.set i (some d1)).length
            · simp only [h2', if_true, Option.bind_some] at e2
              unfold setNs at e2
              cases e2
              exact t2.next hr1 ((lr1.put rv).put rw')
            · simp only [h2', if_false] at e2; cases e2
          · simp only [h1', if_false] at e2; cases e2
theorem s_sub {a i e : E} {o ix v : Expr} {pos tp : Pos} (ha : PE X o (TVe Z Wx (evE a))) (hi : PE X ix (TVe Z Wx (evE i))) (he : PE X v (TVe Z Wx (evE e))) (n : nSlc ix = true)
    (hs : swapsWithSole [.Subscript o ix tp] v pos.line X.env = pure false) (hw : swappedStores [.Subscript o ix tp] v X.env = pure none) :
    PS X (.Assign [.Subscript o ix tp] v pos) (TSv Z Wx (evS C (.sub a i e))) := by
  have has : ∀ w, assign (.Subscript o ix tp) X.env w = (do
      let ov ← holding [w] (eval o X.env)
      let iv ← holding [w, ov] (eval ix X.env)
      standAt tp
      holding [w, ov, iv] (setItem ov iv w)
      release [w, ov, iv] []) := by
    intro w
    cases ix <;> first | rfl | cases n
  refine PS_imp (ps_asg he (pg_sub ha hi (set_D (Z := Z)) has) hs hw rfl) fun D σ H ⟨W, ls, h, lr, hr, t⟩ => stepS lr hr t fun x H1 W1 d h1 g1 lr1 hr1 rx t1 => ?_
  exact stepS lr1 hr1 t1 fun y H2 W2 d2 h2 g2 lr2 hr2 ry t2 => stepS lr2 hr2 t2 fun z H3 W3 d3 h3 g3 lr3 hr3 rz t3 => by
    refine ⟨W3, h3, d2, d3, d, ry.mono g3, rz, (rx.mono g2).mono g3, hr3, ?_⟩
    unfold wSt
    cases q : setD d2 d3 d h3 with
    | ok u h4 =>
      rw [q] at t3
      exact fun _ W4 H4 g4 hr4 _ => t3 W4 σ H4 g4 hr4 (lr3.mono g4)
    | exc c h4 => exact (setD_nx c h4 q).elim
    | bad => rw [q] at t3; exact t3
theorem s_dput {a i e : E} {o ix v : Expr} {pos tp : Pos} (g : Gd Z Wx k X) (ha : PE X o (TVe Z Wx (evE a))) (hi : PE X ix (TVe Z Wx (evE i))) (he : PE X v (TVe Z Wx (evE e)))
    (hs : swapsWith v (some (.Subscript o ix tp)) pos.line X.env = pure false) :
    PS X (.Assign [.Subscript o ix tp] v pos) (TSv Z Wx (evS C (.dput a i e))) := by
  refine PS_imp (ps_dput (by have := g.units; omega) ha hi he hs) fun D σ H ⟨W, ls, h, lr, hr, t⟩ => stepS lr hr t fun x H1 W1 d h1 g1 lr1 hr1 rx t1 => ?_
  exact stepS lr1 hr1 t1 fun y H2 W2 d2 h2 g2 lr2 hr2 ry t2 => stepS lr2 hr2 t2 fun z H3 W3 d3 h3 g3 lr3 hr3 rz t3 => by
    cases d2 with
    | cel j =>
      obtain ⟨ad, e1, f⟩ := ry.mono g3
      have t3 : TriS Z D Wx W3 H3 (ofR (dputK j (dctO h3[j]?) (keyD d3) d h3) ls fun _ h4 => .nx ls h4) := t3
      cases q1 : h3[j]? with
      | none => rw [q1] at t3; exact t3.elim
      | some ob =>
        rw [q1] at t3
        cases ob with
        | lst xs => exact t3.elim
        | ins c xs => exact t3.elim
        | dct kvs =>
          cases q2 : keyD d3 with
          | none => rw [q2] at t3; exact t3.elim
          | some kd =>
            rw [q2] at t3
            have t3 : TriS Z D Wx W3 H3 (ofR (if kvs.length < LIM then .ok () (h3.set j (.dct (putD kvs kd d))) else .bad) ls fun _ h4 => .nx ls h4) := t3
            by_cases hl : kvs.length < LIM
            · rw [if_pos hl] at t3
              obtain ⟨vs, e2, r2⟩ := hr3.obj j ad _ f q1
              have ek := keyD_rel q2 rz
              subst ek
              have nt : ∀ o, H3 ad = some o → fixO o = false := fun o z => by rw [e2] at z; cases z; rfl
              have gw := Gr.write (o := .dK (putK vs kd x)) hr3 f q1 nt
              have rx3 := (rx.mono g2).mono g3
              refine ⟨ad, _, e1, DPut.k e2 (by rw [← relK_len r2]; exact Nat.lt_of_lt_of_le hl lim_le), t3 W3 σ _ gw (hr3.write f q1 nt ⟨_, upd_same, RelKs.mono gw _ (putD_rel rx3 r2)⟩) (lr3.mono gw)⟩
            · rw [if_neg hl] at t3; exact t3.elim
    | _ => exact t3.elim
theorem s_fset {c f : Str} {a e : E} {o v : Expr} {pos tp : Pos} (A : MtA Z k X c f none) (ha : PE X o (TVe Z Wx (evE a))) (he : PE X v (TVe Z Wx (evE e))) (hs : swapsWith v (some (.Attribute o f tp)) pos.line X.env = pure false) :
    PS X (.Assign [.Attribute o f tp] v pos) (TSv Z Wx (evS C (.fset c f a e))) := by
  obtain ⟨Ca, hC, hc, hn⟩ := A
  refine PS_imp (ps_fld ha he hs) fun D σ H ⟨W, ls, h, lr, hr, t⟩ => stepS lr hr t fun x H1 W1 d h1 g1 lr1 hr1 rx t1 => ?_
  exact stepS lr1 hr1 t1 fun y H2 W2 d2 h2 g2 lr2 hr2 ry t2 => by
    cases d2 with
    | cel j =>
      have t2 : TriS Z D Wx W2 H2 (ofR (fsetK j c f (insO h2[j]?) d h2) ls fun _ h3 => .nx ls h3) := t2
      cases q : insO h2[j]? with
      | none => rw [q] at t2; exact t2.elim
      | some p =>
        obtain ⟨k', fs⟩ := p
        rw [q] at t2
        have t3 : TriS Z D Wx W2 H2 (ofR (if k' = c ∧ fs.length < 1000 then .ok () (h2.set j (.ins c (putFd f d fs))) else .bad) ls fun _ h3 => .nx ls h3) := t2
        by_cases z : k' = c ∧ fs.length < 1000
        · rw [if_pos z] at t3
          obtain ⟨rfl, zl⟩ := z
          obtain ⟨a', C', dx, vs, e1, e2, e3, e4, e5, rf⟩ := ins_at hr2 ry q
          rw [hC] at e4; cases e4
          have nt : ∀ o, H2 a' = some o → fixO o = false := fun o z => by rw [e5] at z; cases z; rfl
          have gw := Gr.write (o := .ins Ca dx (L2.putF f x vs)) hr2 e2 e3 nt
          have rx2 := rx.mono g2
          refine ⟨a', Ca, dx, vs, e1, e5, hc, hn, by rw [← relF_len rf]; exact zl, ?_⟩
          exact t3 W2 σ _ gw (hr2.write e2 e3 nt ⟨Ca, dx, _, hC, upd_same, RelFs.mono gw _ (relF_put rx2 rf)⟩) (lr2.mono gw)
        · rw [if_neg z] at t3; exact t3.elim
    | _ => exact t2.elim
end
end Tb
namespace Tb
open PySem PySem.Spec PyProof.Rows L2
section
variable {X : Cx} {Z : Zn} {Wx : L2.St → Str → Hp → Prop} {k : Nat} {C : Cs}
def rAug (Z : Zn) (o : Operator) : TIp := fun x y H Q => ∃ W h a b, RelD Z W H a x ∧ RelD Z W H b y ∧ HRel Z W H h ∧ TriD Z (fun _ _ => False) Q W H (augD o a b h)
theorem augD_nx {o a b h} : NX (augD o a b h) := by
  unfold augD
  split <;> first | exact ok_nx | exact bad_nx | (apply nx_ite <;> first | exact ok_nx | exact bad_nx)
theorem aug_D (o : Operator) : PIp X o (rAug Z o) := by
  intro pins s σ H x y v u Q I rx ry ⟨W, h, a, b, ra, rb, hr, t⟩
  unfold augD at t
  split at t
  · exact iop_add pins s σ H x y v u Q I rx ry ⟨_, _, ra, rb, t.now hr rfl⟩
  · exact iop_sub pins s σ H x y v u Q I rx ry ⟨_, _, ra, rb, t.now hr rfl⟩
  · rename_i i j
    by_cases hz : small i = true ∧ small j = true
    · rw [if_pos hz] at t
      have h1 := small_log hz.1
      have h2 := small_log hz.2
      cases ra
      cases rb
      obtain ⟨tv, rfl⟩ := rx
      obtain ⟨tu, rfl⟩ := ry
      exact imul_int ⟨.int (i * j), H, I.tok _, ⟨_, rfl⟩, t.now hr rfl⟩ (show CMulW i j by unfold CMulW; omega).ok
    · rw [if_neg hz] at t; exact t.elim
  · exact t.elim
theorem s_aug {i : Nat} {o : Operator} {e : E} {y : Str} {x : Expr} {pos pos' : Pos} (g : Gd Z Wx k X) (hi : putB (ccOf X) i y = true) (he : PE X x (TVe Z Wx (evE e))) : PS X (.AugAssign (.Name y pos') o x pos) (TSv Z Wx (evS C (.aug i o e))) := by
  obtain ⟨p1, p2, p3⟩ := put_of hi
  refine PS_imp (ps_aug g.nd p1 p2 he (aug_D (Z := Z) o) p3) fun D σ H ⟨W, ls, h, lr, hr, t⟩ => ?_
  unfold evS at t
  split at t
  · rename_i d q
    obtain ⟨v, ev, rv⟩ := lr.2 i d q
    refine ⟨v, ev, stepS lr hr t fun y H1 W1 d1 h1 g1 lr1 hr1 ry t1 => ⟨W1, h1, d, d1, rv.mono g1, ry, hr1, ?_⟩⟩
    cases q2 : augD o d d1 h1 with
    | ok z h2 =>
      rw [q2] at t1
      obtain ⟨l2, e2, t2⟩ := ofL_tri t1
      intro w W2 H2 g2 hr2 rw'
      unfold setN at e2
      by_cases hl : i < ls.length
      · rw [if_pos hl] at e2
        cases e2
        exact (TriS.grow g2 t2).next hr2 ((lr1.mono g2).put rw')
      · rw [if_neg hl] at e2; cases e2
    | exc c h2 => exact (augD_nx c h2 q2).elim
    | bad => rw [q2] at t1; exact t1
  · exact t.elim
theorem s_whl {e : E} {b : Ss} {x : Expr} {bs : List Stmt} {pos : Pos} (hp : PassesOwn (model X.prog X.w) X.A X.env X.xe) (he : PT X x (TVt Z Wx (evT e))) (hb : PSs X bs (TSv Z Wx (evSs C b))) : PS X (.While x bs [] pos) (TSv Z Wx (evS C (.whl e b))) := by
  refine PS_imp (ps_while hp he hb) fun D σ H ⟨W, ls, h, lr, hr, t⟩ => ?_
  refine ⟨fun m σ H => ∃ W ls h, LRel Z W H ls σ ∧ HRel Z W H h ∧ TriS Z D Wx W H (whileR (evT e) (evSs C b) m ls h), ⟨FUEL, W, ls, h, lr, hr, t⟩, ?_⟩
  rintro m σ H ⟨W, ls, h, lr, hr, t⟩
  cases m with
  | zero => exact t.elim
  | succ m =>
    have un : whileR (evT e) (evSs C b) (m + 1) ls h = ofR (evT e ls h) ls fun kk h1 => match kk with
        | false => .nx ls h1
        | true => match evSs C b ls h1 with
          | .nx l2 h2 => whileR (evT e) (evSs C b) m l2 h2
          | .ct l2 h2 => whileR (evT e) (evSs C b) m l2 h2
          | .bk l2 h2 => .nx l2 h2
          | r => r := by
      show (match evT e ls h with | .bad => _ | .exc c h1 => _ | .ok false h1 => _ | .ok true h1 => _) = _
      cases evT e ls h with
      | ok kk h1 => cases kk <;> rfl
      | exc c h1 => rfl
      | bad => rfl
    rw [un] at t
    exact stepS lr hr t fun kk H1 W1 d h1 g1 lr1 hr1 rx t1 => by
      subst rx
      cases d with
      | false => exact t1.next hr1 lr1
      | true =>
        simp only [if_true]
        refine ⟨fun σ' H' => ∃ m', m' < m + 1 ∧ ∃ W ls h, LRel Z W H' ls σ' ∧ HRel Z W H' h ∧ TriS Z D Wx W H' (whileR (evT e) (evSs C b) m' ls h), fun σ' H' z => z, W1, ls, h1, lr1, hr1, ?_⟩
        have t1 : TriS Z D Wx W1 H1 (match evSs C b ls h1 with
          | .nx l2 h2 => whileR (evT e) (evSs C b) m l2 h2
          | .ct l2 h2 => whileR (evT e) (evSs C b) m l2 h2
          | .bk l2 h2 => .nx l2 h2
          | r => r) := t1
        cases q : evSs C b ls h1 with
        | nx l2 h2 => rw [q] at t1; exact fun W' σ' H' g hr lr => ⟨m, Nat.lt_succ_self _, W', l2, h2, lr, hr, TriS.grow g t1⟩
        | ct l2 h2 => rw [q] at t1; exact fun W' σ' H' g hr lr => ⟨m, Nat.lt_succ_self _, W', l2, h2, lr, hr, TriS.grow g t1⟩
        | bk l2 h2 => rw [q] at t1; exact fun W' σ' H' g hr lr => t1 W' σ' H' g hr lr
        | rt d h2 => rw [q] at t1; exact t1
        | exc c l2 h2 => rw [q] at t1; exact t1
        | bad => rw [q] at t1; exact t1
/-- what is left of a loop, by the turn -/
structure RstS (it : Tb.It) (g : D → Ls → Option Ls) (b : Ls → Hh → RS) (rest : Nat → Nat → Ls → Hh → RS) (Iv : Nat → Nat → Prop) : Prop where
  un : ∀ m i ls h, Iv m i → rest m i ls h = .bad ∨ ∃ xs, it.items h = some xs ∧ ((xs.length ≤ i ∧ rest m i ls h = .nx ls h) ∨ ∃ d l1 m', xs[i]? = some d ∧ g d ls = some l1 ∧ m' < m ∧ Iv m' (i + 1) ∧
    rest m i ls h = match b l1 h with
      | .nx l2 h2 => rest m' (i + 1) l2 h2
      | .ct l2 h2 => rest m' (i + 1) l2 h2
      | .bk l2 h2 => .nx l2 h2
      | r => r)
theorem rstS_L {it : Tb.It} {g b} {h0 : Hh} {xs : List D} (c : it.cst = true) (e : it.items h0 = some xs) : RstS it g b (fun _ i ls h => loopL g b (xs.drop i) ls h) (fun m i => m = xs.length - i) := by
  refine ⟨fun m i ls h hm => ?_⟩
  have e' : it.items h = some xs := by rw [cst_items c (h' := h0)]; exact e
  by_cases hi : i < xs.length
  · have un : loopL g b (xs.drop i) ls h = match g xs[i] ls with
        | none => .bad
        | some l1 => match b l1 h with
          | .nx l2 h2 => loopL g b (xs.drop (i + 1)) l2 h2
          | .ct l2 h2 => loopL g b (xs.drop (i + 1)) l2 h2
          | .bk l2 h2 => .nx l2 h2
          | r => r := by
      rw [List.drop_eq_getElem_cons hi]; rfl
    cases q : g xs[i] ls with
    | none => rw [q] at un; exact .inl un
    | some l1 => rw [q] at un; exact .inr ⟨xs, e', .inr ⟨xs[i], l1, xs.length - (i + 1), by simp [hi], q, by omega, rfl, un⟩⟩
  · refine .inr ⟨xs, e', .inl ⟨by omega, ?_⟩⟩
    show loopL g b (xs.drop i) ls h = _
    rw [List.drop_eq_nil_of_le (by omega)]
    rfl
theorem rstS_I {it : Tb.It} {g b} : RstS it g b (fun m i ls h => loopI it g b m i ls h) (fun _ _ => True) := by
  refine ⟨fun m i ls h hm => ?_⟩
  cases m with
  | zero => exact .inl rfl
  | succ m =>
    have un : loopI it g b (m + 1) i ls h = match it.items h with
        | none => .bad
        | some xs => match xs[i]? with
          | none => .nx ls h
          | some x => match g x ls with
            | none => .bad
            | some l1 => match b l1 h with
              | .nx l2 h2 => loopI it g b m (i + 1) l2 h2
              | .ct l2 h2 => loopI it g b m (i + 1) l2 h2
              | .bk l2 h2 => .nx l2 h2
              | r => r := rfl
    cases q : it.items h with
    | none => rw [q] at un; exact .inl un
    | some xs =>
      rw [q] at un
      simp only at un
      cases q2 : xs[i]? with
      | none => rw [q2] at un; exact .inr ⟨xs, rfl, .inl ⟨by simpa using q2, un⟩⟩
      | some d =>
        rw [q2] at un
        simp only at un
        cases q3 : g d ls with
        | none => rw [q3] at un; exact .inl un
        | some l1 => rw [q3] at un; exact .inr ⟨xs, rfl, .inr ⟨d, l1, m, q2, q3, by omega, trivial, un⟩⟩
theorem for_core {it : Tb.It} {J : L2.It} {tgt : Tg} {b : Ls → Hh → RS} {rest : Nat → Nat → Ls → Hh → RS} {Iv : Nat → Nat → Prop} {D : Ends} {W1 : Wd} {H1 : Hp} {ls : Ls} {h1 : Hh} {σ : L2.St} {m0 : Nat}
    (hR : RstS it (asgT tgt) b rest Iv) (lr : LRel Z W1 H1 ls σ) (hr : HRel Z W1 H1 h1) (ir : ItR Z W1 H1 it J) (iv : Iv m0 0) (t : TriS Z D Wx W1 H1 (rest m0 0 ls h1)) :
    ∃ Wm : Nat → Nat → L2.St → Hp → Prop, (∃ m, Wm 0 m σ H1) ∧ ∀ i m σ H, Wm i m σ H →
      (J.stop i H ∧ D.nx σ H) ∨ (J.go i H ∧ ∃ N : L2.St → Hp → Prop, (∀ σ' H', N σ' H' → ∃ m', m' < m ∧ Wm (i + 1) m' σ' H') ∧ ∀ x H', J.yld i H x H' → TGv Z tgt x σ H' fun σ2 H2 => TSv Z Wx b { D with nx := N, ct := N, bk := D.nx } σ2 H2) := by
  refine ⟨fun i m σ H => ∃ W ls h, LRel Z W H ls σ ∧ HRel Z W H h ∧ ItR Z W H it J ∧ Iv m i ∧ TriS Z D Wx W H (rest m i ls h), ⟨m0, W1, ls, h1, lr, hr, ir, iv, t⟩, ?_⟩
  rintro i m σ H ⟨W, ls, h, lr, hr, ir, iv, t⟩
  rcases hR.un m i ls h iv with bad | ⟨xs, ex, ⟨hi, er⟩ | ⟨d, l1, m', ed, eg, hm, iv', er⟩⟩
  · rw [bad] at t; exact t.elim
  · rw [er] at t
    exact .inl ⟨ir.stop hr ex hi, t.next hr lr⟩
  · rw [er] at t
    obtain ⟨go, yl⟩ := ir.go hr ex ed
    refine .inr ⟨go, fun σ' H' => ∃ m', m' < m ∧ ∃ W ls h, LRel Z W H' ls σ' ∧ HRel Z W H' h ∧ ItR Z W H' it J ∧ Iv m' (i + 1) ∧ TriS Z D Wx W H' (rest m' (i + 1) ls h), fun σ' H' z => z, fun x H' y => ?_⟩
    obtain ⟨g2, hr2, rx⟩ := yl x H' y
    refine ⟨W, d, ls, l1, lr.mono g2, rx, eg, fun σ2 lr2 _ => ⟨W, l1, h, lr2, hr2, ?_⟩⟩
    have t2 := TriS.grow g2 t
    cases q : b l1 h with
    | nx l2 h2 => rw [q] at t2; exact fun W' σ' H' g hr lr => ⟨m', hm, W', l2, h2, lr, hr, (ir.mono g2).mono g, iv', TriS.grow g t2⟩
    | ct l2 h2 => rw [q] at t2; exact fun W' σ' H' g hr lr => ⟨m', hm, W', l2, h2, lr, hr, (ir.mono g2).mono g, iv', TriS.grow g t2⟩
    | bk l2 h2 => rw [q] at t2; exact fun W' σ' H' g hr lr => t2 W' σ' H' g hr lr
    | rt d h2 => rw [q] at t2; exact t2
    | exc c l2 h2 => rw [q] at t2; exact t2
    | bad => rw [q] at t2; exact t2
theorem s_for {tgt : Tg} {it : I} {b : Ss} {tg x : Expr} {bs : List Stmt} {pos : Pos} (g : Gd Z Wx k X) (hp : PassesOwn (model X.prog X.w) X.A X.env X.xe) (hi : PI X tg x (TVi Z Wx (evI it))) (hs : nSet x = true) (ht : okTg (ccOf X) tgt tg = true) (hb : PSs X bs (TSv Z Wx (evSs C b))) :
    PS X (.For tg x bs [] pos) (TSv Z Wx (evS C (.fr tgt it b))) := by
  refine PS_imp (ps_for hp g.calm hi (g_tg (Z := Z) g.hK g.calm g.nd ht) hb (fold_of hs)) fun D σ H ⟨W, ls, h, lr, hr, t⟩ => stepS lr hr t fun J H1 W1 i h1 g1 lr1 hr1 ir t1 => ?_
  unfold forR at t1
  by_cases hc : i.cst = true
  · rw [if_pos hc] at t1
    cases e : i.items h1 with
    | none => rw [e] at t1; exact t1.elim
    | some xs =>
      rw [e] at t1
      exact for_core (rstS_L hc e) lr1 hr1 ir (m0 := xs.length) rfl (by simpa using t1)
  · rw [if_neg hc] at t1
    exact for_core rstS_I lr1 hr1 ir (m0 := FUEL) trivial t1
/-! the keys of a dict, which is locked while they are walked -/
structure Sw (H H2 : Hp) (a : Addr) (vs : List (Key × V)) : Prop where
  r1 : L2.Rd H a (.dK vs)
  r2 : L2.Rd H2 a (.dK vs)
  oth : ∀ b, b ≠ a → H2 b = H b
section
variable {W : Wd} {H H2 : Hp} {a : Addr} {vs : List (Key × V)}
theorem Sw.ne (s : Sw H H2 a vs) {b : Addr} {u : HO} (e : H b = some u) (n1 : u ≠ .dK vs) (n2 : ∀ o, u ≠ .frz o (.dK vs)) : b ≠ a := fun q => by
  rw [q] at e
  rcases s.r1 with r | ⟨o, r⟩
  · rw [r] at e; cases e; exact n1 rfl
  · rw [r] at e; cases e; exact n2 _ rfl
theorem Sw.at (s : Sw H H2 a vs) {b : Addr} {u : HO} (e : H b = some u) (n1 : u ≠ .dK vs) (n2 : ∀ o, u ≠ .frz o (.dK vs)) : H2 b = some u := by
  rw [s.oth b (s.ne e n1 n2)]; exact e
theorem FzL.swap (s : Sw H H2 a vs) {b : Addr} {xs : List V} (z : FzL W H b xs) : FzL W H2 b xs := ⟨s.at z.1 (fun q => by cases q) (fun _ q => by cases q), z.2⟩
mutual
theorem RelD.swap (s : Sw H H2 a vs) : ∀ (d : D) {v : V}, (d.nod = true ∨ ∃ o, H a = some (.frz o (.dK vs))) → RelD Z W H d v → RelD Z W H2 d v
  | .non, _, _, h => h
  | .bl _, _, _, h => h
  | .int _, _, _, h => h
  | .str _, _, _, h => h
  | .tup xs, _, u, ⟨b, ws, e, f, r⟩ => ⟨b, ws, e, by
      rcases f with f | f
      · exact .inl (s.at f (fun q => by cases q) (fun _ q => by cases q))
      · exact .inr f, RelDs.swap s xs (u.imp (fun u => by simpa [D.nod] using u) id) r⟩
  | .lst xs, _, u, ⟨b, ws, e, f, r⟩ => ⟨b, ws, e, f.swap s, RelDs.swap s xs (u.imp (fun u => by simpa [D.nod] using u) id) r⟩
  | .kl xs, _, u, ⟨b, ws, e, f, r⟩ => ⟨b, ws, e, by
      rcases f with ⟨o, f1, f2⟩ | f
      · exact .inl ⟨o, s.at f1 (fun q => by cases q) (fun _ q => by cases q), f2⟩
      · exact .inr f, RelDs.swap s xs (u.imp (fun u => by simpa [D.nod] using u) id) r⟩
  | .dic kvs, _, u, ⟨b, ws, e, f, f2, f3, r⟩ => by
    rcases u with u | ⟨o, u⟩
    · simp [D.nod] at u
    · have ne : b ≠ a := fun q => by rw [q, u] at f; cases f
      exact ⟨b, ws, e, by rw [s.oth b ne]; exact f, f2, f3, RelKs.swap s kvs ⟨o, u⟩ r⟩
  | .kd kvs, _, _, ⟨b, ws, e, f, f2, f3, r⟩ => by
    refine ⟨b, ws, e, ?_, f2, f3, RelRs.imp (fun b xs z => z.swap s) kvs r⟩
    by_cases q : b = a
    · subst q
      have : ws = vs := by
        rcases f with f | ⟨o, f⟩ <;> rcases s.r1 with g | ⟨o', g⟩ <;> (rw [f] at g; cases g) <;> rfl
      rw [this]; exact s.r2
    · rcases f with f | ⟨o, f⟩
      · exact .inl (by rw [s.oth b q]; exact f)
      · exact .inr ⟨o, by rw [s.oth b q]; exact f⟩
  | .cel i, _, _, h => h
  | .cls _, _, _, h => h
  | .ty _, _, _, h => h
  | .exc _, _, _, ⟨b, C, e1, e2, e3, e4, e5⟩ => ⟨b, C, e1, e2, e3, e4, s.at e5 (fun q => by cases q) (fun _ q => by cases q)⟩
theorem RelDs.swap (s : Sw H H2 a vs) : ∀ (ds : List D) {us : List V}, (nods ds = true ∨ ∃ o, H a = some (.frz o (.dK vs))) → RelDs Z W H ds us → RelDs Z W H2 ds us
  | [], _, _, h => h
  | d :: ds, _, u, ⟨v, r, e, h1, h2⟩ => by
    have u1 : d.nod = true ∨ ∃ o, H a = some (.frz o (.dK vs)) := u.imp (fun u => by simp only [nods, Bool.and_eq_true] at u; exact u.1) id
    have u2 : nods ds = true ∨ ∃ o, H a = some (.frz o (.dK vs)) := u.imp (fun u => by simp only [nods, Bool.and_eq_true] at u; exact u.2) id
    exact ⟨v, r, e, RelD.swap s d u1 h1, RelDs.swap s ds u2 h2⟩
theorem RelKs.swap (s : Sw H H2 a vs) : ∀ (ds : List (Key × D)) {us : List (Key × V)}, (∃ o, H a = some (.frz o (.dK vs))) → RelKs Z W H ds us → RelKs Z W H2 ds us
  | [], _, _, h => h
  | (k, d) :: ds, _, u, ⟨v, r, e, h1, h2⟩ => ⟨v, r, e, RelD.swap s d (.inr u) h1, RelKs.swap s ds u h2⟩
end
theorem RelKs.swap2 (s : Sw H H2 a vs) : ∀ (ds : List (Key × D)) {us : List (Key × V)}, ((ds.all fun p => p.2.nod) = true ∨ ∃ o, H a = some (.frz o (.dK vs))) → RelKs Z W H ds us → RelKs Z W H2 ds us
  | [], _, _, h => h
  | (k, d) :: ds, _, u, ⟨v, r, e, h1, h2⟩ => by
    refine ⟨v, r, e, RelD.swap s d (u.imp (fun u => ?_) id) h1, RelKs.swap2 s ds (u.imp (fun u => ?_) id) h2⟩
    · rw [List.all_cons, Bool.and_eq_true] at u; exact u.1
    · rw [List.all_cons, Bool.and_eq_true] at u; exact u.2
theorem RelFs.swap (s : Sw H H2 a vs) : ∀ (ds : List (Str × D)) {us : List (Str × V)}, ((ds.all fun p => p.2.nod) = true ∨ ∃ o, H a = some (.frz o (.dK vs))) → RelFs Z W H ds us → RelFs Z W H2 ds us
  | [], _, _, h => h
  | (k, d) :: ds, _, u, ⟨v, r, e, h1, h2⟩ => by
    refine ⟨v, r, e, RelD.swap s d (u.imp (fun u => ?_) id) h1, RelFs.swap s ds (u.imp (fun u => ?_) id) h2⟩
    · rw [List.all_cons, Bool.and_eq_true] at u; exact u.1
    · rw [List.all_cons, Bool.and_eq_true] at u; exact u.2
theorem LRel.swap (s : Sw H H2 a vs) {ls : Ls} {σ : L2.St} (u : ls.all oNod = true ∨ ∃ o, H a = some (.frz o (.dK vs))) (lr : LRel Z W H ls σ) : LRel Z W H2 ls σ :=
  ⟨lr.1, fun i d e => by
    obtain ⟨v, e1, r⟩ := lr.2 i d e
    exact ⟨v, e1, RelD.swap s d (u.imp (fun u => (show oNod (some d) = true from List.all_eq_true.mp u (some d) (List.mem_of_getElem? e))) id) r⟩⟩
theorem HRel.swap {h : Hh} (s : Sw H H2 a vs) (na : a ∉ W.rho) (u : h.all O.nod = true ∨ ∃ o, H a = some (.frz o (.dK vs))) (hr : HRel Z W H h) : HRel Z W H2 h where
  len := hr.len
  nd := hr.nd
  obj := fun i b o e1 e2 => by
    have ne : b ≠ a := fun q => na (q ▸ List.mem_of_getElem? e1)
    have un : o.nod = true ∨ ∃ o, H a = some (.frz o (.dK vs)) := u.imp (fun u => List.all_eq_true.mp u _ (List.mem_of_getElem? e2)) id
    have z := hr.obj i b o e1 e2
    cases o with
    | lst xs => obtain ⟨ws, q, r⟩ := z; exact ⟨ws, by rw [s.oth b ne]; exact q, RelDs.swap s xs un r⟩
    | ins c fs => obtain ⟨C, dx, ws, q1, q2, r⟩ := z; exact ⟨C, dx, ws, q1, by rw [s.oth b ne]; exact q2, RelFs.swap s fs un r⟩
    | dct kvs => obtain ⟨ws, q, r⟩ := z; exact ⟨ws, by rw [s.oth b ne]; exact q, RelKs.swap2 s kvs un r⟩
  dis := hr.dis
  frn := fun b f e => by
    by_cases q : b = a
    · rw [q] at e
      rcases s.r2 with r | ⟨o, r⟩ <;> (rw [r] at e; cases e)
    · rw [s.oth b q] at e; exact hr.frn b f e
/-- behind the loop the dict is as it was -/
theorem Gr.unlock {W' : Wd} {H' : Hp} {od : Obj} (e : H a = some (.dK vs)) (na : a ∉ W.rho) (g : Gr W (upd H a (.frz od (.dK vs))) W' H') : Gr W H W' (upd H' a (.dK vs)) where
  pre := by
    obtain ⟨l, q, n⟩ := g.pre
    refine ⟨l, q, fun b hb => ?_⟩
    have z := n b hb
    by_cases y : b = a
    · rw [y, upd_same] at z; cases z
    · rw [upd_ne y] at z; exact z
  frn := g.frn
  keep := fun b o q n => by
    by_cases y : b = a
    · rw [y, upd_same]; rw [y, e] at q; exact q
    · rw [upd_ne y]; exact g.keep b o (by rw [upd_ne y]; exact q) n
  tups := fun b o f q => by
    by_cases y : b = a
    · rw [y, upd_same]; rw [y, e] at q; exact q
    · rw [upd_ne y]; exact g.tups b o f (by rw [upd_ne y]; exact q)
  trk := fun b q => by
    by_cases y : b = a
    · rw [y, upd_same] at q; cases q
    · rw [upd_ne y] at q
      have := g.trk b q
      rw [upd_ne y] at this; exact this
end
theorem PS_or {e : Stmt} {t1 t2 : TS} (x : PS X e t1) (y : PS X e t2) : PS X e (fun D σ H => t1 D σ H ∨ t2 D σ H) := ⟨fun pins s σ H D I q => q.elim (x.run pins s σ H D I) (y.run pins s σ H D I)⟩
theorem s_frK {tgt : Tg} {j : Nat} {x : Str} {b : Ss} {tg : Expr} {bs : List Stmt} {xp pos : Pos} (g : Gd Z Wx k X) (hp : PassesOwn (model X.prog X.w) X.A X.env X.xe) (o : seenB (ccOf X) j x = true) (ht : okTg (ccOf X) tgt tg = true) (hb : PSs X bs (TSv Z Wx (evSs C b))) :
    PS X (.For tg (.Name x xp) bs [] pos) (TSv Z Wx (evS C (.frK tgt j b))) := by
  obtain ⟨h1, h2, h3, h4⟩ := seen_of o
  have base := ps_for (pos := pos) hp g.calm (pi_keys (pe_var (pos := xp) h1 h2 h3 h4)) (g_tg (Z := Z) g.hK g.calm g.nd ht) hb (fold_of rfl)
  refine PS_imp (PS_or base (ps_lock base)) fun D σ H ⟨W, ls, h, lr, hr, t⟩ => ?_
  have t : TriS Z D Wx W H (keysR (asgT tgt) (evSs C b) ls[j]? ls h) := t
  cases q : ls[j]? with
  | none => rw [q] at t; exact t.elim
  | some od =>
    rw [q] at t
    cases od with
    | none => exact t.elim
    | some d =>
      cases d <;> try exact t.elim
      rename_i kvs
      unfold keysR at t
      by_cases nd : ls.all oNod = true ∧ h.all O.nod = true
      · simp only [if_pos nd] at t
        obtain ⟨v, ev, a, vs, rfl, rd, na, nf, rr⟩ := lr.2 j _ q
        obtain ⟨r, er⟩ : ∃ r, loopL (asgT tgt) (evSs C b) (kvs.map fun p => Tb.D.int p.1) ls h = r := ⟨_, rfl⟩
        rw [er] at t
        cases r <;> try exact t.elim
        rename_i l2 h2
        have t : ∀ W' σ' H', Gr W H W' H' → HRel Z W' H' h2 → LRel Z W' H' l2 σ' → D.nx σ' H' := t
        have go : ∀ (H1 : Hp) (ob : Obj) (D1 : Ends), H1 a = some (.frz ob (.dK vs)) → LRel Z W H1 ls σ → HRel Z W H1 h → RelRs W H1 kvs vs → (∀ W' σ' H', Gr W H1 W' H' → HRel Z W' H' h2 → LRel Z W' H' l2 σ' → D1.nx σ' H') → tFor (iKeys (tVar j)) (TGv Z tgt) (TSv Z Wx (evSs C b)) D1 σ H1 := fun H1 ob D1 e1 lr1 hr1 rr1 t1 =>
          ⟨.ref a, ev, a, ob, rfl, .inl ⟨vs, e1, for_core (it := .dks kvs) (rstS_L (h0 := h) rfl rfl) lr1 hr1 ⟨a, ob, vs, e1, na, rr1, rfl⟩ (m0 := (kvs.map fun p => Tb.D.int p.1).length) rfl (by
            show TriS Z D1 Wx W H1 (loopL (asgT tgt) (evSs C b) (kvs.map fun p => Tb.D.int p.1) ls h)
            rw [er]; exact t1)⟩⟩
        rcases rd with rd | ⟨ob, rd⟩
        · refine .inr ⟨a, .dK vs, rd, trivial, fun ob => ?_⟩
          have sw : Sw H (upd H a (.frz ob (.dK vs))) a vs := ⟨.inl rd, .inr ⟨ob, upd_same⟩, fun b n => upd_ne n⟩
          refine go _ ob _ upd_same (lr.swap sw (.inl nd.1)) (hr.swap sw na (.inl nd.2)) (RelRs.imp (fun b xs z => z.swap sw) kvs rr) fun W' σ' H' g2 hr2 lr2 => ?_
          have ea : H' a = some (.frz ob (.dK vs)) := g2.keep _ _ upd_same na
          have na' : a ∉ W'.rho := g2.out upd_same na
          have sw2 : Sw H' (upd H' a (.dK vs)) a vs := ⟨.inr ⟨ob, ea⟩, .inl upd_same, fun b n => upd_ne n⟩
          exact ⟨ea, t W' σ' _ (Gr.unlock rd na g2) (hr2.swap sw2 na' (.inr ⟨ob, ea⟩)) (lr2.swap sw2 (.inr ⟨ob, ea⟩))⟩
        · exact .inl (go H ob D rd lr hr rr t)
      · simp only [if_neg nd] at t
        exact t.elim
/-- a class of the module that may be raised -/
def RaiA (Z : Zn) (X : Cx) (c : Str) : Prop := ∃ (Ca : Addr) (B newId initId : String) (bmB : List Value), ExcBaseFacts B newId initId bmB ∧ PySem.W.excIn X.K Ca bmB newId = true ∧ X.mg c = some (.ref Ca) ∧ PySem.W.keepIn X.K (.ref Ca) = true ∧
  (∀ (M : Model) (h : Heap), X.K.In h → PySem.W.Looks M h (isSubtype (.ref Ca) (.type "BaseException")) true ∧ PySem.W.Looks M h (typeOf (.ref Ca)) (.type "type")) ∧ Z.cl c = some Ca ∧ c ∈ Z.xs
/-- what an except clause's class must say -/
def ExcA (Z : Zn) (X : Cx) (c : Str) : Prop := ∃ Cc, X.mg c = some (.ref Cc) ∧ ∀ n ∈ Z.xs, ∀ C, Z.cl n = some C → PySem.W.exmOne X.K (.ref C) (.ref Cc) = some (subX n c) ∧ XFa Z C
def RxA (Z : Zn) (X : Cx) : Bool → Str → Prop
  | false, c => RaiA Z X c
  | true, c => ExcA Z X c
theorem s_rais {c m : Str} {j : Nat} {p p2 cp pos : Pos} (g : Gd Z Wx k X) (A : RaiA Z X c) (hg : globB (ccOf X) c = true) : PS X (.Raise (some (.Call (.Name c p) [.Constant (.str m) j p2] [] cp)) none pos) (TSv Z Wx (evS C (.rais c))) := by
  obtain ⟨Ca, B, n, i, bm, F, q, m1, kp, rs, cl, mx⟩ := A
  refine PS_imp (ps_raise g.calm g.tk (pmk_own F q m1 kp rs (gl_of hg).1 (gl_of hg).2)) fun D σ H ⟨W, ls, h, lr, hr, t⟩ => ?_
  exact ⟨c, Ca, cl, mx, rfl, rfl, t W σ H Gr.refl hr lr⟩
/-- what a statement's own frame must say -/
structure Pk (X : Cx) : Prop where
  po : PassesOwn (model X.prog X.w) X.A X.env X.xe
  st : X.stack = X.env :: X.outer
  fr : X.env.frame = some X.env.locals
  ex : X.ex = []
/-- what is wished inside a try -/
abbrev WxT (Z : Zn) (W : WX) : L2.St → Str → Hp → Prop := fun σ c H => c ∈ Z.xs → ∀ C, Z.cl c = some C → W (.ref C) none σ H
theorem Gd.try_ (g : Gd Z Wx k X) {W : WX} {pn : List (Addr × Obj)} {xe : Value → Shared → Prop} (tk : Takes (X.tr pn xe) W) : Gd Z (WxT Z W) k (X.tr pn xe) :=
  ⟨g.hK, g.calm, g.nd, g.room, g.qt, g.free, g.sys, Takes.imp tk fun cls d σ H ⟨c, Ca, e1, e2, e3, e4, z⟩ => by
    subst e3 e4
    exact z e2 Ca e1⟩
theorem Pk.try_ (p : Pk X) {pn : List (Addr × Obj)} {xe : Value → Shared → Prop} (h : PassesOwn (model X.prog X.w) X.A X.env xe) : Pk (X.tr pn xe) := ⟨h, p.st, p.fr, p.ex⟩
/-- the body's answer, where an exception is looked at -/
theorem tri_try {D : Ends} {W : Wd} {H : Hp} {W' : WX} {c : Str} {r : RS} {f : Str → Ls → Hh → RS}
    (t : TriS Z D Wx W H (match r with | .exc k l1 h1 => if subX k c = true then f k l1 h1 else .exc k l1 h1 | r => r))
    (hx : ∀ k l1 h1 σ1 H1 W1 C, r = .exc k l1 h1 → Gr W H W1 H1 → HRel Z W1 H1 h1 → LRel Z W1 H1 l1 σ1 → k ∈ Z.xs → Z.cl k = some C → TriS Z D Wx W1 H1 (if subX k c = true then f k l1 h1 else .exc k l1 h1) → W' (.ref C) none σ1 H1) : TriS Z D (WxT Z W') W H r := by
  cases r with
  | exc k l1 h1 => exact fun W1 σ1 H1 g hr lr hm C hC => hx k l1 h1 σ1 H1 W1 C rfl g hr lr hm hC (TriS.grow g t)
  | nx l h => exact t
  | rt d h => exact t
  | bk l h => exact t
  | ct l h => exact t
  | bad => exact t
theorem s_tryA {b : Ss} {c n y : Str} {i j : Nat} {body : List Stmt} {np pv pa py pos pos' : Pos} (g : Gd Z Wx k X) (hp : Pk X) (A : ExcA Z X c) (hg : globB (ccOf X) c = true) (hi : X.N[i]? = some n) (hln : X.env.kindOf n = some .local) (hj : X.N[j]? = some y) (hly : X.env.kindOf y = some .local) (hnn : (n == ("__debug__" : Str)) = false ∧ (n == ("__classdict__" : Str)) = false)
    (hb : ∀ (W : WX) (pn : List (Addr × Obj)) (xe : Value → Shared → Prop), Gd Z (WxT Z W) k (X.tr pn xe) → Pk (X.tr pn xe) → PSs (X.tr pn xe) body (TSv Z (WxT Z W) (evSs C b))) :
    PS X (.Try body [.ExceptHandler (some (.Name c np)) (some n) [.Assign [.Name y py] (.Name n pv) pa] pos'] [] [] pos) (TSv Z Wx (evS C (.tryA b c i j))) := by
  obtain ⟨Cc, mc, fa⟩ := A
  refine PS_imp (ps_try_keep (i := i) (j := j) hp.st hp.fr hp.ex g.nd hi hln hj hly hnn ⟨(gl_of hg).1, (gl_of hg).2, .inl mc⟩ g.tk (fun W pn xe tk ho => hb W pn xe (g.try_ tk) (hp.try_ ho))) fun D σ H ⟨W, ls, h, lr, hr, t⟩ => ⟨W, ls, h, lr, hr, tri_try (c := c) (f := fun k l1 h1 => if j < l1.length then .nx ((l1.set j (some (.exc k))).set i none) h1 else .bad) t fun k l1 h1 σ1 H1 W1 C e g1 hr1 lr1 hm hC t1 => ?_⟩
  obtain ⟨ex, xf⟩ := fa k hm C hC
  refine ⟨subX k c, ex, fun yes => ⟨rfl, fun a na => ?_⟩, fun no => ?_⟩
  · rw [if_pos yes] at t1
    by_cases hl : j < l1.length
    · rw [if_pos hl] at t1
      refine t1 W1 _ _ (Gr.fresh hr1 na) (hr1.fresh na) ⟨by simp [lr1.1], fun m d e => ?_⟩
      have lr2 := lr1.mono (Gr.fresh (o := ExK (.ref C) a) hr1 na)
      by_cases mi : m = i
      · subst mi
        by_cases hl2 : m < l1.length
        · rw [List.getElem?_set_self (by simpa using hl2)] at e; cases e
        · rw [List.getElem?_eq_none (by simpa using hl2)] at e; cases e
      · rw [List.getElem?_set_ne (Ne.symm mi)] at e ⊢
        by_cases mj : m = j
        · subst mj
          rw [List.getElem?_set_self hl] at e
          cases e
          refine ⟨.ref a, List.getElem?_set_self (by simp [← lr1.1]; exact hl), a, C, rfl, hC, hm, xf, upd_same⟩
        · rw [List.getElem?_set_ne (Ne.symm mj)] at e ⊢
          rw [List.getElem?_set_ne (Ne.symm mi)]
          exact lr2.2 m d e
    · rw [if_neg hl] at t1; exact t1.elim
  · rw [no, if_neg Bool.false_ne_true] at t1
    exact ⟨k, C, hC, hm, rfl, rfl, t1 W1 σ1 H1 Gr.refl hr1 lr1⟩
theorem s_tryK {b : Ss} {c y : Str} {j : Nat} {v : Bool} {kd : Nat} {body : List Stmt} {np pv pa py pos pos' : Pos} (g : Gd Z Wx k X) (hp : Pk X) (A : ExcA Z X c) (hg : globB (ccOf X) c = true) (hj : X.N[j]? = some y) (hly : X.env.kindOf y = some .local)
    (hb : ∀ (W : WX) (pn : List (Addr × Obj)) (xe : Value → Shared → Prop), Gd Z (WxT Z W) k (X.tr pn xe) → Pk (X.tr pn xe) → PSs (X.tr pn xe) body (TSv Z (WxT Z W) (evSs C b))) :
    PS X (.Try body [.ExceptHandler (some (.Name c np)) none [.Assign [.Name y py] (.Constant (.bool v) kd pv) pa] pos'] [] [] pos) (TSv Z Wx (evS C (.tryK b c j v))) := by
  obtain ⟨Cc, mc, fa⟩ := A
  have suite : ∀ (a : Addr) (oe : Obj) (cls : Value) (d : Option Addr) (pn : List (Addr × Obj)), Zc cls d oe → (∃ vs, oe.data = .fields vs) → PSs (X.suite a ((a, oe) :: pn)) [.Assign [.Name y py] (.Constant (.bool v) kd pv) pa] (fun D σ H => D.nx (σ.set j (some (.bl v))) H) := fun a oe cls d pn hz hf =>
    PSs_imp (pss_cons (ps_asg (te := tC (.bl v)) pe_bl (pg_name (i := j) g.nd hj (.inl hly) (.inr hly))) pss_nil) fun D σ H q => q
  refine PS_imp (ps_try_only hp.st hp.fr ⟨(gl_of hg).1, (gl_of hg).2, .inl mc⟩ g.tk (fun W pn xe tk ho => hb W pn xe (g.try_ tk) (hp.try_ ho)) suite) fun D σ H ⟨W, ls, h, lr, hr, t⟩ => ⟨W, ls, h, lr, hr, tri_try (c := c) (f := fun k l1 h1 => if j < l1.length then .nx (l1.set j (some (.bl v))) h1 else .bad) t fun k l1 h1 σ1 H1 W1 C e g1 hr1 lr1 hm hC t1 => ?_⟩
  obtain ⟨ex, xf⟩ := fa k hm C hC
  refine ⟨subX k c, ex, fun yes a na => ?_, fun no => ?_⟩
  · rw [if_pos yes] at t1
    by_cases hl : j < l1.length
    · rw [if_pos hl] at t1
      refine t1 W1 _ _ Gr.refl hr1 ⟨by simp [lr1.1], fun m d e => ?_⟩
      by_cases mj : m = j
      · subst mj
        rw [List.getElem?_set_self hl] at e
        cases e
        exact ⟨.bl v, List.getElem?_set_self (by rw [← lr1.1]; exact hl), rfl⟩
      · rw [List.getElem?_set_ne (Ne.symm mj)] at e ⊢
        exact lr1.2 m d e
    · rw [if_neg hl] at t1; exact t1.elim
  · rw [no, if_neg Bool.false_ne_true] at t1
    exact ⟨k, C, hC, hm, rfl, rfl, t1 W1 σ1 H1 Gr.refl hr1 lr1⟩
theorem s_tryT {b : Ss} {c y : Str} {j : Nat} {v : Str} {kd : Nat} {body : List Stmt} {np pv pa py pos pos' : Pos} (g : Gd Z Wx k X) (hp : Pk X) (A : ExcA Z X c) (hg : globB (ccOf X) c = true) (hj : X.N[j]? = some y) (hly : X.env.kindOf y = some .local)
    (hb : ∀ (W : WX) (pn : List (Addr × Obj)) (xe : Value → Shared → Prop), Gd Z (WxT Z W) k (X.tr pn xe) → Pk (X.tr pn xe) → PSs (X.tr pn xe) body (TSv Z (WxT Z W) (evSs C b))) :
    PS X (.Try body [.ExceptHandler (some (.Name c np)) none [.Assign [.Name y py] (.Constant (.str v) kd pv) pa] pos'] [] [] pos) (TSv Z Wx (evS C (.tryT b c j v))) := by
  obtain ⟨Cc, mc, fa⟩ := A
  have suite : ∀ (a : Addr) (oe : Obj) (cls : Value) (d : Option Addr) (pn : List (Addr × Obj)), Zc cls d oe → (∃ vs, oe.data = .fields vs) → PSs (X.suite a ((a, oe) :: pn)) [.Assign [.Name y py] (.Constant (.str v) kd pv) pa] (fun D σ H => D.nx (σ.set j (some (.str v))) H) := fun a oe cls d pn hz hf =>
    PSs_imp (pss_cons (ps_asg (te := tC (.str v)) pe_str (pg_name (i := j) g.nd hj (.inl hly) (.inr hly))) pss_nil) fun D σ H q => q
  refine PS_imp (ps_try_only hp.st hp.fr ⟨(gl_of hg).1, (gl_of hg).2, .inl mc⟩ g.tk (fun W pn xe tk ho => hb W pn xe (g.try_ tk) (hp.try_ ho)) suite) fun D σ H ⟨W, ls, h, lr, hr, t⟩ => ⟨W, ls, h, lr, hr, tri_try (c := c) (f := fun k l1 h1 => if j < l1.length then .nx (l1.set j (some (.str v))) h1 else .bad) t fun k l1 h1 σ1 H1 W1 C e g1 hr1 lr1 hm hC t1 => ?_⟩
  obtain ⟨ex, xf⟩ := fa k hm C hC
  refine ⟨subX k c, ex, fun yes a na => ?_, fun no => ?_⟩
  · rw [if_pos yes] at t1
    by_cases hl : j < l1.length
    · rw [if_pos hl] at t1
      refine t1 W1 _ _ Gr.refl hr1 ⟨by simp [lr1.1], fun m d e => ?_⟩
      by_cases mj : m = j
      · subst mj
        rw [List.getElem?_set_self hl] at e
        cases e
        exact ⟨.str v, List.getElem?_set_self (by rw [← lr1.1]; exact hl), rfl⟩
      · rw [List.getElem?_set_ne (Ne.symm mj)] at e ⊢
        exact lr1.2 m d e
    · rw [if_neg hl] at t1; exact t1.elim
  · rw [no, if_neg Bool.false_ne_true] at t1
    exact ⟨k, C, hC, hm, rfl, rfl, t1 W1 σ1 H1 Gr.refl hr1 lr1⟩
end
end Tb
namespace Tb
open PySem PySem.Spec PyProof.Rows L2
/-! ### the checker of statements -/
def nCmp : Expr → Bool
  | .ListComp _ _ _ _ => false
  | .SetComp _ _ _ _ => false
  | .DictComp _ _ _ _ _ => false
  | _ => true
def isTupE : E → Bool
  | .tup (.cons _ (.cons _ .nil)) => true
  | _ => false
/-- both names stored from the right -/
def swB (c : Cc) (ts vs : List Expr) : Bool := match ts, vs with
  | [.Name x px, .Name y py], [a, b] => isK c x .local && isK c y .local && (py.line == px.line) && decide (x ≠ y) && nStar a && nStar b && !(foldedForSure 8 a && foldedForSure 8 b) && !(constantsAlone 8 a && constantsAlone 8 b)
  | _, _ => false
/-- not so: two names, one of them a cell, or constants alone -/
def nsB (c : Cc) (ts vs : List Expr) : Bool := match ts, vs with
  | [.Name x _, .Name y _], [a, b] => nStar a && nStar b && (!(isK c x .local) || !(isK c y .local) || (foldedForSure 8 a && foldedForSure 8 b))
  | _, _ => false
/-- a comprehension that is stored ahead of its names' going -/
def cpB (c : Cc) (y : Str) (py : Pos) : Expr → Bool
  | .ListComp _ _ sc p => isK c y .local && (py.line == p.line) && !(sc.names.any fun (n, k) => n == y && (k == .local || k == .cell))
  | _ => false
def ncB (c : Cc) (y : Str) (py : Pos) : Expr → Bool
  | .ListComp _ _ sc p => !(isK c y .local && (py.line == p.line) && !(sc.names.any fun (n, k) => n == y && (k == .local || k == .cell)))
  | x => nCmp x
def okAsg (c : Cc) (t : Tg) (e : E) (tg v : Expr) : Bool := okTg c t tg && okE c e v && (match tg with
  | .Name y py => ncB c y py v || (cpB c y py v && (match e with | .comp _ _ _ _ _ _ => true | _ => false))
  | .Tuple ts _ _ => (match v with
    | .Tuple vs _ _ => nsB c ts vs || (swB c ts vs && isTupE e)
    | _ => nCmp v)
  | _ => false)
mutual
def okS (c : Cc) : S → Stmt → Bool
  | .asg t e, x => match x with
    | .Assign [tg] v _ => okAsg c t e tg v
    | _ => false
  | .sub a i e, x => match x with
    | .Assign [.Subscript o ix _] v _ => nSlc ix && okE c a o && okE c i ix && okE c e v && nCmp v
    | _ => false
  | .dput a i e, x => match x with
    | .Assign [.Subscript o ix _] v _ => nSlc ix && okE c a o && okE c i ix && okE c e v && nCmp v
    | _ => false
  | .aug i o e, x => match x with
    | .AugAssign (.Name y _) p v _ => decide (o = p) && putB c i y && okE c e v
    | _ => false
  | .ex e, x => match x with
    | .Expr v _ => nCmp v && okE c e v
    | _ => false
  | .ret e, x => match x with
    | .Return (some v) _ => okE c e v
    | _ => false
  | .retN, x => match x with
    | .Return none _ => true
    | _ => false
  | .ifs t a b, x => match x with
    | .If v as bs _ => okE c t v && okSs c a as && okSs c b bs
    | _ => false
  | .whl t b, x => match x with
    | .While v bs [] _ => okE c t v && okSs c b bs
    | _ => false
  | .fr t it b, x => match x with
    | .For tg v bs [] _ => okTg c t tg && okI c tg it v && okSs c b bs
    | _ => false
  | .frK t j b, x => match x with
    | .For tg (.Name n _) bs [] _ => okTg c t tg && seenB c j n && okSs c b bs
    | _ => false
  | .pass, x => match x with
    | .Pass _ => true
    | _ => false
  | .brk, x => match x with
    | .Break _ => true
    | _ => false
  | .cnt, x => match x with
    | .Continue _ => true
    | _ => false
  | .rais n, x => match x with
    | .Raise (some (.Call (.Name m _) [.Constant (.str _) _ _] [] _)) none _ => decide (n = m) && globB c m
    | _ => false
  | .nev, _ => true
  | .tryN _ _ _, _ => false
  | .tryA b m i j, x => match x with
    | .Try body [.ExceptHandler (some (.Name m2 _)) (some n) [.Assign [.Name y _] (.Name n2 _) _] _] [] [] _ =>
      decide (m = m2) && decide (n = n2) && globB c m && decide (c.N[i]? = some n) && isK c n .local && decide (c.N[j]? = some y) && isK c y .local && !(n == ("__debug__" : Str)) && !(n == ("__classdict__" : Str)) && okSs c b body
    | _ => false
  | .tryK b m j v, x => match x with
    | .Try body [.ExceptHandler (some (.Name m2 _)) none [.Assign [.Name y _] (.Constant (.bool u) _ _) _] _] [] [] _ =>
      decide (m = m2) && decide (u = v) && globB c m && decide (c.N[j]? = some y) && isK c y .local && okSs c b body
    | _ => false
  | .tryT b m j v, x => match x with
    | .Try body [.ExceptHandler (some (.Name m2 _)) none [.Assign [.Name y _] (.Constant (.str u) _ _) _] _] [] [] _ =>
      decide (m = m2) && decide (u = v) && globB c m && decide (c.N[j]? = some y) && isK c y .local && okSs c b body
    | _ => false
  | .fset _ f a e, x => match x with
    | .Assign [.Attribute o n _] v _ => decide (f = n) && okE c a o && okE c e v && nCmp v
    | _ => false
def okSs (c : Cc) : Ss → List Stmt → Bool
  | .nil, xs => xs.isEmpty
  | .cons s r, xs => match xs with
    | y :: ys => okS c s y && okSs c r ys
    | [] => false
end
mutual
def AskS (P : Str → Fn → Nat → Prop) (G : Str → D → Prop) (M : Str → Str → Option (Fn × Nat) → Prop) (K : Bool → Str → Prop) : S → Prop
  | .asg _ e => AskE P G M e
  | .sub a i e => AskE P G M a ∧ AskE P G M i ∧ AskE P G M e
  | .dput a i e => AskE P G M a ∧ AskE P G M i ∧ AskE P G M e
  | .aug _ _ e => AskE P G M e
  | .ex e => AskE P G M e
  | .ret e => AskE P G M e
  | .ifs t a b => AskE P G M t ∧ AskSs P G M K a ∧ AskSs P G M K b
  | .whl t b => AskE P G M t ∧ AskSs P G M K b
  | .fr _ it b => AskI P G M it ∧ AskSs P G M K b
  | .rais n => K false n
  | .frK _ _ b => AskSs P G M K b
  | .tryN b _ s => AskSs P G M K b ∧ AskSs P G M K s
  | .tryA b c _ _ => AskSs P G M K b ∧ K true c
  | .tryK b c _ _ => AskSs P G M K b ∧ K true c
  | .tryT b c _ _ => AskSs P G M K b ∧ K true c
  | .fset c f a e => M c f none ∧ AskE P G M a ∧ AskE P G M e
  | _ => True
def AskSs (P : Str → Fn → Nat → Prop) (G : Str → D → Prop) (M : Str → Str → Option (Fn × Nat) → Prop) (K : Bool → Str → Prop) : Ss → Prop
  | .nil => True
  | .cons s r => AskS P G M K s ∧ AskSs P G M K r
end
section
variable {X : Cx} {Z : Zn} {Wx : L2.St → Str → Hp → Prop} {k : Nat} {C : Cs}
theorem sw_no {tg v : Expr} {l : Nat} {env : Env} (h : nCmp v = true) : swapsWithSole [tg] v l env = pure false := by
  show swapsWith v (some tg) l env = pure false
  cases v <;> first | rfl | cases h
theorem sw_no2 {tg v : Expr} {l : Nat} {env : Env} (h : nCmp v = true) : swapsWith v (some tg) l env = pure false := by
  cases v <;> first | rfl | cases h
theorem sw_none {v : Expr} {l : Nat} {env : Env} (h : nCmp v = true) : swapsWith v none l env = pure false := by
  cases v <;> first | rfl | cases h
theorem st_name {y : Str} {p : Pos} {v : Expr} {env : Env} : swappedStores [.Name y p] v env = pure none := by
  cases v <;> rfl
theorem st_sub {o i : Expr} {p : Pos} {v : Expr} {env : Env} : swappedStores [.Subscript o i p] v env = pure none := by
  cases v <;> rfl
theorem bk_of {env : Env} (h : env.scope.kind = .function) : env.blockKind = .function := by unfold Env.blockKind; rw [h]; rfl
theorem sw_nc {y : Str} {py : Pos} {v : Expr} {l : Nat} (hk : X.env.scope.kind = .function) (h : ncB (ccOf X) y py v = true) : swapsWithSole [.Name y py] v l X.env = pure false := by
  by_cases hc : nCmp v = true
  · exact sw_no hc
  · cases v <;> first | exact absurd rfl hc | skip
    · rename_i el gs sc p
      show swapsWith (.ListComp el gs sc p) (some (.Name y py)) l X.env = pure false
      simp only [ncB, isK, Bool.not_eq_true'] at h
      unfold swapsWith
      simp only [bk_of hk, Expr.pos]
      congr 1
      have e : (X.env.kindOf y == some NameKind.local) = decide (X.env.scope.names.lookup y = some .local) := by
        show (X.env.scope.names.lookup y == some NameKind.local) = _
        cases q : decide (X.env.scope.names.lookup y = some .local) with
        | true => rw [of_decide_eq_true q]; rfl
        | false => exact beq_eq_false_iff_ne.mpr (of_decide_eq_false q)
      rw [e]
      simpa using h
    · cases h
    · cases h
theorem st_tup {ts : List Expr} {kt : Nat} {p : Pos} {v : Expr} {env : Env} (h : isTup v = false) : swappedStores [.Tuple ts kt p] v env = pure none := by
  cases v <;> first | rfl | cases h
theorem loc_beq {sc : Scope} {x : Str} : (sc.names.lookup x == some NameKind.local) = decide (sc.names.lookup x = some .local) := by
  cases q : decide (sc.names.lookup x = some .local) with
  | true => rw [of_decide_eq_true q]; rfl
  | false => exact beq_eq_false_iff_ne.mpr (of_decide_eq_false q)
theorem st_sw {ts vs : List Expr} {kt kv : Nat} {pt pv : Pos} (hk : X.env.scope.kind = .function) (h : swB (ccOf X) ts vs = true) :
    ∃ x px y py a b, ts = [.Name x px, .Name y py] ∧ vs = [a, b] ∧ nStar a = true ∧ nStar b = true ∧ x ≠ y ∧ X.env.scope.names.lookup x = some .local ∧ X.env.scope.names.lookup y = some .local ∧ swappedStores [.Tuple ts kt pt] (.Tuple vs kv pv) X.env = pure (some [x, y]) := by
  unfold swB at h
  split at h
  · rename_i x px y py a b
    simp only [isK, Bool.and_eq_true, decide_eq_true_eq, Bool.not_eq_true'] at h
    obtain ⟨⟨⟨⟨⟨⟨⟨h1, h2⟩, h3⟩, h4⟩, h5⟩, h6⟩, h7⟩, h8⟩ := h
    refine ⟨x, px, y, py, a, b, rfl, rfl, h5, h6, h4, h1, h2, ?_⟩
    have k1 : X.env.kindOf x = some .local := h1
    have k2 : X.env.kindOf y = some .local := h2
    have h3' : py.line = px.line := beq_iff_eq.mp h3
    have e1 : (y == x) = false := by simpa using fun e => h4 e.symm
    have ed : ([x, y] : List Str).eraseDups = [x, y] := by
      simp [List.eraseDups_cons, e1]
    unfold swappedStores
    simp only [bk_of hk]
    have sa : ¬ ((!(2 == 2 || 2 == 3) || 2 != 2 || ScopeKind.function != ScopeKind.function) = true) := by decide
    refine (if_neg sa).trans ((if_neg (fun z => ?_)).trans ?_)
    rotate_left
    · have fm : ∀ f : Expr → Option Str, f (.Name x px) = some x → f (.Name y py) = some y → List.filterMap f [.Name x px, .Name y py] = [x, y] := fun f p q => by simp [List.filterMap_cons, p, q]
      have fe := fm (fun | .Name id pos => if X.env.kindOf id == some .local && pos.line == px.line then some id else none | _ => none) (by simp [k1]) (by simp [k2, h3'])
      refine (if_neg (fun z => ?_)).trans ((if_neg (fun z => ?_)).trans ((if_neg (fun z => ?_)).trans ?_))
      · have z : ((List.filterMap (fun | .Name id pos => if X.env.kindOf id == some .local && pos.line == px.line then some id else none | _ => none) [Expr.Name x px, .Name y py]).length != 2 || (List.filterMap (fun | .Name id pos => if X.env.kindOf id == some .local && pos.line == px.line then some id else none | _ => none) [Expr.Name x px, .Name y py]).eraseDups.length != (List.filterMap (fun | .Name id pos => if X.env.kindOf id == some .local && pos.line == px.line then some id else none | _ => none) [Expr.Name x px, .Name y py]).length) = true := z
        rw [fe, ed] at z
        cases z
      · have z : (foldedForSure 8 a && (foldedForSure 8 b && true)) = true := z
        rw [Bool.and_true, h7] at z
        cases z
      · have z : (constantsAlone 8 a && (constantsAlone 8 b && true)) = true := z
        rw [Bool.and_true, h8] at z
        cases z
      · exact congrArg (fun l => pure (some l)) fe
    · simp only [List.any_cons, List.any_nil, Bool.or_eq_true, Bool.or_false] at z
      rcases z with z | z
      · cases a <;> first | (cases h5; done) | (cases z; done)
      · cases b <;> first | (cases h6; done) | (cases z; done)
  · cases h
theorem st_ns {ts vs : List Expr} {kt kv : Nat} {pt pv : Pos} (hk : X.env.scope.kind = .function) (h : nsB (ccOf X) ts vs = true) : swappedStores [.Tuple ts kt pt] (.Tuple vs kv pv) X.env = pure none := by
  unfold nsB at h
  split at h
  · rename_i x px y py a b
    simp only [isK, Bool.and_eq_true, Bool.or_eq_true, Bool.not_eq_true'] at h
    obtain ⟨⟨h5, h6⟩, h7⟩ := h
    unfold swappedStores
    simp only [bk_of hk]
    have sa : ¬ ((!(2 == 2 || 2 == 3) || 2 != 2 || ScopeKind.function != ScopeKind.function) = true) := by decide
    refine (if_neg sa).trans ((if_neg (fun z => ?_)).trans ?_)
    rotate_left
    · have fm : ∀ f : Expr → Option Str, (f (.Name x px) = none ∨ f (.Name y py) = none) → ((List.filterMap f [.Name x px, .Name y py]).length != 2) = true := fun f p => by
        rcases p with p | p
        · cases q : f (.Name y py) <;> simp [List.filterMap_cons, p, q]
        · cases q : f (.Name x px) <;> simp [List.filterMap_cons, p, q]
      rcases h7 with (h7 | h7) | ⟨h7, h8⟩
      · have k1 : ¬ X.env.kindOf x = some .local := of_decide_eq_false h7
        have z := fm (fun | .Name id pos => if X.env.kindOf id == some .local && pos.line == px.line then some id else none | _ => none) (.inl (by simp [k1]))
        exact if_pos (by simp only [Bool.or_eq_true]; exact .inl z)
      · have k1 : ¬ X.env.kindOf y = some .local := of_decide_eq_false h7
        have z := fm (fun | .Name id pos => if X.env.kindOf id == some .local && pos.line == px.line then some id else none | _ => none) (.inr (by simp [k1]))
        exact if_pos (by simp only [Bool.or_eq_true]; exact .inl z)
      · split
        · rfl
        · exact if_pos (show (foldedForSure 8 a && (foldedForSure 8 b && true)) = true by rw [h7, h8]; rfl)
    · simp only [List.any_cons, List.any_nil, Bool.or_eq_true, Bool.or_false] at z
      rcases z with z | z
      · cases a <;> first | (cases h5; done) | (cases z; done)
      · cases b <;> first | (cases h6; done) | (cases z; done)
  · cases h
abbrev ASs (Z : Zn) (k : Nat) (X : Cx) := AskSs (FnA Z k X) (GloA Z X) (MtA Z k X) (RxA Z X)
theorem sd_asg {t : Tg} {e : E} {tg v : Expr} {pos : Pos} (g : Gd Z Wx k X) (hk : X.env.scope.kind = .function) (h : okAsg (ccOf X) t e tg v = true) (A : AE Z k X e) : PS X (.Assign [tg] v pos) (TSv Z Wx (evS C (.asg t e))) := by
  unfold okAsg at h
  simp only [Bool.and_eq_true] at h
  obtain ⟨⟨h1, h2⟩, h3⟩ := h
  have he := (sdE e g h2 A).1
  cases tg <;> try (cases h3; done)
  · -- a tuple of names
    rename_i y py
    simp only [Bool.or_eq_true, Bool.and_eq_true] at h3
    rcases h3 with h3 | ⟨h3, h4⟩
    · exact s_asg g h1 he (sw_nc hk h3) st_name
    · cases t with
      | tp is => cases h1
      | nm i =>
        cases v <;> try (cases h3; done)
        cases e <;> try (cases h4; done)
        rename_i el gs sc p c own tgt it tt elt
        simp only [cpB, isK, Bool.and_eq_true, decide_eq_true_eq, Bool.not_eq_true'] at h3
        unfold okE at h2
        split at h2
        · rename_i el' t' i' fs' sc' p' heq
          cases heq
          split at h2
          · rename_i ow hm
            simp only [Bool.and_eq_true] at h2
            obtain ⟨⟨⟨⟨⟨b1, b2⟩, b3⟩, b4⟩, b5⟩, b6⟩ := h2
            have A : AI Z k X it ∧ AEs Z k X tt ∧ AE Z k X elt := A
            have hput : putB (ccOf X) i y = true := h1
            obtain ⟨te, ps, imp⟩ := s_comp (c := c) (spos := pos) g hk b1 (mapM_own hm) (put_of hput).1 h3.1.1 h3.1.2 h3.2 (sdI it g b3 A.1) (okI_set b3) b2 b6 (fun s H C cl fp => (sdEs tt (g.blk s H _ _ fp) b4 A.2.1).2.2) (fun s H C cl fp => (sdE elt (g.blk s H _ _ fp) b5 A.2.2).1)
            exact s_asgC g hput ps imp
          · cases h2
        · cases h2
  · rename_i ts kt pt
    by_cases hv : isTup v = true
    · obtain ⟨vs, kv, pv, rfl⟩ := isTup_of hv
      simp only [Bool.or_eq_true, Bool.and_eq_true] at h3
      rcases h3 with h3 | ⟨h3, h4⟩
      · exact s_asg g h1 he (sw_no rfl) (st_ns hk h3)
      · obtain ⟨x, px, y, py, a, b, rfl, rfl, n1, n2, hne, hx, hy, hw⟩ := st_sw (kt := kt) (kv := kv) (pt := pt) (pv := pv) hk h3
        cases t with
        | nm i => cases h1
        | tp is =>
          have h1 : okTg1 (ccOf X) is [.Name x px, .Name y py] = true := h1
          match is, h1 with
          | [i, j], h1 =>
            simp only [okTg1, Bool.and_eq_true] at h1
            obtain ⟨p1, _, _⟩ := put_of h1.1
            obtain ⟨p2, _, _⟩ := put_of h1.2.1
            match e, h4, h2, A with
            | .tup (.cons ea (.cons eb .nil)), _, h2, A =>
              have h2 : okEs (ccOf X) (.cons ea (.cons eb .nil)) [a, b] = true := h2
              exact s_par g p1 p2 (fun q => hne (by rw [q] at p1; rw [p1] at p2; exact Option.some.inj p2)) hx hy (sdEs (.cons ea (.cons eb .nil)) g h2 A).1 hw (sw_no rfl)
          | [], h1 => simp [okTg1] at h1
          | [i], h1 => simp [okTg1] at h1
          | i :: j :: l :: r, h1 => simp [okTg1] at h1
    · have hv' : isTup v = false := by simpa using hv
      have h3 : nCmp v = true := by cases v <;> first | exact h3 | cases hv'
      exact s_asg g h1 he (sw_no h3) (st_tup hv')
def DnS (Z : Zn) (k : Nat) (C : Cs) (s : S) : Prop := ∀ ⦃X : Cx⦄ ⦃Wx : L2.St → Str → Hp → Prop⦄ ⦃x : Stmt⦄, Gd Z Wx k X → X.env.scope.kind = .function → Pk X → okS (ccOf X) s x = true → AskS (FnA Z k X) (GloA Z X) (MtA Z k X) (RxA Z X) s → PS X x (TSv Z Wx (evS C s))
def DnSs (Z : Zn) (k : Nat) (C : Cs) (s : Ss) : Prop := ∀ ⦃X : Cx⦄ ⦃Wx : L2.St → Str → Hp → Prop⦄ ⦃xs : List Stmt⦄, Gd Z Wx k X → X.env.scope.kind = .function → Pk X → okSs (ccOf X) s xs = true → ASs Z k X s → PSs X xs (TSv Z Wx (evSs C s))
mutual
theorem sdS {Z : Zn} {k : Nat} {C : Cs} : ∀ s : S, DnS Z k C s
  | .asg t e => by
    intro X Wx x g hk hp h A
    unfold okS at h
    split at h
    · exact sd_asg g hk h A
    · cases h
  | .sub a i e => by
    intro X Wx x g hk hp h A
    unfold okS at h
    split at h
    · simp only [Bool.and_eq_true] at h
      obtain ⟨⟨⟨⟨h1, h2⟩, h3⟩, h4⟩, h5⟩ := h
      have A : AE Z k X a ∧ AE Z k X i ∧ AE Z k X e := A
      exact s_sub (sdE a g h2 A.1).1 (sdE i g h3 A.2.1).1 (sdE e g h4 A.2.2).1 h1 (sw_no h5) st_sub
    · cases h
  | .dput a i e => by
    intro X Wx x g hk hp h A
    unfold okS at h
    split at h
    · simp only [Bool.and_eq_true] at h
      obtain ⟨⟨⟨⟨h1, h2⟩, h3⟩, h4⟩, h5⟩ := h
      have A : AE Z k X a ∧ AE Z k X i ∧ AE Z k X e := A
      exact s_dput g (sdE a g h2 A.1).1 (sdE i g h3 A.2.1).1 (sdE e g h4 A.2.2).1 (sw_no2 h5)
    · cases h
  | .aug i o e => by
    intro X Wx x g hk hp h A
    unfold okS at h
    split at h
    · simp only [Bool.and_eq_true, decide_eq_true_eq] at h
      obtain ⟨⟨rfl, h1⟩, h2⟩ := h
      exact s_aug g h1 (sdE e g h2 A).1
    · cases h
  | .ex e => by
    intro X Wx x g hk hp h A
    unfold okS at h
    split at h
    · simp only [Bool.and_eq_true] at h
      exact s_ex (sdE e g h.2 A).1 (sw_none h.1)
    · cases h
  | .ret e => by
    intro X Wx x g hk hp h A
    unfold okS at h
    split at h
    · exact s_ret (sdE e g h A).1
    · cases h
  | .retN => by
    intro X Wx x g hk hp h A
    unfold okS at h
    split at h
    · exact s_retN
    · cases h
  | .ifs t a b => by
    intro X Wx x g hk hp h A
    unfold okS at h
    split at h
    · simp only [Bool.and_eq_true] at h
      have A : AE Z k X t ∧ ASs Z k X a ∧ ASs Z k X b := A
      exact s_ifs (sdE t g h.1.1 A.1).2 (sdSs a g hk hp h.1.2 A.2.1) (sdSs b g hk hp h.2 A.2.2)
    · cases h
  | .whl t b => by
    intro X Wx x g hk hp h A
    unfold okS at h
    split at h
    · simp only [Bool.and_eq_true] at h
      have A : AE Z k X t ∧ ASs Z k X b := A
      exact s_whl hp.po (sdE t g h.1 A.1).2 (sdSs b g hk hp h.2 A.2)
    · cases h
  | .fr t it b => by
    intro X Wx x g hk hp h A
    unfold okS at h
    split at h
    · simp only [Bool.and_eq_true] at h
      have A : AI Z k X it ∧ ASs Z k X b := A
      exact s_for g hp.po (sdI it g h.1.2 A.1) (okI_set h.1.2) h.1.1 (sdSs b g hk hp h.2 A.2)
    · cases h
  | .frK t j b => by
    intro X Wx x g hk hp h A
    unfold okS at h
    split at h
    · simp only [Bool.and_eq_true] at h
      have A : ASs Z k X b := A
      exact s_frK g hp.po h.1.2 h.1.1 (sdSs b g hk hp h.2 A)
    · cases h
  | .pass => by
    intro X Wx x g hk hp h A
    unfold okS at h
    split at h
    · exact s_pass
    · cases h
  | .brk => by
    intro X Wx x g hk hp h A
    unfold okS at h
    split at h
    · exact s_brk
    · cases h
  | .cnt => by
    intro X Wx x g hk hp h A
    unfold okS at h
    split at h
    · exact s_cnt
    · cases h
  | .rais n => by
    intro X Wx x g hk hp h A
    unfold okS at h
    split at h
    · simp only [Bool.and_eq_true, decide_eq_true_eq] at h
      obtain ⟨rfl, h1⟩ := h
      exact s_rais g A h1
    · cases h
  | .nev => by
    intro X Wx x g hk hp h A
    exact s_nev
  | .tryN b c s => by
    intro X Wx x g hk hp h A
    simp [okS] at h
  | .tryA b c i j => by
    intro X Wx x g hk hp h A
    unfold okS at h
    split at h
    · simp only [Bool.and_eq_true, decide_eq_true_eq, Bool.not_eq_true'] at h
      obtain ⟨⟨⟨⟨⟨⟨⟨⟨⟨rfl, rfl⟩, h1⟩, h2⟩, h3⟩, h4⟩, h5⟩, h6⟩, h7⟩, h8⟩ := h
      have A : ASs Z k X b ∧ ExcA Z X c := A
      exact s_tryA g hp A.2 h1 h2 (of_decide_eq_true h3) h4 (of_decide_eq_true h5) ⟨h6, h7⟩ fun W pn xe g' hp' => sdSs b g' hk hp' h8 A.1
    · cases h
  | .fset c f a e => by
    intro X Wx x g hk hp h A
    unfold okS at h
    split at h
    · simp only [Bool.and_eq_true, decide_eq_true_eq] at h
      obtain ⟨⟨⟨rfl, h1⟩, h2⟩, h3⟩ := h
      have A : MtA Z k X c f none ∧ AE Z k X a ∧ AE Z k X e := A
      exact s_fset A.1 (sdE a g h1 A.2.1).1 (sdE e g h2 A.2.2).1 (sw_no2 h3)
    · cases h
  | .tryK b c j v => by
    intro X Wx x g hk hp h A
    unfold okS at h
    split at h
    · simp only [Bool.and_eq_true, decide_eq_true_eq, Bool.not_eq_true'] at h
      obtain ⟨⟨⟨⟨⟨rfl, rfl⟩, h1⟩, h4⟩, h5⟩, h8⟩ := h
      have A : ASs Z k X b ∧ ExcA Z X c := A
      exact s_tryK g hp A.2 h1 h4 (of_decide_eq_true h5) fun W pn xe g' hp' => sdSs b g' hk hp' h8 A.1
    · cases h
  | .tryT b c j v => by
    intro X Wx x g hk hp h A
    unfold okS at h
    split at h
    · simp only [Bool.and_eq_true, decide_eq_true_eq, Bool.not_eq_true'] at h
      obtain ⟨⟨⟨⟨⟨rfl, rfl⟩, h1⟩, h4⟩, h5⟩, h8⟩ := h
      have A : ASs Z k X b ∧ ExcA Z X c := A
      exact s_tryT g hp A.2 h1 h4 (of_decide_eq_true h5) fun W pn xe g' hp' => sdSs b g' hk hp' h8 A.1
    · cases h
theorem sdSs {Z : Zn} {k : Nat} {C : Cs} : ∀ s : Ss, DnSs Z k C s
  | .nil => by
    intro X Wx xs g hk hp h A
    have e : xs = [] := by unfold okSs at h; exact List.isEmpty_iff.mp h
    subst e
    exact s_nil
  | .cons s r => by
    intro X Wx xs g hk hp h A
    unfold okSs at h
    split at h
    · simp only [Bool.and_eq_true] at h
      have A : AskS (FnA Z k X) (GloA Z X) (MtA Z k X) (RxA Z X) s ∧ ASs Z k X r := A
      exact s_cons (sdS s g hk hp h.1 A.1) (sdSs r g hk hp h.2 A.2)
    · cases h
end
end
end Tb
namespace Tb
open PySem PySem.Spec PyProof.Rows L2
/-! ### defs, by the module's own facts -/
structure Mz where
  P : Program
  w : World
  K : PySem.W.Frag
  mg : Str → Option Value
  base : Heap
def FnM (Z : Zn) (k : Nat) (M : Mz) (x : Str) (F : Fn) (n : Nat) : Prop := ∃ f fd ps, FnG M.P M.w M.K M.mg M.base k f fd ps (spF Z n F) ∧ ps.length = n ∧ M.mg x = some (.ref f) ∧ PySem.W.keepIn M.K (.ref f) = true ∧ L2.Binds M.K fd ps []
def GloM (Z : Zn) (M : Mz) (x : Str) (d : D) : Prop := ∃ u v, M.mg x = some u ∧ RelV v u ∧ ∀ W H, RelD Z W H d v
def MtM (Z : Zn) (k : Nat) (M : Mz) (c m : Str) : Option (Fn × Nat) → Prop
  | none => ∃ C, Z.cl c = some C ∧ L2.Cls M.K C ∧ L2.NoAttr M.K C m
  | some (F, n) => ∃ C f fd ps, Z.cl c = some C ∧ L2.Cls M.K C ∧ L2.Meth M.K C m f ∧ FnG M.P M.w M.K M.mg M.base k f fd ps (spF Z n F) ∧ ps.length = n ∧ L2.Binds M.K fd ps [] ∧ (m = "__init__" → L2.Mk M.K C f ∧ M.mg c = some (.ref C) ∧ ∃ j, j + 1 = k ∧ FnG M.P M.w M.K M.mg M.base j f fd ps (spF Z n F))
theorem MtM.up {Z : Zn} {j k : Nat} {M : Mz} {c m : Str} {o : Option (Fn × Nat)} (h : MtM Z j M c m o) (le : j ≤ k) : MtM Z k M c m o := by
  cases o with
  | none => exact h
  | some q =>
    obtain ⟨C, f, fd, ps, a, b, c, d, e1, e2, e3⟩ := h
    refine ⟨C, f, fd, ps, a, b, c, d.up le, e1, e2, fun z => ?_⟩
    obtain ⟨m1, m2, i, ei, F⟩ := e3 z
    exact ⟨m1, m2, k - 1, by omega, F.up (by omega)⟩
def RaiM (Z : Zn) (M : Mz) (c : Str) : Prop := ∃ (Ca : Addr) (B newId initId : String) (bmB : List Value), ExcBaseFacts B newId initId bmB ∧ PySem.W.excIn M.K Ca bmB newId = true ∧ M.mg c = some (.ref Ca) ∧ PySem.W.keepIn M.K (.ref Ca) = true ∧
  (∀ (Mo : Model) (h : Heap), M.K.In h → PySem.W.Looks Mo h (isSubtype (.ref Ca) (.type "BaseException")) true ∧ PySem.W.Looks Mo h (typeOf (.ref Ca)) (.type "type")) ∧ Z.cl c = some Ca ∧ c ∈ Z.xs
def ExcM (Z : Zn) (M : Mz) (c : Str) : Prop := ∃ Cc, M.mg c = some (.ref Cc) ∧ ∀ n ∈ Z.xs, ∀ C, Z.cl n = some C → PySem.W.exmOne M.K (.ref C) (.ref Cc) = some (subX n c) ∧ XFa Z C
def RxM (Z : Zn) (M : Mz) : Bool → Str → Prop
  | false, c => RaiM Z M c
  | true, c => ExcM Z M c
theorem FnM.up {Z : Zn} {j k : Nat} {M : Mz} {x : Str} {F : Fn} {n : Nat} (h : FnM Z j M x F n) (le : j ≤ k) : FnM Z k M x F n := by
  obtain ⟨f, fd, ps, a, b⟩ := h
  exact ⟨f, fd, ps, a.up le, b⟩
structure Base (Z : Zn) (M : Mz) : Prop where
  hK : M.K = Z.K
  free : ∀ x ∈ freeN, M.mg x = none
  sys : SysOk M.K
theorem start_rel {Z : Zn} {W : Wd} {H : Hp} {ds : List D} {vs : List V} {N : List Str} (r : RelDs Z W H ds vs) : LRel Z W H (ds.map some ++ List.replicate (N.length - ds.length) none) (L2.start N vs) := by
  have hl := r.length
  unfold L2.start
  refine ⟨by simp [hl], fun i d e => ?_⟩
  by_cases hi : i < ds.length
  · rw [List.getElem?_append_left (by simpa using hi), List.getElem?_map] at e
    cases q : ds[i]? with
    | none => rw [q] at e; cases e
    | some d' =>
      rw [q] at e
      cases e
      obtain ⟨v, ev, rv⟩ := r.get q
      refine ⟨v, ?_, rv⟩
      rw [List.getElem?_append_left (by simpa using (by omega : i < vs.length)), List.getElem?_map, ev]
      rfl
  · rw [List.getElem?_append_right (by simpa using hi), List.getElem?_replicate] at e
    split at e <;> cases e
theorem ask_x {Z : Zn} {k : Nat} {M : Mz} {b : Ss} (h : AskSs (FnM Z k M) (GloM Z M) (MtM Z k M) (RxM Z M) b) {X : Cx} (h1 : X.prog = M.P := by rfl) (h2 : X.w = M.w := by rfl) (h3 : X.K = M.K := by rfl) (h4 : X.mg = M.mg := by rfl) (h5 : X.base = M.base := by rfl) : ASs Z k X b := by
  obtain ⟨P, w, K, mg, base⟩ := M
  dsimp only at h1 h2 h3 h4 h5
  subst h1 h2 h3 h4 h5
  have e : RxM Z ⟨X.prog, X.w, X.K, X.mg, X.base⟩ = RxA Z X := by funext b c; cases b <;> rfl
  have e2 : MtM Z k ⟨X.prog, X.w, X.K, X.mg, X.base⟩ = MtA Z k X := by funext c m o; cases o <;> rfl
  rw [e, e2] at h
  exact h
theorem fn_defG {Z : Zn} {M : Mz} {C : Cs} {k : Nat} {nm x : Str} {params : Arguments} {body : List Stmt} {scope : Scope} {f : Addr} {fd : FuncData} {N ps : List Str} {b : Ss} (B : Base Z M) (F : FunD M.K nm x params body scope [] [] f fd) (S : FnScope N ps scope)
    (ok : okSs ⟨N, scope, fun _ => true⟩ b body = true) (ask : AskSs (FnM Z k M) (GloM Z M) (MtM Z k M) (RxM Z M) b) : FnG M.P M.w M.K M.mg M.base (k + 1) f fd ps (spF Z ps.length (fnS C N.length ps.length b)) := by
  obtain ⟨oc, od, dV, kV, doc, pm, an, cdv, ct, osl, rfl, lk, hcd, _, _⟩ := F.ex
  refine fnG_of lk hcd S (fun h => h.1) fun A outer s H vs Q E hq hr hsp => ?_
  obtain ⟨hl, W, h, ds, rd, hrel, t⟩ := hsp
  have hl2 : ds.length = ps.length := by rw [rd.length]; exact hl
  let Wx : L2.St → Str → Hp → Prop := fun _ c H' => c ∈ Z.xs → ∀ Ca, Z.cl c = some Ca → E (.ref Ca) none H'
  let X := cxOf (L2.CX M.P M.w) M.P M.w M.K M.mg M.base N x scope f cdv A outer s H E
  have tk : Takes X fun cls d σ H => EX Z Wx σ cls d H := Takes.imp (takes_of (X := X) (E := E) rfl rfl rfl rfl) fun cls d σ H' ⟨c, Ca, e1, e0, e2, e3, z⟩ => by
    subst e2 e3
    exact z e0 Ca e1
  have g : Gd Z Wx k X := ⟨B.hK, rfl, S.nd, hr, hq, B.free, B.sys, tk⟩
  refine ⟨TSv Z Wx (evSs C b), sdSs b g S.kind ⟨passes_of rfl, rfl, rfl, rfl⟩ ok (ask_x ask), W, _, h, start_rel rd, hrel, ?_⟩
  unfold fnS at t
  rw [if_pos hl2] at t
  cases q : evSs C b (ds.map some ++ List.replicate (N.length - ds.length) none) h with
  | rt d h1 => rw [q] at t; exact fun W' v H' g' hr' r' => t v W' H' g' hr' r'
  | nx ls h1 => rw [q] at t; exact fun W' σ' H' g' hr' lr' => t .non W' H' g' hr' rfl
  | exc c ls h1 => rw [q] at t; exact fun W' σ' H' g' hr' lr' => t W' H' g' hr'
  | bk ls h1 => rw [q] at t; exact t.elim
  | ct ls h1 => rw [q] at t; exact t.elim
  | bad => rw [q] at t; exact t.elim
theorem fn_def {Z : Zn} {M : Mz} {C : Cs} {k : Nat} {nm qn x : Str} {params : Arguments} {body : List Stmt} {scope : Scope} {f : Addr} {fd : FuncData} {N ps : List Str} {b : Ss} (B : Base Z M) (F : FunD M.K nm qn params body scope [] [] f fd) (S : FnScope N ps scope)
    (ok : okSs ⟨N, scope, fun _ => true⟩ b body = true) (ask : AskSs (FnM Z k M) (GloM Z M) (MtM Z k M) (RxM Z M) b) (hm : M.mg x = some (.ref f)) (hb : L2.Binds M.K fd ps []) : FnM Z (k + 1) M x (fnS C N.length ps.length b) ps.length :=
  ⟨f, fd, ps, fn_defG B F S ok ask, rfl, hm, F.kp, hb⟩
theorem fn_bad {Z : Zn} {M : Mz} {k : Nat} {x : Str} {params : Arguments} {body : List Stmt} {scope : Scope} {f : Addr} {fd : FuncData} {ps : List Str} (F : FunD M.K x x params body scope [] [] f fd) (hm : M.mg x = some (.ref f)) (hb : L2.Binds M.K fd ps []) : FnM Z k M x (fun _ _ => .bad) ps.length :=
  ⟨f, fd, ps, ⟨fun h => h.1, fun _ _ _ _ _ ⟨_, _, _, _, _, _, t⟩ => t.elim⟩, rfl, hm, F.kp, hb⟩
def cs0 : Cs := ⟨fun _ _ => none⟩
/-! ### the head's Hook: as hookD, with sys.modules -/
theorem sysB_ok {K : PySem.W.Frag} (h : sysB K = true) : SysOk K := by
  unfold sysB at h
  cases q : K.lookup sysModules with
  | none => rw [q] at h; cases h
  | some o => rw [q] at h; exact ⟨o, q, of_decide_eq_true h⟩
/-! the exception classes: those that are raised, those that are asked for, those of the except clauses -/
theorem xcB_ok {K : PySem.W.Frag} {xs : List Str} {f : Str → Option Addr} {C : Addr} (h : xcB K C = true) : XFa ⟨K, f, xs⟩ C := by
  unfold xcB at h
  simp only [Bool.and_eq_true, decide_eq_true_eq] at h
  obtain ⟨⟨⟨⟨⟨⟨⟨⟨h1, h2⟩, h3⟩, h4⟩, h5⟩, h6⟩, h7⟩, h8⟩, h9⟩ := h
  exact ⟨⟨h1, h2, h3, h4, h5, h6, h7, h8⟩, h9⟩
def znOf (K : PySem.W.Frag) (xs : List Str) : Zn := ⟨K, fun c => some (He.ga K c), xs⟩
theorem free_of {fa : List He.Fa} {fn : List He.DefD} {K : PySem.W.Frag} {h : Heap} {mg : Str → Option Value} (X : K.In h) (G : h.Ns mainGlobals mg) (c : He.SaysD (faFree ++ fa) fn K) : ∀ x ∈ freeN, mg x = none := fun x hx => by
  obtain ⟨i, hi, e⟩ := List.getElem_of_mem hx
  refine He.free_ok X G (c.fact i (f := .free x) ?_)
  have hi2 : i < faFree.length := by simpa [faFree] using hi
  rw [List.getElem?_append_left hi2]
  simp [faFree, List.getElem?_map, List.getElem?_eq_getElem hi, e]
theorem fact_of {fa : List He.Fa} {fn : List He.DefD} {K : PySem.W.Frag} (c : He.SaysD (faFree ++ fa) fn K) (i : Nat) {f : He.Fa} (h : fa[i]? = some f) : f.ok K = true := by
  have z : (faFree ++ fa)[faFree.length + i]? = some f := by rw [List.getElem?_append_right (by omega)]; simpa using h
  exact c.fact _ z
theorem glo_int {K : PySem.W.Frag} {h : Heap} {M : Mz} (X : K.In h) (G : h.Ns mainGlobals M.mg) {x : Str} {i : Int} {xs : List Str} (c : (He.Fa.int x i).ok K = true) : GloM (znOf K xs) M x (.int i) := by
  obtain ⟨t, e⟩ := He.int_ok X G c
  exact ⟨_, .int i, e, ⟨t, rfl⟩, fun _ _ => rfl⟩
theorem glo_str {K : PySem.W.Frag} {h : Heap} {M : Mz} (X : K.In h) (G : h.Ns mainGlobals M.mg) {x z : Str} {xs : List Str} (c : (He.Fa.str x z).ok K = true) : GloM (znOf K xs) M x (.str z) := by
  obtain ⟨t, e⟩ := He.str_ok X G c
  exact ⟨_, .str z, e, ⟨t, rfl⟩, fun _ _ => rfl⟩
theorem rai_of {K : PySem.W.Frag} {h : Heap} {P : Program} {w : World} {mg : Str → Option Value} {base : Heap} (X : K.In h) (G : h.Ns mainGlobals mg) {x : Str} {xs : List Str} (c1 : (He.Fa.glo x).ok K = true) (c2 : (He.Fa.exc x).ok K = true) (mx : x ∈ xs) : RaiM (znOf K xs) ⟨P, w, K, mg, base⟩ x := by
  obtain ⟨e1, e2, e3, e4⟩ := He.exc_ok c2
  exact ⟨He.ga K x, _, _, _, _, PySem.F.excBase_ValueError, e1, He.glo_ok X G c1, e2, fun _ _ k => ⟨PySem.W.looks_subIn k e3, PySem.W.looks_typeIn k e4⟩, rfl, mx⟩
theorem exB_at {K : PySem.W.Frag} {e : Xl} (h : excB K e = true) (ne : (e.cs.isEmpty && e.ms.isEmpty) = false) {n : Str} (hn : n ∈ e.xs) : xcB K (He.ga K n) = true ∧ (∀ m ∈ e.ms, PySem.W.kitOne K (.ref (He.ga K n)) (.ref (He.ga K m)) = some (subX n m)) ∧ ∀ c ∈ e.cs, PySem.W.exmOne K (.ref (He.ga K n)) (.ref (He.ga K c)) = some (subX n c) := by
  unfold excB at h
  rw [Bool.and_eq_true] at h
  have h := h.1
  rw [ne, Bool.false_or] at h
  have z := List.all_eq_true.mp h n hn
  simp only [Bool.and_eq_true] at z
  exact ⟨z.1.1, fun m hm => of_decide_eq_true (List.all_eq_true.mp z.1.2 m hm), fun c hc => of_decide_eq_true (List.all_eq_true.mp z.2 c hc)⟩
theorem glo_cls {K : PySem.W.Frag} {h : Heap} {M : Mz} (X : K.In h) (G : h.Ns mainGlobals M.mg) {x : Str} {e : Xl} (c : (He.Fa.glo x).ok K = true) (eb : excB K e = true) (hm : x ∈ e.ms) : GloM (znOf K e.xs) M x (.cls x) := by
  have ne : (e.cs.isEmpty && e.ms.isEmpty) = false := by
    cases q : e.ms with
    | nil => rw [q] at hm; cases hm
    | cons _ _ => simp
  refine ⟨_, .ref (He.ga K x), He.glo_ok X G c, rfl, fun _ _ => ⟨_, rfl, rfl, fun m hm2 C hC => ?_, ?_⟩⟩
  rotate_left
  · unfold excB at eb
    rw [Bool.and_eq_true] at eb
    exact List.all_eq_true.mp eb.2 x hm
  cases hC
  exact (exB_at eb ne hm2).2.1 x hm
theorem exc_of {K : PySem.W.Frag} {h : Heap} {P : Program} {w : World} {mg : Str → Option Value} {base : Heap} (X : K.In h) (G : h.Ns mainGlobals mg) {x : Str} {e : Xl} (c : (He.Fa.glo x).ok K = true) (eb : excB K e = true) (hm : x ∈ e.cs) : ExcM (znOf K e.xs) ⟨P, w, K, mg, base⟩ x := by
  have ne : (e.cs.isEmpty && e.ms.isEmpty) = false := by
    cases q : e.cs with
    | nil => rw [q] at hm; cases hm
    | cons _ _ => simp
  refine ⟨He.ga K x, He.glo_ok X G c, fun n hn C hC => ?_⟩
  cases hC
  exact ⟨(exB_at eb ne hn).2.2 x hm, xcB_ok (exB_at eb ne hn).1⟩
theorem mt_no {K : PySem.W.Frag} {P : Program} {w : World} {mg : Str → Option Value} {base : Heap} {c f : Str} {xs : List Str} {k : Nat} (c1 : (He.Fa.cls c).ok K = true) (c2 : (He.Fa.noat c f).ok K = true) : MtM (znOf K xs) k ⟨P, w, K, mg, base⟩ c f none := ⟨He.ga K c, rfl, He.cls_ok c1, He.noat_ok c2⟩
theorem mt_meth {K : PySem.W.Frag} {P : Program} {w : World} {mg : Str → Option Value} {base : Heap} {c m : Str} {xs : List Str} {k n : Nat} {F : Fn} {fd : FuncData} {ps : List Str} (c1 : (He.Fa.cls c).ok K = true) (c2 : (He.Fa.meth c m).ok K = true) (hm : m ≠ "__init__") (G : FnG P w K mg base k (He.ma K (He.ga K c) m) fd ps (spF (znOf K xs) n F)) (hn : ps.length = n) (hb : L2.Binds K fd ps []) :
    MtM (znOf K xs) k ⟨P, w, K, mg, base⟩ c m (some (F, n)) := ⟨He.ga K c, _, fd, ps, rfl, He.cls_ok c1, He.meth_ok c2, G, hn, hb, fun z => absurd z hm⟩
theorem mt_init {K : PySem.W.Frag} {h : Heap} {P : Program} {w : World} {mg : Str → Option Value} {base : Heap} {c : Str} {xs : List Str} {k n : Nat} {F : Fn} {fd : FuncData} {ps : List Str} (X : K.In h) (N : h.Ns mainGlobals mg) (c0 : (He.Fa.glo c).ok K = true) (c1 : (He.Fa.cls c).ok K = true) (c2 : (He.Fa.meth c "__init__").ok K = true) (c3 : (He.Fa.mkr c).ok K = true)
    (G : FnG P w K mg base k (He.ma K (He.ga K c) "__init__") fd ps (spF (znOf K xs) n F)) (hn : ps.length = n) (hb : L2.Binds K fd ps []) : MtM (znOf K xs) (k + 1) ⟨P, w, K, mg, base⟩ c "__init__" (some (F, n)) :=
  ⟨He.ga K c, _, fd, ps, rfl, He.cls_ok c1, He.meth_ok c2, G.up (Nat.le_succ k), hn, hb, fun _ => ⟨He.mkr_ok c3, He.glo_ok X N c0, k, rfl, G⟩⟩
/-- the law's promise at the script -/
theorem law_sp {K : PySem.W.Frag} {xs : List Str} {F : Fn} {H : Hp} {a : Addr} {ns : List Int} (hO : Only H) (hS : SqL K H a (ns.map V.int)) (h : ∃ h', F [.kl (ns.map .int)] [] = .ok (.bl true) h') : spF (znOf K xs) 1 F [.ref a] H (fun v _ => v = .bl true) fun _ _ _ => False := by
  obtain ⟨h', e⟩ := h
  refine ⟨rfl, ⟨[], fun _ => False⟩, [], [.kl (ns.map .int)], ⟨_, [], rfl, ⟨a, ns.map V.int, rfl, ?_, RelDs.ints.mpr rfl⟩, rfl⟩, ⟨rfl, List.nodup_nil, fun i a o e => by simp at e, fun a m => by simp at m, fun a m => m.elim⟩, ?_⟩
  · rcases hS with (q | ⟨o, q⟩) | q
    · rcases hO a with z | ⟨o, xs, z⟩
      · rw [z] at q; cases q
      · rw [z] at q; cases q
    · exact .inl ⟨o, q, by simp, fun z => z⟩
    · exact .inr q
  · rw [e]
    exact fun v W' H' g hr r => r
end Tb
namespace Tb
open PySem PySem.Spec PyProof.Rows L2
/-! ### reckoning with the own texts -/
section
variable {α β : Type} {ls : Ls} {h h1 : Hh} {c : Bool} {C : Cs} {a b : E} {es : Es} {i : Nat} {x y : D}
@[simp] theorem bind_ok {d : α} {f : α → Hh → R β} : (R.ok d h).bind f = f d h := rfl
@[simp] theorem bind_exc {k : Str} {f : α → Hh → R β} : (R.exc k h : R α).bind f = .exc k h := rfl
@[simp] theorem bind_bad {f : α → Hh → R β} : (R.bad : R α).bind f = .bad := rfl
@[simp] theorem ev_int {n : Int} : evE (.int n) ls h = .ok (.int n) h := rfl
@[simp] theorem ev_bl {n : Bool} : evE (.bl n) ls h = .ok (.bl n) h := rfl
@[simp] theorem ev_non : evE .non ls h = .ok .non h := rfl
@[simp] theorem ev_str {n : Str} : evE (.str n) ls h = .ok (.str n) h := rfl
@[simp] theorem ev_glo {n : Str} {d : D} : evE (.glo n d) ls h = .ok d h := rfl
@[simp] theorem ev_bty {n : String} : evE (.bty n) ls h = .ok (.ty n) h := rfl
def varR (o : Option (Option D)) (h : Hh) : R D := match o with
  | some (some d) => .ok d h
  | _ => .bad
@[simp] theorem varR_some {d : D} : varR (some (some d)) h = .ok d h := rfl
@[simp] theorem ev_var : evE (.var i) ls h = varR ls[i]? h := rfl
@[simp] theorem ev_bin {o : Operator} : evE (.bin c o a b) ls h = (evE a ls h).bind fun x h1 => (evE b ls h1).bind fun y h2 => binD c o x y h2 := rfl
@[simp] theorem ev_neg : evE (.neg a) ls h = (evE a ls h).bind fun x h1 => negD x h1 := rfl
@[simp] theorem ev_cmp {o : CmpOp} : evE (.cmp o a b) ls h = (evE a ls h).bind fun x h1 => (evE b ls h1).bind fun y h2 => ofB (cmpD o h2 x y) h2 := rfl
@[simp] theorem ev_chn {o o2 : CmpOp} {d : E} : evE (.chn o o2 a b d) ls h = (evE a ls h).bind fun x h1 => (evE b ls h1).bind fun y h2 => (ofB (cmpD o h2 x y) h2).bind fun r h3 => (truD r h3).bind fun k h4 =>
  if k = true then (evE d ls h4).bind fun z h5 => ofB (cmpD o2 h5 y z) h5 else .ok (.bl false) h4 := rfl
@[simp] theorem ev_bop {o : BoolOp} : evE (.bop o es) ls h = evB o es ls h := rfl
@[simp] theorem ev_not : evE (.not a) ls h = (evE a ls h).bind fun x h1 => (truD x h1).bind fun k h2 => .ok (.bl !k) h2 := rfl
@[simp] theorem ev_ife {t : E} : evE (.ife t a b) ls h = (evE t ls h).bind fun x h1 => (truD x h1).bind fun k h2 => if k = true then evE a ls h2 else evE b ls h2 := rfl
@[simp] theorem ev_lst : evE (.lst c es) ls h = (evEs es ls h).bind fun xs h1 => if xs.length ≤ LIM then mkL c xs h1 else .bad := rfl
@[simp] theorem ev_tup : evE (.tup es) ls h = (evEs es ls h).bind fun xs h1 => if xs.length ≤ LIM then .ok (.tup xs) h1 else .bad := rfl
@[simp] theorem ev_idx : evE (.idx a b) ls h = (evE a ls h).bind fun x h1 => (evE b ls h1).bind fun y h2 => idxD x y h2 := rfl
@[simp] theorem ev_slU : evE (.slU c a b) ls h = (evE a ls h).bind fun x h1 => (evE b ls h1).bind fun y h2 => withI y fun j => slcD c x none (some j) h2 := rfl
@[simp] theorem ev_slL : evE (.slL c a b) ls h = (evE a ls h).bind fun x h1 => (evE b ls h1).bind fun y h2 => withI y fun i => slcD c x (some i) none h2 := rfl
@[simp] theorem ev_slB {d : E} : evE (.slB c a b d) ls h = (evE a ls h).bind fun x h1 => (evE b ls h1).bind fun y h2 => withI y fun i => (evE d ls h2).bind fun z h3 => withI z fun j => slcD c x (some i) (some j) h3 := rfl
@[simp] theorem ev_call {m : Md} {n : Str} {F : Fn} : evE (.call m n F es) ls h = (evEs es ls h).bind fun xs h1 => callM m F xs h1 := rfl
@[simp] theorem ev_bi {k : Bi} : evE (.bi k c es) ls h = (evEs es ls h).bind fun xs h1 => biD k c xs h1 := rfl
@[simp] theorem ev_isi : evE (.isi a b) ls h = (evE a ls h).bind fun x h1 => (evE b ls h1).bind fun y h2 => ofB (isiD h2 x y) h2 := rfl
@[simp] theorem ev_me {m : Me} : evE (.me m c a es) ls h = (evE a ls h).bind fun x h1 => if m.okR h1 x = true then (evEs es ls h1).bind fun xs h2 => meD m c x xs h2 else .bad := rfl
@[simp] theorem ev_comp {own : List Nat} {tg : Tg} {it : I} {tt : Es} {elt : E} : evE (.comp c own tg it tt elt) ls h = (evI it ls h).bind fun i h1 => (noX (compR i (asgT tg) (evTs tt) (evE elt) (wipeL ls own) h1)).bind fun ds h2 => mkL c ds h2 := rfl
@[simp] theorem ev_rvl : evE (.rvl c a) ls h = (evE a ls h).bind fun x h1 => revD c x h1 := rfl
@[simp] theorem ev_dnew : evE .dnew ls h = .ok (.cel h.length) (h ++ [.dct []]) := rfl
@[simp] theorem ev_dget : evE (.dget a b) ls h = (evE a ls h).bind fun x h1 => (evE b ls h1).bind fun y h2 => dgetK (dictO h2 x) (keyD y) h2 := rfl
@[simp] theorem ev_dhas {n : Bool} : evE (.dhas n a b) ls h = (evE a ls h).bind fun y h1 => (evE b ls h1).bind fun x h2 => dhasK n (dictO h2 x) (keyD y) h2 := rfl
@[simp] theorem ev_dlst {c : Bool} : evE (.dlst c a) ls h = (evE a ls h).bind fun x h1 => dlstD c x h1 := rfl
@[simp] theorem ev_strx {n : Str} : evE (.strx n a) ls h = (evE a ls h).bind fun x h1 => strxD x h1 := rfl
@[simp] theorem strxD_s {m : Str} {h : Hh} : strxD (.str m) h = .ok (.str m) h := rfl
@[simp] theorem ev_denu {a : E} : evE (.denu a) ls h = (evE a ls h).bind fun x h1 => denD x h1 := rfl
@[simp] theorem ev_lzip {a b : E} : evE (.lzip a b) ls h = (evE a ls h).bind fun x h1 => (evE b ls h1).bind fun y h2 => lzipD x y h2 := rfl
@[simp] theorem ev_sset : evE (.sset c a) ls h = (evE a ls h).bind fun x h1 => ssetD c x h1 := rfl
@[simp] theorem ev_lset : evE (.lset a) ls h = (evE a ls h).bind fun x h1 => lsetD x h1 := rfl
@[simp] theorem ev_lrg : evE (.lrg c a b) ls h = (evE a ls h).bind fun x h1 => (evE b ls h1).bind fun y h2 => lrgD c x y h2 := rfl
@[simp] theorem ev_enil : evEs .nil ls h = .ok [] h := rfl
@[simp] theorem ev_econs : evEs (.cons a es) ls h = (evE a ls h).bind fun x h1 => (evEs es ls h1).bind fun xs h2 => .ok (x :: xs) h2 := rfl
@[simp] theorem ev_b1 {o : BoolOp} : evB o (.cons a .nil) ls h = evE a ls h := rfl
@[simp] theorem ev_and : evB .And (.cons a (.cons b es)) ls h = (evE a ls h).bind fun x h1 => (truD x h1).bind fun k h2 => if k = true then evB .And (.cons b es) ls h2 else .ok (.bl false) h2 := by
  show ((evE a ls h).bind fun x h1 => (truD x h1).bind fun k h2 => match BoolOp.And, k with | .And, true => evB .And (.cons b es) ls h2 | .And, false => .ok (.bl false) h2 | .Or, true => .ok (.bl true) h2 | .Or, false => evB .And (.cons b es) ls h2) = _
  congr 1; funext x h1; congr 1; funext k h2; cases k <;> rfl
@[simp] theorem ev_or : evB .Or (.cons a (.cons b es)) ls h = (evE a ls h).bind fun x h1 => (truD x h1).bind fun k h2 => if k = true then .ok (.bl true) h2 else evB .Or (.cons b es) ls h2 := by
  show ((evE a ls h).bind fun x h1 => (truD x h1).bind fun k h2 => match BoolOp.Or, k with | .And, true => evB .Or (.cons b es) ls h2 | .And, false => .ok (.bl false) h2 | .Or, true => .ok (.bl true) h2 | .Or, false => evB .Or (.cons b es) ls h2) = _
  congr 1; funext x h1; congr 1; funext k h2; cases k <;> rfl
@[simp] theorem ev_t0 : evTs .nil ls h = .ok true h := rfl
@[simp] theorem ev_t1 : evTs (.cons a .nil) ls h = (evE a ls h).bind truD := rfl
@[simp] theorem ev_iseq : evI (.seq a) ls h = (evE a ls h).bind fun x h1 => mkR ((seqOf h1 x).map fun _ => .seq x) h1 := rfl
@[simp] theorem ev_irng : evI (.rng es) ls h = (evEs es ls h).bind fun xs h1 => mkR (rngOf xs) h1 := rfl
@[simp] theorem ev_ienu : evI (.enu a) ls h = (evE a ls h).bind fun x h1 => mkR ((asL h1 x).map fun _ => .enu x) h1 := rfl
@[simp] theorem ev_izip : evI (.zip a b) ls h = (evE a ls h).bind fun x h1 => (evE b ls h1).bind fun y h2 => mkR ((asL h2 x).bind fun _ => (asL h2 y).map fun _ => .zip x y) h2 := rfl
@[simp] theorem ev_ichs : evI (.chs a) ls h = (evE a ls h).bind fun x h1 => mkR (x.strO.map .chs) h1 := rfl
@[simp] theorem strO_str {x : Str} : (D.str x).strO = some x := rfl
@[simp] theorem ev_izip3 {d : E} : evI (.zip3 a b d) ls h = (evE a ls h).bind fun x h1 => (evE b ls h1).bind fun y h2 => (evE d ls h2).bind fun z h3 => mkR ((asL h3 x).bind fun _ => (asL h3 y).bind fun _ => (asL h3 z).map fun _ => .zip3 x y z) h3 := rfl
@[simp] theorem ev_irev : evI (.rev a) ls h = (evE a ls h).bind fun x h1 => mkR ((asL h1 x).map fun xs => .rev x xs.length) h1 := rfl
@[simp] theorem ev_T : evT a ls h = (evE a ls h).bind truD := rfl
@[simp] theorem ofR_ok {d : α} {k : α → Hh → RS} : ofR (.ok d h) ls k = k d h := rfl
@[simp] theorem ofR_exc {n : Str} {k : α → Hh → RS} : ofR (.exc n h) ls k = .exc n ls h := rfl
@[simp] theorem ofR_bad {k : α → Hh → RS} : ofR .bad ls k = .bad := rfl
@[simp] theorem ofL_some {l : Ls} : ofL (some l) h = .nx l h := rfl
@[simp] theorem ofL_none : ofL none h = .bad := rfl
@[simp] theorem truD_bl {k : Bool} : truD (.bl k) h = .ok k h := rfl
@[simp] theorem negD_int {n : Int} : negD (.int n) h = .ok (.int (-n)) h := rfl
@[simp] theorem ofB_some {k : Bool} : ofB (some k) h = .ok (.bl k) h := rfl
@[simp] theorem mkL_f {xs : List D} : mkL false xs h = .ok (.lst xs) h := rfl
@[simp] theorem mkL_t {xs : List D} : mkL true xs h = .ok (.cel h.length) (h ++ [.lst xs]) := rfl
@[simp] theorem mkR_s {j : Tb.It} : mkR (some j) h = .ok j h := rfl
@[simp] theorem noX_ok {d : α} : noX (.ok d h) = .ok d h := rfl
@[simp] theorem ev_asg {t : Tg} : evS C (.asg t a) ls h = ofR (evE a ls h) ls fun d h1 => ofL (asgT t d ls) h1 := rfl
@[simp] theorem ev_frK {t : Tg} {j : Nat} {b : Ss} : evS C (.frK t j b) ls h = keysR (asgT t) (evSs C b) ls[j]? ls h := rfl
@[simp] theorem ev_dput {d : E} : evS C (.dput a b d) ls h = ofR (evE d ls h) ls fun d h1 => ofR (evE a ls h1) ls fun x h2 => ofR (evE b ls h2) ls fun y h3 => ofR (dputD x y d h3) ls fun _ h4 => .nx ls h4 := rfl
@[simp] theorem ev_sub {d : E} : evS C (.sub a b d) ls h = ofR (evE d ls h) ls fun d h1 => ofR (evE a ls h1) ls fun x h2 => ofR (evE b ls h2) ls fun y h3 => ofR (setD x y d h3) ls fun _ h4 => .nx ls h4 := rfl
def augR2 (o : Option (Option D)) (k : D → RS) : RS := match o with
  | some (some x) => k x
  | _ => .bad
@[simp] theorem augR2_some {d : D} {k : D → RS} : augR2 (some (some d)) k = k d := rfl
@[simp] theorem ev_aug {o : Operator} : evS C (.aug i o a) ls h = augR2 ls[i]? fun x => ofR (evE a ls h) ls fun y h1 => ofR (augD o x y h1) ls fun z h2 => ofL (setN i z ls) h2 := rfl
@[simp] theorem ev_ex : evS C (.ex a) ls h = ofR (evE a ls h) ls fun _ h1 => .nx ls h1 := rfl
@[simp] theorem ev_ret : evS C (.ret a) ls h = ofR (evE a ls h) ls fun d h1 => .rt d h1 := rfl
@[simp] theorem ev_retN : evS C .retN ls h = .rt .non h := rfl
@[simp] theorem ev_ifs {t : E} {p q : Ss} : evS C (.ifs t p q) ls h = ofR (evT t ls h) ls fun k h1 => if k = true then evSs C p ls h1 else evSs C q ls h1 := rfl
@[simp] theorem ev_whl {t : E} {p : Ss} : evS C (.whl t p) ls h = whileR (evT t) (evSs C p) FUEL ls h := rfl
@[simp] theorem ev_fr {t : Tg} {it : I} {p : Ss} : evS C (.fr t it p) ls h = ofR (evI it ls h) ls fun i h1 => forR i (asgT t) (evSs C p) ls h1 := rfl
@[simp] theorem ev_pass : evS C .pass ls h = .nx ls h := rfl
@[simp] theorem ev_brk : evS C .brk ls h = .bk ls h := rfl
@[simp] theorem ev_cnt : evS C .cnt ls h = .ct ls h := rfl
@[simp] theorem ev_dic0 : evE (.dic []) ls h = .ok (.dic []) h := rfl
@[simp] theorem ev_dic1 {p : At × At} : evE (.dic [p]) ls h = match evKV ls p with | some kv => .ok (.dic [kv]) h | none => .bad := rfl
@[simp] theorem ev_rais {n : Str} : evS C (.rais n) ls h = .exc n ls h := rfl
def seqR (r : RS) (k : Ls → Hh → RS) : RS := match r with
  | .nx l1 h1 => k l1 h1
  | o => o
@[simp] theorem seqR_nx {k : Ls → Hh → RS} : seqR (.nx ls h) k = k ls h := rfl
@[simp] theorem seqR_rt {d : D} {k : Ls → Hh → RS} : seqR (.rt d h) k = .rt d h := rfl
@[simp] theorem seqR_exc {n : Str} {k : Ls → Hh → RS} : seqR (.exc n ls h) k = .exc n ls h := rfl
@[simp] theorem seqR_bk {k : Ls → Hh → RS} : seqR (.bk ls h) k = .bk ls h := rfl
@[simp] theorem seqR_ct {k : Ls → Hh → RS} : seqR (.ct ls h) k = .ct ls h := rfl
@[simp] theorem ev_snil : evSs C .nil ls h = .nx ls h := rfl
@[simp] theorem ev_scons {s : S} {r : Ss} : evSs C (.cons s r) ls h = seqR (evS C s ls h) fun l1 h1 => evSs C r l1 h1 := by
  show (match evS C s ls h with | .nx l1 h1 => evSs C r l1 h1 | o => o) = _
  cases evS C s ls h <;> rfl
def endR : RS → R D
  | .rt d h1 => .ok d h1
  | .nx _ h1 => .ok .non h1
  | .exc c _ h1 => .exc c h1
  | _ => .bad
@[simp] theorem endR_rt {d : D} : endR (.rt d h) = .ok d h := rfl
@[simp] theorem endR_nx : endR (.nx ls h) = .ok .non h := rfl
@[simp] theorem endR_exc {n : Str} : endR (.exc n ls h) = .exc n h := rfl
theorem fnS_run {n np : Nat} {p : Ss} {ds : List D} (hl : ds.length = np) : fnS C n np p ds h = endR (evSs C p (ds.map some ++ List.replicate (n - ds.length) none) h) := by
  unfold fnS
  rw [if_pos hl]
  cases evSs C p (ds.map some ++ List.replicate (n - ds.length) none) h <;> rfl
theorem fn1 {n : Nat} {p : Ss} {a : D} : fnS C n 1 p [a] h = endR (evSs C p ([some a] ++ List.replicate (n - 1) none) h) := fnS_run (ds := [a]) rfl
theorem fn2 {n : Nat} {p : Ss} {a b : D} : fnS C n 2 p [a, b] h = endR (evSs C p ([some a, some b] ++ List.replicate (n - 2) none) h) := fnS_run (ds := [a, b]) rfl
theorem fn3 {n : Nat} {p : Ss} {a b d : D} : fnS C n 3 p [a, b, d] h = endR (evSs C p ([some a, some b, some d] ++ List.replicate (n - 3) none) h) := fnS_run (ds := [a, b, d]) rfl
theorem fn4 {n : Nat} {p : Ss} {a b d e : D} : fnS C n 4 p [a, b, d, e] h = endR (evSs C p ([some a, some b, some d, some e] ++ List.replicate (n - 4) none) h) := fnS_run (ds := [a, b, d, e]) rfl
@[simp] theorem callS_eq {F : Fn} {ds : List D} : callM .S F ds h = F ds h := rfl
theorem callP_eq {F : Fn} {ds : List D} {d : D} {h' : Hh} (hp : pures ds = true) (e : F ds [] = .ok d h') {d' : D} (hz : fz 0 h' d = some d') : callM .P F ds h = .ok d' h := by
  have q : ∀ ds : List D, pures ds = true → frzL (fz 0 h) ds = some ds := by
    intro ds
    induction ds with
    | nil => intro _; rfl
    | cons d ds ih =>
      intro u
      simp only [pures, Bool.and_eq_true] at u
      have q : fz 0 h d = some d := by unfold fz; simp [u.1]
      simp [frzL, q, ih u.2]
  show callP F ds h = _
  unfold callP
  rw [q ds hp]
  simp only [e, hz, hp, true_or, if_true]
theorem fz_pure {n : Nat} {d : D} (hp : d.pure = true) : fz n h d = some d := by unfold fz; simp [hp]
/-- .. a new list of its own -/
theorem callCE {F : Fn} {ds es : List D} {i : Nat} {xs : List D} {h' : Hh} (hf : frzL (fz 0 h) ds = some es) (e : F es [] = .ok (.cel i) h') (ei : h'[i]? = some (.lst xs)) (hx : pures xs = true ∧ (pures ds = true ∨ nols xs = true)) : callM .C F ds h = .ok (.cel h.length) (h ++ [.lst xs]) := by
  show callC F ds h = _
  unfold callC
  rw [hf]
  simp only [e, ei, asO]
  rw [if_pos hx]
theorem frz_pures : ∀ {ds : List D}, pures ds = true → frzL (fz 0 h) ds = some ds
  | [], _ => rfl
  | d :: ds, u => by
    simp only [pures, Bool.and_eq_true] at u
    have q : fz 0 h d = some d := by unfold fz; simp [u.1]
    simp [frzL, q, frz_pures u.2]
theorem callCC {F : Fn} {ds : List D} {i : Nat} {xs : List D} {h' : Hh} (hp : pures ds = true) (e : F ds [] = .ok (.cel i) h') (ei : h'[i]? = some (.lst xs)) (hx : pures xs = true) : callM .C F ds h = .ok (.cel h.length) (h ++ [.lst xs]) := callCE (frz_pures hp) e ei ⟨hx, .inl hp⟩
theorem fz_cel {i : Nat} {xs : List D} {h' : Hh} (ei : h'[i]? = some (.lst xs)) (hx : ∀ d ∈ xs, frz 0 h' 7 d = some d) : fz 0 h' (.cel i) = some (.lst xs) := by
  show frz 0 h' 8 (.cel i) = _
  show (if i < 0 then some (D.cel i) else (asO h'[i]?).bind fun xs => (frzL (frz 0 h' 7) xs).map .lst) = _
  rw [if_neg (Nat.not_lt_zero _), ei]
  show (frzL (frz 0 h' 7) xs).map D.lst = _
  have go : ∀ l : List D, (∀ d ∈ l, frz 0 h' 7 d = some d) → frzL (frz 0 h' 7) l = some l := by
    intro l
    induction l with
    | nil => intro _; rfl
    | cons d r ih => intro z; simp only [frzL, z d List.mem_cons_self, Option.bind_some, ih fun e he => z e (List.mem_cons_of_mem _ he), Option.map_some]
  rw [go xs hx]; rfl
/-- a pure call of which a new list of numbers comes -/
theorem callPN {F : Fn} {ds : List D} {i : Nat} {ns : List Int} {h' : Hh} (hp : pures ds = true) (e : F ds [] = .ok (.cel i) h') (ei : h'[i]? = some (.lst (ns.map .int))) : callM .P F ds h = .ok (.lst (ns.map .int)) h :=
  callP_eq hp e (fz_cel ei fun d hd => by obtain ⟨n, _, rfl⟩ := List.mem_map.mp hd; rfl)
/-- a pure call, what comes is pure -/
theorem callPP {F : Fn} {ds : List D} {d : D} {h' : Hh} (hp : pures ds = true) (e : F ds [] = .ok d h') (hd : d.pure = true) : callM .P F ds h = .ok d h := callP_eq hp e (fz_pure hd)
@[simp] theorem bin_add {n m : Int} : binD c .Add (.int n) (.int m) h = .ok (.int (n + m)) h := rfl
@[simp] theorem bin_sub {n m : Int} : binD c .Sub (.int n) (.int m) h = .ok (.int (n - m)) h := rfl
theorem bin_mul {n m : Int} (h1 : small n = true) (h2 : small m = true) : binD c .Mult (.int n) (.int m) h = .ok (.int (n * m)) h := by
  show (if small n = true ∧ small m = true then (R.ok (D.int (n * m)) h : R D) else .bad) = _
  rw [if_pos ⟨h1, h2⟩]
theorem small_of {n : Int} (a : -1000000000000000000000000000000000000000000000000000000000000 ≤ n) (b : n ≤ 1000000000000000000000000000000000000000000000000000000000000) : small n = true := by
  unfold small
  refine decide_eq_true (Nat.lt_of_le_of_lt (m := 1000000000000000000000000000000000000000000000000000000000000) (by omega) ?_)
  decide
end
/-! loops -/
section
variable {g : D → Ls → Option Ls} {b : Ls → Hh → RS}
/-- a for that goes through -/
theorem loopL_inv (P : Nat → Ls → Hh → Prop) : ∀ (xs : List D) (i : Nat) (ls : Ls) (h : Hh), (∀ j x ls h, xs[j]? = some x → P (i + j) ls h → ∃ l1 l2 h2, g x ls = some l1 ∧ (b l1 h = .nx l2 h2 ∨ b l1 h = .ct l2 h2) ∧ P (i + j + 1) l2 h2) → P i ls h → ∃ l2 h2, loopL g b xs ls h = .nx l2 h2 ∧ P (i + xs.length) l2 h2
  | [], i, ls, h, _, p => ⟨ls, h, rfl, p⟩
  | x :: xs, i, ls, h, st, p => by
    obtain ⟨l1, l2, h2, e1, e2, p2⟩ := st 0 x ls h rfl p
    obtain ⟨l3, h3, e3, p3⟩ := loopL_inv P xs (i + 1) l2 h2 (fun j y ls h e q => by
      obtain ⟨a1, a2, a3, a4, a5, a6⟩ := st (j + 1) y ls h (by simpa using e) (by rw [Nat.add_assoc, Nat.add_comm 1 j] at q; exact q)
      exact ⟨a1, a2, a3, a4, a5, by rw [Nat.add_assoc i 1 j, Nat.add_comm 1 j]; exact a6⟩) p2
    refine ⟨l3, h3, ?_, by rw [List.length_cons, Nat.add_comm xs.length 1, ← Nat.add_assoc]; exact p3⟩
    have un : loopL g b (x :: xs) ls h = match g x ls with
      | none => .bad
      | some l1 => match b l1 h with
        | .nx l2 h2 => loopL g b xs l2 h2
        | .ct l2 h2 => loopL g b xs l2 h2
        | .bk l2 h2 => .nx l2 h2
        | r => r := rfl
    rw [un, e1]
    rcases e2 with e2 | e2 <;> (simp only [e2]; exact e3)
theorem forR_rng {lo : Int} {n : Nat} {st : Int} {ls : Ls} {h : Hh} : forR (.rng lo n st) g b ls h = loopL g b (rngL lo st n) ls h := rfl
theorem forR_lst {xs : List D} {ls : Ls} {h : Hh} : forR (.seq (.lst xs)) g b ls h = loopL g b xs ls h := rfl
theorem forR_tup {xs : List D} {ls : Ls} {h : Hh} : forR (.seq (.tup xs)) g b ls h = loopL g b xs ls h := rfl
theorem rngL_mem {lo : Int} {n j : Nat} {x : D} (e : (rngL lo 1 n)[j]? = some x) : j < n ∧ x = .int (lo + j) := by
  have hj : j < n := by
    have := (List.getElem?_eq_some_iff.mp e).1
    rw [rngL_len] at this
    exact this
  rw [rngL_get 1 n j lo hj] at e
  cases e
  exact ⟨hj, by rw [Int.mul_one]⟩
end
end Tb
namespace Tb
open PySem PySem.Spec PyProof.Rows L2
@[simp] theorem isi_non_int {h : Hh}  : isiD h .non (.ty "int") = some false := by cases h <;> rfl
@[simp] theorem isi_non_bool {h : Hh}  : isiD h .non (.ty "bool") = some false := by cases h <;> rfl
@[simp] theorem isi_non_str {h : Hh}  : isiD h .non (.ty "str") = some false := by cases h <;> rfl
@[simp] theorem isi_non_list {h : Hh}  : isiD h .non (.ty "list") = some false := by cases h <;> rfl
@[simp] theorem isi_non_tuple {h : Hh}  : isiD h .non (.ty "tuple") = some false := by cases h <;> rfl
@[simp] theorem isi_non_dict {h : Hh}  : isiD h .non (.ty "dict") = some false := by cases h <;> rfl
@[simp] theorem isi_bl_int {h : Hh} {v : Bool} : isiD h (.bl v) (.ty "int") = some true := by cases h <;> rfl
@[simp] theorem isi_bl_bool {h : Hh} {v : Bool} : isiD h (.bl v) (.ty "bool") = some true := by cases h <;> rfl
@[simp] theorem isi_bl_str {h : Hh} {v : Bool} : isiD h (.bl v) (.ty "str") = some false := by cases h <;> rfl
@[simp] theorem isi_bl_list {h : Hh} {v : Bool} : isiD h (.bl v) (.ty "list") = some false := by cases h <;> rfl
@[simp] theorem isi_bl_tuple {h : Hh} {v : Bool} : isiD h (.bl v) (.ty "tuple") = some false := by cases h <;> rfl
@[simp] theorem isi_bl_dict {h : Hh} {v : Bool} : isiD h (.bl v) (.ty "dict") = some false := by cases h <;> rfl
@[simp] theorem isi_int_int {h : Hh} {v : Int} : isiD h (.int v) (.ty "int") = some true := by cases h <;> rfl
@[simp] theorem isi_int_bool {h : Hh} {v : Int} : isiD h (.int v) (.ty "bool") = some false := by cases h <;> rfl
@[simp] theorem isi_int_str {h : Hh} {v : Int} : isiD h (.int v) (.ty "str") = some false := by cases h <;> rfl
@[simp] theorem isi_int_list {h : Hh} {v : Int} : isiD h (.int v) (.ty "list") = some false := by cases h <;> rfl
@[simp] theorem isi_int_tuple {h : Hh} {v : Int} : isiD h (.int v) (.ty "tuple") = some false := by cases h <;> rfl
@[simp] theorem isi_int_dict {h : Hh} {v : Int} : isiD h (.int v) (.ty "dict") = some false := by cases h <;> rfl
@[simp] theorem isi_str_int {h : Hh} {v : Str} : isiD h (.str v) (.ty "int") = some false := by cases h <;> rfl
@[simp] theorem isi_str_bool {h : Hh} {v : Str} : isiD h (.str v) (.ty "bool") = some false := by cases h <;> rfl
@[simp] theorem isi_str_str {h : Hh} {v : Str} : isiD h (.str v) (.ty "str") = some true := by cases h <;> rfl
@[simp] theorem isi_str_list {h : Hh} {v : Str} : isiD h (.str v) (.ty "list") = some false := by cases h <;> rfl
@[simp] theorem isi_str_tuple {h : Hh} {v : Str} : isiD h (.str v) (.ty "tuple") = some false := by cases h <;> rfl
@[simp] theorem isi_str_dict {h : Hh} {v : Str} : isiD h (.str v) (.ty "dict") = some false := by cases h <;> rfl
@[simp] theorem isi_tup_int {h : Hh} {v : List D} : isiD h (.tup v) (.ty "int") = some false := by cases h <;> rfl
@[simp] theorem isi_tup_bool {h : Hh} {v : List D} : isiD h (.tup v) (.ty "bool") = some false := by cases h <;> rfl
@[simp] theorem isi_tup_str {h : Hh} {v : List D} : isiD h (.tup v) (.ty "str") = some false := by cases h <;> rfl
@[simp] theorem isi_tup_list {h : Hh} {v : List D} : isiD h (.tup v) (.ty "list") = some false := by cases h <;> rfl
@[simp] theorem isi_tup_tuple {h : Hh} {v : List D} : isiD h (.tup v) (.ty "tuple") = some true := by cases h <;> rfl
@[simp] theorem isi_tup_dict {h : Hh} {v : List D} : isiD h (.tup v) (.ty "dict") = some false := by cases h <;> rfl
@[simp] theorem isi_lst_int {h : Hh} {v : List D} : isiD h (.lst v) (.ty "int") = some false := by cases h <;> rfl
@[simp] theorem isi_lst_bool {h : Hh} {v : List D} : isiD h (.lst v) (.ty "bool") = some false := by cases h <;> rfl
@[simp] theorem isi_lst_str {h : Hh} {v : List D} : isiD h (.lst v) (.ty "str") = some false := by cases h <;> rfl
@[simp] theorem isi_lst_list {h : Hh} {v : List D} : isiD h (.lst v) (.ty "list") = some true := by cases h <;> rfl
@[simp] theorem isi_lst_tuple {h : Hh} {v : List D} : isiD h (.lst v) (.ty "tuple") = some false := by cases h <;> rfl
@[simp] theorem isi_lst_dict {h : Hh} {v : List D} : isiD h (.lst v) (.ty "dict") = some false := by cases h <;> rfl
@[simp] theorem isi_kl_int {h : Hh} {v : List D} : isiD h (.kl v) (.ty "int") = some false := by cases h <;> rfl
@[simp] theorem isi_kl_bool {h : Hh} {v : List D} : isiD h (.kl v) (.ty "bool") = some false := by cases h <;> rfl
@[simp] theorem isi_kl_str {h : Hh} {v : List D} : isiD h (.kl v) (.ty "str") = some false := by cases h <;> rfl
@[simp] theorem isi_kl_list {h : Hh} {v : List D} : isiD h (.kl v) (.ty "list") = some true := by cases h <;> rfl
@[simp] theorem isi_kl_tuple {h : Hh} {v : List D} : isiD h (.kl v) (.ty "tuple") = some false := by cases h <;> rfl
@[simp] theorem isi_kl_dict {h : Hh} {v : List D} : isiD h (.kl v) (.ty "dict") = some false := by cases h <;> rfl
@[simp] theorem isi_dic_int {h : Hh} {v : List (Key × D)} : isiD h (.dic v) (.ty "int") = some false := by cases h <;> rfl
@[simp] theorem isi_dic_bool {h : Hh} {v : List (Key × D)} : isiD h (.dic v) (.ty "bool") = some false := by cases h <;> rfl
@[simp] theorem isi_dic_str {h : Hh} {v : List (Key × D)} : isiD h (.dic v) (.ty "str") = some false := by cases h <;> rfl
@[simp] theorem isi_dic_list {h : Hh} {v : List (Key × D)} : isiD h (.dic v) (.ty "list") = some false := by cases h <;> rfl
@[simp] theorem isi_dic_tuple {h : Hh} {v : List (Key × D)} : isiD h (.dic v) (.ty "tuple") = some false := by cases h <;> rfl
@[simp] theorem isi_dic_dict {h : Hh} {v : List (Key × D)} : isiD h (.dic v) (.ty "dict") = some true := by cases h <;> rfl
section
variable {ls : Ls} {h : Hh} {c : Bool} {n m : Int} {i j : Nat} {xs : List D} {d v : D}
theorem isi_cel_list (e : h[i]? = some (.lst xs)) : isiD h (.cel i) (.ty "list") = some true := by
  show (if tyAsk.contains "list" then ((asO h[i]?).map fun _ => "list").map fun t => isiB t "list" else none) = _
  rw [e]; rfl
@[simp] theorem small_lit {n : Nat} (q : Nat.ble n 1000000000000000000000000000000000000000000000000000000000000 = true) : small (no_index (OfNat.ofNat n : Int)) = true := by
  have q := Nat.le_of_ble_eq_true q
  have e : (OfNat.ofNat n : Int) = ((n : Nat) : Int) := rfl
  rw [e]
  exact small_of (by omega) (by omega)
@[simp] theorem bin_mod (q : 0 < m) : binD c .Mod (.int n) (.int m) h = .ok (.int (n % m)) h := by
  show (if 0 < m then (R.ok (D.int (n % m)) h : R D) else _) = _
  rw [if_pos q]
@[simp] theorem bin_fdiv (q : 0 < m) (s : small m = true) : binD c .FloorDiv (.int n) (.int m) h = .ok (.int (n / m)) h := by
  show (if 0 < m ∧ small m = true then (R.ok (D.int (n / m)) h : R D) else .bad) = _
  rw [if_pos ⟨q, s⟩]
theorem bin_pow (q : 0 ≤ m) (q2 : m ≤ 10000) (q3 : n.natAbs < 18446744073709551616) : binD c .Pow (.int n) (.int m) h = .ok (.int (n ^ m.toNat)) h := by
  show (if 0 ≤ m ∧ m ≤ 10000 ∧ n.natAbs < 18446744073709551616 then (R.ok (D.int (n ^ m.toNat)) h : R D) else .bad) = _
  rw [if_pos ⟨q, q2, q3⟩]
@[simp] theorem pow18 : binD c .Pow (.int 10) (.int 18) h = .ok (.int 1000000000000000000) h := rfl
@[simp] theorem cmp_eq : cmpD .Eq h (.int n) (.int m) = some (decide (n = m)) := by
  show some (n == m) = _
  congr 1
@[simp] theorem cmp_ne : cmpD .NotEq h (.int n) (.int m) = some (!decide (n = m)) := by
  show some (!(n == m)) = _
  congr 1
@[simp] theorem cmp_lt : cmpD .Lt h (.int n) (.int m) = some (decide (n < m)) := rfl
@[simp] theorem cmp_le : cmpD .LtE h (.int n) (.int m) = some (decide (n ≤ m)) := rfl
@[simp] theorem cmp_gt : cmpD .Gt h (.int n) (.int m) = some (decide (m < n)) := rfl
@[simp] theorem cmp_ge : cmpD .GtE h (.int n) (.int m) = some (decide (m ≤ n)) := rfl
@[simp] theorem is_non : cmpD .Is h .non .non = some true := rfl
@[simp] theorem is_int : cmpD .Is h (.int n) .non = some false := rfl
@[simp] theorem isN_non : cmpD .IsNot h .non .non = some false := rfl
@[simp] theorem isN_int : cmpD .IsNot h (.int n) .non = some true := rfl
@[simp] theorem optD_s : optD (some d) h = .ok d h := rfl
@[simp] theorem optI_s : optI (some n) h = .ok (.int n) h := rfl
@[simp] theorem idx_tup : idxD (.tup xs) (.int n) h = optD (atI xs n) h := rfl
@[simp] theorem idx_lst : idxD (.lst xs) (.int n) h = optD (atI xs n) h := rfl
@[simp] theorem idx_kl : idxD (.kl xs) (.int n) h = optD (atI xs n) h := rfl
theorem idx_cel (e : h[i]? = some (.lst xs)) : idxD (.cel i) (.int n) h = optD (atI xs n) h := by
  show idxL (asO h[i]?) n h = _
  rw [e]; rfl
@[simp] theorem atI_lit {α : Type} {xs : List α} {k : Nat} : atI xs (no_index (OfNat.ofNat k : Int)) = xs[k]? := by
  show atI xs ((k : Nat) : Int) = _
  unfold atI ixN
  rw [if_pos (by omega)]
  by_cases q : ((k : Nat) : Int) < xs.length
  · rw [if_pos q]; simp
  · rw [if_neg q]
    simp
    omega
theorem atI_at {α : Type} {xs : List α} {k : Nat} : atI xs ((k : Nat) : Int) = xs[k]? := by
  unfold atI ixN
  rw [if_pos (by omega)]
  by_cases q : ((k : Nat) : Int) < xs.length
  · rw [if_pos q]; simp
  · rw [if_neg q]
    simp
    omega
theorem atI_pos {α : Type} {xs : List α} {k : Int} (q : 0 ≤ k) : atI xs k = xs[k.toNat]? := by
  obtain ⟨j, rfl⟩ : ∃ j : Nat, k = j := ⟨k.toNat, by omega⟩
  rw [atI_at]; rfl
@[simp] theorem atI_last {α : Type} {xs : List α} : atI xs (-1) = xs[xs.length - 1]? := by
  unfold atI ixN
  rw [if_neg (by omega)]
  by_cases q : -(xs.length : Int) ≤ -1
  · rw [if_pos q]
    show xs[(-1 + (xs.length : Int)).toNat]? = _
    congr 1
    omega
  · rw [if_neg q]
    have : xs = [] := by cases xs with
      | nil => rfl
      | cons a r => simp at q; omega
    subst this; rfl
theorem set_cel {k : Nat} (e : h[i]? = some (.lst xs)) (q : k < xs.length) : setD (.cel i) (.int (k : Nat)) v h = .ok () (h.set i (.lst (xs.set k v))) := by
  show (match h[i]? with | some (.lst xs) => (match ixN xs.length ((k : Nat) : Int) with | some j => R.ok () (h.set i (.lst (xs.set j v))) | none => .bad) | _ => .bad) = _
  rw [e]
  have z : ixN xs.length ((k : Nat) : Int) = some k := by
    unfold ixN
    rw [if_pos (by omega), if_pos (by omega)]; simp
  simp only [z]
theorem set_lit {k : Nat} (e : h[i]? = some (.lst xs)) (q : k < xs.length) : setD (.cel i) (.int (no_index (OfNat.ofNat k : Int))) v h = .ok () (h.set i (.lst (xs.set k v))) := set_cel (k := k) e q
@[simp] theorem ne_nil0 : cmpD .NotEq h (.lst []) (.lst []) = some false := by cases h <;> rfl
@[simp] theorem eq_nil0 : cmpD .Eq h (.lst []) (.lst []) = some true := by cases h <;> rfl
@[simp] theorem len_kl : biD .len c [.kl xs] h = .ok (.int xs.length) h := rfl
@[simp] theorem len_lst : biD .len c [.lst xs] h = .ok (.int xs.length) h := rfl
@[simp] theorem len_tup : biD .len c [.tup xs] h = .ok (.int xs.length) h := rfl
theorem len_cel (e : h[i]? = some (.lst xs)) : biD .len c [.cel i] h = .ok (.int xs.length) h := by
  show optI ((asO h[i]?).map fun xs => (xs.length : Int)) h = _
  rw [e]; rfl
@[simp] theorem min_ii : biD .min c [.int n, .int m] h = .ok (.int (if m < n then m else n)) h := rfl
@[simp] theorem max_ii : biD .max c [.int n, .int m] h = .ok (.int (if n < m then m else n)) h := rfl
@[simp] theorem max_t2 : biD .max c [.tup [.int n, .int m]] h = .ok (.int (if n < m then m else n)) h := rfl
@[simp] theorem abs_i : biD .abs c [.int n] h = .ok (.int (if n < 0 then -n else n)) h := rfl
@[simp] theorem list_lst : biD .list c [.lst xs] h = mkL c xs h := rfl
@[simp] theorem list_tup : biD .list c [.tup xs] h = mkL c xs h := rfl
@[simp] theorem int_bl {b : Bool} : biD .int c [.bl b] h = .ok (.int (if b then 1 else 0)) h := rfl
@[simp] theorem asg_nm : asgT (.nm i) d ls = if i < ls.length then some (ls.set i (some d)) else none := rfl
@[simp] theorem asg_tp {is : List Nat} {ds : List D} : asgT (.tp is) (.tup ds) ls = setNs is ds ls := rfl
@[simp] theorem asg_tpL {is : List Nat} {ds : List D} : asgT (.tp is) (.lst ds) ls = setNs is ds ls := rfl
@[simp] theorem setNs_nil : setNs [] [] ls = some ls := rfl
@[simp] theorem setNs_cons {is : List Nat} {ds : List D} : setNs (i :: is) (d :: ds) ls = if i < ls.length then setNs is ds (ls.set i (some d)) else none := by
  show (setN i d ls).bind _ = _
  unfold setN
  split <;> rfl
@[simp] theorem setN_eq : setN i d ls = if i < ls.length then some (ls.set i (some d)) else none := rfl
@[simp] theorem rng1 (q : smallR n = true) : rngOf [.int n] = some (.rng 0 n.toNat 1) := by
  show (if smallR n = true then _ else _) = _
  rw [if_pos q]
@[simp] theorem rng2 (q : smallR n = true) (q2 : smallR m = true) : rngOf [.int n, .int m] = some (.rng n (m - n).toNat 1) := by
  show (if smallR n = true ∧ smallR m = true then _ else _) = _
  rw [if_pos ⟨q, q2⟩]
theorem smallR_i (a : -1000000000000 ≤ n) (b : n ≤ 1000000000000) : smallR n = true := by
  exact Nat.ble_eq_true_of_le (by omega)
@[simp] theorem smallR_lit {k : Nat} (q : Nat.ble k 1000000000000 = true) : smallR (no_index (OfNat.ofNat k : Int)) = true := by
  have q := Nat.le_of_ble_eq_true q
  have e : (OfNat.ofNat k : Int) = ((k : Nat) : Int) := rfl
  rw [e]
  exact smallR_i (by omega) (by omega)
@[simp] theorem seqOf_tup : seqOf h (.tup xs) = some xs := rfl
@[simp] theorem seqOf_lst : seqOf h (.lst xs) = some xs := rfl
@[simp] theorem seqOf_kl : seqOf h (.kl xs) = some xs := rfl
@[simp] theorem lim3 {k : Nat} (q : Nat.ble k 1000000 = true) : (no_index (OfNat.ofNat k : Nat)) ≤ LIM := Nat.le_of_ble_eq_true q
end
end Tb
namespace Tb
open PySem PySem.Spec PyProof.Rows L2
mutual
theorem D.under_le {n m : Nat} (le : n ≤ m) : ∀ d : D, d.under n = true → d.under m = true
  | .non, _ => rfl
  | .bl _, _ => rfl
  | .int _, _ => rfl
  | .str _, _ => rfl
  | .tup xs, h => by simp only [D.under] at h ⊢; exact unders_le le xs h
  | .lst xs, h => by simp only [D.under] at h ⊢; exact unders_le le xs h
  | .kl xs, h => by simp only [D.under] at h ⊢; exact unders_le le xs h
  | .dic kvs, h => by simp only [D.under] at h ⊢; exact underK_le le kvs h
  | .kd _, _ => rfl
  | .cel i, h => by simp only [D.under, decide_eq_true_eq] at h ⊢; omega
  | .cls _, _ => rfl
  | .ty _, _ => rfl
  | .exc _, _ => rfl
theorem unders_le {n m : Nat} (le : n ≤ m) : ∀ ds : List D, unders n ds = true → unders m ds = true
  | [], _ => rfl
  | d :: ds, h => by
    simp only [unders, Bool.and_eq_true] at h ⊢
    exact ⟨D.under_le le d h.1, unders_le le ds h.2⟩
theorem underK_le {n m : Nat} (le : n ≤ m) : ∀ ds : List (Key × D), underK n ds = true → underK m ds = true
  | [], _ => rfl
  | (_, d) :: ds, h => by
    simp only [underK, Bool.and_eq_true] at h ⊢
    exact ⟨D.under_le le d h.1, underK_le le ds h.2⟩
end
theorem O.under_le {n m : Nat} (le : n ≤ m) : ∀ o : O, o.under n = true → o.under m = true
  | .lst xs, h => by simp only [O.under] at h ⊢; exact unders_le le xs h
  | .ins c fs, h => by
    simp only [O.under, List.all_eq_true] at h ⊢
    exact fun p hp => D.under_le le p.2 (h p hp)
  | .dct kvs, h => by simp only [O.under] at h ⊢; exact underK_le le kvs h
theorem pures_ints (ns : List Int) : pures (ns.map .int) = true := by
  induction ns with
  | nil => rfl
  | cons n r ih => simp only [List.map_cons, pures, D.pure, Bool.true_and]; exact ih
theorem unders_ints {n : Nat} (ns : List Int) : unders n (ns.map .int) = true := pures_under n _ (pures_ints ns)
theorem frzL_pure {n k : Nat} {h : Hh} : ∀ {ds : List D}, pures ds = true → (∀ d ∈ ds, frz n h (k + 1) d = some d) → frzL (frz n h (k + 1)) ds = some ds
  | [], _, _ => rfl
  | d :: ds, hp, hf => by
    simp only [pures, Bool.and_eq_true] at hp
    simp only [frzL, hf d (List.mem_cons_self), Option.bind_some, frzL_pure hp.2 (fun e he => hf e (List.mem_cons_of_mem _ he)), Option.map_some]
/-- a new list of numbers comes out of a call, frozen -/
theorem callF_ints {F : Fn} {ds : List D} {h h' : Hh} {ns : List Int} (e : F ds h = .ok (.cel h.length) h') (hl : h.length < h'.length) (ei : h'[h.length]? = some (.lst (ns.map .int))) (ua : ∀ j o, j < h.length → h'[j]? = some o → o.under h.length = true) :
    callM .F F ds h = .ok (.lst (ns.map .int)) (h'.take h.length) := by
  show callF F ds h = _
  unfold callF
  rw [e]
  have z : fz h.length h' (.cel h.length) = some (.lst (ns.map .int)) := by
    show frz h.length h' 8 (.cel h.length) = _
    show (if h.length < h.length then some (D.cel h.length) else (asO h'[h.length]?).bind fun xs => (frzL (frz h.length h' 7) xs).map .lst) = _
    rw [if_neg (Nat.lt_irrefl _), ei]
    show (frzL (frz h.length h' 7) (ns.map .int)).map D.lst = _
    rw [frzL_pure (pures_ints ns) (fun d hd => by obtain ⟨i, _, rfl⟩ := List.mem_map.mp hd; rfl)]
    rfl
  have al : (h'.take h.length).all (O.under h.length) = true := by
    rw [List.all_eq_true]
    intro o ho
    obtain ⟨j, hj, ej⟩ := List.getElem_of_mem ho
    rw [List.length_take] at hj
    have q : (h'.take h.length)[j]? = some o := by rw [List.getElem?_eq_getElem (by rw [List.length_take]; exact hj), ej]
    rw [List.getElem?_take_of_lt (by omega)] at q
    exact ua j o (by omega) q
  simp only [z]
  rw [if_pos ⟨al, Nat.le_of_lt hl⟩]
section
variable {h : Hh} {i : Nat} {xs : List D} {d : D} {c : Bool} {ns ms : List Int}
theorem okR_cel {m : Me} (e : h[i]? = some (.lst xs)) (hm : m.isStr = false) : m.okR h (.cel i) = true := by
  unfold Me.okR
  rw [hm]
  show (asO h[i]?).isSome = true
  rw [e]; rfl
theorem me_append (e : h[i]? = some (.lst xs)) (hl : xs.length < LIM) : meD .append c (.cel i) [d] h = .ok .non (h.set i (.lst (xs ++ [d]))) := by
  show (match asO h[i]? with | some xs => meC .append i xs [d] h | none => .bad) = _
  rw [e]
  show (if xs.length < LIM then R.ok D.non (h.set i (.lst (xs ++ [d]))) else .bad) = _
  rw [if_pos hl]
theorem pys_ints : ∀ ns : List Int, pys (ns.map .int) = some (ns.map .int)
  | [] => rfl
  | n :: r => by simp [pys, py, pys_ints r]
theorem eqv_ints : ∀ a b : List Int, PyData.eqvAll (a.map .int) (b.map .int) = decide (a = b)
  | [], [] => rfl
  | [], _ :: _ => rfl
  | _ :: _, [] => rfl
  | x :: a, y :: b => by
    simp only [List.map_cons, PyData.eqvAll, PyData.eqv, eqv_ints a b, List.cons.injEq, Bool.decide_and]
    congr 1
end
/-! plain data: whole numbers, None, lists and tuples of them -/
def D.gv : Nat → D → Bool
  | _, .int _ => true
  | _, .non => true
  | n + 1, .lst xs => xs.all (D.gv n)
  | n + 1, .tup xs => xs.all (D.gv n)
  | _, _ => false
theorem gvs_py {n : Nat} (ih : ∀ d : D, d.gv n = true → ∃ p, py d = some p ∧ p.canLay0 = true ∧ p.depth ≤ n) : ∀ xs : List D, xs.all (D.gv n) = true → ∃ ps, pys xs = some ps ∧ PyData.canLayAll0 ps = true ∧ PyData.depthAll ps ≤ n
  | [], _ => ⟨[], rfl, rfl, Nat.zero_le _⟩
  | x :: xs, h => by
    simp only [List.all_cons, Bool.and_eq_true] at h
    obtain ⟨p, e1, e2, e3⟩ := ih x h.1
    obtain ⟨ps, f1, f2, f3⟩ := gvs_py ih xs h.2
    exact ⟨p :: ps, by simp [pys, e1, f1], by simp [PyData.canLayAll0, e2, f2], by simp only [PyData.depthAll]; omega⟩
theorem gv_py : ∀ (n : Nat) (d : D), d.gv n = true → ∃ p, py d = some p ∧ p.canLay0 = true ∧ p.depth ≤ n
  | n, .int i, _ => ⟨.int i, rfl, rfl, by simp [PyData.depth]⟩
  | n, .non, _ => ⟨.none, rfl, rfl, by simp [PyData.depth]⟩
  | n + 1, .lst xs, h => by
    obtain ⟨ps, e1, e2, e3⟩ := gvs_py (gv_py n) xs (by simpa [D.gv] using h)
    exact ⟨.list ps, by simp [py, e1], by simp [PyData.canLay0, e2], by simp only [PyData.depth]; omega⟩
  | n + 1, .tup xs, h => by
    obtain ⟨ps, e1, e2, e3⟩ := gvs_py (gv_py n) xs (by simpa [D.gv] using h)
    exact ⟨.tuple ps, by simp [py, e1], by simp [PyData.canLay0, e2], by simp only [PyData.depth]; omega⟩
  | 0, .lst xs, h => by simp [D.gv] at h
  | 0, .tup xs, h => by simp [D.gv] at h
  | n, .bl _, h => by cases n <;> simp [D.gv] at h
  | n, .str _, h => by cases n <;> simp [D.gv] at h
  | n, .kl _, h => by cases n <;> simp [D.gv] at h
  | n, .dic _, h => by cases n <;> simp [D.gv] at h
  | n, .kd _, h => by cases n <;> simp [D.gv] at h
  | n, .cel _, h => by cases n <;> simp [D.gv] at h
  | n, .cls _, h => by cases n <;> simp [D.gv] at h
  | n, .ty _, h => by cases n <;> simp [D.gv] at h
  | n, .exc _, h => by cases n <;> simp [D.gv] at h
theorem gvs_inj {n m : Nat} (ih : ∀ (d e : D) p q, d.gv n = true → e.gv m = true → py d = some p → py e = some q → (PyData.eqv p q = true ↔ d = e)) : ∀ (xs ys : List D) ps qs, xs.all (D.gv n) = true → ys.all (D.gv m) = true → pys xs = some ps → pys ys = some qs → (PyData.eqvAll ps qs = true ↔ xs = ys)
  | [], [], ps, qs, _, _, e1, e2 => by cases e1; cases e2; simp [PyData.eqvAll]
  | [], y :: ys, ps, qs, _, h2, e1, e2 => by
    cases e1
    simp only [pys] at e2
    cases q : py y with
    | none => rw [q] at e2; cases e2
    | some p =>
      cases q2 : pys ys with
      | none => rw [q, q2] at e2; cases e2
      | some r => rw [q, q2] at e2; cases e2; simp [PyData.eqvAll]
  | x :: xs, [], ps, qs, h1, _, e1, e2 => by
    cases e2
    simp only [pys] at e1
    cases q : py x with
    | none => rw [q] at e1; cases e1
    | some p =>
      cases q2 : pys xs with
      | none => rw [q, q2] at e1; cases e1
      | some r => rw [q, q2] at e1; cases e1; simp [PyData.eqvAll]
  | x :: xs, y :: ys, ps, qs, h1, h2, e1, e2 => by
    simp only [List.all_cons, Bool.and_eq_true] at h1 h2
    simp only [pys] at e1 e2
    cases q : py x with
    | none => rw [q] at e1; cases e1
    | some p =>
      cases q2 : pys xs with
      | none => rw [q, q2] at e1; cases e1
      | some r =>
        rw [q, q2] at e1
        cases e1
        cases q3 : py y with
        | none => rw [q3] at e2; cases e2
        | some p' =>
          cases q4 : pys ys with
          | none => rw [q3, q4] at e2; cases e2
          | some r' =>
            rw [q3, q4] at e2
            cases e2
            simp only [PyData.eqvAll, Bool.and_eq_true, List.cons.injEq, ih x y p p' h1.1 h2.1 q q3, gvs_inj ih xs ys r r' h1.2 h2.2 q2 q4]
theorem gv_inj : ∀ (n m : Nat) (d e : D) p q, d.gv n = true → e.gv m = true → py d = some p → py e = some q → (PyData.eqv p q = true ↔ d = e) := by
  intro n
  induction n with
  | zero =>
    intro m d e p q h1 h2 e1 e2
    cases d <;> first | (simp [D.gv] at h1; done) | skip
    · cases e1
      cases e <;> first | (cases m <;> simp [D.gv] at h2; done) | skip
      · cases e2; simp [PyData.eqv]
      · cases e2; simp [PyData.eqv]
      · rename_i xs; simp only [py] at e2; cases z : pys xs with
        | none => rw [z] at e2; cases e2
        | some r => rw [z] at e2; cases e2; simp [PyData.eqv]
      · rename_i xs; simp only [py] at e2; cases z : pys xs with
        | none => rw [z] at e2; cases e2
        | some r => rw [z] at e2; cases e2; simp [PyData.eqv]
    · cases e1
      cases e <;> first | (cases m <;> simp [D.gv] at h2; done) | skip
      · cases e2; simp [PyData.eqv]
      · cases e2; simp [PyData.eqv]
      · rename_i xs; simp only [py] at e2; cases z : pys xs with
        | none => rw [z] at e2; cases e2
        | some r => rw [z] at e2; cases e2; simp [PyData.eqv]
      · rename_i xs; simp only [py] at e2; cases z : pys xs with
        | none => rw [z] at e2; cases e2
        | some r => rw [z] at e2; cases e2; simp [PyData.eqv]
  | succ n ih =>
    intro m d e p q h1 h2 e1 e2
    cases d <;> first | (simp [D.gv] at h1; done) | skip
    · cases e1
      cases e <;> first | (cases m <;> simp [D.gv] at h2; done) | skip
      · cases e2; simp [PyData.eqv]
      · cases e2; simp [PyData.eqv]
      · rename_i xs; simp only [py] at e2; cases z : pys xs with
        | none => rw [z] at e2; cases e2
        | some r => rw [z] at e2; cases e2; simp [PyData.eqv]
      · rename_i xs; simp only [py] at e2; cases z : pys xs with
        | none => rw [z] at e2; cases e2
        | some r => rw [z] at e2; cases e2; simp [PyData.eqv]
    · cases e1
      cases e <;> first | (cases m <;> simp [D.gv] at h2; done) | skip
      · cases e2; simp [PyData.eqv]
      · cases e2; simp [PyData.eqv]
      · rename_i xs; simp only [py] at e2; cases z : pys xs with
        | none => rw [z] at e2; cases e2
        | some r => rw [z] at e2; cases e2; simp [PyData.eqv]
      · rename_i xs; simp only [py] at e2; cases z : pys xs with
        | none => rw [z] at e2; cases e2
        | some r => rw [z] at e2; cases e2; simp [PyData.eqv]
    · rename_i xs
      simp only [py] at e1
      cases z1 : pys xs with
      | none => rw [z1] at e1; cases e1
      | some ps =>
        rw [z1] at e1
        cases e1
        cases e <;> first | (cases m <;> simp [D.gv] at h2; done) | skip
        · cases e2; simp [PyData.eqv]
        · cases e2; simp [PyData.eqv]
        · rename_i ys; simp only [py] at e2; cases z : pys ys with
          | none => rw [z] at e2; cases e2
          | some r =>
            rw [z] at e2
            cases e2
            cases m with
            | zero => simp [D.gv] at h2
            | succ m => simp only [PyData.eqv, D.lst.injEq, D.tup.injEq]; exact gvs_inj (ih m) xs ys ps r (by simpa [D.gv] using h1) (by simpa [D.gv] using h2) z1 z
        · rename_i ys; simp only [py] at e2; cases z : pys ys with
          | none => rw [z] at e2; cases e2
          | some r => rw [z] at e2; cases e2; simp [PyData.eqv]
    · rename_i xs
      simp only [py] at e1
      cases z1 : pys xs with
      | none => rw [z1] at e1; cases e1
      | some ps =>
        rw [z1] at e1
        cases e1
        cases e <;> first | (cases m <;> simp [D.gv] at h2; done) | skip
        · cases e2; simp [PyData.eqv]
        · cases e2; simp [PyData.eqv]
        · rename_i ys; simp only [py] at e2; cases z : pys ys with
          | none => rw [z] at e2; cases e2
          | some r => rw [z] at e2; cases e2; simp [PyData.eqv]
        · rename_i ys; simp only [py] at e2; cases z : pys ys with
          | none => rw [z] at e2; cases e2
          | some r =>
            rw [z] at e2
            cases e2
            cases m with
            | zero => simp [D.gv] at h2
            | succ m => simp only [PyData.eqv, D.lst.injEq, D.tup.injEq]; exact gvs_inj (ih m) xs ys ps r (by simpa [D.gv] using h1) (by simpa [D.gv] using h2) z1 z
/-- == of plain data -/
theorem eq_gv {h : Hh} {n m : Nat} {a b : D} (h1 : a.gv n = true) (h2 : b.gv m = true) (hn : n ≤ 60) (hm : m ≤ 60) : ∃ r : Bool, cmpD .Eq h a b = some r ∧ cmpD .NotEq h a b = some (!r) ∧ (r = true ↔ a = b) := by
  obtain ⟨p, e1, l1, d1⟩ := gv_py n a h1
  obtain ⟨q, e2, l2, d2⟩ := gv_py m b h2
  have sh : ∀ x : PyData, x.canLay0 = true → x.depth ≤ 60 → SeqAt.shaped x = true := fun x c d => by
    unfold SeqAt.shaped
    rw [c, decide_eq_true (by omega : x.depth ≤ 64)]; rfl
  have tp : ∀ {d : D} {n : Nat}, d.gv n = true → toPy h d = py d := fun {d n} z => by
    cases d <;> first | rfl | (cases n <;> simp [D.gv] at z)
  have main : eqP (toPy h a) (toPy h b) = some (PyData.eqv p q) := by
    rw [tp h1, tp h2, e1, e2]
    show (if SeqAt.shaped p = true ∧ SeqAt.shaped q = true then some (PyData.eqv p q) else none) = _
    rw [if_pos ⟨sh p l1 (by omega), sh q l2 (by omega)⟩]
  have inj := gv_inj n m a b p q h1 h2 e1 e2
  refine ⟨PyData.eqv p q, ?_, ?_, inj⟩
  · show eqD h a b = _
    unfold eqD
    split
    · cases e1; cases e2; rfl
    · exact absurd h1 (by cases n <;> simp [D.gv])
    · rw [main]
  · show (eqD h a b).map not = _
    have : eqD h a b = some (PyData.eqv p q) := by
      unfold eqD
      split
      · cases e1; cases e2; rfl
      · exact absurd h1 (by cases n <;> simp [D.gv])
      · rw [main]
    rw [this]; rfl
theorem gv_ints {n : Nat} (ns : List Int) : D.gv (n + 1) (.lst (ns.map .int)) = true := by
  simp [D.gv, List.all_map]
section
variable {h : Hh} {ns ms : List Int}
theorem map_int_inj : ∀ {ns ms : List Int}, ns.map D.int = ms.map D.int ↔ ns = ms
  | [], [] => by simp
  | [], _ :: _ => by simp
  | _ :: _, [] => by simp
  | n :: ns, m :: ms => by simp only [List.map_cons, List.cons.injEq, D.int.injEq, map_int_inj]
theorem eq_ints : cmpD .Eq h (.lst (ns.map .int)) (.lst (ms.map .int)) = some (decide (ns = ms)) := by
  obtain ⟨r, e, _, q⟩ := eq_gv (h := h) (gv_ints (n := 0) ns) (gv_ints (n := 0) ms) (by omega) (by omega)
  rw [e]
  congr 1
  rw [Bool.eq_iff_iff, q, decide_eq_true_eq]
  rw [D.lst.injEq, map_int_inj]
theorem ne_ints : cmpD .NotEq h (.lst (ns.map .int)) (.lst (ms.map .int)) = some (!decide (ns = ms)) := by
  show (cmpD .Eq h (.lst (ns.map .int)) (.lst (ms.map .int))).map not = _
  rw [eq_ints]; rfl
theorem ne_ints0 : cmpD .NotEq h (.lst (ns.map .int)) (.lst []) = some (!decide (ns = [])) := ne_ints (ms := [])
theorem eq_ints0 : cmpD .Eq h (.lst (ns.map .int)) (.lst []) = some (decide (ns = [])) := eq_ints (ms := [])
end
end Tb
namespace Tb
open PySem PySem.Spec PyProof.Rows L2
theorem em_l (a x p : Int) : a % p * x % p = a * x % p := by rw [Int.mul_emod, Int.emod_emod, ← Int.mul_emod]
theorem em_r (a x p : Int) : x * (a % p) % p = x * a % p := by rw [Int.mul_emod, Int.emod_emod, ← Int.mul_emod]
section
variable {g : D → Ls → Option Ls} {b : Ls → Hh → RS} {t : Ls → Hh → R Bool} {f : Ls → Hh → R D} {ls : Ls} {h : Hh}
theorem loopL_cons {x : D} {xs : List D} : loopL g b (x :: xs) ls h = match g x ls with
    | none => .bad
    | some l1 => match b l1 h with
      | .nx l2 h2 => loopL g b xs l2 h2
      | .ct l2 h2 => loopL g b xs l2 h2
      | .bk l2 h2 => .nx l2 h2
      | r => r := rfl
theorem whileR_succ {t : Ls → Hh → R Bool} {n : Nat} : whileR t b (n + 1) ls h = ofR (t ls h) ls fun k h1 => if k = true then (match b ls h1 with
    | .nx l2 h2 => whileR t b n l2 h2
    | .ct l2 h2 => whileR t b n l2 h2
    | .bk l2 h2 => .nx l2 h2
    | r => r) else .nx ls h1 := by
  show (match t ls h with | .bad => _ | .exc c h1 => _ | .ok false h1 => _ | .ok true h1 => _) = _
  cases t ls h with
  | ok kk h1 => cases kk <;> rfl
  | exc c h1 => rfl
  | bad => rfl
/-- a for that reckons, the heap as it is -/
theorem loopL_fold {S : Type} (st : S → Ls) (k : S → D → S) (I : S → Prop) : ∀ (xs : List D) (s : S), I s → (∀ s x, x ∈ xs → I s → I (k s x) ∧ ∃ l1, g x (st s) = some l1 ∧ b l1 h = .nx (st (k s x)) h) → loopL g b xs (st s) h = .nx (st (xs.foldl k s)) h ∧ I (xs.foldl k s)
  | [], s, i, _ => ⟨rfl, i⟩
  | x :: xs, s, i, step => by
    obtain ⟨i2, l1, e1, e2⟩ := step s x List.mem_cons_self i
    obtain ⟨e3, i3⟩ := loopL_fold st k I xs (k s x) i2 fun s y hy => step s y (List.mem_cons_of_mem _ hy)
    refine ⟨?_, i3⟩
    rw [loopL_cons, e1]
    simp only [e2]
    exact e3
/-- a comprehension that leaves the heap as it is -/
theorem compL_map (l : D → Ls) (p : D → Bool) (v : D → D) : ∀ xs : List D, (∀ x ∈ xs, g x ls = some (l x) ∧ t (l x) h = .ok (p x) h ∧ (p x = true → f (l x) h = .ok (v x) h)) → compL g t f ls xs h = .ok ((xs.filter p).map v) h
  | [], _ => rfl
  | x :: xs, hx => by
    obtain ⟨e1, e2, e3⟩ := hx x List.mem_cons_self
    have ih := compL_map l p v xs fun y hy => hx y (List.mem_cons_of_mem _ hy)
    have un : compL g t f ls (x :: xs) h = match g x ls with
      | none => .bad
      | some l1 => (t l1 h).bind fun b h1 => if b = true then (f l1 h1).bind fun d h2 => (compL g t f ls xs h2).bind fun ds h3 => .ok (d :: ds) h3 else compL g t f ls xs h1 := rfl
    rw [un, e1]
    simp only [e2, bind_ok]
    cases hp : p x with
    | true => simp [e3 hp, ih, hp]
    | false => simp [ih, hp]
theorem compR_lst {xs : List D} (hl : xs.length ≤ LIM) : compR (.seq (.lst xs)) g t f ls h = compL g t f ls xs h := by
  show (if xs.length ≤ LIM then compL g t f ls xs h else .bad) = _
  rw [if_pos hl]
theorem compR_tup {xs : List D} (hl : xs.length ≤ LIM) : compR (.seq (.tup xs)) g t f ls h = compL g t f ls xs h := by
  show (if xs.length ≤ LIM then compL g t f ls xs h else .bad) = _
  rw [if_pos hl]
theorem compR_rng {lo st : Int} {n : Nat} (hl : n ≤ LIM) : compR (.rng lo n st) g t f ls h = compL g t f ls (rngL lo st n) h := by
  show (if (rngL lo st n).length ≤ LIM then compL g t f ls (rngL lo st n) h else .bad) = _
  rw [if_pos (by rw [rngL_len]; exact hl)]
theorem forR_rev {xs : List D} : forR (.rev (.lst xs) xs.length) g b ls h = loopL g b xs.reverse ls h := by
  show (match (if xs.length = xs.length then some xs.reverse else none) with | some xs => loopL g b xs ls h | none => .bad) = _
  rw [if_pos rfl]
theorem rngL_eq {lo : Int} : ∀ {n : Nat} {lo : Int}, rngL lo 1 n = (List.range n).map fun (i : Nat) => D.int (lo + i) := by
  intro n
  induction n with
  | zero => intro lo; rfl
  | succ n ih =>
    intro lo
    rw [List.range_succ_eq_map]
    show D.int lo :: rngL (lo + 1) 1 n = _
    rw [ih]
    simp only [List.map_cons, List.map_map]
    congr 1
    · simp
    · apply List.map_congr_left
      intro i _
      simp only [Function.comp]
      congr 1
      omega
@[simp] theorem mkIt_rev {xs : List D} {h : Hh} : ((asL h (.lst xs)).map fun ys => Tb.It.rev (.lst xs) ys.length) = some (.rev (.lst xs) xs.length) := rfl
@[simp] theorem mkIt_enu {xs : List D} {h : Hh} : ((asL h (.lst xs)).map fun _ => Tb.It.enu (.lst xs)) = some (.enu (.lst xs)) := rfl
theorem compR_rev {xs : List D} (hl : xs.length ≤ LIM) : compR (.rev (.lst xs) xs.length) g t f ls h = compL g t f ls xs.reverse h := by
  show (match (if xs.length = xs.length then some xs.reverse else none) with | some xs => (if xs.length ≤ LIM then compL g t f ls xs h else .bad) | none => .bad) = _
  rw [if_pos rfl]
  show (if xs.reverse.length ≤ LIM then compL g t f ls xs.reverse h else .bad) = _
  rw [if_pos (by simpa using hl)]
theorem me_extend {i : Nat} {xs ys : List D} {c : Bool} (e : h[i]? = some (.lst xs)) (hl : xs.length + ys.length ≤ LIM) : meD .extend c (.cel i) [.lst ys] h = .ok .non (h.set i (.lst (xs ++ ys))) := by
  show (match asO h[i]? with | some xs => meC .extend i xs [.lst ys] h | none => .bad) = _
  rw [e]
  show (if xs.length + ys.length ≤ LIM then R.ok D.non (h.set i (.lst (xs ++ ys))) else .bad) = _
  rw [if_pos hl]
theorem cmp_cel {i : Nat} {xs : List D} {b : D} (e : h[i]? = some (.lst xs)) (o : CmpOp) (ho : o = .Eq ∨ o = .NotEq) : cmpD o h (.cel i) b = cmpD o h (.lst xs) b := by
  have z : eqD h (.cel i) b = eqD h (.lst xs) b := by
    have t : toPy h (.cel i) = toPy h (.lst xs) := by
      show (asO h[i]?).bind (fun xs => (pys xs).map PyData.list) = _
      rw [e]; rfl
    have n : neLen h (.cel i) b = neLen h (.lst xs) b := by
      have : asT h (.cel i) = asT h (.lst xs) := by show asO h[i]? = _; rw [e]; rfl
      have z : pyN h 8 (.cel i) = pyN h 8 (.lst xs) := by
        show (asO h[i]?).bind (fun xs => (mapO (pyN h 7) xs).map PyData.list) = _
        rw [e]; rfl
      unfold neLen; rw [this, z]
    show (match eqP (toPy h (.cel i)) (toPy h b) with | some r => some r | none => neLen h (.cel i) b) = (match eqP (toPy h (.lst xs)) (toPy h b) with | some r => some r | none => neLen h (.lst xs) b)
    rw [t, n]
  rcases ho with rfl | rfl
  · exact z
  · show (eqD h (.cel i) b).map not = _
    rw [z]; rfl
theorem set_last {i : Nat} {xs : List D} {v : D} (e : h[i]? = some (.lst xs)) (q : xs ≠ []) : setD (.cel i) (.int (-1)) v h = .ok () (h.set i (.lst (xs.set (xs.length - 1) v))) := by
  have hl : 0 < xs.length := List.length_pos_iff.mpr q
  show (match h[i]? with | some (.lst xs) => (match ixN xs.length (-1) with | some j => R.ok () (h.set i (.lst (xs.set j v))) | none => .bad) | _ => .bad) = _
  rw [e]
  have z : ixN xs.length (-1) = some (xs.length - 1) := by
    unfold ixN
    rw [if_neg (by omega), if_pos (by omega)]
    congr 1
    omega
  simp only [z]
end
end Tb
namespace Tb
open PySem PySem.Spec PyProof.Rows L2
/-! slices, sorted, pop, truths, finite checks -/
theorem cut_up {xs : List D} {k : Int} (q : 0 ≤ k) : cutD xs none (some k) = xs.take k.toNat := by
  unfold cutD
  have e : HT.sIx xs.length xs.length (some k) = min k.toNat xs.length := by
    obtain ⟨j, rfl⟩ : ∃ j : Nat, k = j := ⟨k.toNat, by omega⟩
    rw [HT.sIx_nat]; rfl
  rw [e, HT.sIx_none, List.drop_zero, Nat.sub_zero]
  by_cases z : k.toNat ≤ xs.length
  · rw [Nat.min_eq_left z]
  · rw [Nat.min_eq_right (by omega), List.take_length, List.take_of_length_le (by omega)]
theorem cut_lo {xs : List D} {k : Int} (q : 0 ≤ k) : cutD xs (some k) none = xs.drop k.toNat := by
  unfold cutD
  have e : HT.sIx xs.length 0 (some k) = min k.toNat xs.length := by
    obtain ⟨j, rfl⟩ : ∃ j : Nat, k = j := ⟨k.toNat, by omega⟩
    rw [HT.sIx_nat]; rfl
  rw [e, HT.sIx_none]
  by_cases z : k.toNat ≤ xs.length
  · rw [Nat.min_eq_left z, List.take_of_length_le (by rw [List.length_drop]; omega)]
  · rw [Nat.min_eq_right (by omega), List.drop_of_length_le (Nat.le_refl _), List.drop_of_length_le (by omega)]
    simp
section
variable {h : Hh} {i : Nat} {xs : List D} {c : Bool} {ns ms : List Int} {k : Int} {a b : Bool} {d : D}
theorem slc_up_lst (q : 0 ≤ k) : slcD c (.lst xs) none (some k) h = mkL c (xs.take k.toNat) h := by
  show mkL c (cutD xs none (some k)) h = _
  rw [cut_up q]
theorem slc_lo_lst (q : 0 ≤ k) : slcD c (.lst xs) (some k) none h = mkL c (xs.drop k.toNat) h := by
  show mkL c (cutD xs (some k) none) h = _
  rw [cut_lo q]
theorem slc_up_cel (e : h[i]? = some (.lst xs)) (q : 0 ≤ k) : slcD c (.cel i) none (some k) h = mkL c (xs.take k.toNat) h := by
  show slcL c (asO h[i]?) none (some k) h = _
  rw [e]
  show mkL c (cutD xs none (some k)) h = _
  rw [cut_up q]
theorem slc_lo_cel (e : h[i]? = some (.lst xs)) (q : 0 ≤ k) : slcD c (.cel i) (some k) none h = mkL c (xs.drop k.toNat) h := by
  show slcL c (asO h[i]?) (some k) none h = _
  rw [e]
  show mkL c (cutD xs (some k) none) h = _
  rw [cut_lo q]
@[simp] theorem withI_int {α : Type} {f : Int → R α} : withI (.int k) f = f k := rfl
theorem asInts_map : ∀ ns : List Int, asInts (ns.map .int) = some ns
  | [] => rfl
  | n :: r => by simp [asInts, asInts_map r]
theorem sorted_lst : biD .sorted c [.lst (ns.map .int)] h = mkL c ((sortI ns).map .int) h := by
  have e : intsOf h (.lst (ns.map .int)) = some ns := asInts_map ns
  show sortD c _ h = _
  unfold sortD
  rw [e]; rfl
theorem sorted_cel (e : h[i]? = some (.lst (ns.map .int))) : biD .sorted c [.cel i] h = mkL c ((sortI ns).map .int) h := by
  have e : intsOf h (.cel i) = some ns := by
    show (asO h[i]?).bind asInts = _
    rw [e]
    exact asInts_map ns
  show sortD c _ h = _
  unfold sortD
  rw [e]; rfl
theorem sortI_self (p : ns.Pairwise (· ≤ ·)) : sortI ns = ns := sorted_one (sortI_perm ns) (sortI_sorted ns) p
theorem list_cel (e : h[i]? = some (.lst xs)) : biD .list c [.cel i] h = mkL c xs h := by
  show (match asO h[i]? with | some xs => mkL c xs h | none => .bad) = _
  rw [e]; rfl
@[simp] theorem asL_lst : asL h (.lst xs) = some xs := rfl
@[simp] theorem asL_kl : asL h (.kl xs) = some xs := rfl
theorem asL_cel (e : h[i]? = some (.lst xs)) : asL h (.cel i) = some xs := by
  show asO h[i]? = _
  rw [e]; rfl
@[simp] theorem list_kl : biD .list c [.kl xs] h = mkL c xs h := rfl
theorem me_pop (e : h[i]? = some (.lst (ns.map .int))) (q0 : 0 ≤ k) (q : k.toNat < ns.length) : meD .pop c (.cel i) [.int k] h = .ok (.int ns[k.toNat]) (h.set i (.lst ((ns.eraseIdx k.toNat).map .int))) := by
  show (match asO h[i]? with | some xs => meC .pop i xs [.int k] h | none => .bad) = _
  rw [e]
  show (match ixN (ns.map D.int).length k with | some j => setC ((ns.map D.int)[j]?) i ((ns.map D.int).eraseIdx j) h | none => .bad) = _
  have z : ixN (ns.map D.int).length k = some k.toNat := by
    unfold ixN
    rw [if_pos q0, List.length_map, if_pos (by omega)]
  rw [z]
  show setC ((ns.map D.int)[k.toNat]?) i ((ns.map D.int).eraseIdx k.toNat) h = _
  rw [List.getElem?_map, List.getElem?_eq_getElem q, erase_mapD]
  rfl
theorem me_popL (e : h[i]? = some (.lst xs)) (q : xs ≠ []) : meD .pop c (.cel i) [] h = .ok (xs.getLast q) (h.set i (.lst xs.dropLast)) := by
  show (match asO h[i]? with | some xs => meC .pop i xs [] h | none => .bad) = _
  rw [e]
  show setC (xs[xs.length - 1]?) i xs.dropLast h = _
  rw [← List.getLast?_eq_getElem?, List.getLast?_eq_some_getLast q]
  rfl
@[simp] theorem aug_add {n m : Int} : augD .Add (.int n) (.int m) h = .ok (.int (n + m)) h := rfl
@[simp] theorem aug_sub {n m : Int} : augD .Sub (.int n) (.int m) h = .ok (.int (n - m)) h := rfl
theorem aug_mul {n m : Int} (h1 : small n = true) (h2 : small m = true) : augD .Mult (.int n) (.int m) h = .ok (.int (n * m)) h := by
  show (if small n = true ∧ small m = true then (R.ok (D.int (n * m)) h : R D) else .bad) = _
  rw [if_pos ⟨h1, h2⟩]
@[simp] theorem eq_bl : cmpD .Eq h (.bl a) (.bl b) = some (decide (a = b)) := by cases h <;> cases a <;> cases b <;> rfl
@[simp] theorem ne_bl : cmpD .NotEq h (.bl a) (.bl b) = some (!decide (a = b)) := by cases h <;> cases a <;> cases b <;> rfl
@[simp] theorem is_bl : cmpD .Is h (.bl a) (.bl b) = some (decide (a = b)) := rfl
@[simp] theorem isN_bl : cmpD .IsNot h (.bl a) (.bl b) = some (!decide (a = b)) := rfl
@[simp] theorem is_tup : cmpD .Is h (.tup xs) .non = some false := rfl
@[simp] theorem isN_tup : cmpD .IsNot h (.tup xs) .non = some true := rfl
@[simp] theorem is_lst : cmpD .Is h (.lst xs) .non = some false := rfl
@[simp] theorem isN_lst : cmpD .IsNot h (.lst xs) .non = some true := rfl
@[simp] theorem is_cel : cmpD .Is h (.cel i) .non = some false := rfl
@[simp] theorem isN_cel : cmpD .IsNot h (.cel i) .non = some true := rfl
theorem seqOf_cel (e : h[i]? = some (.lst xs)) : seqOf h (.cel i) = some xs := by
  show asO h[i]? = _
  rw [e]; rfl
theorem ne_cel_ints (e : h[i]? = some (.lst (ns.map .int))) : cmpD .NotEq h (.cel i) (.lst (ms.map .int)) = some (!decide (ns = ms)) := by
  rw [cmp_cel e .NotEq (.inr rfl), ne_ints]
theorem eq_cel_ints (e : h[i]? = some (.lst (ns.map .int))) : cmpD .Eq h (.cel i) (.lst (ms.map .int)) = some (decide (ns = ms)) := by
  rw [cmp_cel e .Eq (.inl rfl), eq_ints]
theorem ne_cel_nil (e : h[i]? = some (.lst (ns.map .int))) : cmpD .NotEq h (.cel i) (.lst []) = some (!decide (ns = [])) := ne_cel_ints (ms := []) e
end
theorem fn0 {C : Cs} {n : Nat} {p : Ss} {h : Hh} : fnS C n 0 p [] h = endR (evSs C p (List.replicate n none) h) := fnS_run (np := 0) (ds := []) rfl
/-! what the kernel reckons -/
def chkL (r : R D) (ns : List Int) : Bool := match r with
  | .ok (.lst xs) _ => intsL xs == some ns
  | _ => false
theorem chkL_ok {r : R D} {ns : List Int} (e : chkL r ns = true) : ∃ h', r = .ok (.lst (ns.map .int)) h' := by
  unfold chkL at e
  split at e
  · rename_i xs h'
    exact ⟨h', by rw [intsL_eq (eq_of_beq e)]⟩
  · cases e
def chkB (r : R D) (b : Bool) : Bool := match r with
  | .ok (.bl c) _ => c == b
  | _ => false
theorem chkB_ok {r : R D} {b : Bool} (e : chkB r b = true) : ∃ h', r = .ok (.bl b) h' := by
  unfold chkB at e
  split at e
  · rename_i c h'
    exact ⟨h', by rw [eq_of_beq e]⟩
  · cases e
section
variable {g : D → Ls → Option Ls} {b : Ls → Hh → RS} {t : Ls → Hh → R Bool} {f : Ls → Hh → R D} {ls : Ls} {h : Hh}
/-- over what stands in a cell that the body leaves as it is -/
theorem loopI_loopL {it : Tb.It} {xs : List D} (P : Ls → Hh → Prop) (hp : ∀ l h, P l h → it.items h = some xs) (st : ∀ x l h, x ∈ xs → P l h → ∃ l1, g x l = some l1 ∧ ∀ l2 h2, (b l1 h = .nx l2 h2 ∨ b l1 h = .ct l2 h2) → P l2 h2) :
    ∀ (n i : Nat) (ys : List D), xs.drop i = ys → ys.length < n → ∀ ls h, P ls h → loopI it g b n i ls h = loopL g b ys ls h
  | 0, _, _, _, hl, _, _, _ => absurd hl (Nat.not_lt_zero _)
  | n + 1, i, ys, e, hl, ls, h, p => by
    have un : loopI it g b (n + 1) i ls h = match it.items h with
      | none => .bad
      | some xs => match xs[i]? with
        | none => .nx ls h
        | some x => match g x ls with
          | none => .bad
          | some l1 => match b l1 h with
            | .nx l2 h2 => loopI it g b n (i + 1) l2 h2
            | .ct l2 h2 => loopI it g b n (i + 1) l2 h2
            | .bk l2 h2 => .nx l2 h2
            | r => r := rfl
    rw [un, hp ls h p]
    cases ys with
    | nil =>
      have : xs.length ≤ i := by
        have := congrArg List.length e
        rw [List.length_drop] at this
        simp at this
        omega
      simp only [List.getElem?_eq_none this]
      rfl
    | cons x r =>
      have ex : xs[i]? = some x := by
        have := congrArg (fun l : List D => l[0]?) e
        simpa using this
      have er : xs.drop (i + 1) = r := by
        have := congrArg List.tail e
        simpa using this
      obtain ⟨l1, g1, s⟩ := st x ls h (List.mem_of_getElem? ex) p
      simp only [ex]
      rw [loopL_cons, g1]
      cases q : b l1 h with
      | nx l2 h2 => simp only [q]; exact loopI_loopL P hp st n (i + 1) r er (by simpa using hl) l2 h2 (s _ _ (.inl q))
      | ct l2 h2 => simp only [q]; exact loopI_loopL P hp st n (i + 1) r er (by simpa using hl) l2 h2 (s _ _ (.inr q))
      | bk l2 h2 => simp only [q]
      | rt d h2 => simp only [q]
      | exc c l2 h2 => simp only [q]
      | bad => simp only [q]
/-- a comprehension over a cell that leaves the heap as it is -/
theorem compI_map {it : Tb.It} {xs : List D} (hi : it.items h = some xs) (l : D → Ls) (p : D → Bool) (v : D → D) (hx : ∀ x ∈ xs, g x ls = some (l x) ∧ t (l x) h = .ok (p x) h ∧ (p x = true → f (l x) h = .ok (v x) h)) :
    ∀ (n i : Nat) (ys : List D), xs.drop i = ys → ys.length < n → compI it g t f ls n i h = .ok ((ys.filter p).map v) h
  | 0, _, _, _, hl => absurd hl (Nat.not_lt_zero _)
  | n + 1, i, ys, e, hl => by
    have un : compI it g t f ls (n + 1) i h = match it.items h with
      | none => .bad
      | some xs => match xs[i]? with
        | none => .ok [] h
        | some x => match g x ls with
          | none => .bad
          | some l1 => (t l1 h).bind fun b h1 => if b = true then (f l1 h1).bind fun d h2 => (compI it g t f ls n (i + 1) h2).bind fun ds h3 => .ok (d :: ds) h3 else compI it g t f ls n (i + 1) h1 := rfl
    rw [un, hi]
    cases ys with
    | nil =>
      have : xs.length ≤ i := by
        have := congrArg List.length e
        rw [List.length_drop] at this
        simp at this
        omega
      simp only [List.getElem?_eq_none this]
      rfl
    | cons x r =>
      have ex : xs[i]? = some x := by
        have := congrArg (fun l : List D => l[0]?) e
        simpa using this
      have er : xs.drop (i + 1) = r := by
        have := congrArg List.tail e
        simpa using this
      obtain ⟨e1, e2, e3⟩ := hx x (List.mem_of_getElem? ex)
      have ih := compI_map hi l p v hx n (i + 1) r er (by simpa using hl)
      simp only [ex, e1, e2, bind_ok]
      cases hp : p x with
      | true => simp [e3 hp, ih, hp]
      | false => simp [ih, hp]
theorem compR_cel {i : Nat} {xs : List D} (e : h[i]? = some (.lst xs)) (hl : xs.length < FUEL) (l : D → Ls) (p : D → Bool) (v : D → D) (hx : ∀ x ∈ xs, g x ls = some (l x) ∧ t (l x) h = .ok (p x) h ∧ (p x = true → f (l x) h = .ok (v x) h)) :
    compR (.seq (.cel i)) g t f ls h = .ok ((xs.filter p).map v) h :=
  compI_map (it := .seq (.cel i)) (seqOf_cel e) l p v hx FUEL 0 xs rfl hl
theorem forR_enu {xs : List D} : forR (.enu (.lst xs)) g b ls h = loopL g b (enumL 0 xs) ls h := rfl
end
end Tb
namespace Tb
open PySem PySem.Spec PyProof.Rows L2
/-! ### what is wanted of the own texts, step by step -/
def W {α : Type} (r : R α) (Q : α → Hh → Prop) : Prop := match r with
  | .ok a h => Q a h
  | _ => False
def WS (r : RS) (N : Ls → Hh → Prop) (T : D → Hh → Prop) (B K : Ls → Hh → Prop) : Prop := match r with
  | .nx l h => N l h
  | .rt d h => T d h
  | .bk l h => B l h
  | .ct l h => K l h
  | _ => False
def no2 : Ls → Hh → Prop := fun _ _ => False
section
variable {α β : Type} {r : R α} {h : Hh} {ls : Ls} {N N' B B' K K' : Ls → Hh → Prop} {T T' : D → Hh → Prop} {Q Q' : α → Hh → Prop} {C : Cs}
@[simp] theorem W_ok {a : α} : W (.ok a h) Q = Q a h := rfl
@[simp] theorem W_bad : W (.bad : R α) Q = False := rfl
@[simp] theorem W_exc {c : Str} : W (.exc c h : R α) Q = False := rfl
@[simp] theorem W_bind {f : α → Hh → R β} {Q : β → Hh → Prop} : W (r.bind f) Q = W r fun a h => W (f a h) Q := by cases r <;> rfl
@[simp] theorem W_noX : W (noX r) Q = W r Q := by cases r <;> rfl
@[simp] theorem W_ite {c : Prop} [Decidable c] {a b : R α} : W (if c then a else b) Q = ((c → W a Q) ∧ (¬ c → W b Q)) := by
  by_cases q : c
  · rw [if_pos q]; exact propext ⟨fun z => ⟨fun _ => z, fun n => absurd q n⟩, fun z => z.1 q⟩
  · rw [if_neg q]; exact propext ⟨fun z => ⟨fun y => absurd y q, fun _ => z⟩, fun z => z.2 q⟩
theorem W.imp (w : W r Q) (i : ∀ a h, Q a h → Q' a h) : W r Q' := by
  cases r with
  | ok a h => exact i a h w
  | exc c h => exact w
  | bad => exact w
theorem W.ex (w : W r Q) : ∃ a h, r = .ok a h ∧ Q a h := by
  cases r with
  | ok a h => exact ⟨a, h, rfl, w⟩
  | exc c h => exact w.elim
  | bad => exact w.elim
theorem W.of {a : α} (e : r = .ok a h) (q : Q a h) : W r Q := by rw [e]; exact q
@[simp] theorem WS_nx : WS (.nx ls h) N T B K = N ls h := rfl
@[simp] theorem WS_rt {d : D} : WS (.rt d h) N T B K = T d h := rfl
@[simp] theorem WS_bk : WS (.bk ls h) N T B K = B ls h := rfl
@[simp] theorem WS_ct : WS (.ct ls h) N T B K = K ls h := rfl
@[simp] theorem WS_bad : WS .bad N T B K = False := rfl
@[simp] theorem WS_exc {c : Str} : WS (.exc c ls h) N T B K = False := rfl
@[simp] theorem WS_ofR {k : α → Hh → RS} : WS (ofR r ls k) N T B K = W r fun d h => WS (k d h) N T B K := by cases r <;> rfl
@[simp] theorem WS_seq {r : RS} {k : Ls → Hh → RS} : WS (seqR r k) N T B K = WS r (fun l h => WS (k l h) N T B K) T B K := by cases r <;> rfl
@[simp] theorem WS_ite {c : Prop} [Decidable c] {a b : RS} : WS (if c then a else b) N T B K = ((c → WS a N T B K) ∧ (¬ c → WS b N T B K)) := by
  by_cases q : c
  · rw [if_pos q]; exact propext ⟨fun z => ⟨fun _ => z, fun n => absurd q n⟩, fun z => z.1 q⟩
  · rw [if_neg q]; exact propext ⟨fun z => ⟨fun y => absurd y q, fun _ => z⟩, fun z => z.2 q⟩
theorem WS.imp {r : RS} (w : WS r N T B K) (n : ∀ l h, N l h → N' l h) (t : ∀ d h, T d h → T' d h) (b : ∀ l h, B l h → B' l h) (k : ∀ l h, K l h → K' l h) : WS r N' T' B' K' := by
  cases r with
  | nx l h => exact n _ _ w
  | rt d h => exact t _ _ w
  | bk l h => exact b _ _ w
  | ct l h => exact k _ _ w
  | exc c l h => exact w
  | bad => exact w
@[simp] theorem no2_eq : no2 ls h = False := rfl
theorem w_fnS {n np : Nat} {p : Ss} {ds : List D} {Q : D → Hh → Prop} (hl : ds.length = np) (w : WS (evSs C p (ds.map some ++ List.replicate (n - ds.length) none) h) (fun _ h1 => Q .non h1) Q no2 no2) : W (fnS C n np p ds h) Q := by
  rw [fnS_run hl]
  cases e : evSs C p (ds.map some ++ List.replicate (n - ds.length) none) h with
  | nx l h => rw [e] at w; exact w
  | rt d h => rw [e] at w; exact w
  | bk l h => rw [e] at w; exact w.elim
  | ct l h => rw [e] at w; exact w.elim
  | exc c l h => rw [e] at w; exact w.elim
  | bad => rw [e] at w; exact w.elim
theorem eq_of_W {n np : Nat} {p : Ss} {ds : List D} {d : D} {h1 : Hh} (w : W (fnS C n np p ds h) fun a k => a = d ∧ k = h1) : fnS C n np p ds h = .ok d h1 := by
  obtain ⟨a, k, e, rfl, rfl⟩ := w.ex
  exact e
/-- a pure call -/
theorem w_callP {F : Fn} {ds : List D} {Q : D → Hh → Prop} (hp : pures ds = true) (w : W (F ds []) fun d h' => ∃ e, fz 0 h' d = some e ∧ Q e h) : W (callM .P F ds h) Q := by
  obtain ⟨d, h', e, z, hz, q⟩ := w.ex
  rw [callP_eq hp e hz]; exact q
/-! loops -/
theorem w_loop {g : D → Ls → Option Ls} {b : Ls → Hh → RS} (I : Nat → Ls → Hh → Prop) : ∀ (xs : List D) (i : Nat) {ls : Ls} {h : Hh}, (∀ j x l h, xs[j]? = some x → I (i + j) l h → ∃ l1, g x l = some l1 ∧ WS (b l1 h) (I (i + j + 1)) T N (I (i + j + 1))) → (∀ l h, I (i + xs.length) l h → N l h) → I i ls h → WS (loopL g b xs ls h) N T B K
  | [], i, ls, h, _, fin, p => fin _ _ p
  | x :: xs, i, ls, h, st, fin, p => by
    obtain ⟨l1, e1, w⟩ := st 0 x ls h rfl p
    have ih := fun (l2 : Ls) (h2 : Hh) (p2 : I (i + 0 + 1) l2 h2) => w_loop I xs (i + 1) (ls := l2) (h := h2) (fun j y l h e q => by
      have := st (j + 1) y l h (by simpa using e) (by rw [Nat.add_assoc, Nat.add_comm 1 j] at q; exact q)
      rw [show i + 1 + j + 1 = i + (j + 1) + 1 by omega]; exact this) (fun l h q => fin l h (by rw [List.length_cons, Nat.add_comm xs.length 1, ← Nat.add_assoc]; exact q)) p2
    rw [loopL_cons, e1]
    show WS (match b l1 h with | .nx l2 h2 => loopL g b xs l2 h2 | .ct l2 h2 => loopL g b xs l2 h2 | .bk l2 h2 => .nx l2 h2 | r => r) N T B K
    cases e : b l1 h with
    | nx l h => rw [e] at w; exact ih _ _ w
    | rt d h => rw [e] at w; exact w
    | bk l h => rw [e] at w; exact w
    | ct l h => rw [e] at w; exact ih _ _ w
    | exc c l h => rw [e] at w; exact w.elim
    | bad => rw [e] at w; exact w.elim
variable {g : D → Ls → Option Ls} {b : Ls → Hh → RS}
/-- over a range -/
theorem w_rng (I : Nat → Ls → Hh → Prop) {lo : Int} {n : Nat} (h0 : I 0 ls h) (st : ∀ (j : Nat) l h, j < n → I j l h → ∃ l1, g (.int (lo + j)) l = some l1 ∧ WS (b l1 h) (I (j + 1)) T N (I (j + 1))) (fin : ∀ l h, I n l h → N l h) : WS (forR (.rng lo n 1) g b ls h) N T B K := by
  rw [forR_rng]
  refine w_loop I (rngL lo 1 n) 0 (fun j x l h e q => ?_) (fun l h q => fin l h (by rw [rngL_len, Nat.zero_add] at q; exact q)) h0
  obtain ⟨hj, rfl⟩ := rngL_mem e
  rw [Nat.zero_add] at q ⊢
  exact st j l h hj q
theorem w_rng0 (I : Nat → Ls → Hh → Prop) {n : Nat} (h0 : I 0 ls h) (st : ∀ (j : Nat) l h, j < n → I j l h → ∃ l1, g (.int (j : Nat)) l = some l1 ∧ WS (b l1 h) (I (j + 1)) T N (I (j + 1))) (fin : ∀ l h, I n l h → N l h) : WS (forR (.rng 0 n 1) g b ls h) N T B K :=
  w_rng I h0 (fun j l h hj q => by rw [Int.zero_add]; exact st j l h hj q) fin
theorem opq {α : Type} (a : α) : ∃ b, b = a := ⟨a, rfl⟩
/-- over what stays -/
theorem w_for (I : Nat → Ls → Hh → Prop) {it : Tb.It} {xs : List D} (c : it.cst = true) (e : it.items h = some xs) (h0 : I 0 ls h) (st : ∀ (j : Nat) x l h, xs[j]? = some x → I j l h → ∃ l1, g x l = some l1 ∧ WS (b l1 h) (I (j + 1)) T N (I (j + 1))) (fin : ∀ l h, I xs.length l h → N l h) : WS (forR it g b ls h) N T B K := by
  have : forR it g b ls h = loopL g b xs ls h := by unfold forR; rw [if_pos c, e]
  rw [this]
  exact w_loop I xs 0 (fun j x l h e q => by rw [Nat.zero_add] at q ⊢; exact st j x l h e q) (fun l h q => fin l h (by rw [Nat.zero_add] at q; exact q)) h0
theorem w_lst (I : Nat → Ls → Hh → Prop) {xs : List D} (h0 : I 0 ls h) (st : ∀ (j : Nat) x l h, xs[j]? = some x → I j l h → ∃ l1, g x l = some l1 ∧ WS (b l1 h) (I (j + 1)) T N (I (j + 1))) (fin : ∀ l h, I xs.length l h → N l h) : WS (forR (.seq (.lst xs)) g b ls h) N T B K := w_for I rfl rfl h0 st fin
theorem w_tup (I : Nat → Ls → Hh → Prop) {xs : List D} (h0 : I 0 ls h) (st : ∀ (j : Nat) x l h, xs[j]? = some x → I j l h → ∃ l1, g x l = some l1 ∧ WS (b l1 h) (I (j + 1)) T N (I (j + 1))) (fin : ∀ l h, I xs.length l h → N l h) : WS (forR (.seq (.tup xs)) g b ls h) N T B K := w_for I rfl rfl h0 st fin
/-- over what stands in a list's cell, which stays -/
theorem w_cel (I : Nat → Ls → Hh → Prop) {it : Tb.It} {xs : List D} (c : it.cst = false) (hl : xs.length < FUEL) (ei : ∀ (j : Nat) l h, I j l h → it.items h = some xs) (h0 : I 0 ls h) (st : ∀ (j : Nat) x l h, xs[j]? = some x → I j l h → ∃ l1, g x l = some l1 ∧ WS (b l1 h) (I (j + 1)) T N (I (j + 1))) (fin : ∀ l h, I xs.length l h → N l h) : WS (forR it g b ls h) N T B K := by
  have go : ∀ (m i : Nat) (ls : Ls) (h : Hh), xs.length - i < m → i ≤ xs.length → I i ls h → WS (loopI it g b m i ls h) N T B K := by
    intro m
    induction m with
    | zero => intro i ls h q; exact absurd q (Nat.not_lt_zero _)
    | succ m ih =>
      intro i ls h q le p
      have un : loopI it g b (m + 1) i ls h = match it.items h with
        | none => .bad
        | some xs => match xs[i]? with
          | none => .nx ls h
          | some x => match g x ls with
            | none => .bad
            | some l1 => match b l1 h with
              | .nx l2 h2 => loopI it g b m (i + 1) l2 h2
              | .ct l2 h2 => loopI it g b m (i + 1) l2 h2
              | .bk l2 h2 => .nx l2 h2
              | r => r := rfl
      rw [un, ei i ls h p]
      show WS (match xs[i]? with
          | none => .nx ls h
          | some x => match g x ls with
            | none => .bad
            | some l1 => match b l1 h with
              | .nx l2 h2 => loopI it g b m (i + 1) l2 h2
              | .ct l2 h2 => loopI it g b m (i + 1) l2 h2
              | .bk l2 h2 => .nx l2 h2
              | r => r) N T B K
      by_cases hi : i < xs.length
      · obtain ⟨l1, e1, w⟩ := st i xs[i] ls h (List.getElem?_eq_getElem hi) p
        rw [List.getElem?_eq_getElem hi]
        simp only [e1]
        cases e : b l1 h with
        | nx l h => rw [e] at w; exact ih _ _ _ (by omega) (by omega) w
        | rt d h => rw [e] at w; exact w
        | bk l h => rw [e] at w; exact w
        | ct l h => rw [e] at w; exact ih _ _ _ (by omega) (by omega) w
        | exc c l h => rw [e] at w; exact w.elim
        | bad => rw [e] at w; exact w.elim
      · obtain rfl : i = xs.length := by omega
        rw [List.getElem?_eq_none (Nat.le_refl _)]
        exact fin _ _ p
  unfold forR
  rw [c]
  exact go FUEL 0 ls h (by omega) (Nat.zero_le _) h0
/-- while, by a measure -/
theorem w_while {t : Ls → Hh → R Bool} (I : Nat → Ls → Hh → Prop) {n : Nat} (h0 : I n ls h) (hn : n < FUEL) (st : ∀ (m : Nat) l h, m ≤ n → I m l h → W (t l h) fun k h1 => (k = true → WS (b l h1) (fun l2 h2 => ∃ m2, m2 < m ∧ I m2 l2 h2) T N (fun l2 h2 => ∃ m2, m2 < m ∧ I m2 l2 h2)) ∧ (k = false → N l h1)) : WS (whileR t b FUEL ls h) N T B K := by
  have go : ∀ (m f : Nat) (ls : Ls) (h : Hh), m < f → m ≤ n → I m ls h → WS (whileR t b f ls h) N T B K := by
    intro m
    induction m using Nat.strongRecOn with
    | _ m ih =>
      intro f ls h q le p
      obtain ⟨f, rfl⟩ : ∃ f', f = f' + 1 := ⟨f - 1, by omega⟩
      have w := st m ls h le p
      rw [whileR_succ]
      cases e : t ls h with
      | bad => rw [e] at w; exact w.elim
      | exc c h1 => rw [e] at w; exact w.elim
      | ok k h1 =>
        rw [e] at w
        rw [ofR_ok]
        cases k with
        | false => exact w.2 rfl
        | true =>
          have w := w.1 rfl
          rw [if_pos rfl]
          cases e2 : b ls h1 with
          | nx l h => rw [e2] at w; obtain ⟨m2, hm, p2⟩ := w; exact ih m2 hm f _ _ (by omega) (by omega) p2
          | rt d h => rw [e2] at w; exact w
          | bk l h => rw [e2] at w; exact w
          | ct l h => rw [e2] at w; obtain ⟨m2, hm, p2⟩ := w; exact ih m2 hm f _ _ (by omega) (by omega) p2
          | exc c l h => rw [e2] at w; exact w.elim
          | bad => rw [e2] at w; exact w.elim
  exact go n FUEL ls h hn (Nat.le_refl _) h0
/-- a comprehension -/
theorem w_compL {g : D → Ls → Option Ls} {t : Ls → Hh → R Bool} {f : Ls → Hh → R D} {ls : Ls} (I : Nat → List D → Hh → Prop) : ∀ (xs : List D) (i : Nat) (acc : List D) {h : Hh} {Q : List D → Hh → Prop}, (∀ j x a h, xs[j]? = some x → I (i + j) a h → ∃ l1, g x ls = some l1 ∧ W (t l1 h) fun b h1 => (b = true → W (f l1 h1) fun d h2 => I (i + j + 1) (a ++ [d]) h2) ∧ (b = false → I (i + j + 1) a h1)) → (∀ a h, I (i + xs.length) (acc ++ a) h → Q a h) → I i acc h → W (compL g t f ls xs h) Q
  | [], i, acc, h, Q, _, fin, p => fin [] h (by rw [List.append_nil]; exact p)
  | x :: xs, i, acc, h, Q, st, fin, p => by
    obtain ⟨l1, e1, w⟩ := st 0 x acc h rfl p
    have un : compL g t f ls (x :: xs) h = match g x ls with
      | none => .bad
      | some l1 => (t l1 h).bind fun b h1 => if b = true then (f l1 h1).bind fun d h2 => (compL g t f ls xs h2).bind fun ds h3 => .ok (d :: ds) h3 else compL g t f ls xs h1 := rfl
    have st2 : ∀ j y a h, xs[j]? = some y → I (i + 1 + j) a h → ∃ l1, g y ls = some l1 ∧ W (t l1 h) fun b h1 => (b = true → W (f l1 h1) fun d h2 => I (i + 1 + j + 1) (a ++ [d]) h2) ∧ (b = false → I (i + 1 + j + 1) a h1) := fun j y a h e q => by
      have := st (j + 1) y a h (by simpa using e) (by rw [Nat.add_assoc, Nat.add_comm 1 j] at q; exact q)
      rw [show i + 1 + j + 1 = i + (j + 1) + 1 by omega]; exact this
    rw [un, e1]
    show W ((t l1 h).bind _) Q
    rw [W_bind]
    refine w.imp fun b h1 w => ?_
    cases b with
    | false =>
      rw [if_neg (by decide)]
      exact w_compL I xs (i + 1) acc st2 (fun a h q => fin a h (by rw [List.length_cons, Nat.add_comm xs.length 1, ← Nat.add_assoc]; exact q)) (w.2 rfl)
    | true =>
      rw [if_pos rfl, W_bind]
      refine (w.1 rfl).imp fun d h2 p2 => ?_
      rw [W_bind]
      refine w_compL (Q := fun a h3 => W (.ok (d :: a) h3) Q) I xs (i + 1) (acc ++ [d]) st2 (fun a h q => fin (d :: a) h ?_) p2
      rw [List.length_cons, Nat.add_comm xs.length 1, ← Nat.add_assoc, show acc ++ d :: a = acc ++ [d] ++ a by simp]
      exact q
theorem w_comp {g : D → Ls → Option Ls} {t : Ls → Hh → R Bool} {f : Ls → Hh → R D} {ls : Ls} (I : Nat → List D → Hh → Prop) {it : Tb.It} {xs : List D} {Q : List D → Hh → Prop} (c : it.cst = true) (e : it.items h = some xs) (hl : xs.length ≤ LIM) (h0 : I 0 [] h) (st : ∀ (j : Nat) x a h, xs[j]? = some x → I j a h → ∃ l1, g x ls = some l1 ∧ W (t l1 h) fun b h1 => (b = true → W (f l1 h1) fun d h2 => I (j + 1) (a ++ [d]) h2) ∧ (b = false → I (j + 1) a h1)) (fin : ∀ a h, I xs.length a h → Q a h) : W (compR it g t f ls h) Q := by
  have : compR it g t f ls h = compL g t f ls xs h := by
    unfold compR
    rw [if_pos c, e]
    show (if xs.length ≤ LIM then _ else _) = _
    rw [if_pos hl]
  rw [this]
  exact w_compL I xs 0 [] (fun j x a h e q => by rw [Nat.zero_add] at q ⊢; exact st j x a h e q) (fun a h q => fin a h (by rw [Nat.zero_add, List.nil_append] at q; exact q)) h0
theorem w_comp_rng {g : D → Ls → Option Ls} {t : Ls → Hh → R Bool} {f : Ls → Hh → R D} {ls : Ls} (I : Nat → List D → Hh → Prop) {lo : Int} {n : Nat} {Q : List D → Hh → Prop} (hl : n ≤ LIM) (h0 : I 0 [] h) (st : ∀ (j : Nat) a h, j < n → I j a h → ∃ l1, g (.int (lo + j)) ls = some l1 ∧ W (t l1 h) fun b h1 => (b = true → W (f l1 h1) fun d h2 => I (j + 1) (a ++ [d]) h2) ∧ (b = false → I (j + 1) a h1)) (fin : ∀ a h, I n a h → Q a h) : W (compR (.rng lo n 1) g t f ls h) Q := by
  refine w_comp I (xs := rngL lo 1 n) rfl rfl (by rw [rngL_len]; exact hl) h0 (fun j x a h e q => ?_) (fun a h q => fin a h (by rw [rngL_len] at q; exact q))
  obtain ⟨hj, rfl⟩ := rngL_mem e
  exact st j a h hj q
/-- a comprehension of which all is known -/
theorem w_compA {α : Type} {g : D → Ls → Option Ls} {t : Ls → Hh → R Bool} {f : Ls → Hh → R D} {ls : Ls} (enc : α → D) (as : List α) (p : α → Bool) (v : α → D) {it : Tb.It} {Q : List D → Hh → Prop} (c : it.cst = true) (e : it.items h = some (as.map enc)) (hl : as.length ≤ LIM) (st : ∀ a ∈ as, ∃ l1, g (enc a) ls = some l1 ∧ W (t l1 h) (fun b h1 => b = p a ∧ h1 = h) ∧ (p a = true → W (f l1 h) fun d h2 => d = v a ∧ h2 = h)) (fin : Q ((as.filter p).map v) h) : W (compR it g t f ls h) Q := by
  have : compR it g t f ls h = compL g t f ls (as.map enc) h := by
    unfold compR
    rw [if_pos c, e]
    show (if (as.map enc).length ≤ LIM then _ else _) = _
    rw [if_pos (by rw [List.length_map]; exact hl)]
  rw [this]
  have go : ∀ l : List α, (∀ a ∈ l, ∃ l1, g (enc a) ls = some l1 ∧ W (t l1 h) (fun b h1 => b = p a ∧ h1 = h) ∧ (p a = true → W (f l1 h) fun d h2 => d = v a ∧ h2 = h)) → compL g t f ls (l.map enc) h = .ok ((l.filter p).map v) h := by
    intro l
    induction l with
    | nil => intro _; rfl
    | cons a r ih =>
      intro st
      obtain ⟨l1, e1, w, w2⟩ := st a List.mem_cons_self
      obtain ⟨b, h1, e2, rfl, rfl⟩ := w.ex
      have un : compL g t f ls (enc a :: r.map enc) h1 = match g (enc a) ls with
        | none => .bad
        | some l1 => (t l1 h1).bind fun b h1 => if b = true then (f l1 h1).bind fun d h2 => (compL g t f ls (r.map enc) h2).bind fun ds h3 => .ok (d :: ds) h3 else compL g t f ls (r.map enc) h1 := rfl
      rw [List.map_cons, un, e1]
      show (t l1 h1).bind _ = _
      have ih := ih fun x hx => st x (List.mem_cons_of_mem _ hx)
      rw [e2, bind_ok]
      by_cases q : p a = true
      · obtain ⟨d, h2, e3, rfl, rfl⟩ := (w2 q).ex
        rw [if_pos q, e3, bind_ok, ih, bind_ok, List.filter_cons_of_pos q]
        rfl
      · rw [if_neg q, ih, List.filter_cons_of_neg q]
  rw [go as st]
  exact fin
theorem w_comp_rngA {g : D → Ls → Option Ls} {t : Ls → Hh → R Bool} {f : Ls → Hh → R D} {ls : Ls} {lo : Int} {n : Nat} (p : Nat → Bool) (v : Nat → D) {Q : List D → Hh → Prop} (hl : n ≤ LIM) (st : ∀ j : Nat, j < n → ∃ l1, g (.int (lo + j)) ls = some l1 ∧ W (t l1 h) (fun b h1 => b = p j ∧ h1 = h) ∧ (p j = true → W (f l1 h) fun d h2 => d = v j ∧ h2 = h)) (fin : Q (((List.range n).filter p).map v) h) : W (compR (.rng lo n 1) g t f ls h) Q :=
  w_compA (fun (i : Nat) => D.int (lo + i)) (List.range n) p v rfl (by show some (rngL lo 1 n) = _; rw [rngL_eq (lo := lo)]) (by rw [List.length_range]; exact hl) (fun a ha => st a (List.mem_range.mp ha)) fin
theorem w_comp_rng0 {g : D → Ls → Option Ls} {t : Ls → Hh → R Bool} {f : Ls → Hh → R D} {ls : Ls} (I : Nat → List D → Hh → Prop) {n : Nat} {Q : List D → Hh → Prop} (hl : n ≤ LIM) (h0 : I 0 [] h) (st : ∀ (j : Nat) a h, j < n → I j a h → ∃ l1, g (.int (j : Nat)) ls = some l1 ∧ W (t l1 h) fun b h1 => (b = true → W (f l1 h1) fun d h2 => I (j + 1) (a ++ [d]) h2) ∧ (b = false → I (j + 1) a h1)) (fin : ∀ a h, I n a h → Q a h) : W (compR (.rng 0 n 1) g t f ls h) Q :=
  w_comp_rng I hl h0 (fun j a h hj q => by rw [Int.zero_add]; exact st j a h hj q) fin
theorem w_comp_rng0A {g : D → Ls → Option Ls} {t : Ls → Hh → R Bool} {f : Ls → Hh → R D} {ls : Ls} {n : Nat} (p : Nat → Bool) (v : Nat → D) {Q : List D → Hh → Prop} (hl : n ≤ LIM) (st : ∀ j : Nat, j < n → ∃ l1, g (.int (j : Nat)) ls = some l1 ∧ W (t l1 h) (fun b h1 => b = p j ∧ h1 = h) ∧ (p j = true → W (f l1 h) fun d h2 => d = v j ∧ h2 = h)) (fin : Q (((List.range n).filter p).map v) h) : W (compR (.rng 0 n 1) g t f ls h) Q :=
  w_comp_rngA p v hl (fun j hj => by rw [Int.zero_add]; exact st j hj) fin
/-! frames: all cells but one stay -/
def Fx (i : Nat) (h h' : Hh) : Prop := h.length ≤ h'.length ∧ ∀ j, j < h.length → j ≠ i → h'[j]? = h[j]?
theorem Fx.refl {i : Nat} : Fx i h h := ⟨Nat.le_refl _, fun _ _ _ => rfl⟩
theorem Fx.trans {i : Nat} {h1 h2 : Hh} (a : Fx i h h1) (b : Fx i h1 h2) : Fx i h h2 := ⟨Nat.le_trans a.1 b.1, fun j q n => (b.2 j (Nat.lt_of_lt_of_le q a.1) n).trans (a.2 j q n)⟩
theorem Fx.at {i j : Nat} {h h' : Hh} {o : O} (f : Fx i h h') (e : h[j]? = some o) (n : j ≠ i) : h'[j]? = some o := by rw [f.2 j (List.getElem?_eq_some_iff.mp e).1 n]; exact e
theorem Fx.set {i : Nat} {o : O} : Fx i h (h.set i o) := ⟨by simp, fun j _ n => List.getElem?_set_ne (Ne.symm n)⟩
theorem Fx.app {i : Nat} {g : Hh} : Fx i h (h ++ g) := ⟨by simp, fun j q _ => List.getElem?_append_left q⟩
theorem Fx.new {i j : Nat} {o : O} {h h' : Hh} (f : Fx i h h') (q : h.length ≤ j) : Fx i h (h'.set j o) := ⟨by rw [List.length_set]; exact f.1, fun k a n => by rw [List.getElem?_set_ne (by omega)]; exact f.2 k a n⟩
end
end Tb
namespace Tb
open PySem PySem.Spec PyProof.Rows L2
/-! ### cells by what stands there; side conditions for omega -/
def appC (o : Option (List D)) (i : Nat) (d : D) (h : Hh) : R D := match o with
  | some xs => if xs.length < LIM then .ok .non (h.set i (.lst (xs ++ [d]))) else .bad
  | none => .bad
def extC (o p : Option (List D)) (i : Nat) (h : Hh) : R D := match o, p with
  | some xs, some ys => if xs.length + ys.length ≤ LIM then .ok .non (h.set i (.lst (xs ++ ys))) else .bad
  | _, _ => .bad
def popC (o : Option (List D)) (i : Nat) (h : Hh) : R D := match o with
  | some xs => setC (xs[xs.length - 1]?) i xs.dropLast h
  | none => .bad
def popK (o : Option (List D)) (i : Nat) (k : Int) (h : Hh) : R D := match o with
  | some xs => match ixN xs.length k with
    | some j => setC (xs[j]?) i (xs.eraseIdx j) h
    | none => .bad
  | none => .bad
def insC (o : Option (List D)) (i : Nat) (k : Int) (d : D) (h : Hh) : R D := match o with
  | some xs => if 0 ≤ k ∧ k ≤ 1000000 ∧ xs.length < LIM then .ok .non (h.set i (.lst (xs.take k.toNat ++ [d] ++ xs.drop k.toNat))) else .bad
  | none => .bad
def lstC (c : Bool) (o : Option (List D)) (h : Hh) : R D := match o with
  | some xs => mkL c xs h
  | none => .bad
def tupC (o : Option (List D)) (h : Hh) : R D := match o with
  | some xs => .ok (.tup xs) h
  | none => .bad
def setQ (o : Option (List D)) (i : Nat) (k : Int) (v : D) (h : Hh) : R Unit := match o with
  | some xs => match ixN xs.length k with
    | some j => .ok () (h.set i (.lst (xs.set j v)))
    | none => .bad
  | none => .bad
section
variable {ls : Ls} {h : Hh} {c : Bool} {n m k : Int} {i j : Nat} {xs ys : List D} {d v : D} {o : Option (List D)} {lo hi : Option Int}
@[simp] theorem asO_lst : asO (some (.lst xs)) = some xs := rfl
@[simp] theorem asL_c : asL h (.cel i) = asO h[i]? := rfl
@[simp] theorem asT_c : asT h (.cel i) = asO h[i]? := rfl
@[simp] theorem asT_l : asT h (.lst xs) = some xs := rfl
@[simp] theorem seqOf_c : seqOf h (.cel i) = asO h[i]? := rfl
@[simp] theorem okR_append : Me.okR .append h (.cel i) = (asO h[i]?).isSome := rfl
@[simp] theorem okR_pop : Me.okR .pop h (.cel i) = (asO h[i]?).isSome := rfl
@[simp] theorem okR_extend : Me.okR .extend h (.cel i) = (asO h[i]?).isSome := rfl
@[simp] theorem okR_insert : Me.okR .insert h (.cel i) = (asO h[i]?).isSome := rfl
@[simp] theorem okR_clear : Me.okR .clear h (.cel i) = (asO h[i]?).isSome := rfl
@[simp] theorem okR_reverse : Me.okR .reverse h (.cel i) = (asO h[i]?).isSome := rfl
@[simp] theorem okR_remove : Me.okR .remove h (.cel i) = (asO h[i]?).isSome := rfl
@[simp] theorem okR_count : Me.okR .count h (.cel i) = (asO h[i]?).isSome := rfl
@[simp] theorem okR_index : Me.okR .index h (.cel i) = (asO h[i]?).isSome := rfl
@[simp] theorem okR_countL : Me.okR .count h (.lst xs) = true := rfl
@[simp] theorem okR_indexL : Me.okR .index h (.lst xs) = true := rfl
@[simp] theorem okR_join {x : Str} : Me.okR .join h (.str x) = true := rfl
@[simp] theorem okR_split {x : Str} : Me.okR .split h (.str x) = true := rfl
@[simp] theorem okR_partition {x : Str} : Me.okR .partition h (.str x) = true := rfl
@[simp] theorem len_c : biD .len c [.cel i] h = optI ((asO h[i]?).map fun xs => (xs.length : Int)) h := rfl
@[simp] theorem idx_c : idxD (.cel i) (.int n) h = idxL (asO h[i]?) n h := rfl
@[simp] theorem idxL_s : idxL (some xs) n h = optD (atI xs n) h := rfl
@[simp] theorem isi_cl : isiD h (.cel i) (.ty "list") = (asO h[i]?).map fun _ => true := by
  show (if tyAsk.contains "list" then ((asO h[i]?).map fun _ => "list").map fun t => isiB t "list" else none) = _
  cases asO h[i]? <;> rfl
@[simp] theorem isi_ct : isiD h (.cel i) (.ty "tuple") = (asO h[i]?).map fun _ => false := by
  show (if tyAsk.contains "tuple" then ((asO h[i]?).map fun _ => "list").map fun t => isiB t "tuple" else none) = _
  cases asO h[i]? <;> rfl
@[simp] theorem isi_ci : isiD h (.cel i) (.ty "int") = (asO h[i]?).map fun _ => false := by
  show (if tyAsk.contains "int" then ((asO h[i]?).map fun _ => "list").map fun t => isiB t "int" else none) = _
  cases asO h[i]? <;> rfl
@[simp] theorem list_c : biD .list c [.cel i] h = lstC c (asO h[i]?) h := by
  show (match asO h[i]? with | some xs => mkL c xs h | none => .bad) = _
  cases asO h[i]? <;> rfl
@[simp] theorem lstC_s : lstC c (some xs) h = mkL c xs h := rfl
@[simp] theorem tuple_c : biD .tuple c [.cel i] h = tupC (asO h[i]?) h := by
  show (match asO h[i]? with | some xs => R.ok (D.tup xs) h | none => R.bad) = _
  cases asO h[i]? <;> rfl
@[simp] theorem tuple_l : biD .tuple c [.lst xs] h = .ok (.tup xs) h := rfl
@[simp] theorem tupC_s : tupC (some xs) h = .ok (.tup xs) h := rfl
@[simp] theorem slc_c : slcD c (.cel i) lo hi h = slcL c (asO h[i]?) lo hi h := rfl
@[simp] theorem slc_l : slcD c (.lst xs) lo hi h = mkL c (cutD xs lo hi) h := rfl
@[simp] theorem slc_k : slcD c (.kl xs) lo hi h = mkL c (cutD xs lo hi) h := rfl
@[simp] theorem slc_t : slcD c (.tup xs) lo hi h = .ok (.tup (cutD xs lo hi)) h := rfl
@[simp] theorem slcL_s : slcL c (some xs) lo hi h = mkL c (cutD xs lo hi) h := rfl
@[simp] theorem cut_upO (q : 0 ≤ k) : cutD xs none (some k) = xs.take k.toNat := cut_up q
@[simp] theorem cut_loO (q : 0 ≤ k) : cutD xs (some k) none = xs.drop k.toNat := cut_lo q
@[simp] theorem rev_c : revD c (.cel i) h = revL c (asO h[i]?) h := rfl
@[simp] theorem rev_l : revD c (.lst xs) h = mkL c xs.reverse h := rfl
@[simp] theorem revL_s : revL c (some xs) h = mkL c xs.reverse h := rfl
@[simp] theorem me_app : meD .append c (.cel i) [d] h = appC (asO h[i]?) i d h := by
  show (match asO h[i]? with | some xs => meC .append i xs [d] h | none => .bad) = _
  cases asO h[i]? <;> rfl
@[simp] theorem appC_s (q : xs.length < 1000000) : appC (some xs) i d h = .ok .non (h.set i (.lst (xs ++ [d]))) := by
  exact if_pos q
@[simp] theorem me_ext : meD .extend c (.cel i) [d] h = extC (asO h[i]?) (asT h d) i h := by
  show (match asO h[i]? with | some xs => (match asT h d with | some ys => (if xs.length + ys.length ≤ LIM then R.ok D.non (h.set i (.lst (xs ++ ys))) else R.bad) | none => R.bad) | none => R.bad) = _
  cases asO h[i]? <;> cases asT h d <;> rfl
@[simp] theorem extC_s (q : xs.length + ys.length ≤ 1000000) : extC (some xs) (some ys) i h = .ok .non (h.set i (.lst (xs ++ ys))) := by
  exact if_pos q
@[simp] theorem me_pop0 : meD .pop c (.cel i) [] h = popC (asO h[i]?) i h := by
  show (match asO h[i]? with | some xs => meC .pop i xs [] h | none => .bad) = _
  cases asO h[i]? <;> rfl
@[simp] theorem popC_g : popC (some xs) i h = setC xs.getLast? i xs.dropLast h := by
  show setC (xs[xs.length - 1]?) i xs.dropLast h = _
  rw [List.getLast?_eq_getElem?]
@[simp] theorem setC_s : setC (some d) i xs h = .ok d (h.set i (.lst xs)) := rfl
@[simp] theorem me_popk : meD .pop c (.cel i) [.int k] h = popK (asO h[i]?) i k h := by
  show (match asO h[i]? with | some xs => meC .pop i xs [.int k] h | none => .bad) = _
  cases asO h[i]? <;> rfl
theorem popK_s (q0 : 0 ≤ k) (e : xs[k.toNat]? = some d) : popK (some xs) i k h = .ok d (h.set i (.lst (xs.eraseIdx k.toNat))) := by
  have q : k.toNat < xs.length := (List.getElem?_eq_some_iff.mp e).1
  have z : ixN xs.length k = some k.toNat := by
    unfold ixN
    rw [if_pos q0, if_pos (by omega)]
  show (match ixN xs.length k with | some j => setC (xs[j]?) i (xs.eraseIdx j) h | none => .bad) = _
  rw [z]
  show setC (xs[k.toNat]?) i _ h = _
  rw [e]; rfl
@[simp] theorem me_ins : meD .insert c (.cel i) [.int k, d] h = insC (asO h[i]?) i k d h := by
  show (match asO h[i]? with | some xs => meC .insert i xs [.int k, d] h | none => .bad) = _
  cases asO h[i]? <;> rfl
@[simp] theorem insC_s (q0 : 0 ≤ k) (q1 : k ≤ 1000000) (q : xs.length < 1000000) : insC (some xs) i k d h = .ok .non (h.set i (.lst (xs.take k.toNat ++ [d] ++ xs.drop k.toNat))) := by
  exact if_pos ⟨q0, q1, q⟩
@[simp] theorem set_q : setD (.cel i) (.int k) v h = setQ (asO h[i]?) i k v h := by
  show (match h[i]? with | some (.lst xs) => (match ixN xs.length k with | some j => R.ok () (h.set i (.lst (xs.set j v))) | none => R.bad) | _ => R.bad) = _
  cases h[i]? with
  | none => rfl
  | some o => cases o <;> rfl
@[simp] theorem setQ_s (q0 : 0 ≤ k) (q : k < xs.length) : setQ (some xs) i k v h = .ok () (h.set i (.lst (xs.set k.toNat v))) := by
  have z : ixN xs.length k = some k.toNat := by
    unfold ixN
    rw [if_pos q0, if_pos q]
  unfold setQ
  simp only [z]
@[simp] theorem setQ_last (q : 0 < xs.length) : setQ (some xs) i (-1) v h = .ok () (h.set i (.lst (xs.set (xs.length - 1) v))) := by
  have z : ixN xs.length (-1) = some (xs.length - 1) := by
    unfold ixN
    rw [if_neg (by omega), if_pos (by omega)]
    congr 1; omega
  unfold setQ
  simp only [z]
@[simp] theorem bin_mulO (h1 : -1000000000000000000000000000000000000000000000000000000000000 ≤ n) (h2 : n ≤ 1000000000000000000000000000000000000000000000000000000000000) (h3 : -1000000000000000000000000000000000000000000000000000000000000 ≤ m) (h4 : m ≤ 1000000000000000000000000000000000000000000000000000000000000) : binD c .Mult (.int n) (.int m) h = .ok (.int (n * m)) h := bin_mul (small_of h1 h2) (small_of h3 h4)
@[simp] theorem aug_mulO (h1 : -1000000000000000000000000000000000000000000000000000000000000 ≤ n) (h2 : n ≤ 1000000000000000000000000000000000000000000000000000000000000) (h3 : -1000000000000000000000000000000000000000000000000000000000000 ≤ m) (h4 : m ≤ 1000000000000000000000000000000000000000000000000000000000000) : augD .Mult (.int n) (.int m) h = .ok (.int (n * m)) h := aug_mul (small_of h1 h2) (small_of h3 h4)
@[simp] theorem bin_fdivO (q : 0 < m) (h4 : m ≤ 1000000000000000000000000000000000000000000000000000000000000) : binD c .FloorDiv (.int n) (.int m) h = .ok (.int (n / m)) h := bin_fdiv q (small_of (by omega) h4)
@[simp] theorem rng1O (a : -1000000000000 ≤ n) (b : n ≤ 1000000000000) : rngOf [.int n] = some (.rng 0 n.toNat 1) := rng1 (smallR_i a b)
@[simp] theorem rng2O (a : -1000000000000 ≤ n) (b : n ≤ 1000000000000) (a2 : -1000000000000 ≤ m) (b2 : m ≤ 1000000000000) : rngOf [.int n, .int m] = some (.rng n (m - n).toNat 1) := rng2 (smallR_i a b) (smallR_i a2 b2)
@[simp] theorem mul_rep (q0 : 0 ≤ k) (q : k ≤ 1000000) (q2 : xs.length * k.toNat ≤ 1000000) : binD c .Mult (.lst xs) (.int k) h = mkL c (List.replicate k.toNat xs).flatten h := by
  exact if_pos ⟨q2, by omega, q⟩
@[simp] theorem add_ll (q : xs.length + ys.length ≤ 1000000) : binD c .Add (.lst xs) (.lst ys) h = mkL c (xs ++ ys) h := by
  exact if_pos q
@[simp] theorem get_app_len {h g : Hh} : (h ++ g)[h.length]? = g[0]? := by rw [List.getElem?_append_right (Nat.le_refl _), Nat.sub_self]
@[simp] theorem get_app_add {h g : Hh} {k : Nat} : (h ++ g)[h.length + k]? = g[k]? := by rw [List.getElem?_append_right (by omega)]; congr 1; omega
@[simp] theorem set_app_len {h g : Hh} {y : O} : (h ++ g).set h.length y = h ++ g.set 0 y := by rw [List.set_append_right _ _ (Nat.le_refl _), Nat.sub_self]
@[simp] theorem set_app_add {h g : Hh} {k : Nat} {y : O} : (h ++ g).set (h.length + k) y = h ++ g.set k y := by rw [List.set_append_right _ _ (by omega)]; congr 2; omega
theorem max_iO : biD .max c [.int n, .int m] h = .ok (.int (max n m)) h := by
  rw [max_ii]; congr 2; split <;> omega
theorem min_iO : biD .min c [.int n, .int m] h = .ok (.int (min n m)) h := by
  rw [min_ii]; congr 2; split <;> omega
theorem max_tO : biD .max c [.tup [.int n, .int m]] h = .ok (.int (max n m)) h := by
  rw [max_t2]; congr 2; split <;> omega
theorem abs_iO : biD .abs c [.int n] h = .ok (.int (n.natAbs : Int)) h := by
  rw [abs_i]; congr 2; split <;> omega
/-- .. over a list's cell -/
theorem w_compC {α : Type} {g : D → Ls → Option Ls} {t : Ls → Hh → R Bool} {f : Ls → Hh → R D} (enc : α → D) (as : List α) (p : α → Bool) (v : α → D) {it : Tb.It} {Q : List D → Hh → Prop} (c : it.cst = false) (e : it.items h = some (as.map enc)) (hl : as.length < 100000) (st : ∀ a ∈ as, ∃ l1, g (enc a) ls = some l1 ∧ W (t l1 h) (fun b h1 => b = p a ∧ h1 = h) ∧ (p a = true → W (f l1 h) fun d h2 => d = v a ∧ h2 = h)) (fin : Q ((as.filter p).map v) h) : W (compR it g t f ls h) Q := by
  have go : ∀ (m i : Nat), as.length - i < m → i ≤ as.length → compI it g t f ls m i h = .ok (((as.drop i).filter p).map v) h := by
    intro m
    induction m with
    | zero => intro i q; exact absurd q (Nat.not_lt_zero _)
    | succ m ih =>
      intro i q le
      have un : compI it g t f ls (m + 1) i h = match it.items h with
        | none => .bad
        | some xs => match xs[i]? with
          | none => .ok [] h
          | some x => match g x ls with
            | none => .bad
            | some l1 => (t l1 h).bind fun b h1 => if b = true then (f l1 h1).bind fun d h2 => (compI it g t f ls m (i + 1) h2).bind fun ds h3 => .ok (d :: ds) h3 else compI it g t f ls m (i + 1) h1 := rfl
      rw [un, e]
      by_cases hi : i < as.length
      · obtain ⟨l1, e1, w, w2⟩ := st as[i] (List.getElem_mem hi)
        obtain ⟨b, h1, e2, rfl, rfl⟩ := w.ex
        have ih := ih (i + 1) (by omega) (by omega)
        have eg : (as.map enc)[i]? = some (enc as[i]) := by rw [List.getElem?_map, List.getElem?_eq_getElem hi]; rfl
        have ed : as.drop i = as[i] :: as.drop (i + 1) := List.drop_eq_getElem_cons hi
        simp only [eg, e1, e2, bind_ok]
        rw [ed]
        by_cases q : p as[i] = true
        · obtain ⟨d, h2, e3, rfl, rfl⟩ := (w2 q).ex
          rw [if_pos q, e3, bind_ok, ih, bind_ok, List.filter_cons_of_pos q]
          rfl
        · rw [if_neg q, ih, List.filter_cons_of_neg q]
      · have eg : (as.map enc)[i]? = none := List.getElem?_eq_none (by simp; omega)
        simp only [eg]
        rw [List.drop_of_length_le (by omega)]
        rfl
  unfold compR
  rw [if_neg (by rw [c]; decide), go FUEL 0 (by unfold FUEL; omega) (by omega)]
  exact fin
theorem atI_mem {α : Type} {xs : List α} (q0 : 0 ≤ k) (q1 : k < xs.length) : ∃ d, atI xs k = some d ∧ d ∈ xs := by
  rw [atI_pos q0]
  have : k.toNat < xs.length := by omega
  exact ⟨xs[k.toNat], List.getElem?_eq_getElem this, List.getElem_mem this⟩
theorem eq_nilG {n : Nat} (g : xs.all (D.gv n) = true) (hn : n < 60) : cmpD .Eq h (.lst xs) (.lst []) = some xs.isEmpty ∧ cmpD .NotEq h (.lst xs) (.lst []) = some (!xs.isEmpty) := by
  obtain ⟨r, e1, e2, q⟩ := eq_gv (h := h) (n := n + 1) (m := 1) (a := .lst xs) (b := .lst []) g rfl (by omega) (by omega)
  have : r = xs.isEmpty := by
    rw [Bool.eq_iff_iff, q, List.isEmpty_iff]
    exact ⟨fun z => by cases z; rfl, fun z => by rw [z]⟩
  rw [e1, e2, this]
  exact ⟨rfl, rfl⟩
theorem eq_nilC {n : Nat} (e : h[i]? = some (.lst xs)) (g : xs.all (D.gv n) = true) (hn : n < 60) : cmpD .Eq h (.cel i) (.lst []) = some xs.isEmpty ∧ cmpD .NotEq h (.cel i) (.lst []) = some (!xs.isEmpty) := by
  rw [cmp_cel e _ (.inl rfl), cmp_cel e _ (.inr rfl)]
  exact eq_nilG g hn
/-- by cells or not, equal where the data are -/
def datL (h : Hh) : D → Option D
  | .cel i => (asO h[i]?).map .lst
  | d => some d
theorem eqG {n m : Nat} {a b a' b' : D} (ea : datL h a = some a') (eb : datL h b = some b') (h1 : a'.gv n = true) (h2 : b'.gv m = true) (hn : n ≤ 60) (hm : m ≤ 60) : ∃ r : Bool, cmpD .Eq h a b = some r ∧ cmpD .NotEq h a b = some (!r) ∧ (r = true ↔ a' = b') := by
  have key : ∀ (x x' : D), datL h x = some x' → toPy h x = toPy h x' := by
    intro x x' e
    cases x with
    | cel i =>
      cases q : asO h[i]? with
      | none => simp [datL, q] at e
      | some xs =>
        simp [datL, q] at e
        subst e
        show (asO h[i]?).bind _ = _
        rw [q]; rfl
    | _ => cases e; rfl
  have ns : ∀ (x x' : D), datL h x = some x' → x'.gv 60 = true → (∀ j, x ≠ .int j) → (∀ j, x' ≠ .int j) := by
    intro x x' e _ q j z
    cases x with
    | cel i =>
      cases q : asO h[i]? with
      | none => simp [datL, q] at e
      | some xs => simp [datL, q] at e; subst e; cases z
    | _ => cases e; exact q j z
  obtain ⟨r, e1, e2, q⟩ := eq_gv (h := h) h1 h2 hn hm
  have keyT : ∀ (x x' : D), datL h x = some x' → asT h x = asT h x' := by
    intro x x' e
    cases x with
    | cel i =>
      cases q : asO h[i]? with
      | none => simp [datL, q] at e
      | some xs =>
        simp [datL, q] at e
        subst e
        show asO h[i]? = _
        rw [q]; rfl
    | _ => cases e; rfl
  have keyP : ∀ (x x' : D), datL h x = some x' → pyN h 8 x = pyN h 8 x' := by
    intro x x' e
    cases x with
    | cel i =>
      cases q : asO h[i]? with
      | none => simp [datL, q] at e
      | some xs =>
        simp [datL, q] at e
        subst e
        show (asO h[i]?).bind (fun xs => (mapO (pyN h 7) xs).map PyData.list) = _
        rw [q]; rfl
    | _ => cases e; rfl
  have kN : neLen h a b = neLen h a' b' := by unfold neLen; rw [keyT _ _ ea, keyT _ _ eb, keyP _ _ ea, keyP _ _ eb]
  have body : (match eqP (toPy h a) (toPy h b) with | some r => some r | none => neLen h a b) = (match eqP (toPy h a') (toPy h b') with | some r => some r | none => neLen h a' b') := by rw [key _ _ ea, key _ _ eb, kN]
  have ee : eqD h a b = eqD h a' b' := by
    cases a with
    | cel i =>
      cases qa : asO h[i]? with
      | none => simp [datL, qa] at ea
      | some xs =>
        simp [datL, qa] at ea
        subst ea
        exact body
    | int j =>
      cases ea
      cases b with
      | cel i =>
        cases qa : asO h[i]? with
        | none => simp [datL, qa] at eb
        | some xs =>
          simp [datL, qa] at eb
          subst eb
          exact body
      | _ => cases eb; rfl
    | str j => cases ea; exact absurd h1 (by cases n <;> simp [D.gv])
    | _ =>
      cases ea
      exact body
  refine ⟨r, ?_, ?_, q⟩
  · rw [← e1]; exact ee
  · rw [← e2]; show (eqD h a b).map not = (eqD h a' b').map not; rw [ee]
@[simp] theorem lim_le2 {k : Nat} : (k ≤ LIM) = (k ≤ 1000000) := rfl
end
end Tb
namespace Tb
open PySem PySem.Spec PyProof.Rows L2
/-! ### rules for whatever is walked -/
section
variable {ls : Ls} {h : Hh} {N B K : Ls → Hh → Prop} {T : D → Hh → Prop} {g : D → Ls → Option Ls} {b : Ls → Hh → RS} {t : Ls → Hh → R Bool} {f : Ls → Hh → R D} {it : Tb.It} {xs : List D}
/-- a comprehension of which all is known -/
theorem w_cA {α : Type} (enc : α → D) (as : List α) (p : α → Bool) (v : α → D) {Q : List D → Hh → Prop} (e : it.items h = some (as.map enc)) (hl : as.length < 100000) (st : ∀ a ∈ as, ∃ l1, g (enc a) ls = some l1 ∧ W (t l1 h) (fun b h1 => b = p a ∧ h1 = h) ∧ (p a = true → W (f l1 h) fun d h2 => d = v a ∧ h2 = h)) (fin : Q ((as.filter p).map v) h) : W (compR it g t f ls h) Q := by
  cases c : it.cst with
  | true => exact w_compA enc as p v c e (by unfold LIM; omega) st fin
  | false => exact w_compC enc as p v c e hl st fin
/-- .. by an invariant -/
theorem w_cI (I : Nat → List D → Hh → Prop) {Q : List D → Hh → Prop} (hl : xs.length < 100000) (ei : ∀ (j : Nat) a h', I j a h' → it.items h' = some xs) (h0 : I 0 [] h) (st : ∀ (j : Nat) x a h, xs[j]? = some x → I j a h → ∃ l1, g x ls = some l1 ∧ W (t l1 h) fun b h1 => (b = true → W (f l1 h1) fun d h2 => I (j + 1) (a ++ [d]) h2) ∧ (b = false → I (j + 1) a h1)) (fin : ∀ a h, I xs.length a h → Q a h) : W (compR it g t f ls h) Q := by
  cases c : it.cst with
  | true => exact w_comp I c (ei 0 [] h h0) (by unfold LIM; omega) h0 st fin
  | false =>
    have go : ∀ (m i : Nat) (acc : List D) (h : Hh) (Q : List D → Hh → Prop), xs.length - i < m → i ≤ xs.length → I i acc h → (∀ a h, I xs.length (acc ++ a) h → Q a h) → W (compI it g t f ls m i h) Q := by
      intro m
      induction m with
      | zero => intro i acc h Q q; exact absurd q (Nat.not_lt_zero _)
      | succ m ih =>
        intro i acc h Q q le p fin
        have un : compI it g t f ls (m + 1) i h = match it.items h with
          | none => .bad
          | some xs => match xs[i]? with
            | none => .ok [] h
            | some x => match g x ls with
              | none => .bad
              | some l1 => (t l1 h).bind fun b h1 => if b = true then (f l1 h1).bind fun d h2 => (compI it g t f ls m (i + 1) h2).bind fun ds h3 => .ok (d :: ds) h3 else compI it g t f ls m (i + 1) h1 := rfl
        rw [un, ei i acc h p]
        by_cases hi : i < xs.length
        · have eg := List.getElem?_eq_getElem hi
          obtain ⟨l1, e1, w⟩ := st i xs[i] acc h eg p
          simp only [eg, e1]
          rw [W_bind]
          refine w.imp fun b h1 w => ?_
          cases b with
          | false =>
            rw [if_neg (by decide)]
            exact ih (i + 1) acc h1 Q (by omega) (by omega) (w.2 rfl) fin
          | true =>
            rw [if_pos rfl, W_bind]
            refine (w.1 rfl).imp fun d h2 p2 => ?_
            rw [W_bind]
            refine ih (i + 1) (acc ++ [d]) h2 _ (by omega) (by omega) p2 fun a h q => fin (d :: a) h ?_
            rw [show acc ++ d :: a = acc ++ [d] ++ a by simp]
            exact q
        · have eg : xs[i]? = none := List.getElem?_eq_none (by omega)
          simp only [eg]
          have : i = xs.length := by omega
          subst this
          exact fin [] h (by rw [List.append_nil]; exact p)
    unfold compR
    rw [if_neg (by rw [c]; decide)]
    exact go FUEL 0 [] h Q (by unfold FUEL; omega) (by omega) h0 fun a h q => fin a h (by rw [List.nil_append] at q; exact q)
/-- a loop by an invariant -/
theorem w_fI (I : Nat → Ls → Hh → Prop) (hl : xs.length < 100000) (ei : ∀ (j : Nat) l h', I j l h' → it.items h' = some xs) (h0 : I 0 ls h) (st : ∀ (j : Nat) x l h, xs[j]? = some x → I j l h → ∃ l1, g x l = some l1 ∧ WS (b l1 h) (I (j + 1)) T N (I (j + 1))) (fin : ∀ l h, I xs.length l h → N l h) : WS (forR it g b ls h) N T B K := by
  cases c : it.cst with
  | true => exact w_for I c (ei 0 ls h h0) h0 st fin
  | false => exact w_cel I c hl ei h0 st fin
/-- over the keys of a dict -/
theorem WS_onlyN {r : RS} : WS (onlyN r) N T B K ↔ WS r N (fun _ _ => False) no2 no2 := by cases r <;> rfl
theorem w_keys (I : Nat → Ls → Hh → Prop) {kvs : List (Int × List Int)} (u : ls.all oNod = true ∧ h.all O.nod = true) (h0 : I 0 ls h) (st : ∀ (j : Nat) p l h, kvs[j]? = some p → I j l h → ∃ l1, g (.int p.1) l = some l1 ∧ WS (b l1 h) (I (j + 1)) (fun _ _ => False) N (I (j + 1))) (fin : ∀ l h, I kvs.length l h → N l h) : WS (keysR g b (some (some (.kd kvs))) ls h) N T B K := by
  unfold keysR
  simp only [if_pos u]
  rw [WS_onlyN]
  refine w_loop I (kvs.map fun p => D.int p.1) 0 (fun j x l h e q => ?_) (fun l h q => fin l h (by rw [List.length_map, Nat.zero_add] at q; exact q)) h0
  rw [List.getElem?_map, Option.map_eq_some_iff] at e
  obtain ⟨p, ep, rfl⟩ := e
  rw [Nat.zero_add] at q ⊢
  exact st j p l h ep q
/-! lists, in cells or not -/
theorem asL_fx {i : Nat} {h h' : Hh} {P : D} {xs : List D} (e : asL h P = some xs) (f : Fx i h h') (q : P ≠ .cel i) : asL h' P = some xs := by
  cases P with
  | cel c =>
    have e : asO h[c]? = some xs := e
    cases o : h[c]? with
    | none => rw [o] at e; cases e
    | some ob =>
      rw [o] at e
      show asO h'[c]? = _
      rw [f.at o (fun z => q (by rw [z]))]
      exact e
  | _ => exact e
theorem asL_app {h g : Hh} {P : D} {xs : List D} (e : asL h P = some xs) : asL (h ++ g) P = some xs := by
  cases P with
  | cel c =>
    have e : asO h[c]? = some xs := e
    cases o : h[c]? with
    | none => rw [o] at e; cases e
    | some ob =>
      rw [o] at e
      show asO (h ++ g)[c]? = _
      rw [List.getElem?_append_left (List.getElem?_eq_some_iff.mp o).1, o]
      exact e
  | _ => exact e
theorem asL_set {h : Hh} {j : Nat} {o : O} {P : D} {xs : List D} (e : asL h P = some xs) (q : P ≠ .cel j) : asL (h.set j o) P = some xs := asL_fx e Fx.set q
theorem seqOf_asL {h : Hh} {P : D} {xs : List D} (e : asL h P = some xs) : seqOf h P = some xs := by
  cases P with
  | tup _ => cases e
  | _ => exact e
theorem idx_asL {h : Hh} {P : D} {xs : List D} {n : Int} (e : asL h P = some xs) : idxD P (.int n) h = optD (atI xs n) h := by
  cases P with
  | tup _ => cases e
  | str _ => cases e
  | cel c => show idxL (asL h (.cel c)) n h = _; rw [e]; rfl
  | lst _ => cases e; rfl
  | kl _ => cases e; rfl
  | _ => cases e
theorem len_asL {h : Hh} {P : D} {xs : List D} {c : Bool} (e : asL h P = some xs) : biD .len c [P] h = .ok (.int xs.length) h := by
  cases P with
  | tup _ => cases e
  | str _ => cases e
  | dic _ => cases e
  | cel c => show optI ((asL h (.cel c)).map fun xs => (xs.length : Int)) h = _; rw [e]; rfl
  | lst _ => cases e; rfl
  | kl _ => cases e; rfl
  | _ => cases e
/-- a new object -/
theorem Fx.newAt {i : Nat} {h h' : Hh} (f : Fx i h h') {j : Nat} {o : O} (e : h[j]? = some o) (q : j ≠ i) : h'[j]? = some o := f.at e q
end
end Tb
namespace Tb
open PySem PySem.Spec PyProof.Rows L2
/-! ### pure calls by lists in cells -/
theorem callP_as {F : Fn} {ds es : List D} {v : D} {h : Hh} (hf : frzL (fz 0 h) ds = some es) (ep : pures es = true) (k : callM .P F es h = .ok v h) (hn : v.nol = true) : callM .P F ds h = .ok v h := by
  have k : callP F es h = .ok v h := k
  show callP F ds h = _
  unfold callP at k ⊢
  rw [frz_pures ep] at k
  rw [hf]
  simp only [ep, true_or, if_true] at k
  cases e : F es [] with
  | bad => rw [e] at k; cases k
  | exc c h1 => rw [e] at k; cases k
  | ok d h1 =>
    rw [e] at k
    cases e2 : fz 0 h1 d with
    | none =>
      simp [e2] at k
      cases d <;> try (cases k; done)
      rename_i i
      simp only at k
      cases q : kdO h1[i]? with
      | none => rw [q] at k; cases k
      | some kvs => rw [q] at k; cases k; cases hn
    | some z =>
      simp [e2] at k
      subst k
      simp [e, e2, hn]
theorem frz_gv {m : Nat} {h : Hh} : ∀ (k n : Nat) (d : D), n < k → d.gv n = true → frz m h k d = some d
  | 0, n, d, q, _ => absurd q (Nat.not_lt_zero _)
  | k + 1, n, d, q, g => by
    have go : ∀ (j : Nat) (xs : List D), j < k → xs.all (D.gv j) = true → frzL (frz m h k) xs = some xs := by
      intro j xs hj
      induction xs with
      | nil => intro _; rfl
      | cons x r ih =>
        intro g
        rw [List.all_cons, Bool.and_eq_true] at g
        simp only [frzL, frz_gv k j x hj g.1, Option.bind_some, ih g.2, Option.map_some]
    cases n with
    | zero =>
      cases d with
      | lst xs => simp [D.gv] at g
      | tup xs => simp [D.gv] at g
      | non => rfl
      | int i => rfl
      | _ => simp [D.gv] at g
    | succ n =>
      cases d with
      | lst xs =>
        show (frzL (frz m h k) xs).map D.lst = _
        rw [go n xs (by omega) (by simpa [D.gv] using g)]; rfl
      | tup xs =>
        show (frzL (frz m h k) xs).map D.tup = _
        rw [go n xs (by omega) (by simpa [D.gv] using g)]; rfl
      | non => rfl
      | int i => rfl
      | _ => simp [D.gv] at g
theorem fz_celG {h : Hh} {i n : Nat} {xs : List D} (e : h[i]? = some (.lst xs)) (g : xs.all (D.gv n) = true) (hn : n < 7) : fz 0 h (.cel i) = some (.lst xs) :=
  fz_cel e fun d hd => frz_gv 7 n d hn (List.all_eq_true.mp g d hd)
end Tb
namespace Tb
open PySem PySem.Spec PyProof.Rows L2
/-! ### plain data with texts -/
def D.gs : Nat → D → Bool
  | _, .int _ => true
  | _, .non => true
  | _, .str x => PyData.strOk x
  | n + 1, .lst xs => xs.all (D.gs n)
  | n + 1, .tup xs => xs.all (D.gs n)
  | _, _ => false
theorem gv_gs : ∀ (n : Nat) (d : D), d.gv n = true → d.gs n = true
  | n, .int i, _ => by cases n <;> rfl
  | n, .non, _ => by cases n <;> rfl
  | n + 1, .lst xs, h => by
    have h : xs.all (D.gv n) = true := by simpa [D.gv] using h
    show xs.all (D.gs n) = true
    rw [List.all_eq_true] at h ⊢
    exact fun x hx => gv_gs n x (h x hx)
  | n + 1, .tup xs, h => by
    have h : xs.all (D.gv n) = true := by simpa [D.gv] using h
    show xs.all (D.gs n) = true
    rw [List.all_eq_true] at h ⊢
    exact fun x hx => gv_gs n x (h x hx)
  | 0, .lst xs, h => by simp [D.gv] at h
  | 0, .tup xs, h => by simp [D.gv] at h
  | n, .bl _, h => by cases n <;> simp [D.gv] at h
  | n, .str _, h => by cases n <;> simp [D.gv] at h
  | n, .kl _, h => by cases n <;> simp [D.gv] at h
  | n, .dic _, h => by cases n <;> simp [D.gv] at h
  | n, .kd _, h => by cases n <;> simp [D.gv] at h
  | n, .cel _, h => by cases n <;> simp [D.gv] at h
  | n, .cls _, h => by cases n <;> simp [D.gv] at h
  | n, .ty _, h => by cases n <;> simp [D.gv] at h
  | n, .exc _, h => by cases n <;> simp [D.gv] at h
theorem gss_py {n : Nat} (ih : ∀ d : D, d.gs n = true → ∃ p, py d = some p ∧ p.canLay0 = true ∧ p.depth ≤ n) : ∀ xs : List D, xs.all (D.gs n) = true → ∃ ps, pys xs = some ps ∧ PyData.canLayAll0 ps = true ∧ PyData.depthAll ps ≤ n
  | [], _ => ⟨[], rfl, rfl, Nat.zero_le _⟩
  | x :: xs, h => by
    simp only [List.all_cons, Bool.and_eq_true] at h
    obtain ⟨p, e1, e2, e3⟩ := ih x h.1
    obtain ⟨ps, f1, f2, f3⟩ := gss_py ih xs h.2
    exact ⟨p :: ps, by simp [pys, e1, f1], by simp [PyData.canLayAll0, e2, f2], by simp only [PyData.depthAll]; omega⟩
theorem gs_py : ∀ (n : Nat) (d : D), d.gs n = true → ∃ p, py d = some p ∧ p.canLay0 = true ∧ p.depth ≤ n
  | n, .int i, _ => ⟨.int i, rfl, rfl, by simp [PyData.depth]⟩
  | n, .non, _ => ⟨.none, rfl, rfl, by simp [PyData.depth]⟩
  | n, .str x, h => ⟨.str x, rfl, by have h : PyData.strOk x = true := by { cases n <;> simpa [D.gs] using h }; simpa [PyData.canLay0] using h, by simp [PyData.depth]⟩
  | n + 1, .lst xs, h => by
    obtain ⟨ps, e1, e2, e3⟩ := gss_py (gs_py n) xs (by simpa [D.gs] using h)
    exact ⟨.list ps, by simp [py, e1], by simp [PyData.canLay0, e2], by simp only [PyData.depth]; omega⟩
  | n + 1, .tup xs, h => by
    obtain ⟨ps, e1, e2, e3⟩ := gss_py (gs_py n) xs (by simpa [D.gs] using h)
    exact ⟨.tuple ps, by simp [py, e1], by simp [PyData.canLay0, e2], by simp only [PyData.depth]; omega⟩
  | 0, .lst xs, h => by simp [D.gs] at h
  | 0, .tup xs, h => by simp [D.gs] at h
  | n, .bl _, h => by cases n <;> simp [D.gs] at h
  | n, .kl _, h => by cases n <;> simp [D.gs] at h
  | n, .dic _, h => by cases n <;> simp [D.gs] at h
  | n, .kd _, h => by cases n <;> simp [D.gs] at h
  | n, .cel _, h => by cases n <;> simp [D.gs] at h
  | n, .cls _, h => by cases n <;> simp [D.gs] at h
  | n, .ty _, h => by cases n <;> simp [D.gs] at h
  | n, .exc _, h => by cases n <;> simp [D.gs] at h
theorem pys_cons {x : D} {xs : List D} {ps : List PyData} (e : pys (x :: xs) = some ps) : ∃ p r, py x = some p ∧ pys xs = some r ∧ ps = p :: r := by
  simp only [pys] at e
  cases q : py x with
  | none => rw [q] at e; cases e
  | some p =>
    cases q2 : pys xs with
    | none => rw [q, q2] at e; cases e
    | some r => rw [q, q2] at e; cases e; exact ⟨p, r, rfl, rfl, rfl⟩
theorem gss_inj {n m : Nat} (ih : ∀ (d e : D) p q, d.gs n = true → e.gs m = true → py d = some p → py e = some q → (PyData.eqv p q = true ↔ d = e)) : ∀ (xs ys : List D) ps qs, xs.all (D.gs n) = true → ys.all (D.gs m) = true → pys xs = some ps → pys ys = some qs → (PyData.eqvAll ps qs = true ↔ xs = ys)
  | [], [], ps, qs, _, _, e1, e2 => by cases e1; cases e2; simp [PyData.eqvAll]
  | [], y :: ys, ps, qs, _, h2, e1, e2 => by
    cases e1
    obtain ⟨p, r, _, _, rfl⟩ := pys_cons e2
    simp [PyData.eqvAll]
  | x :: xs, [], ps, qs, h1, _, e1, e2 => by
    cases e2
    obtain ⟨p, r, _, _, rfl⟩ := pys_cons e1
    simp [PyData.eqvAll]
  | x :: xs, y :: ys, ps, qs, h1, h2, e1, e2 => by
    simp only [List.all_cons, Bool.and_eq_true] at h1 h2
    obtain ⟨p, r, q, q2, rfl⟩ := pys_cons e1
    obtain ⟨p', r', q3, q4, rfl⟩ := pys_cons e2
    simp only [PyData.eqvAll, Bool.and_eq_true, List.cons.injEq, ih x y p p' h1.1 h2.1 q q3, gss_inj ih xs ys r r' h1.2 h2.2 q2 q4]
theorem gs_leaf {m : Nat} {d e : D} {p q : PyData} (hd : (∃ i, d = .int i ∧ p = .int i) ∨ (d = .non ∧ p = .none) ∨ ∃ x, d = .str x ∧ p = .str x) (h2 : e.gs m = true) (e2 : py e = some q) : PyData.eqv p q = true ↔ d = e := by
  cases e with
  | int j => cases e2; rcases hd with ⟨i, rfl, rfl⟩ | ⟨rfl, rfl⟩ | ⟨x, rfl, rfl⟩ <;> simp [PyData.eqv]
  | non => cases e2; rcases hd with ⟨i, rfl, rfl⟩ | ⟨rfl, rfl⟩ | ⟨x, rfl, rfl⟩ <;> simp [PyData.eqv]
  | str j => cases e2; rcases hd with ⟨i, rfl, rfl⟩ | ⟨rfl, rfl⟩ | ⟨x, rfl, rfl⟩ <;> simp [PyData.eqv]
  | lst ys =>
    obtain ⟨r, _, rfl⟩ := Option.map_eq_some_iff.mp (show (pys ys).map PyData.list = some q from e2)
    rcases hd with ⟨i, rfl, rfl⟩ | ⟨rfl, rfl⟩ | ⟨x, rfl, rfl⟩ <;> simp [PyData.eqv]
  | tup ys =>
    obtain ⟨r, _, rfl⟩ := Option.map_eq_some_iff.mp (show (pys ys).map PyData.tuple = some q from e2)
    rcases hd with ⟨i, rfl, rfl⟩ | ⟨rfl, rfl⟩ | ⟨x, rfl, rfl⟩ <;> simp [PyData.eqv]
  | _ => cases m <;> simp [D.gs] at h2
theorem gs_inj : ∀ (n m : Nat) (d e : D) p q, d.gs n = true → e.gs m = true → py d = some p → py e = some q → (PyData.eqv p q = true ↔ d = e) := by
  intro n
  induction n with
  | zero =>
    intro m d e p q h1 h2 e1 e2
    cases d with
    | int i => cases e1; exact gs_leaf (.inl ⟨i, rfl, rfl⟩) h2 e2
    | non => cases e1; exact gs_leaf (.inr (.inl ⟨rfl, rfl⟩)) h2 e2
    | str x => cases e1; exact gs_leaf (.inr (.inr ⟨x, rfl, rfl⟩)) h2 e2
    | _ => simp [D.gs] at h1
  | succ n ih =>
    intro m d e p q h1 h2 e1 e2
    cases d with
    | int i => cases e1; exact gs_leaf (.inl ⟨i, rfl, rfl⟩) h2 e2
    | non => cases e1; exact gs_leaf (.inr (.inl ⟨rfl, rfl⟩)) h2 e2
    | str x => cases e1; exact gs_leaf (.inr (.inr ⟨x, rfl, rfl⟩)) h2 e2
    | lst xs =>
      obtain ⟨ps, z1, rfl⟩ := Option.map_eq_some_iff.mp (show (pys xs).map PyData.list = some p from e1)
      cases e with
      | int j => cases e2; simp [PyData.eqv]
      | non => cases e2; simp [PyData.eqv]
      | str j => cases e2; simp [PyData.eqv]
      | lst ys =>
        obtain ⟨qs, z2, rfl⟩ := Option.map_eq_some_iff.mp (show (pys ys).map PyData.list = some q from e2)
        cases m with
        | zero => simp [D.gs] at h2
        | succ m => simp only [PyData.eqv, D.lst.injEq]; exact gss_inj (ih m) xs ys ps qs (by simpa [D.gs] using h1) (by simpa [D.gs] using h2) z1 z2
      | tup ys =>
        obtain ⟨qs, z2, rfl⟩ := Option.map_eq_some_iff.mp (show (pys ys).map PyData.tuple = some q from e2)
        simp [PyData.eqv]
      | _ => cases m <;> simp [D.gs] at h2
    | tup xs =>
      obtain ⟨ps, z1, rfl⟩ := Option.map_eq_some_iff.mp (show (pys xs).map PyData.tuple = some p from e1)
      cases e with
      | int j => cases e2; simp [PyData.eqv]
      | non => cases e2; simp [PyData.eqv]
      | str j => cases e2; simp [PyData.eqv]
      | tup ys =>
        obtain ⟨qs, z2, rfl⟩ := Option.map_eq_some_iff.mp (show (pys ys).map PyData.tuple = some q from e2)
        cases m with
        | zero => simp [D.gs] at h2
        | succ m => simp only [PyData.eqv, D.tup.injEq]; exact gss_inj (ih m) xs ys ps qs (by simpa [D.gs] using h1) (by simpa [D.gs] using h2) z1 z2
      | lst ys =>
        obtain ⟨qs, z2, rfl⟩ := Option.map_eq_some_iff.mp (show (pys ys).map PyData.list = some q from e2)
        simp [PyData.eqv]
      | _ => cases m <;> simp [D.gs] at h2
    | _ => simp [D.gs] at h1
theorem gs_shaped {n : Nat} {d : D} (h1 : d.gs n = true) (hn : n ≤ 60) : ∃ p, (∀ h, toPy h d = some p) ∧ py d = some p ∧ SeqAt.shaped p = true := by
  obtain ⟨p, e1, l1, d1⟩ := gs_py n d h1
  refine ⟨p, fun h => ?_, e1, ?_⟩
  · cases d <;> first | exact e1 | (cases n <;> simp [D.gs] at h1)
  · unfold SeqAt.shaped
    rw [l1, decide_eq_true (by omega : p.depth ≤ 64)]; rfl
theorem eq_gs {h : Hh} {n m : Nat} {a b : D} (h1 : a.gs n = true) (h2 : b.gs m = true) (hn : n ≤ 60) (hm : m ≤ 60) : ∃ r : Bool, cmpD .Eq h a b = some r ∧ cmpD .NotEq h a b = some (!r) ∧ (r = true ↔ a = b) := by
  obtain ⟨p, t1, e1, s1⟩ := gs_shaped h1 hn
  obtain ⟨q, t2, e2, s2⟩ := gs_shaped h2 hm
  have main : eqP (toPy h a) (toPy h b) = some (PyData.eqv p q) := by
    rw [t1, t2]
    show (if SeqAt.shaped p = true ∧ SeqAt.shaped q = true then some (PyData.eqv p q) else none) = _
    rw [if_pos ⟨s1, s2⟩]
  have ee : eqD h a b = some (PyData.eqv p q) := by
    unfold eqD
    split
    · cases e1; cases e2; rfl
    · cases e1; cases e2
      have := gs_inj n m _ _ _ _ h1 h2 rfl rfl
      first
        | rfl
        | (congr 1; rw [Bool.eq_iff_iff, this, decide_eq_true_eq, D.str.injEq])
    · rw [main]
  refine ⟨PyData.eqv p q, ee, ?_, gs_inj n m a b p q h1 h2 e1 e2⟩
  show (eqD h a b).map not = _
  rw [ee]; rfl
theorem gs_self {v : D} {n : Nat} {h : Hh} (g : v.gs n = true) (hn : n ≤ 60) : cmpD .Eq h v v = some true ∧ cmpD .NotEq h v v = some false := by
  obtain ⟨r, e1, e2, q⟩ := eq_gs (h := h) g g hn hn
  rw [e1, e2, q.mpr rfl]; exact ⟨rfl, rfl⟩
theorem gs_ne {a b : D} {n m : Nat} {h : Hh} (g : a.gs n = true) (g2 : b.gs m = true) (hn : n ≤ 60) (hm : m ≤ 60) (ne : a ≠ b) : cmpD .Eq h a b = some false ∧ cmpD .NotEq h a b = some true := by
  obtain ⟨r, e1, e2, q⟩ := eq_gs (h := h) g g2 hn hm
  have : r = false := Bool.eq_false_iff.mpr fun z => ne (q.mp z)
  rw [e1, e2, this]; exact ⟨rfl, rfl⟩
theorem eq_str {h : Hh} {x y : Str} (hx : PyData.strOk x = true) (hy : PyData.strOk y = true) : cmpD .Eq h (.str x) (.str y) = some (decide (x = y)) := by
  obtain ⟨r, e1, _, q⟩ := eq_gs (h := h) (n := 0) (m := 0) (a := .str x) (b := .str y) hx hy (by omega) (by omega)
  rw [e1]; congr 1
  rw [Bool.eq_iff_iff, q, decide_eq_true_eq, D.str.injEq]
theorem ne_str {h : Hh} {x y : Str} (hx : PyData.strOk x = true) (hy : PyData.strOk y = true) : cmpD .NotEq h (.str x) (.str y) = some (!decide (x = y)) := by
  show (cmpD .Eq h (.str x) (.str y)).map not = _
  rw [eq_str hx hy]; rfl
/-- in a list of plain data -/
theorem in_gs {h : Hh} {n m : Nat} {a : D} {xs : List D} (h1 : a.gs n = true) (h2 : xs.all (D.gs m) = true) (hn : n ≤ 60) (hm : m < 60) (nd : ∀ i kvs, a = .int i → (D.lst xs) ≠ .dic kvs) : ∃ r : Bool, cmpD .In h a (.lst xs) = some r ∧ cmpD .NotIn h a (.lst xs) = some (!r) ∧ (r = true ↔ a ∈ xs) := by
  obtain ⟨p, t1, e1, s1⟩ := gs_shaped h1 hn
  have h2' : (D.lst xs).gs (m + 1) = true := h2
  obtain ⟨q, t2, e2, s2⟩ := gs_shaped h2' (by omega)
  obtain ⟨ps, z, rfl⟩ := Option.map_eq_some_iff.mp (show (pys xs).map PyData.list = some q from e2)
  have main : inD h a (.lst xs) = some (ps.any fun z => PyData.eqv z p) := by
    have : inD h a (.lst xs) = inP (toPy h a) (toPy h (.lst xs)) := by
      cases a <;> rfl
    rw [this, t1, t2]
    show (if SeqAt.shaped p = true ∧ SeqAt.shaped (.list ps) = true then some (ps.any fun z => PyData.eqv z p) else none) = _
    rw [if_pos ⟨s1, s2⟩]
  refine ⟨_, main, by show (inD h a (.lst xs)).map not = _; rw [main]; rfl, ?_⟩
  have key : ∀ (xs : List D) (ps : List PyData), xs.all (D.gs m) = true → pys xs = some ps → ((ps.any fun z => PyData.eqv z p) = true ↔ a ∈ xs) := by
    intro xs
    induction xs with
    | nil => intro ps _ e; cases e; simp
    | cons x r ih =>
      intro ps g e
      obtain ⟨y, r', q1, q2, rfl⟩ := pys_cons e
      rw [List.all_cons, Bool.and_eq_true] at g
      rw [List.any_cons, Bool.or_eq_true, ih r' g.2 q2, gs_inj m n x a y p g.1 h1 q1 e1, List.mem_cons]
      constructor <;> (rintro (z | z); exact .inl z.symm; exact .inr z)
  exact key xs ps h2 z
theorem frz_gs {m : Nat} {h : Hh} : ∀ (k n : Nat) (d : D), n < k → d.gs n = true → frz m h k d = some d
  | 0, n, d, q, _ => absurd q (Nat.not_lt_zero _)
  | k + 1, n, d, q, g => by
    have go : ∀ (j : Nat) (xs : List D), j < k → xs.all (D.gs j) = true → frzL (frz m h k) xs = some xs := by
      intro j xs hj
      induction xs with
      | nil => intro _; rfl
      | cons x r ih =>
        intro g
        rw [List.all_cons, Bool.and_eq_true] at g
        simp only [frzL, frz_gs k j x hj g.1, Option.bind_some, ih g.2, Option.map_some]
    cases n with
    | zero =>
      cases d with
      | non => rfl
      | int i => rfl
      | str x => rfl
      | _ => simp [D.gs] at g
    | succ n =>
      cases d with
      | lst xs =>
        show (frzL (frz m h k) xs).map D.lst = _
        rw [go n xs (by omega) (by simpa [D.gs] using g)]; rfl
      | tup xs =>
        show (frzL (frz m h k) xs).map D.tup = _
        rw [go n xs (by omega) (by simpa [D.gs] using g)]; rfl
      | non => rfl
      | int i => rfl
      | str x => rfl
      | _ => simp [D.gs] at g
theorem pure_gs : ∀ (n : Nat) (d : D), d.gs n = true → d.pure = true
  | n, .int i, _ => rfl
  | n, .non, _ => rfl
  | n, .str x, _ => rfl
  | n + 1, .lst xs, h => by
    have h : xs.all (D.gs n) = true := by simpa [D.gs] using h
    show pures xs = true
    induction xs with
    | nil => rfl
    | cons x r ih =>
      rw [List.all_cons, Bool.and_eq_true] at h
      simp only [pures, Bool.and_eq_true]
      exact ⟨pure_gs n x h.1, ih h.2 h.2⟩
  | n + 1, .tup xs, h => by
    have h : xs.all (D.gs n) = true := by simpa [D.gs] using h
    show pures xs = true
    induction xs with
    | nil => rfl
    | cons x r ih =>
      rw [List.all_cons, Bool.and_eq_true] at h
      simp only [pures, Bool.and_eq_true]
      exact ⟨pure_gs n x h.1, ih h.2 h.2⟩
  | 0, .lst xs, h => by simp [D.gs] at h
  | 0, .tup xs, h => by simp [D.gs] at h
  | n, .bl _, h => by cases n <;> simp [D.gs] at h
  | n, .kl _, h => by cases n <;> simp [D.gs] at h
  | n, .dic _, h => by cases n <;> simp [D.gs] at h
  | n, .kd _, h => by cases n <;> simp [D.gs] at h
  | n, .cel _, h => by cases n <;> simp [D.gs] at h
  | n, .cls _, h => by cases n <;> simp [D.gs] at h
  | n, .ty _, h => by cases n <;> simp [D.gs] at h
  | n, .exc _, h => by cases n <;> simp [D.gs] at h
end Tb
namespace Tb
open PySem PySem.Spec PyProof.Rows L2
/-! ### exceptions that are caught -/
def tryR (c : Str) (i j : Nat) : RS → RS
  | .exc k l1 h1 => if subX k c = true then (if j < l1.length then .nx ((l1.set j (some (.exc k))).set i none) h1 else .bad) else .exc k l1 h1
  | r => r
def tryB (c : Str) (j : Nat) (v : Bool) : RS → RS
  | .exc k l1 h1 => if subX k c = true then (if j < l1.length then .nx (l1.set j (some (.bl v))) h1 else .bad) else .exc k l1 h1
  | r => r
def tryTB (c : Str) (j : Nat) (v : Str) : RS → RS
  | .exc k l1 h1 => if subX k c = true then (if j < l1.length then .nx (l1.set j (some (.str v))) h1 else .bad) else .exc k l1 h1
  | r => r
section
variable {C : Cs} {b : Ss} {c k : Str} {i j : Nat} {v : Bool} {ls l1 : Ls} {h h1 : Hh} {d : D}
theorem eq_strs {x y : Str} : cmpD .Eq h (.str x) (.str y) = some (decide (x = y)) := rfl
theorem ne_strs {x y : Str} : cmpD .NotEq h (.str x) (.str y) = some (!decide (x = y)) := rfl
@[simp] theorem ev_tryA : evS C (.tryA b c i j) ls h = tryR c i j (evSs C b ls h) := by
  show (match evSs C b ls h with | .exc k l1 h1 => _ | r => r) = _
  cases evSs C b ls h <;> rfl
@[simp] theorem ev_tryK : evS C (.tryK b c j v) ls h = tryB c j v (evSs C b ls h) := by
  show (match evSs C b ls h with | .exc k l1 h1 => _ | r => r) = _
  cases evSs C b ls h <;> rfl
@[simp] theorem ev_tryT {v : Str} : evS C (.tryT b c j v) ls h = tryTB c j v (evSs C b ls h) := by
  show (match evSs C b ls h with | .exc k l1 h1 => _ | r => r) = _
  cases evSs C b ls h <;> rfl
@[simp] theorem tryTB_nx {v : Str} : tryTB c j v (.nx l1 h1) = .nx l1 h1 := rfl
@[simp] theorem tryTB_rt {v : Str} : tryTB c j v (.rt d h1) = .rt d h1 := rfl
@[simp] theorem tryTB_exc {v : Str} (q : subX k c = true) (hj : j < l1.length) : tryTB c j v (.exc k l1 h1) = .nx (l1.set j (some (.str v))) h1 := by
  unfold tryTB
  simp only [q, hj, if_true]
@[simp] theorem subX_back : subX k "BackError" = true := by unfold subX; simp
@[simp] theorem subX_self : subX k k = true := by unfold subX; simp
@[simp] theorem tryR_nx : tryR c i j (.nx l1 h1) = .nx l1 h1 := rfl
@[simp] theorem tryR_rt : tryR c i j (.rt d h1) = .rt d h1 := rfl
@[simp] theorem tryR_exc (q : subX k c = true) (hj : j < l1.length) : tryR c i j (.exc k l1 h1) = .nx ((l1.set j (some (.exc k))).set i none) h1 := by
  unfold tryR
  simp only [q, hj, if_true]
@[simp] theorem tryB_nx : tryB c j v (.nx l1 h1) = .nx l1 h1 := rfl
@[simp] theorem tryB_rt : tryB c j v (.rt d h1) = .rt d h1 := rfl
@[simp] theorem tryB_exc (q : subX k c = true) (hj : j < l1.length) : tryB c j v (.exc k l1 h1) = .nx (l1.set j (some (.bl v))) h1 := by
  unfold tryB
  simp only [q, hj, if_true]
@[simp] theorem isi_exc_cls {n m : Str} : isiD h (.exc n) (.cls m) = some (subX n m) := rfl
@[simp] theorem isi_exc_val {n : Str} : isiD h (.exc n) (.ty "ValueError") = some true := rfl
@[simp] theorem isi_exc_tup {n : Str} {ms : List D} : isiD h (.exc n) (.tup ms) = (clsL ms).map fun l => l.any (subX n) := rfl
@[simp] theorem is_exc_non {n : Str} : cmpD .Is h (.exc n) .non = some false := rfl
@[simp] theorem isn_exc_non {n : Str} : cmpD .IsNot h (.exc n) .non = some true := rfl
end
end Tb
namespace Tb
theorem fnS_run2 {C : Cs} {n np : Nat} {b : Ss} {ds : List D} {h : Hh} {ls : Ls} (hl : ds.length = np) (e : ds.map some ++ List.replicate (n - ds.length) none = ls) : fnS C n np b ds h = endR (evSs C b ls h) := by
  subst e
  exact fnS_run hl
theorem w_fnS2 {C : Cs} {n np : Nat} {b : Ss} {ds : List D} {h : Hh} {Q : D → Hh → Prop} {ls : Ls} (hl : ds.length = np) (e : ds.map some ++ List.replicate (n - ds.length) none = ls) (w : WS (evSs C b ls h) (fun _ h1 => Q .non h1) Q no2 no2) : W (fnS C n np b ds h) Q := by
  subst e
  exact w_fnS hl w
end Tb
namespace Tb
open PySem PySem.Spec PyProof.Rows L2
/-! ### objects -/
section
variable {C : Cs} {c f m : Str} {F : Fn} {a e : E} {es : Es} {ls : Ls} {h : Hh} {i : Nat} {fs : List (Str × D)} {d : D} {xs : List D} {Q : D → Hh → Prop}
@[simp] theorem ev_fld : evE (.fld c f a) ls h = (evE a ls h).bind fun x h1 => fldD c f x h1 := rfl
@[simp] theorem ev_mcall : evE (.mcall c m F a es) ls h = (evE a ls h).bind fun x h1 => if isIn c m x h1 = true then (evEs es ls h1).bind fun xs h2 => F (x :: xs) h2 else .bad := rfl
@[simp] theorem ev_make : evE (.make c F es) ls h = (evEs es ls h).bind fun xs h1 => newD F c xs h1 := rfl
@[simp] theorem ev_fset : evS C (.fset c f a e) ls h = ofR (evE e ls h) ls fun d h1 => ofR (evE a ls h1) ls fun x h2 => ofR (fsetD c f x d h2) ls fun _ h3 => .nx ls h3 := rfl
@[simp] theorem fld_c : fldD c f (.cel i) h = fldK c f (insO h[i]?) h := rfl
@[simp] theorem fldK_s : fldK c f (some (c, fs)) h = optD (fs.lookup f) h := if_pos rfl
@[simp] theorem insO_ins : insO (some (.ins c fs)) = some (c, fs) := rfl
def isInK (c m : Str) : Option (Str × List (Str × D)) → Bool
  | some (k, fs) => decide (k = c) && (fs.lookup m).isNone
  | none => false
@[simp] theorem isIn_c : isIn c m (.cel i) h = isInK c m (insO h[i]?) := by
  show (match insO h[i]? with | some (k, fs) => decide (k = c) && (fs.lookup m).isNone | none => false) = _
  cases insO h[i]? <;> rfl
@[simp] theorem isInK_s : isInK c m (some (c, fs)) = (fs.lookup m).isNone := by simp [isInK]
@[simp] theorem fset_c : fsetD c f (.cel i) d h = fsetK i c f (insO h[i]?) d h := rfl
@[simp] theorem fsetK_s (q : fs.length < 1000) : fsetK i c f (some (c, fs)) d h = .ok () (h.set i (.ins c (putFd f d fs))) := if_pos ⟨rfl, q⟩
@[simp] theorem W_newD : W (newD F c xs h) Q = W (F (.cel h.length :: xs) (h ++ [.ins c []])) fun d h2 => d = .non ∧ Q (.cel h.length) h2 := by
  unfold newD
  cases e : F (.cel h.length :: xs) (h ++ [.ins c []]) with
  | ok d h2 => cases d <;> simp
  | exc k h2 => rfl
  | bad => rfl
@[simp] theorem putFd_nil : putFd f d [] = [(f, d)] := rfl
end
end Tb
namespace Tb
open PySem PySem.Spec PyProof.Rows L2
/-! ### sorted, of tuples -/
theorem sortQ_map {α : Type} (enc : α → D) (pf : α → PyData) (L : List α) : sortQ (L.map enc) (L.map pf) = (L.mergeSort (PySem.W.dataLe false pf)).map enc := by
  unfold sortQ
  rw [List.zip_map', ← List.map_mergeSort (r := PySem.W.dataLe false pf) (s := PySem.W.dataLe false Prod.snd) (f := fun a => (enc a, pf a)) (fun _ _ _ _ => rfl), List.map_map]
  rfl
theorem sorted_tups {α : Type} {c : Bool} {d : D} {h : Hh} (enc : α → D) (pf : α → PyData) (L : List α) (e : asL h d = some (L.map enc)) (hi : ∀ a, ∃ xs, enc a = .tup xs) (ep : mapO (pyRN h 7) (L.map enc) = some (L.map pf)) (ok : sortOk (L.map pf) = true) (hl : L.length ≤ LIM) : biD .sorted c [d] h = mkL c ((L.mergeSort (PySem.W.dataLe false pf)).map enc) h := by
  show sortD c d h = _
  unfold sortD intsOf
  rw [e]
  cases L with
  | nil => rw [List.mergeSort_nil]; rfl
  | cons a r =>
    have e1 : asInts ((a :: r).map enc) = none := by
      obtain ⟨xs, ex⟩ := hi a
      rw [List.map_cons, ex]; rfl
    show (match asInts ((a :: r).map enc) with | some ns => mkSorted c (some ns) h | none => sortQL c ((a :: r).map enc) h) = _
    rw [e1]
    show sortQL c ((a :: r).map enc) h = _
    unfold sortQL
    rw [ep]
    show (if sortOk ((a :: r).map pf) = true ∧ ((a :: r).map enc).length ≤ LIM then mkL c (sortQ ((a :: r).map enc) ((a :: r).map pf)) h else .bad) = _
    rw [if_pos ⟨ok, by rw [List.length_map]; exact hl⟩, sortQ_map]
theorem mapO_map {α : Type} {f : D → Option PyData} (enc : α → D) (pf : α → PyData) : ∀ L : List α, (∀ a ∈ L, f (enc a) = some (pf a)) → mapO f (L.map enc) = some (L.map pf)
  | [], _ => rfl
  | a :: r, h => by
    show (f (enc a)).bind (fun p => (mapO f (r.map enc)).map fun ps => p :: ps) = _
    rw [h a List.mem_cons_self, mapO_map enc pf r fun x hx => h x (List.mem_cons_of_mem _ hx)]
    rfl
theorem sortOk_map {α : Type} (pf : α → PyData) (L : List α) (h1 : ∀ a ∈ L, tupN (pf a) = true ∧ (pf a).depth ≤ 20) (h2 : ∀ a ∈ L, ∀ b ∈ L, PySem.W.alike (pf a) (pf b) = true) : sortOk (L.map pf) = true := by
  unfold sortOk
  simp only [Bool.and_eq_true, List.all_eq_true, List.mem_map, decide_eq_true_eq]
  refine ⟨⟨?_, ?_⟩, ?_⟩
  · rintro _ ⟨a, ha, rfl⟩; exact (h1 a ha).1
  · rintro _ ⟨a, ha, rfl⟩ _ ⟨b, hb, rfl⟩; exact h2 a ha b hb
  · rintro _ ⟨a, ha, rfl⟩; exact (h1 a ha).2
end Tb
namespace K14
open PySem PySem.Spec PyProof.Rows L2 Tb
abbrev zn (K : PySem.W.Frag) : Zn := znOf K exL.xs
def AllOk (F : Fn) : Prop := ∀ {P : Program} {w : World} {K : PySem.W.Frag} {h : Heap} {mg : Str → Option Value} (X : K.In h) (G : h.Ns mainGlobals mg) (sy0 : (sysB K && excB K exL) = true) (c : He.SaysD faL fnL K), ∃ fd, (∀ base : Heap, FnG P w K mg base 9 (He.ga K "law") fd ["script"] (spF (zn K) 1 F)) ∧ (∀ (s : Shared) (v : Value), BindsTo s fd ⟨[v], []⟩ [("script", v)]) ∧ mg "law" = some (.ref (He.ga K "law"))
def LawOk (F : Fn) : Prop := ∀ (ns : List Int), ns.length ≤ 63 → (∀ i ∈ ns, Builtin.Int.intBits i ≤ 1048576) → ∃ h', F [.kl (ns.map .int)] [] = .ok (.bl true) h'
end K14
section
set_option maxHeartbeats 0
open PySem PySem.W PySem.Calls PyProof.Rows
theorem K14.pre (F : Tb.Fn) (ao : K14.AllOk F) (lo : K14.LawOk F) : PySem.Challenge.rw_toldback_k14_whole_readings_in_parts.Holds := by
  w_on; o_law
  refine HandSHeadRun.head_any (r := K14.Rr) (q := view K14.Rr.prog [39]) (H := K14.hk) (ob := K14.ob) (M := 12000) (loose := K14.loose) (d := HandSHeadRun.topDef K14.Rr.prog 39) (kwd := []) K14.ob_eq
    (by kernel_rfl) (fun s => by kernel_rfl) K14.run (by kernel_rfl) (by kernel_rfl) (by kernel_rfl) (by rfl) (by first | assumption | decide +kernel) (by decide +kernel) ⟨rfl, rfl, rfl, rfl, rfl, by decide +kernel⟩ ?hw ?hc
  case hw => w_witness2
  case hc =>
    refine Tb.walk_G (l := PySem.Challenge.rw_toldback_k14_whole_readings_in_parts) (n := 63) (k := 9) (x := "script") rfl (by decide) (by kernel_rfl) ⟨rfl, by decide, by decide⟩ ?F
    intro w mg fa h Y G hmg0
    obtain ⟨K, KX, sy, c⟩ := Y
    obtain ⟨fd, hF, hb, em⟩ := ao (P := (PySem.Challenge.rw_toldback_k14_whole_readings_in_parts).prog) (w := w) KX G sy c
    have e : (HandSHeadRun.topDef K14.Rr.prog 39).name = ("law" : PySem.Str) := by kernel_rfl
    rw [e] at hmg0
    rw [hmg0] at em
    obtain rfl : fa = He.ga K "law" := by cases em; rfl
    exact ⟨K, fd, Tb.spF (K14.zn K) 1 F, KX, hb, fun H a ns hl hbits hO hS => Tb.law_sp hO hS (lo ns hl hbits), fun base _ _ => hF base⟩
end
local macro_rules | `(tactic| walk_at "ln") => `(tactic| ((try simp only [List.length_append, List.length_cons, List.length_nil, List.length_map, List.length_reverse, List.length_set, List.length_range, List.length_replicate, List.length_take, List.length_drop]); omega))
namespace U
open PySem PySem.Spec PyProof.Rows L2 Tb
def b_is_whole : Ss := (.cons (.ret (.bop .And (.cons (.isi (.var 0) (.bty "int")) (.cons (.not (.isi (.var 0) (.bty "bool"))) .nil))))
  .nil)
def f_is_whole : Fn := fnS cs0 1 1 b_is_whole
def t_is_whole_1 : Ss := .cons (.ret (.bop .And (.cons (.isi (.var 0) (.bty "int")) (.cons (.not (.isi (.var 0) (.bty "bool"))) .nil)))) .nil
theorem u_is_whole : b_is_whole = t_is_whole_1 := rfl
/-- thing -/
theorem w_is_whole {x0 : D} {h : Hh} {Q : D → Hh → Prop} (w : WS (evSs cs0 t_is_whole_1 [some x0] h) (fun _ h1 => Q .non h1) Q no2 no2) : W (f_is_whole [x0] h) Q := by
  rw [← u_is_whole] at w
  exact w_fnS2 (C := cs0) (n := 1) (np := 1) (b := b_is_whole) rfl rfl w
theorem r_is_whole {x0 : D} {h : Hh} : f_is_whole [x0] h = endR (evSs cs0 t_is_whole_1 [some x0] h) := by
  rw [← u_is_whole]
  exact fnS_run2 (C := cs0) (n := 1) (np := 1) (b := b_is_whole) rfl rfl
def b_shared : Ss := (.cons (.whl (.cmp .NotEq (.var 1) (.int 0)) (.cons (.asg (.tp [0, 1]) (.tup (.cons (.var 1) (.cons (.bin false .Mod (.var 0) (.var 1)) .nil))))
  .nil))
  (.cons (.ret (.bi .abs false (.cons (.var 0) .nil)))
  .nil))
def f_shared : Fn := fnS cs0 2 2 b_shared
def t_shared_3 : Ss := .cons (.ret (.bi .abs false (.cons (.var 0) .nil))) .nil
def t_shared_2 : Ss := .cons (.asg (.tp [0, 1]) (.tup (.cons (.var 1) (.cons (.bin false .Mod (.var 0) (.var 1)) .nil)))) .nil
def t_shared_1 : Ss := .cons (.whl (.cmp .NotEq (.var 1) (.int 0)) t_shared_2) t_shared_3
theorem u_shared : b_shared = t_shared_1 := rfl
/-- one, other -/
theorem w_shared {x0 x1 : D} {h : Hh} {Q : D → Hh → Prop} (w : WS (evSs cs0 t_shared_1 [some x0, some x1] h) (fun _ h1 => Q .non h1) Q no2 no2) : W (f_shared [x0, x1] h) Q := by
  rw [← u_shared] at w
  exact w_fnS2 (C := cs0) (n := 2) (np := 2) (b := b_shared) rfl rfl w
theorem r_shared {x0 x1 : D} {h : Hh} : f_shared [x0, x1] h = endR (evSs cs0 t_shared_1 [some x0, some x1] h) := by
  rw [← u_shared]
  exact fnS_run2 (C := cs0) (n := 2) (np := 2) (b := b_shared) rfl rfl
def b_is_prime : Ss := (.cons (.ifs (.bop .Or (.cons (.not (.call .P "is_whole" f_is_whole (.cons (.var 0) .nil))) (.cons (.cmp .Lt (.var 0) (.int 2)) (.cons (.cmp .GtE (.var 0) (.glo "PRIMES_BELOW" (.int 1000))) .nil)))) (.cons (.ret (.bl false))
  .nil) .nil)
  (.cons (.asg (.nm 1) (.int 2))
  (.cons (.whl (.cmp .LtE (.bin false .Mult (.var 1) (.var 1)) (.var 0)) (.cons (.ifs (.cmp .Eq (.bin false .Mod (.var 0) (.var 1)) (.int 0)) (.cons (.ret (.bl false))
  .nil) .nil)
  (.cons (.aug 1 .Add (.int 1))
  .nil)))
  (.cons (.ret (.bl true))
  .nil))))
def f_is_prime : Fn := fnS cs0 2 1 b_is_prime
def t_is_prime_8 : Ss := .cons (.ret (.bl true)) .nil
def t_is_prime_7 : Ss := .cons (.aug 1 .Add (.int 1)) .nil
def t_is_prime_6 : Ss := .cons (.ret (.bl false)) .nil
def t_is_prime_5 : Ss := .cons (.ifs (.cmp .Eq (.bin false .Mod (.var 0) (.var 1)) (.int 0)) t_is_prime_6 .nil) t_is_prime_7
def t_is_prime_4 : Ss := .cons (.whl (.cmp .LtE (.bin false .Mult (.var 1) (.var 1)) (.var 0)) t_is_prime_5) t_is_prime_8
def t_is_prime_3 : Ss := .cons (.asg (.nm 1) (.int 2)) t_is_prime_4
def t_is_prime_2 : Ss := .cons (.ret (.bl false)) .nil
def t_is_prime_1 : Ss := .cons (.ifs (.bop .Or (.cons (.not (.call .P "is_whole" f_is_whole (.cons (.var 0) .nil))) (.cons (.cmp .Lt (.var 0) (.int 2)) (.cons (.cmp .GtE (.var 0) (.glo "PRIMES_BELOW" (.int 1000))) .nil)))) t_is_prime_2 .nil) t_is_prime_3
theorem u_is_prime : b_is_prime = t_is_prime_1 := rfl
/-- thing, part -/
theorem w_is_prime {x0 : D} {h : Hh} {Q : D → Hh → Prop} (w : WS (evSs cs0 t_is_prime_1 [some x0, none] h) (fun _ h1 => Q .non h1) Q no2 no2) : W (f_is_prime [x0] h) Q := by
  rw [← u_is_prime] at w
  exact w_fnS2 (C := cs0) (n := 2) (np := 1) (b := b_is_prime) rfl rfl w
theorem r_is_prime {x0 : D} {h : Hh} : f_is_prime [x0] h = endR (evSs cs0 t_is_prime_1 [some x0, none] h) := by
  rw [← u_is_prime]
  exact fnS_run2 (C := cs0) (n := 2) (np := 1) (b := b_is_prime) rfl rfl
/-! fractions, drawn -/
def gcBody : Ss := (.cons (.asg (.tp [0, 1]) (.tup (.cons (.var 1) (.cons (.bin false .Mod (.var 0) (.var 1)) .nil)))) .nil)
theorem mod_s {s x y : Int} {h : Hh} (hs : s = 1 ∨ s = -1) (hy : 0 < y) : binD false .Mod (.int (s * x)) (.int (s * y)) h = .ok (.int (s * (x % y))) h := by
  rcases hs with rfl | rfl
  · rw [Int.one_mul, Int.one_mul, Int.one_mul]
    exact bin_mod hy
  · have e1 : (-1 : Int) * x = -x := by omega
    have e2 : (-1 : Int) * y = -y := by omega
    have e3 : (-1 : Int) * (x % y) = -(x % y) := by omega
    rw [e1, e2, e3]
    show (if 0 < -y then (R.ok (D.int ((-x) % (-y))) h : R D) else if -y < 0 then .ok (.int ((-x).fmod (-y))) h else .bad) = _
    rw [if_neg (by omega), if_pos (by omega), Int.neg_fmod_neg, Int.fmod_eq_emod_of_nonneg _ (by omega)]
theorem gc_step {t : E} {s x y : Int} {fuel : Nat} (hs : s = 1 ∨ s = -1) (ht : evT t [some (.int (s * x)), some (.int (s * y))] [] = .ok true []) (hy : 0 < y) : whileR (evT t) (evSs cs0 gcBody) (fuel + 1) [some (.int (s * x)), some (.int (s * y))] [] = whileR (evT t) (evSs cs0 gcBody) fuel [some (.int (s * y)), some (.int (s * (x % y)))] [] := by
  rw [whileR_succ, ht]
  have m := mod_s (x := x) (h := []) hs hy
  simp [gcBody, m]
theorem gcd_run {t : E} {s : Int} (hs : s = 1 ∨ s = -1) (ht : ∀ x y : Int, 0 ≤ y → evT t [some (.int (s * x)), some (.int (s * y))] [] = .ok (decide (y ≠ 0)) []) : ∀ (k : Nat) (x y : Int) (fuel : Nat), 0 ≤ y → y < 2 ^ k → 2 * k + 1 ≤ fuel → ∃ g : Int, whileR (evT t) (evSs cs0 gcBody) fuel [some (.int (s * x)), some (.int (s * y))] [] = .nx [some (.int (s * g)), some (.int 0)] [] ∧ g.natAbs = Int.gcd x y ∧ (0 ≤ x → 0 ≤ g) := by
  have fin : ∀ (x : Int) (fuel : Nat), ∃ g : Int, whileR (evT t) (evSs cs0 gcBody) (fuel + 1) [some (.int (s * x)), some (.int (s * 0))] [] = .nx [some (.int (s * g)), some (.int 0)] [] ∧ g.natAbs = Int.gcd x 0 ∧ (0 ≤ x → 0 ≤ g) := by
    intro x fuel
    refine ⟨x, ?_, by rw [Int.gcd_zero_right], id⟩
    have h0 := ht x 0 (by omega)
    rw [whileR_succ, h0]
    simp
  intro k
  induction k with
  | zero =>
    intro x y fuel h0 h1 hf
    have e : y = 0 := by simp at h1; omega
    subst e
    obtain ⟨f, rfl⟩ : ∃ f, fuel = f + 1 := ⟨fuel - 1, by omega⟩
    exact fin x f
  | succ k ih =>
    intro x y fuel h0 h1 hf
    obtain ⟨f, rfl⟩ : ∃ f, fuel = f + 2 + 1 := ⟨fuel - 3, by omega⟩
    by_cases e : y = 0
    · subst e
      exact fin x (f + 2)
    · have hy : 0 < y := by omega
      have r0 : 0 ≤ x % y := Int.emod_nonneg _ (by omega)
      have r1 : x % y < y := Int.emod_lt_of_pos _ hy
      have gx : Int.gcd y (x % y) = Int.gcd x y := by
        rw [Int.emod_def, Int.gcd_comm, Int.gcd_sub_mul_left_left]
      rw [gc_step hs (by rw [ht x y h0]; simp [e]) hy]
      by_cases e2 : x % y = 0
      · rw [e2] at gx ⊢
        obtain ⟨g, a, b, c⟩ := fin y (f + 1)
        exact ⟨g, a, by rw [b, gx], fun _ => c h0⟩
      · have hr : 0 < x % y := by omega
        rw [gc_step hs (by rw [ht y (x % y) r0]; simp [e2]) hr]
        have q0 : 0 ≤ y % (x % y) := Int.emod_nonneg _ (by omega)
        have q1 : y % (x % y) < x % y := Int.emod_lt_of_pos _ hr
        have q2 : y % (x % y) ≤ y - x % y := by
          have : y % (x % y) = (y - x % y) % (x % y) := by rw [Int.sub_emod_right]
          rw [this]
          generalize hz : y - x % y = z
          have z0 : 0 ≤ z := by omega
          have := Int.emod_add_mul_ediv z (x % y)
          have d0 : 0 ≤ (x % y) * (z / (x % y)) := Int.mul_nonneg r0 (Int.ediv_nonneg z0 r0)
          omega
        have p2 : (2 : Int) ^ (k + 1) = 2 ^ k * 2 := Int.pow_succ _ _
        have gy : Int.gcd (x % y) (y % (x % y)) = Int.gcd y (x % y) := by
          rw [Int.emod_def y, Int.gcd_comm, Int.gcd_sub_mul_left_left]
        obtain ⟨g, a, b, c⟩ := ih (x % y) (y % (x % y)) (f + 1) q0 (by omega) (by omega)
        exact ⟨g, a, by rw [b, gy, gx], fun _ => c r0⟩
theorem shared_ok {a b : Int} {h : Hh} (hb : b.natAbs < 2 ^ 200) : callM .P f_shared [.int a, .int b] h = .ok (.int (Int.gcd a b : Nat)) h := by
  refine callPP rfl (d := .int (Int.gcd a b : Nat)) (h' := []) ?_ rfl
  refine fn2.trans ?_
  obtain ⟨s, x, y, hs, ea, eb, y0, eg⟩ : ∃ s x y : Int, (s = 1 ∨ s = -1) ∧ a = s * x ∧ b = s * y ∧ 0 ≤ y ∧ Int.gcd x y = Int.gcd a b := by
    by_cases q : 0 ≤ b
    · exact ⟨1, a, b, .inl rfl, by omega, by omega, q, rfl⟩
    · exact ⟨-1, -a, -b, .inr rfl, by omega, by omega, by omega, by rw [Int.gcd_neg, Int.neg_gcd]⟩
  have yb : y < 2 ^ 200 := by
    have e1 : ((b.natAbs : Nat) : Int) < 2 ^ 200 := by exact_mod_cast hb
    have : y = (b.natAbs : Int) := by rcases hs with rfl | rfl <;> omega
    omega
  obtain ⟨g, e, n, _⟩ := gcd_run (t := .cmp .NotEq (.var 1) (.int 0)) (s := s) hs (fun x y hy => by
    have z : s * y = 0 ↔ y = 0 := by rcases hs with rfl | rfl <;> omega
    by_cases q : y = 0
    · simp [q]
    · have q2 : ¬ s * y = 0 := fun w => q (z.mp w)
      simp [q, q2]) 200 x y FUEL y0 yb (by decide)
  rw [eg] at n
  have ge : (if s * g < 0 then -(s * g) else s * g) = ((Int.gcd a b : Nat) : Int) := by rcases hs with rfl | rfl <;> split <;> omega
  rw [← ea, ← eb] at e
  simp only [gcBody] at e
  simp only [b_shared]
  generalize s * g = G at *
  simp [e, ge]
theorem big200 {a : Int} (h0 : -1000000000000000000000000000000000000000000000000000000000000 ≤ a) (h1 : a ≤ 1000000000000000000000000000000000000000000000000000000000000) : a.natAbs < 2 ^ 200 := by
  have : (1000000000000000000000000000000000000000000000000000000000000 : Nat) < 2 ^ 200 := by decide
  omega
theorem whole_ok {x : Int} {h : Hh} : callM .P f_is_whole [.int x] h = .ok (.bl true) h := by
  refine callPP rfl (d := .bl true) (h' := []) ?_ rfl
  refine fn1.trans ?_
  simp [b_is_whole]
/-! the primes below a thousand -/
def PR : List Int := [2, 3, 5, 7, 11, 13, 17, 19, 23, 29, 31, 37, 41, 43, 47, 53, 59, 61, 67, 71, 73, 79, 83, 89, 97, 101, 103, 107, 109, 113, 127, 131, 137, 139, 149, 151, 157, 163, 167, 173, 179, 181, 191, 193, 197, 199, 211, 223, 227, 229, 233, 239, 241, 251, 257, 263, 269, 271, 277, 281, 283, 293, 307, 311, 313, 317, 331, 337, 347, 349, 353, 359, 367, 373, 379, 383, 389, 397, 401, 409, 419, 421, 431, 433, 439, 443, 449, 457, 461, 463, 467, 479, 487, 491, 499, 503, 509, 521, 523, 541, 547, 557, 563, 569, 571, 577, 587, 593, 599, 601, 607, 613, 617, 619, 631, 641, 643, 647, 653, 659, 661, 673, 677, 683, 691, 701, 709, 719, 727, 733, 739, 743, 751, 757, 761, 769, 773, 787, 797, 809, 811, 821, 823, 827, 829, 839, 853, 857, 859, 863, 877, 881, 883, 887, 907, 911, 919, 929, 937, 941, 947, 953, 967, 971, 977, 983, 991, 997]
def fewD (n : Nat) : Bool := (List.range 30).all fun i => !(Nat.beq (n % (2 + i)) 0 && Nat.blt (2 + i) n)
theorem prime_ok {p : Int} {h : Hh} (hp : p ∈ PR) : callM .P f_is_prime [.int p] h = .ok (.bl true) h := by
  have k : (PR.all fun p => chkB (f_is_prime [.int p] []) true) = true := by decide +kernel
  obtain ⟨h', e⟩ := chkB_ok (List.all_eq_true.mp k p hp)
  exact callPP rfl e rfl
theorem PR_lt {p : Int} (hp : p ∈ PR) : 2 ≤ p ∧ p < 1000 := by
  have k : (PR.all fun p => decide (2 ≤ p ∧ p < 1000)) = true := by decide +kernel
  exact of_decide_eq_true (List.all_eq_true.mp k p hp)
theorem PR_nodup : PR.Nodup := by decide +kernel
theorem PR_len : PR.length = 168 := by decide +kernel
theorem PR_cop {p q : Int} (hp : p ∈ PR) (hq : q ∈ PR) (ne : p ≠ q) : Int.gcd p q = 1 := by
  have k : (PR.all fun p => PR.all fun q => p == q || Int.gcd p q == 1) = true := by decide +kernel
  have := List.all_eq_true.mp (List.all_eq_true.mp k p hp) q hq
  simp at this
  rcases this with r | r
  · exact absurd r ne
  · exact r
/-! rests -/
theorem PR_gcd {p b : Int} (hp : p ∈ PR) (hb : b % p ≠ 0) : Int.gcd b p = 1 := by
  have k : (PR.all fun p => fewD p.toNat) = true := by decide +kernel
  have k := List.all_eq_true.mp k p hp
  have pb := PR_lt hp
  have few : ∀ d : Nat, 2 ≤ d → d < 32 → d < p.toNat → p.toNat % d ≠ 0 := by
    intro d d2 d3 d4 z
    have := List.all_eq_true.mp k (d - 2) (List.mem_range.mpr (by omega))
    rw [show 2 + (d - 2) = d by omega, z] at this
    have t : Nat.blt d p.toNat = true := Nat.ble_eq_true_of_le d4
    rw [t] at this
    cases this
  have g0 : 0 < Int.gcd b p := Int.gcd_pos_of_ne_zero_right _ (by omega)
  have gp : Int.gcd b p ∣ p.toNat := by
    have := Int.gcd_dvd_right b p
    have e : ((p.toNat : Nat) : Int) = p := by omega
    rw [← e] at this
    exact Int.ofNat_dvd.mp (by rwa [e] at this ⊢)
  obtain ⟨c, hc⟩ := gp
  have nb : Int.gcd b p ≠ p.toNat := fun z => by
    have d := Int.gcd_dvd_left b p
    rw [z] at d
    have e : ((p.toNat : Nat) : Int) = p := by omega
    rw [e] at d
    exact hb (Int.emod_eq_zero_of_dvd d)
  generalize Int.gcd b p = g at *
  by_cases g1 : g = 1
  · exact g1
  · exfalso
    have c0 : c ≠ 0 := fun z => by subst z; simp at hc; omega
    have c1 : c ≠ 1 := fun z => by subst z; simp at hc; omega
    have gl : g < p.toNat := by
      have : g * 1 < g * c := Nat.mul_lt_mul_of_pos_left (by omega) g0
      omega
    have cl : c < p.toNat := by
      have : 1 * c < g * c := Nat.mul_lt_mul_of_pos_right (by omega) (by omega)
      omega
    by_cases q : g < 32
    · exact few g (by omega) q gl (by rw [hc]; exact Nat.mul_mod_right _ _)
    · have : c < 32 := by
        by_cases z : c < 32
        · exact z
        · have : 32 * 32 ≤ g * c := Nat.mul_le_mul (by omega) (by omega)
          omega
      exact few c (by omega) this cl (by rw [hc]; exact Nat.mul_mod_left _ _)
end U
namespace U
open PySem PySem.Spec PyProof.Rows L2 Tb
/-! calls whose cells are ours -/
mutual
theorem sh_pure (n : Nat) : ∀ d : D, d.pure = true → d.sh n = d
  | .non, _ => rfl
  | .bl _, _ => rfl
  | .int _, _ => rfl
  | .str _, _ => rfl
  | .tup xs, h => by rw [D.sh, shs_pure n xs (by simpa [D.pure] using h)]
  | .lst xs, h => by rw [D.sh, shs_pure n xs (by simpa [D.pure] using h)]
  | .kl xs, h => by rw [D.sh, shs_pure n xs (by simpa [D.pure] using h)]
  | .dic kvs, h => by rw [D.sh, shK_pure n kvs (by simpa [D.pure] using h)]
  | .cel _, h => by simp [D.pure] at h
  | .cls _, _ => rfl
  | .ty _, _ => rfl
  | .exc _, _ => rfl
theorem shs_pure (n : Nat) : ∀ ds : List D, pures ds = true → shs n ds = ds
  | [], _ => rfl
  | d :: ds, h => by
    simp only [pures, Bool.and_eq_true] at h
    rw [shs, sh_pure n d h.1, shs_pure n ds h.2]
theorem shK_pure (n : Nat) : ∀ ds : List (Key × D), pureK ds = true → shK n ds = ds
  | [], _ => rfl
  | (k, d) :: ds, h => by
    simp only [pureK, Bool.and_eq_true] at h
    rw [shK, sh_pure n d h.1, shK_pure n ds h.2]
end
theorem w_callL {F : Fn} {ds : List D} {h : Hh} {Q : D → Hh → Prop} (hp : pures ds = true) (w : W (F ds []) fun d h' => h'.all O.noI = true ∧ Q (d.sh h.length) (h ++ h'.map (O.sh h.length))) : W (callM .L F ds h) Q := by
  obtain ⟨d, h', e, n, q⟩ := w.ex
  show W (callL F ds h) Q
  unfold callL
  rw [frz_pures hp]
  simp only [e, n, hp, true_or, and_self, if_true]
  exact q
theorem mapO_py {f : D → Option PyData} : ∀ xs : List D, (∀ x ∈ xs, f x = py x) → mapO f xs = pys xs
  | [], _ => rfl
  | x :: r, al => by rw [mapO, pys, al x List.mem_cons_self, mapO_py r fun y hy => al y (List.mem_cons_of_mem _ hy)]
theorem pyN_gv {h : Hh} : ∀ (k n : Nat) (d : D), n < k → d.gv n = true → pyN h k d = py d
  | 0, n, d, q, _ => absurd q (Nat.not_lt_zero _)
  | k + 1, n, d, q, g => by
    cases n with
    | zero =>
      cases d with
      | non => rfl
      | int i => rfl
      | _ => simp [D.gv] at g
    | succ n =>
      have go : ∀ xs : List D, xs.all (D.gv n) = true → mapO (pyN h k) xs = pys xs := fun xs ga => mapO_py xs fun x hx => pyN_gv k n x (by omega) (List.all_eq_true.mp ga x hx)
      cases d with
      | lst xs =>
        show (mapO (pyN h k) xs).map PyData.list = (pys xs).map PyData.list
        rw [go xs (by simpa [D.gv] using g)]
      | tup xs =>
        show (mapO (pyN h k) xs).map PyData.tuple = (pys xs).map PyData.tuple
        rw [go xs (by simpa [D.gv] using g)]
      | non => rfl
      | int i => rfl
      | _ => simp [D.gv] at g
/-- by cells within or not, alike where the data are -/
theorem deep_self {h : Hh} {a b : D} {n : Nat} (e : pyN h 8 a = pyN h 8 b) (g : b.gv n = true) (hn : n < 8) (na : toPy h a = none) (ta : asT h a = none) (ni : ∀ i, a ≠ .int i) (nst : ∀ i, a ≠ .str i) : cmpD .Eq h a b = some true ∧ cmpD .NotEq h a b = some false := by
  have p1 := pyN_gv (h := h) 8 n b hn g
  have main : eqP (py b) (py b) = some true := by
    obtain ⟨r0, e1, _, q0⟩ := eq_gv (h := []) g g (by omega) (by omega)
    rw [q0.mpr rfl] at e1
    have e1 : eqD [] b b = some true := e1
    cases b with
    | int i => simp [py, eqP, SeqAt.shaped, PyData.canLay0, PyData.depth, PyData.eqv]
    | non => simp [py, eqP, SeqAt.shaped, PyData.canLay0, PyData.depth, PyData.eqv]
    | lst xs =>
      have e1 : (match eqP (py (.lst xs)) (py (.lst xs)) with | some r => some r | none => neLen [] (.lst xs) (.lst xs)) = some true := e1
      cases q : eqP (py (.lst xs)) (py (.lst xs)) with
      | some r => rw [q] at e1; exact e1
      | none =>
        rw [q] at e1
        simp only [neLen, asT, if_true] at e1
        rw [pyN_gv (h := []) 8 n _ hn g, q] at e1
        cases e1
    | tup xs =>
      have e1 : (match eqP (py (.tup xs)) (py (.tup xs)) with | some r => some r | none => neLen [] (.tup xs) (.tup xs)) = some true := e1
      cases q : eqP (py (.tup xs)) (py (.tup xs)) with
      | some r => rw [q] at e1; exact e1
      | none =>
        rw [q] at e1
        simp only [neLen, asT] at e1
        rw [pyN_gv (h := []) 8 n _ hn g, q] at e1
        cases e1
    | _ => cases n <;> simp [D.gv] at g
  have ee : eqD h a b = some true := by
    have z : eqP (toPy h a) (toPy h b) = none := by rw [na]; rfl
    have y : neLen h a b = some true := by
      unfold neLen
      rw [ta]
      simp only
      rw [e, p1]
      exact main
    unfold eqD
    split
    · exact absurd rfl (ni _)
    · exact absurd rfl (nst _)
    · rw [z]; exact y
  exact ⟨ee, by show (eqD h a b).map not = _; rw [ee]; rfl⟩
end U
namespace U
open PySem PySem.Spec PyProof.Rows L2 Tb
/-! readings, with None too -/
def od : Option Int → D
  | none => .non
  | some r => .int r
def pq (q : Int × Option Int) : D := .tup [.int q.1, od q.2]
theorem od_pure (o : Option Int) : (od o).pure = true := by cases o <;> rfl
theorem pq_pure (q : Int × Option Int) : (pq q).pure = true := by
  simp only [pq, D.pure, pures, od_pure]; rfl
theorem pures_pq (l : List (Int × Option Int)) : pures (l.map pq) = true := by
  induction l with
  | nil => rfl
  | cons a r ih => simp only [List.map_cons, pures, Bool.and_eq_true]; exact ⟨pq_pure a, ih⟩
end U
namespace U
open PySem PySem.Spec PyProof.Rows L2 Tb
def b_is_reading : Ss := (.cons (.ifs (.bop .Or (.cons (.not (.isi (.var 0) (.bty "tuple"))) (.cons (.cmp .NotEq (.bi .len false (.cons (.var 0) .nil)) (.int 2)) (.cons (.not (.call .P "is_prime" f_is_prime (.cons (.idx (.var 0) (.int 0)) .nil))) .nil)))) (.cons (.ret (.bl false))
  .nil) .nil)
  (.cons (.ret (.bop .Or (.cons (.cmp .Is (.idx (.var 0) (.int 1)) .non) (.cons (.bop .And (.cons (.call .P "is_whole" f_is_whole (.cons (.idx (.var 0) (.int 1)) .nil)) (.cons (.chn .LtE .Lt (.int 0) (.idx (.var 0) (.int 1)) (.idx (.var 0) (.int 0))) .nil))) .nil))))
  .nil))
def f_is_reading : Fn := fnS cs0 1 1 b_is_reading
def t_is_reading_3 : Ss := .cons (.ret (.bop .Or (.cons (.cmp .Is (.idx (.var 0) (.int 1)) .non) (.cons (.bop .And (.cons (.call .P "is_whole" f_is_whole (.cons (.idx (.var 0) (.int 1)) .nil)) (.cons (.chn .LtE .Lt (.int 0) (.idx (.var 0) (.int 1)) (.idx (.var 0) (.int 0))) .nil))) .nil)))) .nil
def t_is_reading_2 : Ss := .cons (.ret (.bl false)) .nil
def t_is_reading_1 : Ss := .cons (.ifs (.bop .Or (.cons (.not (.isi (.var 0) (.bty "tuple"))) (.cons (.cmp .NotEq (.bi .len false (.cons (.var 0) .nil)) (.int 2)) (.cons (.not (.call .P "is_prime" f_is_prime (.cons (.idx (.var 0) (.int 0)) .nil))) .nil)))) t_is_reading_2 .nil) t_is_reading_3
theorem u_is_reading : b_is_reading = t_is_reading_1 := rfl
/-- thing -/
theorem w_is_reading {x0 : D} {h : Hh} {Q : D → Hh → Prop} (w : WS (evSs cs0 t_is_reading_1 [some x0] h) (fun _ h1 => Q .non h1) Q no2 no2) : W (f_is_reading [x0] h) Q := by
  rw [← u_is_reading] at w
  exact w_fnS2 (C := cs0) (n := 1) (np := 1) (b := b_is_reading) rfl rfl w
theorem r_is_reading {x0 : D} {h : Hh} : f_is_reading [x0] h = endR (evSs cs0 t_is_reading_1 [some x0] h) := by
  rw [← u_is_reading]
  exact fnS_run2 (C := cs0) (n := 1) (np := 1) (b := b_is_reading) rfl rfl
def b_is_readings : Ss := (.cons (.ifs (.bop .Or (.cons (.not (.isi (.var 0) (.bty "list"))) (.cons (.cmp .Gt (.bi .len false (.cons (.var 0) .nil)) (.glo "MOST_READINGS" (.int 10))) .nil))) (.cons (.ret (.bl false))
  .nil) .nil)
  (.cons (.ifs (.cmp .NotEq (.comp false [1] (.nm 1) (.seq (.var 0)) (.cons (.not (.call .P "is_reading" f_is_reading (.cons (.var 1) .nil))) .nil) (.var 1)) (.lst false .nil)) (.cons (.ret (.bl false))
  .nil) .nil)
  (.cons (.ret (.cmp .Eq (.lset (.comp false [2, 3] (.tp [2, 3]) (.seq (.var 0)) .nil (.var 2))) (.bi .len false (.cons (.var 0) .nil))))
  .nil)))
def f_is_readings : Fn := fnS cs0 4 1 b_is_readings
def t_is_readings_5 : Ss := .cons (.ret (.cmp .Eq (.lset (.comp false [2, 3] (.tp [2, 3]) (.seq (.var 0)) .nil (.var 2))) (.bi .len false (.cons (.var 0) .nil)))) .nil
def t_is_readings_4 : Ss := .cons (.ret (.bl false)) .nil
def t_is_readings_3 : Ss := .cons (.ifs (.cmp .NotEq (.comp false [1] (.nm 1) (.seq (.var 0)) (.cons (.not (.call .P "is_reading" f_is_reading (.cons (.var 1) .nil))) .nil) (.var 1)) (.lst false .nil)) t_is_readings_4 .nil) t_is_readings_5
def t_is_readings_2 : Ss := .cons (.ret (.bl false)) .nil
def t_is_readings_1 : Ss := .cons (.ifs (.bop .Or (.cons (.not (.isi (.var 0) (.bty "list"))) (.cons (.cmp .Gt (.bi .len false (.cons (.var 0) .nil)) (.glo "MOST_READINGS" (.int 10))) .nil))) t_is_readings_2 .nil) t_is_readings_3
theorem u_is_readings : b_is_readings = t_is_readings_1 := rfl
/-- thing, one, p, rest -/
theorem w_is_readings {x0 : D} {h : Hh} {Q : D → Hh → Prop} (w : WS (evSs cs0 t_is_readings_1 [some x0, none, none, none] h) (fun _ h1 => Q .non h1) Q no2 no2) : W (f_is_readings [x0] h) Q := by
  rw [← u_is_readings] at w
  exact w_fnS2 (C := cs0) (n := 4) (np := 1) (b := b_is_readings) rfl rfl w
theorem r_is_readings {x0 : D} {h : Hh} : f_is_readings [x0] h = endR (evSs cs0 t_is_readings_1 [some x0, none, none, none] h) := by
  rw [← u_is_readings]
  exact fnS_run2 (C := cs0) (n := 4) (np := 1) (b := b_is_readings) rfl rfl
def b_need_readings : Ss := (.cons (.ifs (.not (.call .P "is_readings" f_is_readings (.cons (.var 0) .nil))) (.cons (.rais "NoReadings")
  .nil) .nil)
  .nil)
def f_need_readings : Fn := fnS cs0 1 1 b_need_readings
def t_need_readings_2 : Ss := .cons (.rais "NoReadings") .nil
def t_need_readings_1 : Ss := .cons (.ifs (.not (.call .P "is_readings" f_is_readings (.cons (.var 0) .nil))) t_need_readings_2 .nil) .nil
theorem u_need_readings : b_need_readings = t_need_readings_1 := rfl
/-- readings -/
theorem w_need_readings {x0 : D} {h : Hh} {Q : D → Hh → Prop} (w : WS (evSs cs0 t_need_readings_1 [some x0] h) (fun _ h1 => Q .non h1) Q no2 no2) : W (f_need_readings [x0] h) Q := by
  rw [← u_need_readings] at w
  exact w_fnS2 (C := cs0) (n := 1) (np := 1) (b := b_need_readings) rfl rfl w
theorem r_need_readings {x0 : D} {h : Hh} : f_need_readings [x0] h = endR (evSs cs0 t_need_readings_1 [some x0] h) := by
  rw [← u_need_readings]
  exact fnS_run2 (C := cs0) (n := 1) (np := 1) (b := b_need_readings) rfl rfl
def b_keeps : Ss := (.cons (.asg (.tp [2, 3]) (.var 1))
  (.cons (.ifs (.bop .Or (.cons (.cmp .Is (.var 3) .non) (.cons (.cmp .Eq (.bin false .Mod (.idx (.var 0) (.int 1)) (.var 2)) (.int 0)) .nil))) (.cons (.ret (.bop .And (.cons (.cmp .Is (.var 3) .non) (.cons (.cmp .Eq (.bin false .Mod (.idx (.var 0) (.int 1)) (.var 2)) (.int 0)) .nil))))
  .nil) .nil)
  (.cons (.ret (.cmp .Eq (.bin false .Mod (.bin false .Sub (.bin false .Mult (.var 3) (.idx (.var 0) (.int 1))) (.idx (.var 0) (.int 0))) (.var 2)) (.int 0)))
  .nil)))
def f_keeps : Fn := fnS cs0 4 2 b_keeps
def t_keeps_4 : Ss := .cons (.ret (.cmp .Eq (.bin false .Mod (.bin false .Sub (.bin false .Mult (.var 3) (.idx (.var 0) (.int 1))) (.idx (.var 0) (.int 0))) (.var 2)) (.int 0))) .nil
def t_keeps_3 : Ss := .cons (.ret (.bop .And (.cons (.cmp .Is (.var 3) .non) (.cons (.cmp .Eq (.bin false .Mod (.idx (.var 0) (.int 1)) (.var 2)) (.int 0)) .nil)))) .nil
def t_keeps_2 : Ss := .cons (.ifs (.bop .Or (.cons (.cmp .Is (.var 3) .non) (.cons (.cmp .Eq (.bin false .Mod (.idx (.var 0) (.int 1)) (.var 2)) (.int 0)) .nil))) t_keeps_3 .nil) t_keeps_4
def t_keeps_1 : Ss := .cons (.asg (.tp [2, 3]) (.var 1)) t_keeps_2
theorem u_keeps : b_keeps = t_keeps_1 := rfl
/-- f, reading, p, rest -/
theorem w_keeps {x0 x1 : D} {h : Hh} {Q : D → Hh → Prop} (w : WS (evSs cs0 t_keeps_1 [some x0, some x1, none, none] h) (fun _ h1 => Q .non h1) Q no2 no2) : W (f_keeps [x0, x1] h) Q := by
  rw [← u_keeps] at w
  exact w_fnS2 (C := cs0) (n := 4) (np := 2) (b := b_keeps) rfl rfl w
theorem r_keeps {x0 x1 : D} {h : Hh} : f_keeps [x0, x1] h = endR (evSs cs0 t_keeps_1 [some x0, some x1, none, none] h) := by
  rw [← u_keeps]
  exact fnS_run2 (C := cs0) (n := 4) (np := 2) (b := b_keeps) rfl rfl
theorem gv_od (o : Option Int) : D.gv 0 (od o) = true := by cases o <;> rfl
theorem gv_pq (l : List (Int × Option Int)) : D.gv 2 (.lst (l.map pq)) = true := by
  show (l.map pq).all (D.gv 1) = true
  rw [List.all_map, List.all_eq_true]
  rintro ⟨p, o⟩ _
  cases o <;> rfl
def RdO (rs : List (Int × Option Int)) : Prop := (rs.map Prod.fst).Nodup ∧ ∀ q ∈ rs, q.1 ∈ PR ∧ ∀ r, q.2 = some r → 0 ≤ r ∧ r < q.1
theorem readingO_ok {q : Int × Option Int} {h : Hh} (hp : q.1 ∈ PR) (h0 : ∀ r, q.2 = some r → 0 ≤ r ∧ r < q.1) : callM .P f_is_reading [pq q] h = .ok (.bl true) h := by
  obtain ⟨p, o⟩ := q
  refine callPP (by simp [pures, pq_pure]) (d := .bl true) (h' := []) ?_ rfl
  refine fn1.trans ?_
  cases o with
  | none => simp [b_is_reading, pq, od, prime_ok hp]
  | some r =>
    obtain ⟨a, b⟩ := h0 r rfl
    simp at b
    simp [b_is_reading, pq, od, prime_ok hp, whole_ok, a, b]
theorem dst_self {ns : List Int} (nd : ns.Nodup) : dstI ns = ns := by
  have st : ∀ (ks : List Int) (a : Int), a ∉ ks → PyProof.Rows.step_dedup ks a = ks ++ [a] := by
    intro ks a ha
    unfold PyProof.Rows.step_dedup
    simp [ha]
  have go : ∀ (l ks : List Int), (ks ++ l).Nodup → l.foldl PyProof.Rows.step_dedup ks = ks ++ l := by
    intro l
    induction l with
    | nil => intro ks _; simp
    | cons a r ih =>
      intro ks q
      have ha : a ∉ ks := fun z => by
        have := (List.nodup_append.mp q).2.2 a z a List.mem_cons_self
        exact this rfl
      rw [List.foldl_cons, st ks a ha, ih (ks ++ [a]) (by simpa using q)]
      simp
  have := go ns [] (by simpa using nd)
  simpa [dstI] using this
theorem intsL_map : ∀ ns : List Int, intsL (ns.map .int) = some ns
  | [] => rfl
  | n :: r => by simp [intsL, intsL_map r]
theorem lset_ints {ns : List Int} {h : Hh} (nd : ns.Nodup) (hl : ns.length ≤ 4000) : lsetD (.lst (ns.map .int)) h = .ok (.int (ns.length : Nat)) h := by
  unfold lsetD
  simp [intsL_map, hl, dst_self nd]
theorem readingsO_ok {rs : List (Int × Option Int)} {h : Hh} (hr : RdO rs) (hl : rs.length ≤ 10) : callM .P f_is_readings [.lst (rs.map pq)] h = .ok (.bl true) h := by
  refine callPP (by simp [pures, D.pure, pures_pq]) (d := .bl true) (h' := []) ?_ rfl
  refine fn1.trans ?_
  have ln : (rs.map pq).length = rs.length := List.length_map ..
  have lm : (rs.map pq).length ≤ LIM := by rw [ln]; unfold LIM; omega
  have c1 : compL (asgT (.nm 1)) (evTs (.cons (.not (.call .P "is_reading" f_is_reading (.cons (.var 1) .nil))) .nil)) (evE (.var 1)) [some (.lst (rs.map pq)), none, none, none] (rs.map pq) [] = .ok [] [] := by
    rw [compL_map (fun x => [some (.lst (rs.map pq)), some x, none, none]) (fun _ => false) id]
    · simp
    · intro x hx
      obtain ⟨q, hq, rfl⟩ := List.mem_map.mp hx
      obtain ⟨a, b⟩ := hr.2 q hq
      refine ⟨rfl, ?_, fun z => by cases z⟩
      simp [readingO_ok a b]
  have c2 : compL (asgT (.tp [2, 3])) (evTs .nil) (evE (.var 2)) [some (.lst (rs.map pq)), none, none, none] (rs.map pq) [] = .ok ((rs.map Prod.fst).map .int) [] := by
    rw [compL_map (fun x => match x with | .tup [a, b] => [some (.lst (rs.map pq)), none, some a, some b] | _ => []) (fun _ => true) (fun x => match x with | .tup [a, b] => a | d => d)]
    · rw [List.filter_eq_self.mpr (fun _ _ => rfl), List.map_map, List.map_map]
      rfl
    · intro x hx
      obtain ⟨q, hq, rfl⟩ := List.mem_map.mp hx
      exact ⟨rfl, rfl, fun _ => rfl⟩
  have ls := lset_ints (h := []) hr.1 (by simp; omega)
  have l10 : ¬ (10 : Int) < (rs.length : Int) := by omega
  have ll : (rs.map Prod.fst).length = rs.length := List.length_map ..
  rw [ll] at ls
  generalize (rs.map Prod.fst).map D.int = F at *
  generalize rs.map pq = L at *
  simp only [b_is_readings]
  simp [ln, l10, wipeL, compR_lst lm, c1, c2, ls]
theorem need_readingsO_ok {rs : List (Int × Option Int)} {h : Hh} (hr : RdO rs) (hl : rs.length ≤ 10) : callM .P f_need_readings [.lst (rs.map pq)] h = .ok .non h := by
  refine callPP (by simp [pures, D.pure, pures_pq]) (d := .non) (h' := []) ?_ rfl
  refine fn1.trans ?_
  simp [b_need_readings, readingsO_ok hr hl]
/-! kept readings -/
def kpB (f : Int × Int) (q : Int × Option Int) : Bool := match q.2 with
  | none => decide (f.2 % q.1 = 0)
  | some r => decide (¬ f.2 % q.1 = 0 ∧ (r * f.2 - f.1) % q.1 = 0)
def pd (p : Int × Int) : D := .tup [.int p.1, .int p.2]
theorem pd_pure (p : Int × Int) : (pd p).pure = true := rfl
theorem pures_pd (l : List (Int × Int)) : pures (l.map pd) = true := by
  induction l with
  | nil => rfl
  | cons a r ih => simp only [List.map_cons, pures, Bool.and_eq_true]; exact ⟨rfl, ih⟩
theorem gv_pd (l : List (Int × Int)) : D.gv 2 (.lst (l.map pd)) = true := by
  show (l.map pd).all (D.gv 1) = true
  rw [List.all_map, List.all_eq_true]
  intro p _
  rfl
theorem pd_inj {a b : Int × Int} (e : pd a = pd b) : a = b := by
  simp only [pd, D.tup.injEq, List.cons.injEq, D.int.injEq, and_true] at e
  exact Prod.ext e.1 e.2
theorem keeps_ok {f : Int × Int} {q : Int × Option Int} {h : Hh} (hp : 0 < q.1) (sb : small f.2 = true) (sr : ∀ r, q.2 = some r → small r = true) : callM .P f_keeps [pd f, pq q] h = .ok (.bl (kpB f q)) h := by
  obtain ⟨p, o⟩ := q
  obtain ⟨a, b⟩ := f
  refine callPP (by simp [pures, D.pure, pq_pure, pd_pure]) (d := .bl (kpB (a, b) (p, o))) (h' := []) ?_ rfl
  refine fn2.trans ?_
  simp only at hp sb sr
  cases o with
  | none => by_cases z : b % p = 0 <;> simp [b_keeps, pq, pd, od, hp, kpB, z]
  | some r =>
    have sr := sr r rfl
    by_cases z : b % p = 0 <;> simp [b_keeps, pq, pd, od, hp, kpB, z, bin_mul, sr, sb]
end U
namespace U
open PySem PySem.Spec PyProof.Rows L2 Tb
def b_is_bounds : Ss := (.cons (.ifs (.bop .Or (.cons (.not (.isi (.var 0) (.bty "tuple"))) (.cons (.cmp .NotEq (.bi .len false (.cons (.var 0) .nil)) (.int 2)) .nil))) (.cons (.ret (.bl false))
  .nil) .nil)
  (.cons (.ret (.bop .And (.cons (.call .P "is_whole" f_is_whole (.cons (.idx (.var 0) (.int 0)) .nil)) (.cons (.call .P "is_whole" f_is_whole (.cons (.idx (.var 0) (.int 1)) .nil)) (.cons (.cmp .GtE (.idx (.var 0) (.int 0)) (.int 0)) (.cons (.cmp .GtE (.idx (.var 0) (.int 1)) (.int 1)) .nil))))))
  .nil))
def f_is_bounds : Fn := fnS cs0 1 1 b_is_bounds
def t_is_bounds_3 : Ss := .cons (.ret (.bop .And (.cons (.call .P "is_whole" f_is_whole (.cons (.idx (.var 0) (.int 0)) .nil)) (.cons (.call .P "is_whole" f_is_whole (.cons (.idx (.var 0) (.int 1)) .nil)) (.cons (.cmp .GtE (.idx (.var 0) (.int 0)) (.int 0)) (.cons (.cmp .GtE (.idx (.var 0) (.int 1)) (.int 1)) .nil)))))) .nil
def t_is_bounds_2 : Ss := .cons (.ret (.bl false)) .nil
def t_is_bounds_1 : Ss := .cons (.ifs (.bop .Or (.cons (.not (.isi (.var 0) (.bty "tuple"))) (.cons (.cmp .NotEq (.bi .len false (.cons (.var 0) .nil)) (.int 2)) .nil))) t_is_bounds_2 .nil) t_is_bounds_3
theorem u_is_bounds : b_is_bounds = t_is_bounds_1 := rfl
/-- thing -/
theorem w_is_bounds {x0 : D} {h : Hh} {Q : D → Hh → Prop} (w : WS (evSs cs0 t_is_bounds_1 [some x0] h) (fun _ h1 => Q .non h1) Q no2 no2) : W (f_is_bounds [x0] h) Q := by
  rw [← u_is_bounds] at w
  exact w_fnS2 (C := cs0) (n := 1) (np := 1) (b := b_is_bounds) rfl rfl w
theorem r_is_bounds {x0 : D} {h : Hh} : f_is_bounds [x0] h = endR (evSs cs0 t_is_bounds_1 [some x0] h) := by
  rw [← u_is_bounds]
  exact fnS_run2 (C := cs0) (n := 1) (np := 1) (b := b_is_bounds) rfl rfl
def b_need_bounds : Ss := (.cons (.ifs (.bop .Or (.cons (.not (.call .P "is_bounds" f_is_bounds (.cons (.var 0) .nil))) (.cons (.bop .And (.cons (.cmp .IsNot (.var 1) .non) (.cons (.cmp .Gt (.bi .max false (.cons (.var 0) .nil)) (.var 1)) .nil))) .nil))) (.cons (.rais "NoBounds")
  .nil) .nil)
  .nil)
def f_need_bounds : Fn := fnS cs0 2 2 b_need_bounds
def t_need_bounds_2 : Ss := .cons (.rais "NoBounds") .nil
def t_need_bounds_1 : Ss := .cons (.ifs (.bop .Or (.cons (.not (.call .P "is_bounds" f_is_bounds (.cons (.var 0) .nil))) (.cons (.bop .And (.cons (.cmp .IsNot (.var 1) .non) (.cons (.cmp .Gt (.bi .max false (.cons (.var 0) .nil)) (.var 1)) .nil))) .nil))) t_need_bounds_2 .nil) .nil
theorem u_need_bounds : b_need_bounds = t_need_bounds_1 := rfl
/-- bounds, most -/
theorem w_need_bounds {x0 x1 : D} {h : Hh} {Q : D → Hh → Prop} (w : WS (evSs cs0 t_need_bounds_1 [some x0, some x1] h) (fun _ h1 => Q .non h1) Q no2 no2) : W (f_need_bounds [x0, x1] h) Q := by
  rw [← u_need_bounds] at w
  exact w_fnS2 (C := cs0) (n := 2) (np := 2) (b := b_need_bounds) rfl rfl w
theorem r_need_bounds {x0 x1 : D} {h : Hh} : f_need_bounds [x0, x1] h = endR (evSs cs0 t_need_bounds_1 [some x0, some x1] h) := by
  rw [← u_need_bounds]
  exact fnS_run2 (C := cs0) (n := 2) (np := 2) (b := b_need_bounds) rfl rfl
def b_is_within : Ss := (.cons (.ret (.bop .And (.cons (.cmp .LtE (.bi .abs false (.cons (.idx (.var 0) (.int 0)) .nil)) (.idx (.var 1) (.int 0))) (.cons (.cmp .LtE (.idx (.var 0) (.int 1)) (.idx (.var 1) (.int 1))) .nil))))
  .nil)
def f_is_within : Fn := fnS cs0 2 2 b_is_within
def t_is_within_1 : Ss := .cons (.ret (.bop .And (.cons (.cmp .LtE (.bi .abs false (.cons (.idx (.var 0) (.int 0)) .nil)) (.idx (.var 1) (.int 0))) (.cons (.cmp .LtE (.idx (.var 0) (.int 1)) (.idx (.var 1) (.int 1))) .nil)))) .nil
theorem u_is_within : b_is_within = t_is_within_1 := rfl
/-- f, bounds -/
theorem w_is_within {x0 x1 : D} {h : Hh} {Q : D → Hh → Prop} (w : WS (evSs cs0 t_is_within_1 [some x0, some x1] h) (fun _ h1 => Q .non h1) Q no2 no2) : W (f_is_within [x0, x1] h) Q := by
  rw [← u_is_within] at w
  exact w_fnS2 (C := cs0) (n := 2) (np := 2) (b := b_is_within) rfl rfl w
theorem r_is_within {x0 x1 : D} {h : Hh} : f_is_within [x0, x1] h = endR (evSs cs0 t_is_within_1 [some x0, some x1] h) := by
  rw [← u_is_within]
  exact fnS_run2 (C := cs0) (n := 2) (np := 2) (b := b_is_within) rfl rfl
def b_all_within : Ss := (.cons (.ex (.call .P "need_bounds" f_need_bounds (.cons (.var 0) (.cons (.glo "MOST_WITHIN" (.int 60)) .nil))))
  (.cons (.asg (.nm 1) (.lst true .nil))
  (.cons (.fr (.nm 2) (.rng (.cons (.int 1) (.cons (.bin false .Add (.idx (.var 0) (.int 1)) (.int 1)) .nil))) (.cons (.asg (.nm 3) (.comp false [4] (.nm 4) (.rng (.cons (.int 1) (.cons (.bin false .Add (.idx (.var 0) (.int 0)) (.int 1)) .nil))) (.cons (.cmp .Eq (.call .P "shared" f_shared (.cons (.var 2) (.cons (.var 4) .nil))) (.int 1)) .nil) (.var 4)))
  (.cons (.ex (.me .extend false (.var 1) (.cons (.comp false [4] (.nm 4) (.rev (.var 3)) .nil (.tup (.cons (.bin false .Sub (.int 0) (.var 4)) (.cons (.var 2) .nil)))) .nil)))
  (.cons (.ifs (.cmp .Eq (.var 2) (.int 1)) (.cons (.ex (.me .append false (.var 1) (.cons (.tup (.cons (.int 0) (.cons (.int 1) .nil))) .nil)))
  .nil) .nil)
  (.cons (.ex (.me .extend false (.var 1) (.cons (.comp false [4] (.nm 4) (.seq (.var 3)) .nil (.tup (.cons (.var 4) (.cons (.var 2) .nil)))) .nil)))
  .nil)))))
  (.cons (.ret (.var 1))
  .nil))))
def f_all_within : Fn := fnS cs0 5 1 b_all_within
def t_all_within_9 : Ss := .cons (.ret (.var 1)) .nil
def t_all_within_8 : Ss := .cons (.ex (.me .extend false (.var 1) (.cons (.comp false [4] (.nm 4) (.seq (.var 3)) .nil (.tup (.cons (.var 4) (.cons (.var 2) .nil)))) .nil))) .nil
def t_all_within_7 : Ss := .cons (.ex (.me .append false (.var 1) (.cons (.tup (.cons (.int 0) (.cons (.int 1) .nil))) .nil))) .nil
def t_all_within_6 : Ss := .cons (.ifs (.cmp .Eq (.var 2) (.int 1)) t_all_within_7 .nil) t_all_within_8
def t_all_within_5 : Ss := .cons (.ex (.me .extend false (.var 1) (.cons (.comp false [4] (.nm 4) (.rev (.var 3)) .nil (.tup (.cons (.bin false .Sub (.int 0) (.var 4)) (.cons (.var 2) .nil)))) .nil))) t_all_within_6
def t_all_within_4 : Ss := .cons (.asg (.nm 3) (.comp false [4] (.nm 4) (.rng (.cons (.int 1) (.cons (.bin false .Add (.idx (.var 0) (.int 0)) (.int 1)) .nil))) (.cons (.cmp .Eq (.call .P "shared" f_shared (.cons (.var 2) (.cons (.var 4) .nil))) (.int 1)) .nil) (.var 4))) t_all_within_5
def t_all_within_3 : Ss := .cons (.fr (.nm 2) (.rng (.cons (.int 1) (.cons (.bin false .Add (.idx (.var 0) (.int 1)) (.int 1)) .nil))) t_all_within_4) t_all_within_9
def t_all_within_2 : Ss := .cons (.asg (.nm 1) (.lst true .nil)) t_all_within_3
def t_all_within_1 : Ss := .cons (.ex (.call .P "need_bounds" f_need_bounds (.cons (.var 0) (.cons (.glo "MOST_WITHIN" (.int 60)) .nil)))) t_all_within_2
theorem u_all_within : b_all_within = t_all_within_1 := rfl
/-- bounds, found, bottom, tops, top -/
theorem w_all_within {x0 : D} {h : Hh} {Q : D → Hh → Prop} (w : WS (evSs cs0 t_all_within_1 [some x0, none, none, none, none] h) (fun _ h1 => Q .non h1) Q no2 no2) : W (f_all_within [x0] h) Q := by
  rw [← u_all_within] at w
  exact w_fnS2 (C := cs0) (n := 5) (np := 1) (b := b_all_within) rfl rfl w
theorem r_all_within {x0 : D} {h : Hh} : f_all_within [x0] h = endR (evSs cs0 t_all_within_1 [some x0, none, none, none, none] h) := by
  rw [← u_all_within]
  exact fnS_run2 (C := cs0) (n := 5) (np := 1) (b := b_all_within) rfl rfl
theorem is_bounds_ok {n d : Int} {h : Hh} : callM .P f_is_bounds [.tup [.int n, .int d]] h = .ok (.bl (decide (0 ≤ n ∧ 1 ≤ d))) h := by
  refine callPP rfl (d := .bl (decide (0 ≤ n ∧ 1 ≤ d))) (h' := []) ?_ rfl
  refine fn1.trans ?_
  by_cases h0 : 0 ≤ n <;> simp [b_is_bounds, whole_ok, h0]
theorem need_bounds_ok {n d m : Int} {h : Hh} (hn : 0 ≤ n) (hd : 1 ≤ d) (h1 : n ≤ m) (h2 : d ≤ m) : callM .P f_need_bounds [.tup [.int n, .int d], .int m] h = .ok .non h := by
  refine callPP rfl (d := .non) (h' := []) ?_ rfl
  refine fn2.trans ?_
  have hm : ¬ m < (if n < d then d else n) := by split <;> omega
  simp [b_need_bounds, is_bounds_ok, hn, hd, hm]
theorem need_bounds_non {n d : Int} {h : Hh} (hn : 0 ≤ n) (hd : 1 ≤ d) : callM .P f_need_bounds [.tup [.int n, .int d], .non] h = .ok .non h := by
  refine callPP rfl (d := .non) (h' := []) ?_ rfl
  refine fn2.trans ?_
  simp [b_need_bounds, is_bounds_ok, hn, hd]
/-! all within -/
def tops (n : Nat) (b : Int) : List Int := ((List.range n).filter fun (i : Nat) => decide (Int.gcd b (1 + (i : Int)) = 1)).map fun (i : Nat) => 1 + (i : Int)
def seg (n : Nat) (b : Int) : List (Int × Int) := ((tops n b).reverse.map fun t => (0 - t, b)) ++ (if b = 1 then [(0, 1)] else []) ++ (tops n b).map fun t => (t, b)
def flat (n : Nat) : Nat → List (Int × Int)
  | 0 => []
  | d + 1 => flat n d ++ seg n (1 + (d : Int))
theorem tops_len (n : Nat) (b : Int) : (tops n b).length ≤ n := by
  rw [tops, List.length_map]
  have := List.length_filter_le (fun i : Nat => decide (Int.gcd b (1 + (i : Int)) = 1)) (List.range n)
  rw [List.length_range] at this
  exact this
theorem seg_len (n : Nat) (b : Int) : (seg n b).length ≤ 2 * n + 1 := by
  have := tops_len n b
  unfold seg
  simp only [List.length_append, List.length_map, List.length_reverse]
  split <;> simp <;> omega
theorem flat_len (n : Nat) : ∀ d, (flat n d).length ≤ d * (2 * n + 1)
  | 0 => by simp [flat]
  | d + 1 => by
    have := flat_len n d
    have := seg_len n (1 + (d : Int))
    rw [flat, List.length_append, Nat.succ_mul]
    omega
theorem within_run {n d : Nat} (hn : n ≤ 60) (hd : 1 ≤ d) (hd2 : d ≤ 60) : f_all_within [.tup [.int n, .int d]] [] = .ok (.cel 0) [.lst ((flat n d).map pd)] := by
  refine eq_of_W (w_all_within ?_)
  have nd := fun h => need_bounds_ok (h := h) (n := n) (d := d) (m := 60) (by omega) (by omega) (by omega) (by omega)
  have sr : smallR ((d : Int) + 1) = true := smallR_i (by omega) (by omega)
  have sn : smallR ((n : Int) + 1) = true := smallR_i (by omega) (by omega)
  simp [t_all_within_1, t_all_within_2, t_all_within_3, nd, sr]
  refine w_rng (fun j ls h => (∃ o2 o3 o4 : Option D, ls = [some (.tup [.int n, .int d]), some (.cel 0), o2, o3, o4]) ∧ h = [.lst ((flat n j).map pd)]) ⟨⟨_, _, _, rfl⟩, rfl⟩ ?_ ?_
  · rintro j _ _ hj ⟨⟨o2, o3, o4, rfl⟩, rfl⟩
    refine ⟨_, rfl, ?_⟩
    have fl : (flat n j).length ≤ 7260 := Nat.le_trans (flat_len n j) (Nat.le_trans (Nat.mul_le_mul (show j ≤ 60 by omega) (show 2 * n + 1 ≤ 121 by omega)) (by decide))
    have tl := tops_len n (1 + (j : Int))
    simp [t_all_within_4, sn, wipeL]
    refine w_comp_rngA (fun i => decide (Int.gcd (1 + (j : Int)) (1 + (i : Int)) = 1)) (fun i => .int (1 + (i : Int))) (by unfold LIM; omega) ?_ ?_
    · intro i hi
      have sh := shared_ok (a := 1 + (j : Int)) (b := 1 + (i : Int)) (h := [.lst ((flat n j).map pd)]) (big200 (by omega) (by omega))
      refine ⟨_, rfl, ?_, fun _ => ?_⟩
      · simp [sh]; omega
      · simp
    have et : ((List.range n).filter fun (i : Nat) => decide (Int.gcd (1 + (j : Int)) (1 + (i : Int)) = 1)).map (fun (i : Nat) => D.int (1 + (i : Int))) = (tops n (1 + (j : Int))).map D.int := by rw [tops, List.map_map]; rfl
    rw [et]
    have ft : (flat n (j + 1)) = flat n j ++ seg n (1 + (j : Int)) := rfl
    rw [seg] at ft
    generalize flat n (j + 1) = F1 at *
    generalize flat n j = F at *
    generalize tops n (1 + (j : Int)) = ts at *
    generalize hb : 1 + (j : Int) = b at *
    have e1 : (F1.map pd) = F.map pd ++ ts.reverse.map (fun t => pd (0 - t, b)) ++ (if b = 1 then [D.tup [.int 0, .int 1]] else []) ++ ts.map fun t => pd (t, b) := by
      rw [ft]
      simp only [List.map_append, List.map_map, ← List.append_assoc]
      congr 2
      split <;> rfl
    simp (disch := walk_at "ln") [-getElem?_pos, -max_ii, -min_ii, -max_t2, -abs_i, max_iO, min_iO, max_tO, abs_iO, List.getElem?_cons_zero, List.getElem?_append_left, t_all_within_5, wipeL]
    refine w_compA D.int ts.reverse (fun _ => true) (fun t => pd (0 - t, b)) rfl (by simp [It.items]) (by simp; omega) (fun t _ => ⟨_, rfl, ⟨rfl, rfl⟩, fun _ => ?_⟩) ?_
    · simp [pd]
    rw [List.filter_eq_self.mpr (fun _ _ => rfl), e1]
    have al : (ts.reverse.map (fun t => pd (0 - t, b))).length ≤ 60 := by simp; omega
    generalize ts.reverse.map (fun t => pd (0 - t, b)) = A at *
    by_cases q : b = 1
    · simp (disch := walk_at "ln") [-getElem?_pos, -max_ii, -min_ii, -max_t2, -abs_i, max_iO, min_iO, max_tO, abs_iO, List.getElem?_cons_zero, List.getElem?_append_left, t_all_within_6, q, t_all_within_7, t_all_within_8, wipeL]
      refine w_compA D.int ts (fun _ => true) (fun t => pd (t, b)) rfl (by simp [It.items]) (by simp; omega) (fun t _ => ⟨_, rfl, ⟨rfl, rfl⟩, fun _ => ?_⟩) ?_
      · simp [pd, q]
      rw [List.filter_eq_self.mpr (fun _ _ => rfl)]
      simp (disch := walk_at "ln") [-getElem?_pos, -max_ii, -min_ii, -max_t2, -abs_i, max_iO, min_iO, max_tO, abs_iO, List.getElem?_cons_zero, List.getElem?_append_left, q]
    · simp (disch := walk_at "ln") [-getElem?_pos, -max_ii, -min_ii, -max_t2, -abs_i, max_iO, min_iO, max_tO, abs_iO, List.getElem?_cons_zero, List.getElem?_append_left, t_all_within_6, q, t_all_within_8, wipeL]
      refine w_compA D.int ts (fun _ => true) (fun t => pd (t, b)) rfl (by simp [It.items]) (by simp; omega) (fun t _ => ⟨_, rfl, ⟨rfl, rfl⟩, fun _ => ?_⟩) ?_
      · simp [pd]
      rw [List.filter_eq_self.mpr (fun _ _ => rfl)]
      try simp (disch := walk_at "ln") [-getElem?_pos, -max_ii, -min_ii, -max_t2, -abs_i, max_iO, min_iO, max_tO, abs_iO, List.getElem?_cons_zero, List.getElem?_append_left]
  · rintro _ _ ⟨⟨o2, o3, o4, rfl⟩, rfl⟩
    simp [t_all_within_9]
theorem tops_mem {n : Nat} {b t : Int} : t ∈ tops n b ↔ 1 ≤ t ∧ t ≤ n ∧ Int.gcd b t = 1 := by
  rw [tops, List.mem_map]
  constructor
  · rintro ⟨i, hi, rfl⟩
    obtain ⟨h1, h2⟩ := List.mem_filter.mp hi
    have h1 := List.mem_range.mp h1
    exact ⟨by omega, by omega, of_decide_eq_true h2⟩
  · rintro ⟨h1, h2, h3⟩
    refine ⟨(t - 1).toNat, List.mem_filter.mpr ⟨List.mem_range.mpr (by omega), ?_⟩, by omega⟩
    rw [show (1 + ((t - 1).toNat : Int)) = t by omega]
    exact decide_eq_true h3
theorem seg_mem {n : Nat} {b : Int} {f : Int × Int} (hb : 1 ≤ b) : f ∈ seg n b ↔ f.2 = b ∧ -(n : Int) ≤ f.1 ∧ f.1 ≤ n ∧ Int.gcd f.1 b = 1 := by
  obtain ⟨x, y⟩ := f
  simp only [seg, List.mem_append, List.mem_map, List.mem_reverse, Prod.mk.injEq]
  constructor
  · rintro ((⟨t, ht, e1, e2⟩ | z) | ⟨t, ht, e1, e2⟩)
    · obtain ⟨h1, h2, h3⟩ := tops_mem.mp ht
      refine ⟨e2.symm, by omega, by omega, ?_⟩
      rw [← e1, show (0 : Int) - t = -t by omega, Int.neg_gcd, Int.gcd_comm]
      exact h3
    · by_cases q : b = 1
      · rw [if_pos q] at z
        simp at z
        obtain ⟨rfl, rfl⟩ := z
        subst q
        exact ⟨rfl, by omega, by omega, rfl⟩
      · rw [if_neg q] at z; cases z
    · obtain ⟨h1, h2, h3⟩ := tops_mem.mp ht
      subst e1
      exact ⟨e2.symm, by omega, by omega, by rw [Int.gcd_comm]; exact h3⟩
  · rintro ⟨rfl, h1, h2, h3⟩
    by_cases q : x = 0
    · subst q
      rw [Int.gcd_zero_left] at h3
      have : y = 1 := by omega
      subst this
      left; right
      simp
    · by_cases z : 0 < x
      · right
        exact ⟨x, tops_mem.mpr ⟨by omega, by omega, by rw [Int.gcd_comm]; exact h3⟩, rfl, rfl⟩
      · left; left
        exact ⟨-x, tops_mem.mpr ⟨by omega, by omega, by rw [Int.gcd_comm, Int.neg_gcd]; exact h3⟩, by omega, rfl⟩
theorem flat_mem {n : Nat} {f : Int × Int} : ∀ {d : Nat}, f ∈ flat n d ↔ 1 ≤ f.2 ∧ f.2 ≤ d ∧ -(n : Int) ≤ f.1 ∧ f.1 ≤ n ∧ Int.gcd f.1 f.2 = 1
  | 0 => by
    rw [flat]
    constructor
    · intro z; cases z
    · rintro ⟨a, b, _⟩; omega
  | d + 1 => by
    rw [flat, List.mem_append, flat_mem, seg_mem (by omega)]
    constructor
    · rintro (⟨a, b, c⟩ | ⟨e, c⟩)
      · exact ⟨a, by omega, c⟩
      · rw [e]; exact ⟨by omega, by omega, c⟩
    · rintro ⟨a, b, c⟩
      by_cases q : f.2 ≤ d
      · exact .inl ⟨a, q, c⟩
      · have : f.2 = 1 + (d : Int) := by omega
        exact .inr ⟨this, by rw [this] at c; exact c⟩
theorem range_split (n : Nat) : List.range (2 * n + 1) = List.range n ++ (n :: (List.range n).map (fun i => n + 1 + i)) := by
  rw [show 2 * n + 1 = n + (n + 1) by omega, List.range_add, List.range_succ_eq_map, List.map_cons, List.map_map]
  congr 2
  apply List.map_congr_left
  intro i _
  show n + (i + 1) = n + 1 + i
  omega
/-- gone through from the least to the greatest top -/
theorem seg_eq {n : Nat} {b : Int} (hb : 1 ≤ b) : ((List.range (2 * n + 1)).filter fun (i : Nat) => decide (Int.gcd b (-(n : Int) + i) = 1)).map (fun (i : Nat) => (-(n : Int) + i, b)) = seg n b := by
  rw [range_split, List.filter_append, List.map_append, seg, List.append_assoc]
  congr 1
  · have e : List.range n = ((List.range n).map fun i => n - 1 - i).reverse := by
      apply List.ext_getElem?
      intro i
      by_cases q : i < n
      · rw [List.getElem?_range q, List.getElem?_reverse (by simpa using q), List.length_map, List.length_range, List.getElem?_map, List.getElem?_range (by omega)]
        simp
        omega
      · rw [List.getElem?_eq_none (by simp; omega), List.getElem?_eq_none (by simp; omega)]
    conv => lhs; rw [e]
    rw [List.filter_reverse, List.map_reverse, List.map_reverse, List.filter_map, List.map_map, tops, List.map_map]
    congr 1
    have e2 : (List.range n).filter ((fun (i : Nat) => decide (Int.gcd b (-(n : Int) + i) = 1)) ∘ fun i => n - 1 - i) = (List.range n).filter fun (i : Nat) => decide (Int.gcd b (1 + (i : Int)) = 1) := by
      apply List.filter_congr
      intro i hi
      have hi := List.mem_range.mp hi
      show decide (Int.gcd b (-(n : Int) + ((n - 1 - i : Nat) : Int)) = 1) = _
      rw [show (-(n : Int) + ((n - 1 - i : Nat) : Int)) = -(1 + (i : Int)) by omega, Int.gcd_neg]
    rw [e2]
    apply List.map_congr_left
    intro i hi
    have hi := List.mem_range.mp (List.mem_filter.mp hi).1
    show (-(n : Int) + ((n - 1 - i : Nat) : Int), b) = (0 - (1 + (i : Int)), b)
    congr 1
    omega
  · have e0 : Int.gcd b (-(n : Int) + n) = b.toNat := by
      rw [show (-(n : Int) + n) = 0 by omega, Int.gcd_zero_right]; omega
    have tail : ((((List.range n).map fun i => n + 1 + i).filter fun (i : Nat) => decide (Int.gcd b (-(n : Int) + i) = 1)).map fun (i : Nat) => (-(n : Int) + i, b)) = (tops n b).map fun t => (t, b) := by
      rw [List.filter_map, List.map_map, tops, List.map_map]
      have e2 : (List.range n).filter ((fun (i : Nat) => decide (Int.gcd b (-(n : Int) + i) = 1)) ∘ fun i => n + 1 + i) = (List.range n).filter fun (i : Nat) => decide (Int.gcd b (1 + (i : Int)) = 1) := by
        apply List.filter_congr
        intro i hi
        show decide (Int.gcd b (-(n : Int) + ((n + 1 + i : Nat) : Int)) = 1) = _
        rw [show (-(n : Int) + ((n + 1 + i : Nat) : Int)) = 1 + (i : Int) by omega]
      rw [e2]
      apply List.map_congr_left
      intro i hi
      show (-(n : Int) + ((n + 1 + i : Nat) : Int), b) = (1 + (i : Int), b)
      congr 1
      omega
    by_cases q : b = 1
    · rw [List.filter_cons_of_pos (by rw [e0, q]; rfl), List.map_cons, tail, if_pos q, q]
      simp
      omega
    · rw [List.filter_cons_of_neg (by rw [e0, decide_eq_true_eq]; omega), tail, if_neg q]
      simp
end U
namespace U
open PySem PySem.Spec PyProof.Rows L2 Tb
def b_turned_about : Ss := (.cons (.asg (.tp [2, 3]) (.tup (.cons (.var 1) (.cons (.bin false .Mod (.var 0) (.var 1)) .nil))))
  (.cons (.asg (.tp [4, 5]) (.tup (.cons (.int 0) (.cons (.int 1) .nil))))
  (.cons (.whl (.cmp .Gt (.var 3) (.int 0)) (.cons (.asg (.nm 6) (.bin false .FloorDiv (.var 2) (.var 3)))
  (.cons (.asg (.tp [2, 3]) (.tup (.cons (.var 3) (.cons (.bin false .Sub (.var 2) (.bin false .Mult (.var 6) (.var 3))) .nil))))
  (.cons (.asg (.tp [4, 5]) (.tup (.cons (.var 5) (.cons (.bin false .Sub (.var 4) (.bin false .Mult (.var 6) (.var 5))) .nil))))
  .nil))))
  (.cons (.ret (.bin false .Mod (.var 4) (.var 1)))
  .nil))))
def f_turned_about : Fn := fnS cs0 7 2 b_turned_about
def t_turned_about_7 : Ss := .cons (.ret (.bin false .Mod (.var 4) (.var 1))) .nil
def t_turned_about_6 : Ss := .cons (.asg (.tp [4, 5]) (.tup (.cons (.var 5) (.cons (.bin false .Sub (.var 4) (.bin false .Mult (.var 6) (.var 5))) .nil)))) .nil
def t_turned_about_5 : Ss := .cons (.asg (.tp [2, 3]) (.tup (.cons (.var 3) (.cons (.bin false .Sub (.var 2) (.bin false .Mult (.var 6) (.var 3))) .nil)))) t_turned_about_6
def t_turned_about_4 : Ss := .cons (.asg (.nm 6) (.bin false .FloorDiv (.var 2) (.var 3))) t_turned_about_5
def t_turned_about_3 : Ss := .cons (.whl (.cmp .Gt (.var 3) (.int 0)) t_turned_about_4) t_turned_about_7
def t_turned_about_2 : Ss := .cons (.asg (.tp [4, 5]) (.tup (.cons (.int 0) (.cons (.int 1) .nil)))) t_turned_about_3
def t_turned_about_1 : Ss := .cons (.asg (.tp [2, 3]) (.tup (.cons (.var 1) (.cons (.bin false .Mod (.var 0) (.var 1)) .nil)))) t_turned_about_2
theorem u_turned_about : b_turned_about = t_turned_about_1 := rfl
/-- number, m, one, other, left, right, times -/
theorem w_turned_about {x0 x1 : D} {h : Hh} {Q : D → Hh → Prop} (w : WS (evSs cs0 t_turned_about_1 [some x0, some x1, none, none, none, none, none] h) (fun _ h1 => Q .non h1) Q no2 no2) : W (f_turned_about [x0, x1] h) Q := by
  rw [← u_turned_about] at w
  exact w_fnS2 (C := cs0) (n := 7) (np := 2) (b := b_turned_about) rfl rfl w
theorem r_turned_about {x0 x1 : D} {h : Hh} : f_turned_about [x0, x1] h = endR (evSs cs0 t_turned_about_1 [some x0, some x1, none, none, none, none, none] h) := by
  rw [← u_turned_about]
  exact fnS_run2 (C := cs0) (n := 7) (np := 2) (b := b_turned_about) rfl rfl
/-! a number turned about by m -/
def tuTest : E := (.cmp .Gt (.var 3) (.int 0))
def tuBody : Ss := (.cons (.asg (.nm 6) (.bin false .FloorDiv (.var 2) (.var 3)))
  (.cons (.asg (.tp [2, 3]) (.tup (.cons (.var 3) (.cons (.bin false .Sub (.var 2) (.bin false .Mult (.var 6) (.var 3))) .nil))))
  (.cons (.asg (.tp [4, 5]) (.tup (.cons (.var 5) (.cons (.bin false .Sub (.var 4) (.bin false .Mult (.var 6) (.var 5))) .nil))))
  .nil)))
theorem turn_run {num m : Int} {s0 : Option D} (hm : 0 < m) (hm2 : m ≤ 1000000000000000000000000000000000000) : ∀ (n : Nat) (one other left right : Int) (o6 : Option D) (fuel : Nat), other.toNat ≤ n → n < fuel → 0 ≤ other → other < one → one ≤ m → m ∣ left * num - one → m ∣ right * num - other → Int.gcd one other = 1 →
    ((left ≤ 0 ∧ 0 ≤ right ∧ -left * other + right * one = m) ∨ (0 ≤ left ∧ right ≤ 0 ∧ left * other + -right * one = m)) →
    ∃ left' right' o6', whileR (evT tuTest) (evSs cs0 tuBody) fuel [s0, some (.int m), some (.int one), some (.int other), some (.int left), some (.int right), o6] [] = .nx [s0, some (.int m), some (.int 1), some (.int 0), some (.int left'), some (.int right'), o6'] [] ∧ m ∣ left' * num - 1 := by
  intro n
  induction n with
  | zero =>
    intro one other left right o6 fuel hn hf h0 h1 h2 d1 d2 g iv
    cases fuel with
    | zero => omega
    | succ fuel =>
      have e : other = 0 := by omega
      subst e
      have e1 : one = 1 := by
        rw [Int.gcd_zero_right] at g
        omega
      subst e1
      refine ⟨left, right, o6, ?_, d1⟩
      rw [whileR_succ]
      simp [tuTest]
  | succ n ih =>
    intro one other left right o6 fuel hn hf h0 h1 h2 d1 d2 g iv
    cases fuel with
    | zero => omega
    | succ fuel =>
      by_cases e : other = 0
      · subst e
        have e1 : one = 1 := by
          rw [Int.gcd_zero_right] at g
          omega
        subst e1
        refine ⟨left, right, o6, ?_, d1⟩
        rw [whileR_succ]
        simp [tuTest]
      · have op : 0 < other := by omega
        generalize hq : one / other = q
        have q0 : 0 ≤ q := by rw [← hq]; exact Int.ediv_nonneg (by omega) (by omega)
        have q1 : q ≤ one := by rw [← hq]; exact Int.ediv_le_self _ (by omega)
        have em : one - q * other = one % other := by
          have := Int.emod_add_mul_ediv one other
          rw [hq] at this
          grind
        have m0 : 0 ≤ one % other := Int.emod_nonneg _ (by omega)
        have m1 : one % other < other := Int.emod_lt_of_pos _ op
        have lr : right ≤ m ∧ -m ≤ right := by
          rcases iv with ⟨a, b, c⟩ | ⟨a, b, c⟩
          · have x1 : 0 ≤ -left * other := Int.mul_nonneg (by omega) h0
            have x2 : right * 1 ≤ right * one := Int.mul_le_mul_of_nonneg_left (by omega) b
            omega
          · have x1 : 0 ≤ left * other := Int.mul_nonneg a h0
            have x2 : -right * 1 ≤ -right * one := Int.mul_le_mul_of_nonneg_left (by omega) (by omega)
            omega
        have s1 : small q = true := small_of (by omega) (by omega)
        have s2 : small other = true := small_of (by omega) (by omega)
        have s3 : small right = true := small_of (by omega) (by omega)
        obtain ⟨l', r', o6', er, dv⟩ := ih other (one - q * other) right (left - q * right) (some (.int q)) fuel (by omega) (by omega) (by omega) (by omega) (by omega) d2 (by
            have : (left - q * right) * num - (one - q * other) = (left * num - one) - q * (right * num - other) := by grind
            rw [this]
            exact Int.dvd_sub d1 (Int.dvd_mul_of_dvd_right d2)) (by rw [Int.gcd_comm, Int.gcd_sub_mul_right_left]; exact g) (by
            rcases iv with ⟨a, b, c⟩ | ⟨a, b, c⟩
            · right
              have : 0 ≤ q * right := Int.mul_nonneg q0 b
              refine ⟨b, by omega, ?_⟩
              grind
            · left
              have : q * right ≤ 0 := Int.mul_nonpos_of_nonneg_of_nonpos q0 b
              refine ⟨b, by omega, ?_⟩
              grind)
        refine ⟨l', r', o6', ?_, dv⟩
        rw [whileR_succ]
        simp [tuTest, tuBody, op, s2, hq, bin_mul, s1, s3]
        exact er
theorem inv_ex {num m : Int} (hm : 1 < m) (hm2 : m ≤ 50000) (g : Int.gcd num m = 1) : ∃ t, 0 ≤ t ∧ t < m ∧ (num * t) % m = 1 := by
  have a0 : 0 ≤ num % m := Int.emod_nonneg _ (by omega)
  have a1 : num % m < m := Int.emod_lt_of_pos _ (by omega)
  obtain ⟨l', r', o6', er, dv⟩ := turn_run (num := num) (s0 := some (.int num)) (by omega : 0 < m) (by omega) (num % m).toNat m (num % m) 0 1 none FUEL (Nat.le_refl _) (by unfold FUEL; omega) a0 a1 (Int.le_refl _) (by simp) (by
      rw [Int.one_mul]
      exact Int.dvd_self_sub_emod) (by
      rw [Int.gcd_comm]
      have := Int.emod_def num m
      rw [this, Int.mul_comm m, Int.gcd_sub_mul_right_left]
      exact g) (.inl ⟨by omega, by omega, by simp⟩)
  refine ⟨l' % m, Int.emod_nonneg _ (by omega), Int.emod_lt_of_pos _ (by omega), ?_⟩
  rw [em_r, Int.mul_comm]
  have e : (l' * num - 1) % m = 0 := Int.emod_eq_zero_of_dvd dv
  have := Int.emod_eq_emod_iff_emod_sub_eq_zero.mpr e
  rw [this]
  exact Int.emod_eq_of_lt (by omega) hm
theorem turned_ok {num m : Int} {h : Hh} (hm : 1 < m) (hm2 : m ≤ 50000) (g : Int.gcd num m = 1) : ∃ t, callM .P f_turned_about [.int num, .int m] h = .ok (.int t) h ∧ 0 ≤ t ∧ t < m ∧ (num * t) % m = 1 := by
  have a0 : 0 ≤ num % m := Int.emod_nonneg _ (by omega)
  have a1 : num % m < m := Int.emod_lt_of_pos _ (by omega)
  obtain ⟨l', r', o6', er, dv⟩ := turn_run (num := num) (s0 := some (.int num)) (by omega : 0 < m) (by omega) (num % m).toNat m (num % m) 0 1 none FUEL (Nat.le_refl _) (by unfold FUEL; omega) a0 a1 (Int.le_refl _) (by simp) (by
      rw [Int.one_mul]
      exact Int.dvd_self_sub_emod) (by
      rw [Int.gcd_comm]
      have := Int.emod_def num m
      rw [this, Int.mul_comm m, Int.gcd_sub_mul_right_left]
      exact g) (.inl ⟨by omega, by omega, by simp⟩)
  refine ⟨l' % m, callPP rfl (d := .int (l' % m)) (h' := []) ?_ rfl, Int.emod_nonneg _ (by omega), Int.emod_lt_of_pos _ (by omega), ?_⟩
  · refine fn2.trans ?_
    have hm0 : 0 < m := by omega
    simp only [tuTest, tuBody] at er
    simp only [b_turned_about]
    simp [hm0, er]
  · rw [em_r, Int.mul_comm]
    have := Int.emod_emod_of_dvd
    have e : (l' * num - 1) % m = 0 := Int.emod_eq_zero_of_dvd dv
    have := Int.emod_eq_emod_iff_emod_sub_eq_zero.mpr e
    rw [this]
    exact Int.emod_eq_of_lt (by omega) hm
/-- the rests that fit -/
def fitW (a b p : Int) : List Int := ((List.range p.toNat).map fun (i : Nat) => 0 + (i : Int)).filter fun w => decide ((w * b - a) % p = 0)
def rO (a b p : Int) : Option Int := if b % p = 0 then none else (fitW a b p).head?
theorem fit_ex {a b p : Int} (hp : p ∈ PR) (q : b % p ≠ 0) : ∃ r, 0 ≤ r ∧ r < p ∧ (r * b - a) % p = 0 ∧ ∀ w, 0 ≤ w → w < p → (w * b - a) % p = 0 → w = r := by
  have pb := PR_lt hp
  obtain ⟨t, t0, t1, tt⟩ := inv_ex (num := b) (m := p) (by omega) (by omega) (PR_gcd hp q)
  have uniq : ∀ w, 0 ≤ w → w < p → (w * b - a) % p = 0 → w = a * t % p := by
    intro w w0 w1 ew
    have h1 : (w * b) % p = a % p := Int.emod_eq_emod_iff_emod_sub_eq_zero.mpr ew
    have h2 : (w * b * t) % p = (a * t) % p := by rw [← em_l, h1, em_l]
    have h3 : w * b * t = (b * t) * w := by grind
    rw [h3, ← em_l, tt, Int.one_mul, Int.emod_eq_of_lt w0 w1] at h2
    exact h2
  refine ⟨a * t % p, Int.emod_nonneg _ (by omega), Int.emod_lt_of_pos _ (by omega), ?_, uniq⟩
  rw [Int.sub_emod, em_l]
  have z : a * t * b = (b * t) * a := by grind
  rw [z, ← em_l, tt, Int.one_mul]
  simp
theorem rO_spec {a b p : Int} (hp : p ∈ PR) : (b % p = 0 ∧ rO a b p = none) ∨ (b % p ≠ 0 ∧ ∃ r, rO a b p = some r ∧ (∃ tl, fitW a b p = r :: tl) ∧ 0 ≤ r ∧ r < p ∧ ∀ w, 0 ≤ w → w < p → ((w * b - a) % p = 0 ↔ w = r)) := by
  by_cases q : b % p = 0
  · exact .inl ⟨q, by rw [rO, if_pos q]⟩
  · obtain ⟨r, r0, r1, er, un⟩ := fit_ex hp q
    refine .inr ⟨q, r, ?_⟩
    have mem : r ∈ fitW a b p := by
      rw [fitW, List.mem_filter]
      refine ⟨List.mem_map.mpr ⟨r.toNat, List.mem_range.mpr (by omega), by omega⟩, by simpa using er⟩
    have all : ∀ w ∈ fitW a b p, w = r := by
      intro w hw
      rw [fitW, List.mem_filter] at hw
      obtain ⟨hw, ew⟩ := hw
      obtain ⟨i, hi, rfl⟩ := List.mem_map.mp hw
      have hi := List.mem_range.mp hi
      exact un _ (by omega) (by omega) (by simpa using ew)
    rw [rO, if_neg q]
    cases hc : fitW a b p with
    | nil => rw [hc] at mem; cases mem
    | cons x tl =>
      have : x = r := all x (by rw [hc]; exact List.mem_cons_self)
      subst this
      exact ⟨rfl, ⟨tl, rfl⟩, r0, r1, fun w w0 w1 => ⟨un w w0 w1, fun z => z ▸ er⟩⟩
theorem rO_some {a b p r : Int} (hp : p ∈ PR) (e : rO a b p = some r) : ¬ b % p = 0 ∧ 0 ≤ r ∧ r < p ∧ (r * b - a) % p = 0 := by
  rcases rO_spec (a := a) (b := b) hp with ⟨q, e2⟩ | ⟨q, r2, e2, _, r0, r1, un⟩
  · rw [e2] at e; cases e
  · rw [e2] at e; cases e
    exact ⟨q, r0, r1, (un r r0 r1).mpr rfl⟩
theorem rO_none {a b p : Int} (hp : p ∈ PR) : rO a b p = none ↔ b % p = 0 := by
  rcases rO_spec (a := a) (b := b) hp with ⟨q, e2⟩ | ⟨q, r2, e2, _⟩
  · exact ⟨fun _ => q, fun _ => e2⟩
  · rw [e2]; exact ⟨fun z => (by cases z), fun z => absurd z q⟩
theorem rO_iff {a b p r : Int} (hp : p ∈ PR) (r0 : 0 ≤ r) (r1 : r < p) (q : ¬ b % p = 0) : rO a b p = some r ↔ (r * b - a) % p = 0 := by
  rcases rO_spec (a := a) (b := b) hp with ⟨z, e2⟩ | ⟨_, r2, e2, _, _, _, un⟩
  · exact absurd z q
  · rw [e2, un r r0 r1]
    exact ⟨fun z => by cases z; rfl, fun z => by rw [z]⟩
end U
namespace U
open PySem PySem.Spec PyProof.Rows L2 Tb
def b_product_of : Ss := (.cons (.asg (.nm 1) (.int 1))
  (.cons (.fr (.nm 2) (.seq (.var 0)) (.cons (.aug 1 .Mult (.var 2))
  .nil))
  (.cons (.ret (.var 1))
  .nil)))
def f_product_of : Fn := fnS cs0 3 1 b_product_of
def t_product_of_4 : Ss := .cons (.ret (.var 1)) .nil
def t_product_of_3 : Ss := .cons (.aug 1 .Mult (.var 2)) .nil
def t_product_of_2 : Ss := .cons (.fr (.nm 2) (.seq (.var 0)) t_product_of_3) t_product_of_4
def t_product_of_1 : Ss := .cons (.asg (.nm 1) (.int 1)) t_product_of_2
theorem u_product_of : b_product_of = t_product_of_1 := rfl
/-- numbers, found, number -/
theorem w_product_of {x0 : D} {h : Hh} {Q : D → Hh → Prop} (w : WS (evSs cs0 t_product_of_1 [some x0, none, none] h) (fun _ h1 => Q .non h1) Q no2 no2) : W (f_product_of [x0] h) Q := by
  rw [← u_product_of] at w
  exact w_fnS2 (C := cs0) (n := 3) (np := 1) (b := b_product_of) rfl rfl w
theorem r_product_of {x0 : D} {h : Hh} : f_product_of [x0] h = endR (evSs cs0 t_product_of_1 [some x0, none, none] h) := by
  rw [← u_product_of]
  exact fnS_run2 (C := cs0) (n := 3) (np := 1) (b := b_product_of) rfl rfl
def b_one_rest : Ss := (.cons (.asg (.nm 1) (.int 1))
  (.cons (.asg (.nm 2) (.int 0))
  (.cons (.fr (.tp [3, 4]) (.seq (.var 0)) (.cons (.aug 2 .Add (.bin false .Mult (.var 1) (.bin false .Mod (.bin false .Mult (.bin false .Sub (.var 4) (.var 2)) (.call .P "turned_about" f_turned_about (.cons (.var 1) (.cons (.var 3) .nil)))) (.var 3))))
  (.cons (.aug 1 .Mult (.var 3))
  .nil)))
  (.cons (.ret (.tup (.cons (.var 1) (.cons (.var 2) .nil))))
  .nil))))
def f_one_rest : Fn := fnS cs0 5 1 b_one_rest
def t_one_rest_6 : Ss := .cons (.ret (.tup (.cons (.var 1) (.cons (.var 2) .nil)))) .nil
def t_one_rest_5 : Ss := .cons (.aug 1 .Mult (.var 3)) .nil
def t_one_rest_4 : Ss := .cons (.aug 2 .Add (.bin false .Mult (.var 1) (.bin false .Mod (.bin false .Mult (.bin false .Sub (.var 4) (.var 2)) (.call .P "turned_about" f_turned_about (.cons (.var 1) (.cons (.var 3) .nil)))) (.var 3)))) t_one_rest_5
def t_one_rest_3 : Ss := .cons (.fr (.tp [3, 4]) (.seq (.var 0)) t_one_rest_4) t_one_rest_6
def t_one_rest_2 : Ss := .cons (.asg (.nm 2) (.int 0)) t_one_rest_3
def t_one_rest_1 : Ss := .cons (.asg (.nm 1) (.int 1)) t_one_rest_2
theorem u_one_rest : b_one_rest = t_one_rest_1 := rfl
/-- readings, m, w, p, rest -/
theorem w_one_rest {x0 : D} {h : Hh} {Q : D → Hh → Prop} (w : WS (evSs cs0 t_one_rest_1 [some x0, none, none, none, none] h) (fun _ h1 => Q .non h1) Q no2 no2) : W (f_one_rest [x0] h) Q := by
  rw [← u_one_rest] at w
  exact w_fnS2 (C := cs0) (n := 5) (np := 1) (b := b_one_rest) rfl rfl w
theorem r_one_rest {x0 : D} {h : Hh} : f_one_rest [x0] h = endR (evSs cs0 t_one_rest_1 [some x0, none, none, none, none] h) := by
  rw [← u_one_rest]
  exact fnS_run2 (C := cs0) (n := 5) (np := 1) (b := b_one_rest) rfl rfl
def b_top_and_bottom : Ss := (.cons (.asg (.tp [3, 4]) (.tup (.cons (.var 0) (.cons (.var 1) .nil))))
  (.cons (.asg (.tp [5, 6]) (.tup (.cons (.int 0) (.cons (.int 1) .nil))))
  (.cons (.whl (.cmp .Gt (.var 4) (.var 2)) (.cons (.asg (.nm 7) (.bin false .FloorDiv (.var 3) (.var 4)))
  (.cons (.asg (.tp [3, 4]) (.tup (.cons (.var 4) (.cons (.bin false .Sub (.var 3) (.bin false .Mult (.var 7) (.var 4))) .nil))))
  (.cons (.asg (.tp [5, 6]) (.tup (.cons (.var 6) (.cons (.bin false .Sub (.var 5) (.bin false .Mult (.var 7) (.var 6))) .nil))))
  .nil))))
  (.cons (.ifs (.cmp .Lt (.var 6) (.int 0)) (.cons (.ret (.tup (.cons (.bin false .Sub (.int 0) (.var 4)) (.cons (.bin false .Sub (.int 0) (.var 6)) .nil))))
  .nil) .nil)
  (.cons (.ret (.tup (.cons (.var 4) (.cons (.var 6) .nil))))
  .nil)))))
def f_top_and_bottom : Fn := fnS cs0 8 3 b_top_and_bottom
def t_top_and_bottom_9 : Ss := .cons (.ret (.tup (.cons (.var 4) (.cons (.var 6) .nil)))) .nil
def t_top_and_bottom_8 : Ss := .cons (.ret (.tup (.cons (.bin false .Sub (.int 0) (.var 4)) (.cons (.bin false .Sub (.int 0) (.var 6)) .nil)))) .nil
def t_top_and_bottom_7 : Ss := .cons (.ifs (.cmp .Lt (.var 6) (.int 0)) t_top_and_bottom_8 .nil) t_top_and_bottom_9
def t_top_and_bottom_6 : Ss := .cons (.asg (.tp [5, 6]) (.tup (.cons (.var 6) (.cons (.bin false .Sub (.var 5) (.bin false .Mult (.var 7) (.var 6))) .nil)))) .nil
def t_top_and_bottom_5 : Ss := .cons (.asg (.tp [3, 4]) (.tup (.cons (.var 4) (.cons (.bin false .Sub (.var 3) (.bin false .Mult (.var 7) (.var 4))) .nil)))) t_top_and_bottom_6
def t_top_and_bottom_4 : Ss := .cons (.asg (.nm 7) (.bin false .FloorDiv (.var 3) (.var 4))) t_top_and_bottom_5
def t_top_and_bottom_3 : Ss := .cons (.whl (.cmp .Gt (.var 4) (.var 2)) t_top_and_bottom_4) t_top_and_bottom_7
def t_top_and_bottom_2 : Ss := .cons (.asg (.tp [5, 6]) (.tup (.cons (.int 0) (.cons (.int 1) .nil)))) t_top_and_bottom_3
def t_top_and_bottom_1 : Ss := .cons (.asg (.tp [3, 4]) (.tup (.cons (.var 0) (.cons (.var 1) .nil)))) t_top_and_bottom_2
theorem u_top_and_bottom : b_top_and_bottom = t_top_and_bottom_1 := rfl
/-- m, w, n, one, other, left, right, times -/
theorem w_top_and_bottom {x0 x1 x2 : D} {h : Hh} {Q : D → Hh → Prop} (w : WS (evSs cs0 t_top_and_bottom_1 [some x0, some x1, some x2, none, none, none, none, none] h) (fun _ h1 => Q .non h1) Q no2 no2) : W (f_top_and_bottom [x0, x1, x2] h) Q := by
  rw [← u_top_and_bottom] at w
  exact w_fnS2 (C := cs0) (n := 8) (np := 3) (b := b_top_and_bottom) rfl rfl w
theorem r_top_and_bottom {x0 x1 x2 : D} {h : Hh} : f_top_and_bottom [x0, x1, x2] h = endR (evSs cs0 t_top_and_bottom_1 [some x0, some x1, some x2, none, none, none, none, none] h) := by
  rw [← u_top_and_bottom]
  exact fnS_run2 (C := cs0) (n := 8) (np := 3) (b := b_top_and_bottom) rfl rfl
def Rd (rs : List (Int × Int)) : Prop := (rs.map Prod.fst).Nodup ∧ ∀ q ∈ rs, q.1 ∈ PR ∧ 0 ≤ q.2 ∧ q.2 < q.1
/-! put together -/
def prodF (rs : List (Int × Int)) : Int := (rs.map Prod.fst).foldl (· * ·) 1
theorem prodF_snoc (rs : List (Int × Int)) (q : Int × Int) : prodF (rs ++ [q]) = prodF rs * q.1 := by
  unfold prodF
  rw [List.map_append, List.foldl_append]
  rfl
theorem Rd.take {rs : List (Int × Int)} (r : Rd rs) (j : Nat) : Rd (rs.take j) := ⟨by rw [List.map_take]; exact r.1.sublist (List.take_sublist _ _), fun q hq => r.2 q (List.mem_of_mem_take hq)⟩
theorem Rd.snoc {rs : List (Int × Int)} {q : Int × Int} (r : Rd (rs ++ [q])) : Rd rs ∧ q.1 ∈ PR ∧ 0 ≤ q.2 ∧ q.2 < q.1 ∧ q.1 ∉ rs.map Prod.fst := by
  have n := r.1
  rw [List.map_append, List.map_cons, List.map_nil] at n
  have n2 := List.nodup_append.mp n
  obtain ⟨a, b, c⟩ := r.2 q (by simp)
  exact ⟨⟨n2.1, fun s hs => r.2 s (List.mem_append_left _ hs)⟩, a, b, c, fun z => n2.2.2 _ z q.1 (by simp) rfl⟩
/-- induction from behind -/
theorem back_ind {α : Type} {P : List α → Prop} (h0 : P []) (h1 : ∀ l a, P l → P (l ++ [a])) (l : List α) : P l := by
  have : ∀ n (l : List α), l.length = n → P l := by
    intro n
    induction n with
    | zero => intro l hl; rw [List.length_eq_zero_iff.mp hl]; exact h0
    | succ n ih =>
      intro l hl
      have he : l ≠ [] := fun z => by rw [z] at hl; simp at hl
      rw [← List.dropLast_concat_getLast he]
      exact h1 _ _ (ih _ (by rw [List.length_dropLast]; omega))
  exact this _ l rfl
theorem prodF_pos {rs : List (Int × Int)} : Rd rs → 0 < prodF rs := by
  refine back_ind (P := fun rs => Rd rs → 0 < prodF rs) (fun _ => by decide) (fun l a ih r => ?_) rs
  obtain ⟨r1, p, _, _, _⟩ := r.snoc
  rw [prodF_snoc]
  exact Int.mul_pos (ih r1) (by have := PR_lt p; omega)
theorem prodF_le {rs : List (Int × Int)} : Rd rs → prodF rs ≤ 1000 ^ rs.length := by
  refine back_ind (P := fun rs => Rd rs → prodF rs ≤ 1000 ^ rs.length) (fun _ => by decide) (fun l a ih r => ?_) rs
  obtain ⟨r1, p, _, _, _⟩ := r.snoc
  have := PR_lt p
  rw [prodF_snoc, List.length_append, List.length_singleton, Int.pow_succ]
  exact Int.mul_le_mul (ih r1) (by omega) (by omega) (Int.le_trans (Int.le_of_lt (prodF_pos r1)) (ih r1))
theorem prodF_small {rs : List (Int × Int)} (r : Rd rs) (hl : rs.length ≤ 10) : prodF rs ≤ 1000000000000000000000000000000 := by
  refine Int.le_trans (prodF_le r) ?_
  generalize rs.length = k at hl
  have : k = 0 ∨ k = 1 ∨ k = 2 ∨ k = 3 ∨ k = 4 ∨ k = 5 ∨ k = 6 ∨ k = 7 ∨ k = 8 ∨ k = 9 ∨ k = 10 := by omega
  rcases this with rfl | rfl | rfl | rfl | rfl | rfl | rfl | rfl | rfl | rfl | rfl <;> decide
theorem prodF_cop {rs : List (Int × Int)} {p : Int} (hp : p ∈ PR) : Rd rs → p ∉ rs.map Prod.fst → Int.gcd (prodF rs) p = 1 := by
  refine back_ind (P := fun rs => Rd rs → p ∉ rs.map Prod.fst → Int.gcd (prodF rs) p = 1) (fun _ _ => by simp [prodF]) (fun l a ih r ni => ?_) rs
  obtain ⟨r1, pa, _, _, _⟩ := r.snoc
  have n1 : p ∉ l.map Prod.fst := fun z => ni (by rw [List.map_append]; exact List.mem_append_left _ z)
  have n2 : a.1 ≠ p := fun z => ni (by rw [List.map_append]; exact List.mem_append_right _ (by simp [z]))
  rw [prodF_snoc]
  have c1 : Nat.Coprime (prodF l).natAbs p.natAbs := ih r1 n1
  have c2 : Nat.Coprime a.1.natAbs p.natAbs := PR_cop pa hp n2
  show Nat.gcd (prodF l * a.1).natAbs p.natAbs = 1
  rw [Int.natAbs_mul]
  exact Nat.Coprime.mul_left c1 c2
theorem prodF_dvd {rs : List (Int × Int)} {q : Int × Int} (hq : q ∈ rs) : q.1 ∣ prodF rs := by
  revert hq
  refine back_ind (P := fun rs => q ∈ rs → q.1 ∣ prodF rs) (fun z => by cases z) (fun l a ih z => ?_) rs
  rw [prodF_snoc]
  rcases List.mem_append.mp z with y | y
  · exact Int.dvd_trans (ih y) (Int.dvd_mul_right _ _)
  · rw [List.mem_singleton.mp y]; exact Int.dvd_mul_left _ _
/-- what leaves the same rests is the same by the product -/
theorem crt_dvd {rs : List (Int × Int)} {d : Int} : Rd rs → (∀ q ∈ rs, q.1 ∣ d) → prodF rs ∣ d := by
  refine back_ind (P := fun rs => Rd rs → (∀ q ∈ rs, q.1 ∣ d) → prodF rs ∣ d) (fun _ _ => by simp [prodF]) (fun l a ih r al => ?_) rs
  obtain ⟨r1, pa, _, _, ni⟩ := r.snoc
  rw [prodF_snoc, ← Int.natAbs_dvd_natAbs, Int.natAbs_mul]
  exact Nat.Coprime.mul_dvd_of_dvd_of_dvd (prodF_cop pa r1 ni) (Int.natAbs_dvd_natAbs.mpr (ih r1 fun q hq => al q (List.mem_append_left _ hq))) (Int.natAbs_dvd_natAbs.mpr (al a (by simp)))
def Has (rs : List (Int × Int)) (w : Int) : Prop := 0 ≤ w ∧ w < prodF rs ∧ ∀ q ∈ rs, w % q.1 = q.2
theorem Has.one {rs : List (Int × Int)} {w v : Int} (r : Rd rs) (a : Has rs w) (b : Has rs v) : w = v := by
  have d : prodF rs ∣ w - v := crt_dvd r fun q hq => by
    have : w % q.1 = v % q.1 := by rw [a.2.2 q hq, b.2.2 q hq]
    exact Int.dvd_of_emod_eq_zero (Int.emod_eq_emod_iff_emod_sub_eq_zero.mp this)
  have := a.1; have := a.2.1; have := b.1; have := b.2.1
  have e := Int.emod_eq_emod_iff_emod_sub_eq_zero.mpr (Int.emod_eq_zero_of_dvd d)
  rwa [Int.emod_eq_of_lt (by omega) (by omega), Int.emod_eq_of_lt (by omega) (by omega)] at e
theorem rest_step {rs : List (Int × Int)} {q : Int × Int} {w t : Int} (r : Rd (rs ++ [q])) (a : Has rs w) (ht : (prodF rs * t) % q.1 = 1) : Has (rs ++ [q]) (w + prodF rs * ((q.2 - w) * t % q.1)) := by
  obtain ⟨r1, pa, q0, q1, ni⟩ := r.snoc
  obtain ⟨w0, w1, al⟩ := a
  have pp := PR_lt pa
  have m0 := prodF_pos r1
  have k0 : 0 ≤ (q.2 - w) * t % q.1 := Int.emod_nonneg _ (by omega)
  have k1 : (q.2 - w) * t % q.1 < q.1 := Int.emod_lt_of_pos _ (by omega)
  have b0 : 0 ≤ prodF rs * ((q.2 - w) * t % q.1) := Int.mul_nonneg (by omega) k0
  have b1 : prodF rs * ((q.2 - w) * t % q.1) ≤ prodF rs * (q.1 - 1) := Int.mul_le_mul_of_nonneg_left (by omega) (by omega)
  have b2 : prodF rs * (q.1 - 1) = prodF rs * q.1 - prodF rs := by grind
  refine ⟨by omega, by rw [prodF_snoc]; omega, fun s hs => ?_⟩
  rcases List.mem_append.mp hs with y | y
  · obtain ⟨k, hk⟩ := prodF_dvd y
    rw [hk, Int.mul_assoc, Int.add_mul_emod_self_left]
    exact al s y
  · rw [List.mem_singleton.mp y]
    have e : (w + prodF rs * ((q.2 - w) * t % q.1)) % q.1 = q.2 % q.1 := by
      rw [Int.add_emod, em_r]
      have z : prodF rs * ((q.2 - w) * t) = (prodF rs * t) * (q.2 - w) := by grind
      rw [z, ← em_l, ht, Int.one_mul, ← Int.add_emod]
      congr 1
      omega
    rw [e]
    exact Int.emod_eq_of_lt q0 q1
theorem one_rest_ok {rs : List (Int × Int)} {h : Hh} (hr : Rd rs) (hl : rs.length ≤ 10) : ∃ w, callM .P f_one_rest [.lst (rs.map pd)] h = .ok (.tup [.int (prodF rs), .int w]) h ∧ Has rs w := by
  obtain ⟨l2, h2, el, ⟨w, o3, o4, e2, hw⟩, e3⟩ := loopL_inv (g := asgT (.tp [3, 4])) (b := evSs cs0 (match b_one_rest with | .cons _ (.cons _ (.cons (.fr _ _ b) _)) => b | _ => .nil))
    (fun j ls hh => (∃ (w : Int) (o3 o4 : Option D), ls = [some (.lst (rs.map pd)), some (.int (prodF (rs.take j))), some (.int w), o3, o4] ∧ Has (rs.take j) w) ∧ hh = []) (rs.map pd) 0 [some (.lst (rs.map pd)), some (.int 1), some (.int 0), none, none] [] (by
      rintro j x ls hh ex ⟨⟨w, o3, o4, rfl, hw⟩, rfl⟩
      rw [List.getElem?_map] at ex
      obtain ⟨q, eq, rfl⟩ := Option.map_eq_some_iff.mp ex
      obtain ⟨hj, eq2⟩ := List.getElem?_eq_some_iff.mp eq
      rw [Nat.zero_add] at hw ⊢
      have et : rs.take (j + 1) = rs.take j ++ [q] := by rw [← eq2, List.take_append_getElem hj]
      have rt : Rd (rs.take j ++ [q]) := et ▸ hr.take (j + 1)
      obtain ⟨r1, pa, q0, q1, ni⟩ := rt.snoc
      have pp := PR_lt pa
      have m0 := prodF_pos r1
      have m1 := prodF_small r1 (by rw [List.length_take]; omega)
      obtain ⟨t, e1, t0, t1, tt⟩ := turned_ok (h := []) (by omega : 1 < q.1) (by omega) (prodF_cop pa r1 ni)
      have hs := rest_step rt hw tt
      have w0 := hw.1
      have w1 := hw.2.1
      rw [et, prodF_snoc]
      have k0 : 0 ≤ (q.2 - w) * t % q.1 := Int.emod_nonneg _ (by omega)
      have k1 : (q.2 - w) * t % q.1 < q.1 := Int.emod_lt_of_pos _ (by omega)
      have s1 : small (prodF (rs.take j)) = true := small_of (by omega) (by omega)
      have s2 : small (q.2 - w) = true := small_of (by omega) (by omega)
      have s3 : small t = true := small_of (by omega) (by omega)
      have s4 : small ((q.2 - w) * t % q.1) = true := small_of (by omega) (by omega)
      have s5 : small q.1 = true := small_of (by omega) (by omega)
      have hp : 0 < q.1 := by omega
      refine ⟨[some (.lst (rs.map pd)), some (.int (prodF (rs.take j))), some (.int w), some (.int q.1), some (.int q.2)], [some (.lst (rs.map pd)), some (.int (prodF (rs.take j) * q.1)), some (.int (w + prodF (rs.take j) * ((q.2 - w) * t % q.1))), some (.int q.1), some (.int q.2)], [], rfl, .inl ?_, ⟨_, _, _, rfl, hs⟩, rfl⟩
      simp only [b_one_rest]
      generalize prodF (rs.take j) = m at *
      simp [e1, bin_mul, aug_mul, s1, s2, s3, s4, s5, hp])
    ⟨⟨0, none, none, rfl, by rw [List.take_zero]; exact ⟨by omega, by decide, fun q hq => by cases hq⟩⟩, rfl⟩
  rw [List.length_map, Nat.zero_add, List.take_length] at e2 hw
  subst e2 e3
  refine ⟨w, callPP (by simp [pures, D.pure, pures_pd]) (d := .tup [.int (prodF rs), .int w]) (h' := []) ?_ rfl, hw⟩
  refine fn1.trans ?_
  simp only [b_one_rest] at el ⊢
  simp [forR_lst, el]
/-! the row of divisions -/
theorem recon_A {m u n one other left right a b : Int} (l0 : left ≤ 0) (r0 : 0 < right) (dt : right * one - left * other = m) (d1 : m ∣ left * u - one) (d2 : m ∣ right * u - other) (o0 : 0 ≤ other) (on : other ≤ n) (no : n < one) (b0 : 0 < b) (a0 : -n ≤ a) (a1 : a ≤ n) (g : Int.gcd a b = 1) (dv : m ∣ u * b - a) (big : 2 * n * b < m) : a = other ∧ b = right := by
  have m0 : 0 < m := by
    have : 0 ≤ n * b := Int.mul_nonneg (by omega) (by omega)
    rw [Int.mul_assoc] at big
    omega
  obtain ⟨x, hx⟩ : m ∣ a * right - b * other := by
    have e : a * right - b * other = b * (right * u - other) - right * (u * b - a) := by grind
    rw [e]
    exact Int.dvd_sub (Int.dvd_mul_of_dvd_right d2) (Int.dvd_mul_of_dvd_right dv)
  obtain ⟨y, hy⟩ : m ∣ a * left - b * one := by
    have e : a * left - b * one = b * (left * u - one) - left * (u * b - a) := by grind
    rw [e]
    exact Int.dvd_sub (Int.dvd_mul_of_dvd_right d1) (Int.dvd_mul_of_dvd_right dv)
  have ea : a = one * x - other * y := by
    have : m * a = m * (one * x - other * y) := by
      have e1 : m * (one * x - other * y) = one * (m * x) - other * (m * y) := by grind
      rw [e1, ← hx, ← hy, ← dt]; grind
    exact Int.eq_of_mul_eq_mul_left (by omega) this
  have eb : b = left * x - right * y := by
    have : m * b = m * (left * x - right * y) := by
      have e1 : m * (left * x - right * y) = left * (m * x) - right * (m * y) := by grind
      rw [e1, ← hx, ← hy, ← dt]; grind
    exact Int.eq_of_mul_eq_mul_left (by omega) this
  have x0 : x = 0 := by
    rcases Int.lt_trichotomy x 0 with q | q | q
    · exfalso
      by_cases z : 0 ≤ y
      · have h1 : one * x ≤ one * (-1) := Int.mul_le_mul_of_nonneg_left (by omega) (by omega)
        have h2 : 0 ≤ other * y := Int.mul_nonneg o0 z
        omega
      · have h1 : 0 ≤ left * x := Int.mul_nonneg_of_nonpos_of_nonpos l0 (by omega)
        have h2 : right * y ≤ right * (-1) := Int.mul_le_mul_of_nonneg_left (by omega) (by omega)
        have br : right ≤ b := by omega
        have h3 : m * x ≤ m * (-1) := Int.mul_le_mul_of_nonneg_left (by omega) (by omega)
        have h4 : -n * right ≤ a * right := Int.mul_le_mul_of_nonneg_right a0 (by omega)
        have h5 : n * right ≤ n * b := Int.mul_le_mul_of_nonneg_left br (by omega)
        have h6 : b * other ≤ b * n := Int.mul_le_mul_of_nonneg_left on (by omega)
        have h7 : 2 * n * b = n * b + b * n := by grind
        have h8 : -n * right = -(n * right) := by grind
        omega
    · exact q
    · exfalso
      by_cases z : y ≤ 0
      · have h1 : one * 1 ≤ one * x := Int.mul_le_mul_of_nonneg_left (by omega) (by omega)
        have h2 : other * y ≤ 0 := Int.mul_nonpos_of_nonneg_of_nonpos o0 z
        omega
      · have h1 : left * x ≤ 0 := Int.mul_nonpos_of_nonpos_of_nonneg l0 (by omega)
        have h2 : right * 1 ≤ right * y := Int.mul_le_mul_of_nonneg_left (by omega) (by omega)
        omega
  subst x0
  have da : y ∣ a := by rw [ea]; exact ⟨-other, by grind⟩
  have db : y ∣ b := by rw [eb]; exact ⟨-right, by grind⟩
  have dg := Int.dvd_coe_gcd da db
  rw [g] at dg
  have y1 : y = 1 ∨ y = -1 := by
    have := Int.natAbs_dvd_natAbs.mpr dg
    have : y.natAbs = 1 := by simpa using this
    omega
  rcases y1 with rfl | rfl <;> omega
theorem recon_fin {m u n one other left right a b : Int} (sg : (left ≤ 0 ∧ 0 < right ∧ right * one - left * other = m) ∨ (0 ≤ left ∧ right < 0 ∧ left * other - right * one = m)) (d1 : m ∣ left * u - one) (d2 : m ∣ right * u - other) (o0 : 0 ≤ other) (on : other ≤ n) (no : n < one) (b0 : 0 < b) (a0 : -n ≤ a) (a1 : a ≤ n) (g : Int.gcd a b = 1) (dv : m ∣ u * b - a) (big : 2 * n * b < m) : (0 < right → a = other ∧ b = right) ∧ (right < 0 → a = -other ∧ b = -right) := by
  rcases sg with ⟨l0, r0, dt⟩ | ⟨l0, r0, dt⟩
  · exact ⟨fun _ => recon_A l0 r0 dt d1 d2 o0 on no b0 a0 a1 g dv big, fun z => by omega⟩
  · refine ⟨fun z => by omega, fun _ => ?_⟩
    have e1 : -left * -u = left * u := by grind
    have e2 : -right * -u = right * u := by grind
    have := recon_A (m := m) (u := -u) (n := n) (one := one) (other := other) (left := -left) (right := -right) (a := -a) (b := b) (by omega) (by omega) (by grind) (by rw [e1]; exact d1) (by rw [e2]; exact d2) o0 on no b0 (by omega) (by omega) (by rw [Int.neg_gcd]; exact g) (by
      have : -u * b - -a = -(u * b - a) := by grind
      rw [this]; exact Int.dvd_neg.mpr dv) big
    omega
end U
namespace U
open PySem PySem.Spec PyProof.Rows L2 Tb
def b_is_fraction : Ss := (.cons (.ifs (.bop .Or (.cons (.not (.isi (.var 0) (.bty "tuple"))) (.cons (.cmp .NotEq (.bi .len false (.cons (.var 0) .nil)) (.int 2)) .nil))) (.cons (.ret (.bl false))
  .nil) .nil)
  (.cons (.ifs (.bop .Or (.cons (.not (.call .P "is_whole" f_is_whole (.cons (.idx (.var 0) (.int 0)) .nil))) (.cons (.not (.call .P "is_whole" f_is_whole (.cons (.idx (.var 0) (.int 1)) .nil))) .nil))) (.cons (.ret (.bl false))
  .nil) .nil)
  (.cons (.ret (.bop .And (.cons (.cmp .Gt (.idx (.var 0) (.int 1)) (.int 0)) (.cons (.cmp .Eq (.call .P "shared" f_shared (.cons (.idx (.var 0) (.int 1)) (.cons (.idx (.var 0) (.int 0)) .nil))) (.int 1)) .nil))))
  .nil)))
def f_is_fraction : Fn := fnS cs0 1 1 b_is_fraction
def t_is_fraction_5 : Ss := .cons (.ret (.bop .And (.cons (.cmp .Gt (.idx (.var 0) (.int 1)) (.int 0)) (.cons (.cmp .Eq (.call .P "shared" f_shared (.cons (.idx (.var 0) (.int 1)) (.cons (.idx (.var 0) (.int 0)) .nil))) (.int 1)) .nil)))) .nil
def t_is_fraction_4 : Ss := .cons (.ret (.bl false)) .nil
def t_is_fraction_3 : Ss := .cons (.ifs (.bop .Or (.cons (.not (.call .P "is_whole" f_is_whole (.cons (.idx (.var 0) (.int 0)) .nil))) (.cons (.not (.call .P "is_whole" f_is_whole (.cons (.idx (.var 0) (.int 1)) .nil))) .nil))) t_is_fraction_4 .nil) t_is_fraction_5
def t_is_fraction_2 : Ss := .cons (.ret (.bl false)) .nil
def t_is_fraction_1 : Ss := .cons (.ifs (.bop .Or (.cons (.not (.isi (.var 0) (.bty "tuple"))) (.cons (.cmp .NotEq (.bi .len false (.cons (.var 0) .nil)) (.int 2)) .nil))) t_is_fraction_2 .nil) t_is_fraction_3
theorem u_is_fraction : b_is_fraction = t_is_fraction_1 := rfl
/-- thing -/
theorem w_is_fraction {x0 : D} {h : Hh} {Q : D → Hh → Prop} (w : WS (evSs cs0 t_is_fraction_1 [some x0] h) (fun _ h1 => Q .non h1) Q no2 no2) : W (f_is_fraction [x0] h) Q := by
  rw [← u_is_fraction] at w
  exact w_fnS2 (C := cs0) (n := 1) (np := 1) (b := b_is_fraction) rfl rfl w
theorem r_is_fraction {x0 : D} {h : Hh} : f_is_fraction [x0] h = endR (evSs cs0 t_is_fraction_1 [some x0] h) := by
  rw [← u_is_fraction]
  exact fnS_run2 (C := cs0) (n := 1) (np := 1) (b := b_is_fraction) rfl rfl
def b_need_fraction : Ss := (.cons (.ifs (.not (.call .P "is_fraction" f_is_fraction (.cons (.var 0) .nil))) (.cons (.rais "NoFraction")
  .nil) .nil)
  .nil)
def f_need_fraction : Fn := fnS cs0 1 1 b_need_fraction
def t_need_fraction_2 : Ss := .cons (.rais "NoFraction") .nil
def t_need_fraction_1 : Ss := .cons (.ifs (.not (.call .P "is_fraction" f_is_fraction (.cons (.var 0) .nil))) t_need_fraction_2 .nil) .nil
theorem u_need_fraction : b_need_fraction = t_need_fraction_1 := rfl
/-- f -/
theorem w_need_fraction {x0 : D} {h : Hh} {Q : D → Hh → Prop} (w : WS (evSs cs0 t_need_fraction_1 [some x0] h) (fun _ h1 => Q .non h1) Q no2 no2) : W (f_need_fraction [x0] h) Q := by
  rw [← u_need_fraction] at w
  exact w_fnS2 (C := cs0) (n := 1) (np := 1) (b := b_need_fraction) rfl rfl w
theorem r_need_fraction {x0 : D} {h : Hh} : f_need_fraction [x0] h = endR (evSs cs0 t_need_fraction_1 [some x0] h) := by
  rw [← u_need_fraction]
  exact fnS_run2 (C := cs0) (n := 1) (np := 1) (b := b_need_fraction) rfl rfl
def b_need_prime : Ss := (.cons (.ifs (.not (.call .P "is_prime" f_is_prime (.cons (.var 0) .nil))) (.cons (.rais "NoPrime")
  .nil) .nil)
  .nil)
def f_need_prime : Fn := fnS cs0 1 1 b_need_prime
def t_need_prime_2 : Ss := .cons (.rais "NoPrime") .nil
def t_need_prime_1 : Ss := .cons (.ifs (.not (.call .P "is_prime" f_is_prime (.cons (.var 0) .nil))) t_need_prime_2 .nil) .nil
theorem u_need_prime : b_need_prime = t_need_prime_1 := rfl
/-- p -/
theorem w_need_prime {x0 : D} {h : Hh} {Q : D → Hh → Prop} (w : WS (evSs cs0 t_need_prime_1 [some x0] h) (fun _ h1 => Q .non h1) Q no2 no2) : W (f_need_prime [x0] h) Q := by
  rw [← u_need_prime] at w
  exact w_fnS2 (C := cs0) (n := 1) (np := 1) (b := b_need_prime) rfl rfl w
theorem r_need_prime {x0 : D} {h : Hh} : f_need_prime [x0] h = endR (evSs cs0 t_need_prime_1 [some x0] h) := by
  rw [← u_need_prime]
  exact fnS_run2 (C := cs0) (n := 1) (np := 1) (b := b_need_prime) rfl rfl
def b_rest_by : Ss := (.cons (.ifs (.cmp .Eq (.bin false .Mod (.idx (.var 0) (.int 1)) (.var 1)) (.int 0)) (.cons (.ret .non)
  .nil) .nil)
  (.cons (.ret (.bin false .Mod (.bin false .Mult (.idx (.var 0) (.int 0)) (.call .P "turned_about" f_turned_about (.cons (.idx (.var 0) (.int 1)) (.cons (.var 1) .nil)))) (.var 1)))
  .nil))
def f_rest_by : Fn := fnS cs0 2 2 b_rest_by
def t_rest_by_3 : Ss := .cons (.ret (.bin false .Mod (.bin false .Mult (.idx (.var 0) (.int 0)) (.call .P "turned_about" f_turned_about (.cons (.idx (.var 0) (.int 1)) (.cons (.var 1) .nil)))) (.var 1))) .nil
def t_rest_by_2 : Ss := .cons (.ret .non) .nil
def t_rest_by_1 : Ss := .cons (.ifs (.cmp .Eq (.bin false .Mod (.idx (.var 0) (.int 1)) (.var 1)) (.int 0)) t_rest_by_2 .nil) t_rest_by_3
theorem u_rest_by : b_rest_by = t_rest_by_1 := rfl
/-- f, p -/
theorem w_rest_by {x0 x1 : D} {h : Hh} {Q : D → Hh → Prop} (w : WS (evSs cs0 t_rest_by_1 [some x0, some x1] h) (fun _ h1 => Q .non h1) Q no2 no2) : W (f_rest_by [x0, x1] h) Q := by
  rw [← u_rest_by] at w
  exact w_fnS2 (C := cs0) (n := 2) (np := 2) (b := b_rest_by) rfl rfl w
theorem r_rest_by {x0 x1 : D} {h : Hh} : f_rest_by [x0, x1] h = endR (evSs cs0 t_rest_by_1 [some x0, some x1] h) := by
  rw [← u_rest_by]
  exact fnS_run2 (C := cs0) (n := 2) (np := 2) (b := b_rest_by) rfl rfl
def b_rest_of : Ss := (.cons (.ex (.call .P "need_fraction" f_need_fraction (.cons (.var 0) .nil)))
  (.cons (.ex (.call .P "need_prime" f_need_prime (.cons (.var 1) .nil)))
  (.cons (.ret (.call .P "rest_by" f_rest_by (.cons (.var 0) (.cons (.var 1) .nil))))
  .nil)))
def f_rest_of : Fn := fnS cs0 2 2 b_rest_of
def t_rest_of_3 : Ss := .cons (.ret (.call .P "rest_by" f_rest_by (.cons (.var 0) (.cons (.var 1) .nil)))) .nil
def t_rest_of_2 : Ss := .cons (.ex (.call .P "need_prime" f_need_prime (.cons (.var 1) .nil))) t_rest_of_3
def t_rest_of_1 : Ss := .cons (.ex (.call .P "need_fraction" f_need_fraction (.cons (.var 0) .nil))) t_rest_of_2
theorem u_rest_of : b_rest_of = t_rest_of_1 := rfl
/-- f, p -/
theorem w_rest_of {x0 x1 : D} {h : Hh} {Q : D → Hh → Prop} (w : WS (evSs cs0 t_rest_of_1 [some x0, some x1] h) (fun _ h1 => Q .non h1) Q no2 no2) : W (f_rest_of [x0, x1] h) Q := by
  rw [← u_rest_of] at w
  exact w_fnS2 (C := cs0) (n := 2) (np := 2) (b := b_rest_of) rfl rfl w
theorem r_rest_of {x0 x1 : D} {h : Hh} : f_rest_of [x0, x1] h = endR (evSs cs0 t_rest_of_1 [some x0, some x1] h) := by
  rw [← u_rest_of]
  exact fnS_run2 (C := cs0) (n := 2) (np := 2) (b := b_rest_of) rfl rfl
def b_not_kept : Ss := (.cons (.ex (.call .P "need_fraction" f_need_fraction (.cons (.var 0) .nil)))
  (.cons (.ex (.call .P "need_readings" f_need_readings (.cons (.var 1) .nil)))
  (.cons (.ret (.comp false [2, 3] (.tp [2, 3]) (.enu (.var 1)) (.cons (.not (.call .P "keeps" f_keeps (.cons (.var 0) (.cons (.var 3) .nil)))) .nil) (.var 2)))
  .nil)))
def f_not_kept : Fn := fnS cs0 4 2 b_not_kept
def t_not_kept_3 : Ss := .cons (.ret (.comp false [2, 3] (.tp [2, 3]) (.enu (.var 1)) (.cons (.not (.call .P "keeps" f_keeps (.cons (.var 0) (.cons (.var 3) .nil)))) .nil) (.var 2))) .nil
def t_not_kept_2 : Ss := .cons (.ex (.call .P "need_readings" f_need_readings (.cons (.var 1) .nil))) t_not_kept_3
def t_not_kept_1 : Ss := .cons (.ex (.call .P "need_fraction" f_need_fraction (.cons (.var 0) .nil))) t_not_kept_2
theorem u_not_kept : b_not_kept = t_not_kept_1 := rfl
/-- f, readings, place, reading -/
theorem w_not_kept {x0 x1 : D} {h : Hh} {Q : D → Hh → Prop} (w : WS (evSs cs0 t_not_kept_1 [some x0, some x1, none, none] h) (fun _ h1 => Q .non h1) Q no2 no2) : W (f_not_kept [x0, x1] h) Q := by
  rw [← u_not_kept] at w
  exact w_fnS2 (C := cs0) (n := 4) (np := 2) (b := b_not_kept) rfl rfl w
theorem r_not_kept {x0 x1 : D} {h : Hh} : f_not_kept [x0, x1] h = endR (evSs cs0 t_not_kept_1 [some x0, some x1, none, none] h) := by
  rw [← u_not_kept]
  exact fnS_run2 (C := cs0) (n := 4) (np := 2) (b := b_not_kept) rfl rfl
theorem is_fraction_ok {f : Int × Int} {h : Hh} (a0 : -1000000000000000000000000000000000000000000000000000000000000 ≤ f.1) (a1 : f.1 ≤ 1000000000000000000000000000000000000000000000000000000000000) : callM .P f_is_fraction [pd f] h = .ok (.bl (decide (0 < f.2 ∧ Int.gcd f.1 f.2 = 1))) h := by
  obtain ⟨a, b⟩ := f
  refine callPP rfl (d := .bl (decide (0 < b ∧ Int.gcd a b = 1))) (h' := []) (eq_of_W (w_is_fraction ?_)) rfl
  have sh := fun h => shared_ok (a := b) (b := a) (h := h) (big200 a0 a1)
  simp (disch := walk_at "ln") [-getElem?_pos, -max_ii, -min_ii, -max_t2, -abs_i, max_iO, min_iO, max_tO, abs_iO, List.getElem?_cons_zero, List.getElem?_append_left, t_is_fraction_1, pd, t_is_fraction_3, whole_ok, t_is_fraction_5, sh]
  by_cases q : 0 < b
  · simp [q]
    rw [Int.gcd_comm]; omega
  · simp [q]
/-- a fraction, of at most so many figures -/
def Fr (f : Int × Int) : Prop := 0 < f.2 ∧ Int.gcd f.1 f.2 = 1 ∧ -1000000000000000000000000000000000 ≤ f.1 ∧ f.1 ≤ 1000000000000000000000000000000000 ∧ f.2 ≤ 1000000000000000000000000000000000
theorem Fr.ok {f : Int × Int} {h : Hh} (k : Fr f) : callM .P f_is_fraction [pd f] h = .ok (.bl true) h := by
  have e := is_fraction_ok (f := f) (h := h) (by have := k.2.2.1; omega) (by have := k.2.2.2.1; omega)
  rw [decide_eq_true ⟨k.1, k.2.1⟩] at e
  exact e
theorem need_fraction_ok {f : Int × Int} {h : Hh} (k : Fr f) : callM .P f_need_fraction [pd f] h = .ok .non h := by
  refine callPP rfl (d := .non) (h' := []) (eq_of_W (w_need_fraction ?_)) rfl
  simp (disch := walk_at "ln") [-getElem?_pos, -max_ii, -min_ii, -max_t2, -abs_i, max_iO, min_iO, max_tO, abs_iO, List.getElem?_cons_zero, List.getElem?_append_left, t_need_fraction_1, k.ok]
theorem need_prime_ok {p : Int} {h : Hh} (hp : p ∈ PR) : callM .P f_need_prime [.int p] h = .ok .non h := by
  refine callPP rfl (d := .non) (h' := []) (eq_of_W (w_need_prime ?_)) rfl
  simp (disch := walk_at "ln") [-getElem?_pos, -max_ii, -min_ii, -max_t2, -abs_i, max_iO, min_iO, max_tO, abs_iO, List.getElem?_cons_zero, List.getElem?_append_left, t_need_prime_1, prime_ok hp]
theorem rest_by_ok {f : Int × Int} {p : Int} {h : Hh} (k : Fr f) (hp : p ∈ PR) : callM .P f_rest_by [pd f, .int p] h = .ok (od (rO f.1 f.2 p)) h := by
  have pb := PR_lt hp
  obtain ⟨b0, g, a0, a1, b1⟩ := k
  obtain ⟨a, b⟩ := f
  simp only at b0 g a0 a1 b1
  refine callPP rfl (d := od (rO a b p)) (h' := []) (eq_of_W (w_rest_by ?_)) (od_pure _)
  by_cases q : b % p = 0
  · rw [(rO_none (a := a) hp).mpr q]
    simp (disch := walk_at "ln") [-getElem?_pos, -max_ii, -min_ii, -max_t2, -abs_i, max_iO, min_iO, max_tO, abs_iO, List.getElem?_cons_zero, List.getElem?_append_left, t_rest_by_1, pd, q, t_rest_by_2, od]
  · obtain ⟨t, e, t0, t1, tt⟩ := turned_ok (num := b) (m := p) (h := []) (by omega) (by omega) (PR_gcd hp q)
    have m0 := Int.emod_nonneg (a * t) (show p ≠ 0 by omega)
    have m1 := Int.emod_lt_of_pos (a * t) (show 0 < p by omega)
    have er : rO a b p = some (a * t % p) := (rO_iff hp m0 m1 q).mpr (by
      rw [Int.sub_emod, em_l]
      have z : a * t * b = (b * t) * a := by grind
      rw [z, ← em_l, tt, Int.one_mul]
      simp)
    rw [er]
    simp (disch := walk_at "ln") [-getElem?_pos, -max_ii, -min_ii, -max_t2, -abs_i, max_iO, min_iO, max_tO, abs_iO, List.getElem?_cons_zero, List.getElem?_append_left, t_rest_by_1, pd, q, t_rest_by_3, e, od]
theorem rest_of_ok {f : Int × Int} {p : Int} {h : Hh} (k : Fr f) (hp : p ∈ PR) : callM .P f_rest_of [pd f, .int p] h = .ok (od (rO f.1 f.2 p)) h := by
  refine callPP rfl (d := od (rO f.1 f.2 p)) (h' := []) (eq_of_W (w_rest_of ?_)) (od_pure _)
  simp (disch := walk_at "ln") [-getElem?_pos, -max_ii, -min_ii, -max_t2, -abs_i, max_iO, min_iO, max_tO, abs_iO, List.getElem?_cons_zero, List.getElem?_append_left, t_rest_of_1, need_fraction_ok k, t_rest_of_2, need_prime_ok hp, t_rest_of_3, rest_by_ok k hp]
/-! the places that are not kept -/
def NK (f : Int × Int) (rs : List (Int × Option Int)) : List Int := ((List.range rs.length).filter fun i => !kpB f (rs.getD i (0, none))).map fun (i : Nat) => (i : Int)
theorem enumL_len : ∀ (xs : List D) (n : Nat), (enumL n xs).length = xs.length
  | [], _ => rfl
  | x :: r, n => by simp [enumL, enumL_len r]
theorem enumL_at : ∀ (xs : List D) (n i : Nat), (enumL n xs)[i]? = (xs[i]?).map fun d => D.tup [.int ((n + i : Nat) : Int), d]
  | [], n, i => by simp [enumL]
  | x :: r, n, 0 => by simp [enumL]
  | x :: r, n, i + 1 => by
    rw [enumL, List.getElem?_cons_succ, enumL_at r (n + 1) i, List.getElem?_cons_succ]
    congr 2
    funext d
    rw [show n + 1 + i = n + (i + 1) by omega]
theorem enum_pq (rs : List (Int × Option Int)) : enumL 0 (rs.map pq) = (List.range rs.length).map fun (i : Nat) => D.tup [.int ((i : Nat) : Int), pq (rs.getD i (0, none))] := by
  apply List.ext_getElem?
  intro i
  rw [enumL_at, List.getElem?_map, List.getElem?_map]
  by_cases hi : i < rs.length
  · rw [List.getElem?_range hi, List.getElem?_eq_getElem hi]
    simp [List.getD, List.getElem?_eq_getElem hi]
  · rw [List.getElem?_eq_none (by omega), List.getElem?_eq_none (by simp; omega)]
    rfl
theorem getD_mem {rs : List (Int × Option Int)} {i : Nat} (hi : i < rs.length) : rs.getD i (0, none) ∈ rs := by
  simp [List.getD, List.getElem?_eq_getElem hi]
theorem NK_nil {f : Int × Int} {rs : List (Int × Option Int)} : NK f rs = [] ↔ rs.all (kpB f) = true := by
  rw [NK, List.map_eq_nil_iff, List.filter_eq_nil_iff, List.all_eq_true]
  constructor
  · intro z q hq
    obtain ⟨i, hi, e⟩ := List.getElem_of_mem hq
    have := z i (List.mem_range.mpr hi)
    rw [List.getD, List.getElem?_eq_getElem hi, e] at this
    simpa using this
  · intro z i hi
    have := z _ (getD_mem (List.mem_range.mp hi))
    rw [this]; simp
theorem not_kept_run {f : Int × Int} {rs : List (Int × Option Int)} {h : Hh} (k : Fr f) (hr : RdO rs) (hl : rs.length ≤ 10) : W (f_not_kept [pd f, .lst (rs.map pq)] h) fun d h' => d = .lst ((NK f rs).map .int) ∧ h' = h := by
  refine w_not_kept ?_
  have sb : small f.2 = true := by obtain ⟨a, b, c, d, e⟩ := k; exact small_of (by omega) (by omega)
  simp (disch := walk_at "ln") [-getElem?_pos, -max_ii, -min_ii, -max_t2, -abs_i, max_iO, min_iO, max_tO, abs_iO, List.getElem?_cons_zero, List.getElem?_append_left, t_not_kept_1, need_fraction_ok k, t_not_kept_2, need_readingsO_ok hr hl, t_not_kept_3, wipeL]
  refine w_cA (fun (i : Nat) => D.tup [.int ((i : Nat) : Int), pq (rs.getD i (0, none))]) (List.range rs.length) (fun i => !kpB f (rs.getD i (0, none))) (fun i => .int (i : Int)) (by show some (enumL 0 _) = _; rw [enum_pq]) (by simp; omega) ?_ ?_
  · intro i hi
    have hi := List.mem_range.mp hi
    obtain ⟨h1, h2⟩ := hr.2 _ (getD_mem hi)
    have pb := PR_lt h1
    have k := keeps_ok (f := f) (q := rs.getD i (0, none)) (h := h) (by omega) sb fun r e => by have := h2 r e; exact small_of (by omega) (by omega)
    generalize rs.getD i (0, none) = q at *
    refine ⟨_, rfl, ?_, fun _ => by simp⟩
    have e : pq q = .tup [.int q.1, od q.2] := rfl
    generalize pq q = Y at *
    simp (disch := walk_at "ln") [-getElem?_pos, -max_ii, -min_ii, -max_t2, -abs_i, max_iO, min_iO, max_tO, abs_iO, List.getElem?_cons_zero, List.getElem?_append_left, k]
  · rw [NK, List.map_map]
    simp
theorem not_kept_ok {f : Int × Int} {rs : List (Int × Option Int)} {h : Hh} (k : Fr f) (hr : RdO rs) (hl : rs.length ≤ 10) : callM .P f_not_kept [pd f, .lst (rs.map pq)] h = .ok (.lst ((NK f rs).map .int)) h := by
  obtain ⟨d, h', e, rfl, rfl⟩ := (not_kept_run (h := []) k hr hl).ex
  exact callPP (by simp [pures, D.pure, pures_pq, pd_pure]) e (pures_ints _)
theorem self_eq {v : D} {n : Nat} {h : Hh} (g : v.gv n = true) (hn : n ≤ 60) : cmpD .Eq h v v = some true ∧ cmpD .NotEq h v v = some false := by
  obtain ⟨r, e1, e2, q⟩ := eq_gv (h := h) g g hn hn
  rw [e1, e2, q.mpr rfl]; exact ⟨rfl, rfl⟩
theorem in_ints {h : Hh} {n : Int} {ns : List Int} : cmpD .NotIn h (.int n) (.lst (ns.map .int)) = some (!decide (n ∈ ns)) := by
  show (inD h (.int n) (.lst (ns.map .int))).map not = _
  have e1 : toPy h (.lst (ns.map .int)) = some (.list (ns.map .int)) := by
    show (pys (ns.map .int)).map PyData.list = _
    rw [pys_ints]; rfl
  have sh : SeqAt.shaped (.list (ns.map .int)) = true := by
    obtain ⟨p, e, c, d⟩ := gv_py 1 (.lst (ns.map .int)) (gv_ints (n := 0) ns)
    have e' : py (.lst (ns.map .int)) = some (.list (ns.map .int)) := e1
    rw [e'] at e
    cases e
    unfold SeqAt.shaped
    rw [c, decide_eq_true (by omega)]; rfl
  have e2 : inD h (.int n) (.lst (ns.map .int)) = inP (some (.int n)) (toPy h (.lst (ns.map .int))) := rfl
  rw [e2, e1]
  show (if SeqAt.shaped (.int n) = true ∧ SeqAt.shaped (.list (ns.map .int)) = true then some ((ns.map PyData.int).any fun z => PyData.eqv z (.int n)) else none).map not = _
  rw [if_pos ⟨rfl, sh⟩]
  show some (!((ns.map PyData.int).any fun z => PyData.eqv z (.int n))) = _
  congr 2
  rw [Bool.eq_iff_iff, List.any_map, List.any_eq_true, decide_eq_true_eq]
  constructor
  · rintro ⟨x, hx, q⟩
    have : x = n := by simpa [PyData.eqv] using q
    exact this ▸ hx
  · intro q
    exact ⟨n, q, by simp [PyData.eqv]⟩
end U
namespace U
open PySem PySem.Spec PyProof.Rows L2 Tb
/-! rests of fractions put together from others: what k10 asks, in plain numbers -/
theorem pdv {p x : Int} : x % p = 0 ↔ p ∣ x := ⟨Int.dvd_of_emod_eq_zero, Int.emod_eq_zero_of_dvd⟩
theorem pcan {p b x : Int} (hp : p ∈ PR) (q : ¬ b % p = 0) (d : p ∣ b * x) : p ∣ x := by
  have g := PR_gcd hp q
  have c : Nat.Coprime p.natAbs b.natAbs := by rw [Nat.Coprime, Nat.gcd_comm]; exact g
  have d' : p.natAbs ∣ b.natAbs * x.natAbs := by rw [← Int.natAbs_mul]; exact Int.natAbs_dvd_natAbs.mpr d
  exact Int.natAbs_dvd_natAbs.mp (c.dvd_of_dvd_mul_left d')
theorem pnot {p a b : Int} (hp : p ∈ PR) (g : Int.gcd a b = 1) (d1 : p ∣ a) (d2 : p ∣ b) : False := by
  have pb := PR_lt hp
  have d := Int.dvd_coe_gcd d1 d2
  rw [g] at d
  have := Int.le_of_dvd (by decide) d
  omega
theorem cross_iff {a b c d p : Int} (hp : p ∈ PR) (f : Int.gcd a b = 1) (g : Int.gcd c d = 1) : rO a b p = rO c d p ↔ (a * d - c * b) % p = 0 := by
  rw [pdv]
  cases e : rO a b p with
  | none =>
    have b0 := pdv.mp ((rO_none hp).mp e)
    cases e2 : rO c d p with
    | none =>
      have d0 := pdv.mp ((rO_none hp).mp e2)
      exact ⟨fun _ => Int.dvd_sub (Int.dvd_mul_of_dvd_right d0) (Int.dvd_mul_of_dvd_right b0), fun _ => rfl⟩
    | some s =>
      obtain ⟨d0, _⟩ := rO_some hp e2
      refine ⟨fun z => (by cases z), fun z => ?_⟩
      have h1 : p ∣ d * a := by
        have := Int.dvd_add z (Int.dvd_mul_of_dvd_right b0 (b := c))
        rwa [show a * d - c * b + c * b = d * a by grind] at this
      exact (pnot hp f (pcan hp d0 h1) b0).elim
  | some r =>
    obtain ⟨b0, r0, r1, er⟩ := rO_some hp e
    rw [pdv] at er
    cases e2 : rO c d p with
    | none =>
      have d0 := pdv.mp ((rO_none hp).mp e2)
      refine ⟨fun z => (by cases z), fun z => ?_⟩
      have h1 : p ∣ b * c := by
        have := Int.dvd_sub (Int.dvd_mul_of_dvd_right d0 (b := a)) z
        rwa [show a * d - (a * d - c * b) = b * c by grind] at this
      exact (pnot hp g (pcan hp b0 h1) d0).elim
    | some s =>
      obtain ⟨d0, s0, s1, es⟩ := rO_some hp e2
      rw [pdv] at es
      constructor
      · intro z
        cases z
        have := Int.dvd_sub (Int.dvd_mul_of_dvd_right es (b := b)) (Int.dvd_mul_of_dvd_right er (b := d))
        rwa [show b * (r * d - c) - d * (r * b - a) = a * d - c * b by grind] at this
      · intro z
        have h1 : p ∣ b * (r * d - c) := by
          have := Int.dvd_add (Int.dvd_mul_of_dvd_right er (b := d)) z
          rwa [show d * (r * b - a) + (a * d - c * b) = b * (r * d - c) by grind] at this
        have h2 := (rO_iff hp r0 r1 d0).mpr (pdv.mpr (pcan hp b0 h1))
        rw [h2] at e2
        exact e2
theorem neg_rO {a b p : Int} (hp : p ∈ PR) : rO (-a) b p = (rO a b p).map fun r => (0 - r) % p := by
  have pb := PR_lt hp
  cases e : rO a b p with
  | none => exact (rO_none hp).mpr ((rO_none hp).mp e)
  | some r =>
    obtain ⟨b0, r0, r1, er⟩ := rO_some hp e
    refine (rO_iff hp (Int.emod_nonneg _ (by omega)) (Int.emod_lt_of_pos _ (by omega)) b0).mpr ?_
    rw [pdv] at *
    obtain ⟨k, hk⟩ := er
    rw [Int.emod_def]
    exact ⟨-k - (0 - r) / p * b, by grind⟩
theorem add_rO {a b p m : Int} (hp : p ∈ PR) : rO (a + m * b) b p = (rO a b p).map fun r => (r + m) % p := by
  have pb := PR_lt hp
  cases e : rO a b p with
  | none => exact (rO_none hp).mpr ((rO_none hp).mp e)
  | some r =>
    obtain ⟨b0, r0, r1, er⟩ := rO_some hp e
    refine (rO_iff hp (Int.emod_nonneg _ (by omega)) (Int.emod_lt_of_pos _ (by omega)) b0).mpr ?_
    rw [pdv] at *
    obtain ⟨k, hk⟩ := er
    rw [Int.emod_def]
    exact ⟨k - (r + m) / p * b, by grind⟩
theorem unit_of {a b x y g : Int} (f : Int.gcd a b = 1) (e1 : b = g * x) (e2 : a = g * y) : g = 1 ∨ g = -1 := by
  have d := Int.dvd_coe_gcd (show g ∣ a from ⟨y, e2⟩) (show g ∣ b from ⟨x, e1⟩)
  rw [f] at d
  have h1 := Int.le_of_dvd (by decide) d
  have h2 := Int.le_of_dvd (by decide) (Int.neg_dvd.mpr d)
  have h3 : g ≠ 0 := fun z => by
    subst z
    obtain ⟨k, hk⟩ := d
    simp at hk
  have h1' : g ≤ 1 := h1
  have h2' : -g ≤ 1 := h2
  omega
/-- turned about -/
theorem about_rO {a b x y g p : Int} (hp : p ∈ PR) (f : Int.gcd a b = 1) (e1 : b = g * x) (e2 : a = g * y) (k : Int.gcd x y = 1) :
    (rO a b p = none ∧ rO x y p = some 0) ∨ (rO a b p = some 0 ∧ rO x y p = none) ∨ ∃ r s, rO a b p = some r ∧ rO x y p = some s ∧ r * s % p = 1 := by
  have pb := PR_lt hp
  have gg := unit_of f e1 e2
  cases e : rO a b p with
  | none =>
    have b0 := pdv.mp ((rO_none hp).mp e)
    have x0 : p ∣ x := by
      rcases gg with rfl | rfl
      · rwa [show b = x by omega] at b0
      · have := Int.dvd_neg.mpr b0
        rwa [show -b = x by omega] at this
    refine .inl ⟨rfl, (rO_iff hp (by omega) (by omega) fun z => pnot hp k x0 (pdv.mp z)).mpr ?_⟩
    rw [pdv, show (0 * y - x : Int) = -x by grind]
    exact Int.dvd_neg.mpr x0
  | some r =>
    obtain ⟨b0, r0, r1, er⟩ := rO_some hp e
    rw [pdv] at er
    cases e3 : rO x y p with
    | none =>
      have y0 := pdv.mp ((rO_none hp).mp e3)
      have a0 : p ∣ a := by rw [e2]; exact Int.dvd_mul_of_dvd_right y0
      have h1 : p ∣ b * r := by
        have := Int.dvd_add er a0
        rwa [show r * b - a + a = b * r by grind] at this
      have h2 := pcan hp b0 h1
      have h3 : r = 0 := by
        by_cases z : r = 0
        · exact z
        · have := Int.le_of_dvd (by omega) h2
          omega
      exact .inr (.inl ⟨by rw [h3], rfl⟩)
    | some s =>
      obtain ⟨y0, s0, s1, es⟩ := rO_some hp e3
      rw [pdv] at es
      have er2 : p ∣ r * x - y := by
        rcases gg with rfl | rfl
        · rwa [show r * b - a = r * x - y by grind] at er
        · have := Int.dvd_neg.mpr er
          rwa [show -(r * b - a) = r * x - y by grind] at this
      have h1 : p ∣ y * (r * s - 1) := by
        have := Int.dvd_add (Int.dvd_mul_of_dvd_right es (b := r)) er2
        rwa [show r * (s * y - x) + (r * x - y) = y * (r * s - 1) by grind] at this
      obtain ⟨t, ht⟩ := pcan hp y0 h1
      refine .inr (.inr ⟨r, s, rfl, rfl, ?_⟩)
      rw [show r * s = 1 + p * t by omega, Int.add_mul_emod_self_left]
      exact Int.emod_eq_of_lt (by omega) (by omega)
end U
namespace U
open PySem PySem.Spec PyProof.Rows L2 Tb
/-! plain: readings put together in parts -/
def so (q : Int × Int) : Int × Option Int := (q.1, some q.2)
theorem pd_pq (rs : List (Int × Int)) : rs.map pd = (rs.map so).map pq := by rw [List.map_map]; rfl
theorem Rd.so {rs : List (Int × Int)} (r : Rd rs) : RdO (rs.map so) := by
  refine ⟨by rw [List.map_map]; exact r.1, fun q hq => ?_⟩
  obtain ⟨p, hp, rfl⟩ := List.mem_map.mp hq
  exact ⟨(r.2 p hp).1, fun x e => by cases e; exact (r.2 p hp).2⟩
theorem Rd.sub {rs gs : List (Int × Int)} (r : Rd rs) (s : gs.Sublist rs) : Rd gs := ⟨r.1.sublist (s.map _), fun q hq => r.2 q (s.subset hq)⟩
theorem prodF_app (a : List (Int × Int)) (b : List (Int × Int)) : prodF (a ++ b) = prodF a * prodF b := by
  refine back_ind (P := fun b => prodF (a ++ b) = prodF a * prodF b) ?_ (fun l q ih => ?_) b
  · rw [List.append_nil, show prodF [] = 1 from rfl, Int.mul_one]
  · rw [← List.append_assoc, prodF_snoc, ih, prodF_snoc, Int.mul_assoc]
theorem prodF_one (q : Int × Int) : prodF [q] = q.1 := by show (1 : Int) * q.1 = _; rw [Int.one_mul]
/-- the rest by a part -/
theorem Has.part {rs gs : List (Int × Int)} {w v : Int} (r : Rd rs) (s : gs.Sublist rs) (a : Has rs w) (b : Has gs v) (d : prodF gs ∣ prodF rs) : w % prodF gs = v := by
  have rg := r.sub s
  have m0 := prodF_pos rg
  refine Has.one rg ⟨Int.emod_nonneg _ (by omega), Int.emod_lt_of_pos _ m0, fun q hq => ?_⟩ b
  rw [Int.emod_emod_of_dvd w (prodF_dvd hq)]
  exact a.2.2 q (s.subset hq)
/-- the nearest -/
def nr (m w : Int) : Int := if m < 2 * w then w - m else w
theorem nr_or (m w : Int) : nr m w = w ∨ nr m w = w - m := by unfold nr; split <;> simp
theorem nr_abs {m w : Int} (w0 : 0 ≤ w) (w1 : w < m) : 2 * (if nr m w < 0 then -(nr m w) else nr m w) ≤ m := by
  unfold nr
  split <;> split <;> omega
theorem nr_mod {rs : List (Int × Int)} {w : Int} {q : Int × Int} (a : Has rs w) (hq : q ∈ rs) : nr (prodF rs) w % q.1 = q.2 := by
  have e := a.2.2 q hq
  rcases nr_or (prodF rs) w with z | z
  · rw [z]; exact e
  · rw [z, Int.sub_emod, Int.emod_eq_zero_of_dvd (prodF_dvd hq)]
    rw [Int.sub_zero, Int.emod_emod_of_dvd _ (Int.dvd_refl _)]; exact e
theorem nr_small {m w : Int} (w0 : 0 ≤ w) (w1 : w < m) (m1 : m ≤ 1000000000000000000000000000000) : -1000000000000000000000000000000 ≤ nr m w ∧ nr m w ≤ 1000000000000000000000000000000 := by
  rcases nr_or m w with z | z <;> rw [z] <;> omega
theorem fr_one {n : Int} (a : -1000000000000000000000000000000 ≤ n) (b : n ≤ 1000000000000000000000000000000) : Fr (n, 1) :=
  ⟨by show (0 : Int) < 1; omega, by show Int.gcd n 1 = 1; simp, by show _ ≤ n; omega, by show n ≤ _; omega, by show (1 : Int) ≤ _; omega⟩
theorem one_mod {p : Int} (hp : p ∈ PR) : ¬ (1 : Int) % p = 0 := by
  have := PR_lt hp
  rw [Int.emod_eq_of_lt (by omega) (by omega)]; omega
theorem rO_whole {n p : Int} (hp : p ∈ PR) : rO n 1 p = some (n % p) := by
  have pb := PR_lt hp
  refine (rO_iff hp (Int.emod_nonneg _ (by omega)) (Int.emod_lt_of_pos _ (by omega)) (one_mod hp)).mpr ?_
  rw [Int.mul_one, Int.sub_emod, Int.emod_emod_of_dvd _ (Int.dvd_refl _)]; simp
theorem kp_whole {n p r : Int} (hp : p ∈ PR) (r0 : 0 ≤ r) (r1 : r < p) : kpB (n, 1) (p, some r) = decide (n % p = r) := by
  show decide (¬ (1 : Int) % p = 0 ∧ (r * 1 - n) % p = 0) = _
  rw [decide_eq_decide, ← rO_iff (a := n) hp r0 r1 (one_mod hp), rO_whole hp]
  constructor
  · rintro ⟨_, z⟩; cases z; rfl
  · intro z; exact ⟨one_mod hp, by rw [z]⟩
theorem NK_near {rs : List (Int × Int)} {w : Int} (r : Rd rs) (a : Has rs w) : NK (nr (prodF rs) w, 1) (rs.map so) = [] := by
  rw [NK_nil, List.all_eq_true]
  intro q hq
  obtain ⟨p, hp, rfl⟩ := List.mem_map.mp hq
  obtain ⟨h1, h2, h3⟩ := r.2 p hp
  show kpB (_, 1) (p.1, some p.2) = true
  rw [kp_whole h1 h2 h3, nr_mod a hp]
  simp
/-- turned below nought -/
def blw (q : Int × Int) : Int × Int := (q.1, (0 - q.2) % q.1)
theorem Rd.blw {rs : List (Int × Int)} (r : Rd rs) : Rd (rs.map blw) := by
  refine ⟨by rw [List.map_map]; exact r.1, fun q hq => ?_⟩
  obtain ⟨p, hp, rfl⟩ := List.mem_map.mp hq
  have pb := PR_lt (r.2 p hp).1
  exact ⟨(r.2 p hp).1, Int.emod_nonneg _ (by omega), Int.emod_lt_of_pos _ (by omega)⟩
theorem prodF_blw (rs : List (Int × Int)) : prodF (rs.map blw) = prodF rs := by
  unfold prodF
  rw [List.map_map]; rfl
theorem Has.blw {rs : List (Int × Int)} {w : Int} (r : Rd rs) (a : Has rs w) : Has (rs.map blw) ((0 - w) % prodF rs) := by
  have m0 := prodF_pos r
  refine ⟨Int.emod_nonneg _ (by omega), by rw [prodF_blw]; exact Int.emod_lt_of_pos _ m0, fun q hq => ?_⟩
  obtain ⟨p, hp, rfl⟩ := List.mem_map.mp hq
  show (0 - w) % prodF rs % p.1 = (0 - p.2) % p.1
  rw [Int.emod_emod_of_dvd _ (prodF_dvd hp), ← a.2.2 p hp, Int.sub_emod 0 (w % p.1), Int.emod_emod_of_dvd _ (Int.dvd_refl _), ← Int.sub_emod]
/-- one rest otherwise -/
theorem NK_one {rs gs : List (Int × Int)} {n p r x : Int} (hr : Rd (rs ++ [(p, r)] ++ gs)) (al : ∀ q ∈ rs ++ [(p, r)] ++ gs, n % q.1 = q.2) (x0 : 0 ≤ x) (x1 : x < p) (nx : x ≠ r) :
    NK (n, 1) ((rs ++ [(p, x)] ++ gs).map so) = [((rs.length : Nat) : Int)] := by
  have len : ((rs ++ [(p, x)] ++ gs).map so).length = rs.length + 1 + gs.length := by simp; omega
  rw [NK, len]
  have key : ∀ i, i < rs.length + 1 + gs.length → (!kpB (n, 1) (((rs ++ [(p, x)] ++ gs).map so).getD i (0, none))) = decide (i = rs.length) := by
    intro i hi
    by_cases e : i = rs.length
    · subst e
      have pm : (p, r) ∈ rs ++ [(p, r)] ++ gs := by simp
      have : ((rs ++ [(p, x)] ++ gs).map so).getD rs.length (0, none) = (p, some x) := by
        simp [List.getD, so]
      rw [this, kp_whole (hr.2 _ pm).1 x0 x1, al _ pm, decide_eq_true rfl]
      simp only [Bool.not_eq_true', decide_eq_false_iff_not]
      exact fun z => nx z.symm
    · obtain ⟨q, hq, eq⟩ : ∃ q, q ∈ rs ++ [(p, r)] ++ gs ∧ ((rs ++ [(p, x)] ++ gs).map so).getD i (0, none) = so q := by
        by_cases lt : i < rs.length
        · refine ⟨rs[i], by simp, ?_⟩
          rw [List.append_assoc, List.map_append, List.getD, List.getElem?_append_left (by simpa using lt), List.getElem?_map, List.getElem?_eq_getElem lt]; rfl
        · obtain ⟨j, rfl⟩ : ∃ j, i = rs.length + (j + 1) := ⟨i - rs.length - 1, by omega⟩
          have hj : j < gs.length := by omega
          refine ⟨gs[j], by simp, ?_⟩
          simp [List.getD, List.getElem?_append_right, List.getElem?_eq_getElem hj]
      rw [eq, decide_eq_false e]
      show (!kpB (n, 1) (q.1, some q.2)) = false
      rw [kp_whole (hr.2 q hq).1 (hr.2 q hq).2.1 (hr.2 q hq).2.2, al q hq]
      simp
  have f : ((List.range (rs.length + 1 + gs.length)).filter fun i => !kpB (n, 1) (((rs ++ [(p, x)] ++ gs).map so).getD i (0, none))) = (List.range (rs.length + 1 + gs.length)).filter fun i => decide (i = rs.length) :=
    List.filter_congr fun i hi => key i (List.mem_range.mp hi)
  rw [f]
  have one : ∀ n k : Nat, ((List.range n).filter fun i => decide (i = k)) = if k < n then [k] else [] := by
    intro n k
    induction n with
    | zero => simp
    | succ n ih =>
      rw [List.range_succ, List.filter_append, ih]
      by_cases h : k < n
      · rw [if_pos h, if_pos (by omega)]
        have : ¬ n = k := by omega
        simp [this]
      · rw [if_neg h]
        by_cases h2 : k = n
        · subst h2; simp
        · have : ¬ n = k := fun z => h2 z.symm
          rw [if_neg (by omega)]; simp [this]
  rw [one, if_pos (by omega)]
  rfl
theorem Rd.put {rs gs : List (Int × Int)} {p r x : Int} (hr : Rd (rs ++ [(p, r)] ++ gs)) (x0 : 0 ≤ x) (x1 : x < p) : Rd (rs ++ [(p, x)] ++ gs) := by
  refine ⟨by have := hr.1; simpa using this, fun q hq => ?_⟩
  rcases List.mem_append.mp hq with hq | hq
  · rcases List.mem_append.mp hq with hq | hq
    · exact hr.2 q (by simp [hq])
    · rw [List.mem_singleton.mp hq]
      exact ⟨(hr.2 (p, r) (by simp)).1, x0, x1⟩
  · exact hr.2 q (by simp [hq])
theorem prodF_put {rs gs : List (Int × Int)} {p r x : Int} : prodF (rs ++ [(p, x)] ++ gs) = prodF (rs ++ [(p, r)] ++ gs) := by
  rw [prodF_app, prodF_app, prodF_app, prodF_app, prodF_one, prodF_one]
theorem Has.ne {rs gs : List (Int × Int)} {p r x w v : Int} (a : Has (rs ++ [(p, r)] ++ gs) w) (b : Has (rs ++ [(p, x)] ++ gs) v) (nx : x ≠ r) : v ≠ w := fun z => by
  have e1 := a.2.2 (p, r) (by simp)
  have e2 := b.2.2 (p, x) (by simp)
  rw [z] at e2
  exact nx (e2.symm.trans e1)
theorem prodF_out {rs gs : List (Int × Int)} {p r : Int} (hr : Rd (rs ++ [(p, r)] ++ gs)) : prodF (rs ++ [(p, r)] ++ gs) / p = prodF (rs ++ gs) ∧ prodF (rs ++ gs) ∣ prodF (rs ++ [(p, r)] ++ gs) := by
  have pb := PR_lt (hr.2 (p, r) (by simp)).1
  have e : prodF (rs ++ [(p, r)] ++ gs) = prodF (rs ++ gs) * p := by
    rw [prodF_app, prodF_app, prodF_app, prodF_one]
    grind
  rw [e]
  exact ⟨Int.mul_ediv_cancel _ (by show p ≠ 0; have : (p, r).1 = p := rfl; omega), Int.dvd_mul_right _ _⟩
/-- a fraction's own readings -/
def own (a b : Int) (ps : List Int) : List (Int × Int) := ps.map fun p => (p, (rO a b p).getD 0)
theorem own_rd {a b : Int} {ps : List Int} (nd : ps.Nodup) (al : ∀ p ∈ ps, p ∈ PR ∧ ¬ b % p = 0) : Rd (own a b ps) := by
  refine ⟨by rw [own, List.map_map, show (Prod.fst ∘ fun p => (p, (rO a b p).getD 0)) = (id : Int → Int) from rfl, List.map_id]; exact nd, fun q hq => ?_⟩
  obtain ⟨p, hp, rfl⟩ := List.mem_map.mp hq
  obtain ⟨h1, h2⟩ := al p hp
  rcases rO_spec (a := a) (b := b) h1 with ⟨z, _⟩ | ⟨_, r, e, _, r0, r1, _⟩
  · exact absurd z h2
  · show p ∈ PR ∧ 0 ≤ (rO a b p).getD 0 ∧ (rO a b p).getD 0 < p
    rw [e]; exact ⟨h1, r0, r1⟩
theorem own_od {a b : Int} {ps : List Int} (al : ∀ p ∈ ps, p ∈ PR ∧ ¬ b % p = 0) : List.zipWith (fun x y => D.tup [x, y]) (ps.map D.int) (ps.map fun p => od (rO a b p)) = (own a b ps).map pd := by
  induction ps with
  | nil => rfl
  | cons p ps ih =>
    have ih := ih fun q hq => al q (List.mem_cons_of_mem _ hq)
    obtain ⟨h1, h2⟩ := al p List.mem_cons_self
    rcases rO_spec (a := a) (b := b) h1 with ⟨z, _⟩ | ⟨_, r, e, _, r0, r1, _⟩
    · exact absurd z h2
    · show D.tup [.int p, od (rO a b p)] :: List.zipWith _ (ps.map D.int) _ = pd (p, (rO a b p).getD 0) :: (own a b ps).map pd
      rw [ih, e]
      rfl
theorem own_dvd {a b w : Int} {ps : List Int} (nd : ps.Nodup) (al : ∀ p ∈ ps, p ∈ PR ∧ ¬ b % p = 0) (hw : Has (own a b ps) w) : (w * b - a) % prodF (own a b ps) = 0 := by
  refine Int.emod_eq_zero_of_dvd (crt_dvd (own_rd nd al) fun q hq => ?_)
  have e := hw.2.2 q hq
  obtain ⟨p, hp, rfl⟩ := List.mem_map.mp hq
  obtain ⟨h1, h2⟩ := al p hp
  rcases rO_spec (a := a) (b := b) h1 with ⟨z, _⟩ | ⟨_, r, er, _, r0, r1, un⟩
  · exact absurd z h2
  · have e : w % p = (rO a b p).getD 0 := e
    rw [er] at e
    have d := (un r r0 r1).mpr rfl
    refine Int.dvd_of_emod_eq_zero ?_
    show (w * b - a) % p = 0
    have e : w % p = r := e
    rw [← e] at d
    rw [Int.sub_emod, ← em_l, ← Int.sub_emod]
    exact d
theorem own_NK {a b : Int} {ps : List Int} (al : ∀ p ∈ ps, p ∈ PR ∧ ¬ b % p = 0) : NK (a, b) ((own a b ps).map so) = [] := by
  rw [NK_nil, List.all_eq_true]
  intro q hq
  obtain ⟨p', hp', rfl⟩ := List.mem_map.mp hq
  obtain ⟨p, hp, rfl⟩ := List.mem_map.mp hp'
  obtain ⟨h1, h2⟩ := al p hp
  rcases rO_spec (a := a) (b := b) h1 with ⟨z, _⟩ | ⟨_, r, er, _, r0, r1, un⟩
  · exact absurd z h2
  · show kpB (a, b) (p, some ((rO a b p).getD 0)) = true
    rw [er]
    show decide (¬ b % p = 0 ∧ (r * b - a) % p = 0) = true
    exact decide_eq_true ⟨h2, (un r r0 r1).mpr rfl⟩
end U
namespace U
open PySem PySem.Spec PyProof.Rows L2 Tb
def b_rests_of : Ss := (.cons (.ex (.call .P "need_fraction" f_need_fraction (.cons (.var 0) .nil)))
  (.cons (.ifs (.not (.isi (.var 1) (.bty "list"))) (.cons (.rais "NoPrime")
  .nil) .nil)
  (.cons (.fr (.nm 2) (.seq (.var 1)) (.cons (.ex (.call .P "need_prime" f_need_prime (.cons (.var 2) .nil)))
  .nil))
  (.cons (.ret (.comp false [2] (.nm 2) (.seq (.var 1)) .nil (.call .P "rest_by" f_rest_by (.cons (.var 0) (.cons (.var 2) .nil)))))
  .nil))))
def f_rests_of : Fn := fnS cs0 3 2 b_rests_of
def t_rests_of_6 : Ss := .cons (.ret (.comp false [2] (.nm 2) (.seq (.var 1)) .nil (.call .P "rest_by" f_rest_by (.cons (.var 0) (.cons (.var 2) .nil))))) .nil
def t_rests_of_5 : Ss := .cons (.ex (.call .P "need_prime" f_need_prime (.cons (.var 2) .nil))) .nil
def t_rests_of_4 : Ss := .cons (.fr (.nm 2) (.seq (.var 1)) t_rests_of_5) t_rests_of_6
def t_rests_of_3 : Ss := .cons (.rais "NoPrime") .nil
def t_rests_of_2 : Ss := .cons (.ifs (.not (.isi (.var 1) (.bty "list"))) t_rests_of_3 .nil) t_rests_of_4
def t_rests_of_1 : Ss := .cons (.ex (.call .P "need_fraction" f_need_fraction (.cons (.var 0) .nil))) t_rests_of_2
theorem u_rests_of : b_rests_of = t_rests_of_1 := rfl
/-- f, primes, p -/
theorem w_rests_of {x0 x1 : D} {h : Hh} {Q : D → Hh → Prop} (w : WS (evSs cs0 t_rests_of_1 [some x0, some x1, none] h) (fun _ h1 => Q .non h1) Q no2 no2) : W (f_rests_of [x0, x1] h) Q := by
  rw [← u_rests_of] at w
  exact w_fnS2 (C := cs0) (n := 3) (np := 2) (b := b_rests_of) rfl rfl w
theorem r_rests_of {x0 x1 : D} {h : Hh} : f_rests_of [x0, x1] h = endR (evSs cs0 t_rests_of_1 [some x0, some x1, none] h) := by
  rw [← u_rests_of]
  exact fnS_run2 (C := cs0) (n := 3) (np := 2) (b := b_rests_of) rfl rfl
theorem rests_okR {f : Int × Int} {ps : List Int} {h : Hh} (k : Fr f) (al : ∀ p ∈ ps, p ∈ PR) (hl : ps.length ≤ 1000) : callM .P f_rests_of [pd f, .lst (ps.map .int)] h = .ok (.lst (ps.map fun p => od (rO f.1 f.2 p))) h := by
  have e1 := need_fraction_ok (h := []) k
  have pp : pures (ps.map fun p => od (rO f.1 f.2 p)) = true := by
    clear al hl
    induction ps with
    | nil => rfl
    | cons a r ih => simp only [List.map_cons, pures, Bool.and_eq_true]; exact ⟨od_pure _, ih⟩
  refine callPP (by simp [pures, D.pure, pures_ints, pd_pure]) (d := .lst (ps.map fun p => od (rO f.1 f.2 p))) (h' := []) (eq_of_W (w_rests_of ?_)) (by simpa [D.pure] using pp)
  generalize hQ : (fun (a : D) (k : Hh) => a = D.lst (ps.map fun p => od (rO f.1 f.2 p)) ∧ k = []) = Q
  simp (disch := walk_at "ln") [-getElem?_pos, -max_ii, -min_ii, -max_t2, -abs_i, max_iO, min_iO, max_tO, abs_iO, List.getElem?_cons_zero, List.getElem?_append_left, t_rests_of_1, e1, t_rests_of_2, t_rests_of_4]
  obtain ⟨I, hI⟩ := opq fun (j : Nat) (ls : Ls) (h' : Hh) => ∃ v : Option D, ls = [some (pd f), some (.lst (ps.map .int)), v] ∧ h' = []
  refine w_lst (xs := ps.map D.int) I (by rw [hI]; exact ⟨_, rfl, rfl⟩) ?_ ?_
  · intro j x _ h' hx p
    rw [hI] at p
    obtain ⟨v, rfl, rfl⟩ := p
    obtain ⟨p, hp, rfl⟩ := List.mem_map.mp (List.mem_of_getElem? hx)
    have := need_prime_ok (h := []) (al p hp)
    refine ⟨_, rfl, ?_⟩
    simp (disch := walk_at "ln") [-getElem?_pos, -max_ii, -min_ii, -max_t2, -abs_i, max_iO, min_iO, max_tO, abs_iO, List.getElem?_cons_zero, List.getElem?_append_left, t_rests_of_5, this]
    rw [hI]; exact ⟨_, rfl, rfl⟩
  · intro _ h' p
    rw [hI] at p
    obtain ⟨v, rfl, rfl⟩ := p
    simp (disch := walk_at "ln") [-getElem?_pos, -max_ii, -min_ii, -max_t2, -abs_i, max_iO, min_iO, max_tO, abs_iO, List.getElem?_cons_zero, List.getElem?_append_left, t_rests_of_6, wipeL]
    refine w_cA D.int ps (fun _ => true) (fun p => od (rO f.1 f.2 p)) (by simp [Tb.It.items, seqOf, asL, asT]) (by omega) (fun p hp => ?_) ?_
    · have := rest_by_ok (h := []) k (al p hp)
      exact ⟨_, rfl, ⟨rfl, rfl⟩, fun _ => by simp (disch := walk_at "ln") [-getElem?_pos, -max_ii, -min_ii, -max_t2, -abs_i, max_iO, min_iO, max_tO, abs_iO, List.getElem?_cons_zero, List.getElem?_append_left, this]⟩
    · rw [List.filter_eq_self.mpr (fun _ _ => rfl), ← hQ]
      try simp (disch := walk_at "ln") [-getElem?_pos, -max_ii, -min_ii, -max_t2, -abs_i, max_iO, min_iO, max_tO, abs_iO, List.getElem?_cons_zero, List.getElem?_append_left]
end U
namespace U
open PySem PySem.Spec PyProof.Rows L2 Tb
def b_put_together : Ss := (.cons (.ex (.call .P "need_readings" f_need_readings (.cons (.var 0) .nil)))
  (.cons (.ifs (.cmp .NotEq (.comp false [1, 2] (.tp [1, 2]) (.seq (.var 0)) (.cons (.cmp .Is (.var 2) .non) .nil) (.var 1)) (.lst false .nil)) (.cons (.rais "NoReadings")
  .nil) .nil)
  (.cons (.ret (.call .P "one_rest" f_one_rest (.cons (.var 0) .nil)))
  .nil)))
def f_put_together : Fn := fnS cs0 3 1 b_put_together
def t_put_together_4 : Ss := .cons (.ret (.call .P "one_rest" f_one_rest (.cons (.var 0) .nil))) .nil
def t_put_together_3 : Ss := .cons (.rais "NoReadings") .nil
def t_put_together_2 : Ss := .cons (.ifs (.cmp .NotEq (.comp false [1, 2] (.tp [1, 2]) (.seq (.var 0)) (.cons (.cmp .Is (.var 2) .non) .nil) (.var 1)) (.lst false .nil)) t_put_together_3 .nil) t_put_together_4
def t_put_together_1 : Ss := .cons (.ex (.call .P "need_readings" f_need_readings (.cons (.var 0) .nil))) t_put_together_2
theorem u_put_together : b_put_together = t_put_together_1 := rfl
/-- readings, p, rest -/
theorem w_put_together {x0 : D} {h : Hh} {Q : D → Hh → Prop} (w : WS (evSs cs0 t_put_together_1 [some x0, none, none] h) (fun _ h1 => Q .non h1) Q no2 no2) : W (f_put_together [x0] h) Q := by
  rw [← u_put_together] at w
  exact w_fnS2 (C := cs0) (n := 3) (np := 1) (b := b_put_together) rfl rfl w
theorem r_put_together {x0 : D} {h : Hh} : f_put_together [x0] h = endR (evSs cs0 t_put_together_1 [some x0, none, none] h) := by
  rw [← u_put_together]
  exact fnS_run2 (C := cs0) (n := 3) (np := 1) (b := b_put_together) rfl rfl
def b_nearest_whole : Ss := (.cons (.asg (.tp [1, 2]) (.call .P "put_together" f_put_together (.cons (.var 0) .nil)))
  (.cons (.ifs (.cmp .Gt (.bin false .Mult (.int 2) (.var 2)) (.var 1)) (.cons (.ret (.bin false .Sub (.var 2) (.var 1)))
  .nil) .nil)
  (.cons (.ret (.var 2))
  .nil)))
def f_nearest_whole : Fn := fnS cs0 3 1 b_nearest_whole
def t_nearest_whole_4 : Ss := .cons (.ret (.var 2)) .nil
def t_nearest_whole_3 : Ss := .cons (.ret (.bin false .Sub (.var 2) (.var 1))) .nil
def t_nearest_whole_2 : Ss := .cons (.ifs (.cmp .Gt (.bin false .Mult (.int 2) (.var 2)) (.var 1)) t_nearest_whole_3 .nil) t_nearest_whole_4
def t_nearest_whole_1 : Ss := .cons (.asg (.tp [1, 2]) (.call .P "put_together" f_put_together (.cons (.var 0) .nil))) t_nearest_whole_2
theorem u_nearest_whole : b_nearest_whole = t_nearest_whole_1 := rfl
/-- readings, m, w -/
theorem w_nearest_whole {x0 : D} {h : Hh} {Q : D → Hh → Prop} (w : WS (evSs cs0 t_nearest_whole_1 [some x0, none, none] h) (fun _ h1 => Q .non h1) Q no2 no2) : W (f_nearest_whole [x0] h) Q := by
  rw [← u_nearest_whole] at w
  exact w_fnS2 (C := cs0) (n := 3) (np := 1) (b := b_nearest_whole) rfl rfl w
theorem r_nearest_whole {x0 : D} {h : Hh} : f_nearest_whole [x0] h = endR (evSs cs0 t_nearest_whole_1 [some x0, none, none] h) := by
  rw [← u_nearest_whole]
  exact fnS_run2 (C := cs0) (n := 3) (np := 1) (b := b_nearest_whole) rfl rfl
def b__law_parts_right : Ss := (.cons (.asg (.tp [4, 5]) (.call .P "put_together" f_put_together (.cons (.var 0) .nil)))
  (.cons (.asg (.tp [6, 7]) (.call .P "put_together" f_put_together (.cons (.slU false (.var 0) (.var 1)) .nil)))
  (.cons (.asg (.tp [8, 9]) (.call .P "put_together" f_put_together (.cons (.slL false (.var 0) (.var 1)) .nil)))
  (.cons (.ifs (.bop .Or (.cons (.cmp .NotEq (.bin false .Mult (.var 6) (.var 8)) (.var 4)) (.cons (.cmp .NotEq (.bin false .Mod (.var 5) (.var 6)) (.var 7)) (.cons (.cmp .NotEq (.bin false .Mod (.var 5) (.var 8)) (.var 9)) .nil)))) (.cons (.ret (.bl false))
  .nil) .nil)
  (.cons (.asg (.nm 2) (.call .P "nearest_whole" f_nearest_whole (.cons (.var 0) .nil)))
  (.cons (.ifs (.bop .Or (.cons (.cmp .NotIn (.var 2) (.tup (.cons (.var 5) (.cons (.bin false .Sub (.var 5) (.var 4)) .nil)))) (.cons (.cmp .Gt (.bin false .Mult (.int 2) (.bi .abs false (.cons (.var 2) .nil))) (.var 4)) .nil))) (.cons (.ret (.bl false))
  .nil) .nil)
  (.cons (.ifs (.cmp .NotEq (.call .P "rests_of" f_rests_of (.cons (.tup (.cons (.var 2) (.cons (.int 1) .nil))) (.cons (.comp false [10, 11] (.tp [10, 11]) (.seq (.var 0)) .nil (.var 10)) .nil))) (.comp false [10, 11] (.tp [10, 11]) (.seq (.var 0)) .nil (.var 11))) (.cons (.ret (.bl false))
  .nil) .nil)
  (.cons (.asg (.nm 3) (.comp false [10, 11] (.tp [10, 11]) (.seq (.var 0)) .nil (.tup (.cons (.var 10) (.cons (.bin false .Mod (.bin false .Sub (.int 0) (.var 11)) (.var 10)) .nil)))))
  (.cons (.ret (.bop .And (.cons (.cmp .Eq (.call .P "not_kept" f_not_kept (.cons (.tup (.cons (.var 2) (.cons (.int 1) .nil))) (.cons (.var 0) .nil))) (.lst false .nil)) (.cons (.cmp .Eq (.call .P "put_together" f_put_together (.cons (.var 3) .nil)) (.tup (.cons (.var 4) (.cons (.bin false .Mod (.bin false .Sub (.int 0) (.var 5)) (.var 4)) .nil)))) .nil))))
  .nil)))))))))
def f__law_parts_right : Fn := fnS cs0 12 2 b__law_parts_right
def t__law_parts_right_12 : Ss := .cons (.ret (.bop .And (.cons (.cmp .Eq (.call .P "not_kept" f_not_kept (.cons (.tup (.cons (.var 2) (.cons (.int 1) .nil))) (.cons (.var 0) .nil))) (.lst false .nil)) (.cons (.cmp .Eq (.call .P "put_together" f_put_together (.cons (.var 3) .nil)) (.tup (.cons (.var 4) (.cons (.bin false .Mod (.bin false .Sub (.int 0) (.var 5)) (.var 4)) .nil)))) .nil)))) .nil
def t__law_parts_right_11 : Ss := .cons (.asg (.nm 3) (.comp false [10, 11] (.tp [10, 11]) (.seq (.var 0)) .nil (.tup (.cons (.var 10) (.cons (.bin false .Mod (.bin false .Sub (.int 0) (.var 11)) (.var 10)) .nil))))) t__law_parts_right_12
def t__law_parts_right_10 : Ss := .cons (.ret (.bl false)) .nil
def t__law_parts_right_9 : Ss := .cons (.ifs (.cmp .NotEq (.call .P "rests_of" f_rests_of (.cons (.tup (.cons (.var 2) (.cons (.int 1) .nil))) (.cons (.comp false [10, 11] (.tp [10, 11]) (.seq (.var 0)) .nil (.var 10)) .nil))) (.comp false [10, 11] (.tp [10, 11]) (.seq (.var 0)) .nil (.var 11))) t__law_parts_right_10 .nil) t__law_parts_right_11
def t__law_parts_right_8 : Ss := .cons (.ret (.bl false)) .nil
def t__law_parts_right_7 : Ss := .cons (.ifs (.bop .Or (.cons (.cmp .NotIn (.var 2) (.tup (.cons (.var 5) (.cons (.bin false .Sub (.var 5) (.var 4)) .nil)))) (.cons (.cmp .Gt (.bin false .Mult (.int 2) (.bi .abs false (.cons (.var 2) .nil))) (.var 4)) .nil))) t__law_parts_right_8 .nil) t__law_parts_right_9
def t__law_parts_right_6 : Ss := .cons (.asg (.nm 2) (.call .P "nearest_whole" f_nearest_whole (.cons (.var 0) .nil))) t__law_parts_right_7
def t__law_parts_right_5 : Ss := .cons (.ret (.bl false)) .nil
def t__law_parts_right_4 : Ss := .cons (.ifs (.bop .Or (.cons (.cmp .NotEq (.bin false .Mult (.var 6) (.var 8)) (.var 4)) (.cons (.cmp .NotEq (.bin false .Mod (.var 5) (.var 6)) (.var 7)) (.cons (.cmp .NotEq (.bin false .Mod (.var 5) (.var 8)) (.var 9)) .nil)))) t__law_parts_right_5 .nil) t__law_parts_right_6
def t__law_parts_right_3 : Ss := .cons (.asg (.tp [8, 9]) (.call .P "put_together" f_put_together (.cons (.slL false (.var 0) (.var 1)) .nil))) t__law_parts_right_4
def t__law_parts_right_2 : Ss := .cons (.asg (.tp [6, 7]) (.call .P "put_together" f_put_together (.cons (.slU false (.var 0) (.var 1)) .nil))) t__law_parts_right_3
def t__law_parts_right_1 : Ss := .cons (.asg (.tp [4, 5]) (.call .P "put_together" f_put_together (.cons (.var 0) .nil))) t__law_parts_right_2
theorem u__law_parts_right : b__law_parts_right = t__law_parts_right_1 := rfl
/-- readings, cut, near, below, m, w, one, left, other, right, p, rest -/
theorem w__law_parts_right {x0 x1 : D} {h : Hh} {Q : D → Hh → Prop} (w : WS (evSs cs0 t__law_parts_right_1 [some x0, some x1, none, none, none, none, none, none, none, none, none, none] h) (fun _ h1 => Q .non h1) Q no2 no2) : W (f__law_parts_right [x0, x1] h) Q := by
  rw [← u__law_parts_right] at w
  exact w_fnS2 (C := cs0) (n := 12) (np := 2) (b := b__law_parts_right) rfl rfl w
theorem r__law_parts_right {x0 x1 : D} {h : Hh} : f__law_parts_right [x0, x1] h = endR (evSs cs0 t__law_parts_right_1 [some x0, some x1, none, none, none, none, none, none, none, none, none, none] h) := by
  rw [← u__law_parts_right]
  exact fnS_run2 (C := cs0) (n := 12) (np := 2) (b := b__law_parts_right) rfl rfl
/-! readings put together, in parts -/
variable {h : Hh}
theorem put_ok14 {rs : List (Int × Int)} (r : Rd rs) (hl : rs.length ≤ 10) : ∃ w, (∀ h, callM .P f_put_together [.lst (rs.map pd)] h = .ok (.tup [.int (prodF rs), .int w]) h) ∧ Has rs w := by
  have e := need_readingsO_ok (h := []) r.so (by simpa using hl)
  rw [← pd_pq] at e
  obtain ⟨w, e1, hw⟩ := one_rest_ok (h := []) r hl
  have ps := prodF_small r hl
  refine ⟨w, fun h => ?_, hw⟩
  refine callPP (by simp [pures, D.pure, pures_pd]) (d := .tup [.int (prodF rs), .int w]) (h' := []) (eq_of_W (w_put_together ?_)) rfl
  generalize prodF rs = M at *
  simp (disch := walk_at "ln") [-getElem?_pos, -max_ii, -min_ii, -max_t2, -abs_i, max_iO, min_iO, max_tO, abs_iO, List.getElem?_cons_zero, List.getElem?_append_left, t_put_together_1, e, t_put_together_2, wipeL]
  refine w_cA pd rs (fun _ => false) (fun q => .int q.1) (by simp [Tb.It.items, seqOf, asL, asT]) (by omega) (fun q hq => ?_) ?_
  · refine ⟨_, rfl, ?_, fun z => by cases z⟩
    simp (disch := walk_at "ln") [-getElem?_pos, -max_ii, -min_ii, -max_t2, -abs_i, max_iO, min_iO, max_tO, abs_iO, List.getElem?_cons_zero, List.getElem?_append_left, pd]
  · rw [List.filter_eq_nil_iff.mpr (fun _ _ => by simp)]
    generalize rs.map pd = G at *
    simp (disch := walk_at "ln") [-getElem?_pos, -max_ii, -min_ii, -max_t2, -abs_i, max_iO, min_iO, max_tO, abs_iO, List.getElem?_cons_zero, List.getElem?_append_left, t_put_together_4, e1]
theorem near_ok14 {rs : List (Int × Int)} {w : Int} (r : Rd rs) (hl : rs.length ≤ 10) (a : Has rs w) : callM .P f_nearest_whole [.lst (rs.map pd)] h = .ok (.int (nr (prodF rs) w)) h := by
  obtain ⟨v, e, hv⟩ := put_ok14 r hl
  have := Has.one r a hv
  subst this
  have e := e []
  have w0 := a.1
  have w1 := a.2.1
  have m1 := prodF_small r hl
  by_cases z : prodF rs < 2 * w
  · rw [nr, if_pos z]
    refine callPP (by simp [pures, D.pure, pures_pd]) (d := .int (w - prodF rs)) (h' := []) (eq_of_W (w_nearest_whole ?_)) rfl
    have w2 : w ≤ 1000000000000000000000000000000 := by omega
    clear a hv m1 w1 hl r
    generalize prodF rs = m at *
    generalize rs.map pd = G at *
    simp (disch := walk_at "ln") [-getElem?_pos, -max_ii, -min_ii, -max_t2, -abs_i, max_iO, min_iO, max_tO, abs_iO, List.getElem?_cons_zero, List.getElem?_append_left, t_nearest_whole_1, e, t_nearest_whole_2, z, t_nearest_whole_3]
  · rw [nr, if_neg z]
    refine callPP (by simp [pures, D.pure, pures_pd]) (d := .int w) (h' := []) (eq_of_W (w_nearest_whole ?_)) rfl
    have w2 : w ≤ 1000000000000000000000000000000 := by omega
    clear a hv m1 w1 hl r
    generalize prodF rs = m at *
    generalize rs.map pd = G at *
    simp (disch := walk_at "ln") [-getElem?_pos, -max_ii, -min_ii, -max_t2, -abs_i, max_iO, min_iO, max_tO, abs_iO, List.getElem?_cons_zero, List.getElem?_append_left, t_nearest_whole_1, e, t_nearest_whole_2, z, t_nearest_whole_4]
theorem not_in2 {x a b : Int} : cmpD .NotIn h (.int x) (.tup [.int a, .int b]) = some (!decide (x = a ∨ x = b)) := by
  show (if SeqAt.shaped (.int x) = true ∧ SeqAt.shaped (.tuple [.int a, .int b]) = true then some (([PyData.int a, .int b]).any fun z => PyData.eqv z (.int x)) else none).map not = _
  have s1 : SeqAt.shaped (.int x) = true := rfl
  have s2 : SeqAt.shaped (.tuple [.int a, .int b]) = true := rfl
  rw [if_pos ⟨s1, s2⟩]
  show some (!(([PyData.int a, .int b]).any fun z => PyData.eqv z (.int x))) = _
  congr 2
  rw [Bool.eq_iff_iff, List.any_eq_true, decide_eq_true_eq]
  constructor
  · rintro ⟨z, hz, q⟩
    rcases List.mem_cons.mp hz with rfl | hz
    · exact .inl (by simp [PyData.eqv] at q; omega)
    · rw [List.mem_singleton.mp hz] at q
      exact .inr (by simp [PyData.eqv] at q; omega)
  · rintro (e | e)
    · exact ⟨.int a, by simp, by simp [PyData.eqv, e]⟩
    · exact ⟨.int b, by simp, by simp [PyData.eqv, e]⟩
theorem parts_right {rs : List (Int × Int)} {c : Nat} (r : Rd rs) (hl : rs.length ≤ 10) (hc : c ≤ rs.length) : callM .P f__law_parts_right [.lst (rs.map pd), .int (c : Nat)] h = .ok (.bl true) h := by
  refine callPP (by simp [pures, D.pure, pures_pd]) (d := .bl true) (h' := []) (eq_of_W (w__law_parts_right ?_)) rfl
  obtain ⟨w, e1, hw⟩ := put_ok14 r hl
  have ra := r.sub (List.take_sublist c rs)
  have rb := r.sub (List.drop_sublist c rs)
  obtain ⟨u, e2, hu⟩ := put_ok14 ra (by simp; omega)
  obtain ⟨v, e3, hv⟩ := put_ok14 rb (by simp; omega)
  have pp : prodF (rs.take c) * prodF (rs.drop c) = prodF rs := by rw [← prodF_app, List.take_append_drop]
  have p1 := Has.part r (List.take_sublist c rs) hw hu ⟨_, pp.symm⟩
  have p2 := Has.part r (List.drop_sublist c rs) hw hv ⟨_, by rw [Int.mul_comm]; exact pp.symm⟩
  have a0 := prodF_pos ra
  have b0 := prodF_pos rb
  have m1 := prodF_small r hl
  have a1 := prodF_small ra (by simp; omega)
  have b1 := prodF_small rb (by simp; omega)
  have ne := near_ok14 (h := []) r hl hw
  have w0 := hw.1
  have w1 := hw.2.1
  have na : ¬ prodF rs < 2 * ((nr (prodF rs) w).natAbs : Int) := by
    have := nr_abs w0 w1
    split at this <;> omega
  have no := nr_or (prodF rs) w
  obtain ⟨n0, n1⟩ := nr_small w0 w1 m1
  have nm := fun q (hq : q ∈ rs) => nr_mod hw hq
  have kf := fr_one n0 n1
  have er := rests_okR (h := []) (ps := rs.map Prod.fst) kf (fun p hp => by obtain ⟨q, hq, rfl⟩ := List.mem_map.mp hp; exact (r.2 q hq).1) (by simp; omega)
  have eq : ((rs.map Prod.fst).map fun p => od (rO (nr (prodF rs) w) 1 p)) = rs.map fun q => D.int q.2 := by
    rw [List.map_map]
    refine List.map_congr_left fun q hq => ?_
    show od (rO _ 1 q.1) = _
    rw [rO_whole (r.2 q hq).1, nm q hq]; rfl
  have er : callM .P f_rests_of [.tup [.int (nr (prodF rs) w), .int 1], .lst ((rs.map Prod.fst).map .int)] [] = .ok (.lst (rs.map fun q => D.int q.2)) [] := by rw [← eq]; exact er
  have nk : callM .P f_not_kept [.tup [.int (nr (prodF rs) w), .int 1], .lst (rs.map pd)] [] = .ok (.lst []) [] := by
    have := not_kept_ok (h := []) kf r.so (by simpa using hl)
    rw [NK_near r hw, ← pd_pq] at this
    exact this
  obtain ⟨x, e4, hx⟩ := put_ok14 r.blw (by simpa using hl)
  have hb := hw.blw r
  have := Has.one r.blw hx hb
  subst this
  rw [prodF_blw] at e4
  have e1 := e1 []
  have e2 := e2 []
  have e3 := e3 []
  rw [List.map_take] at e2
  rw [List.map_drop] at e3
  have e4 := e4 []
  have ni := not_in2 (h := []) (x := nr (prodF rs) w) (a := w) (b := w - prodF rs)
  rw [decide_eq_true no] at ni
  have sm : 0 < prodF rs := prodF_pos r
  generalize nr (prodF rs) w = n at *
  have d1 : ∀ q ∈ rs, 0 < q.1 := fun q hq => by have := PR_lt (r.2 q hq).1; omega
  have eM : rs.map (fun q => D.int q.1) = (rs.map Prod.fst).map .int := by rw [List.map_map]; rfl
  have sf := (self_eq (h := []) (v := .lst (rs.map fun q => D.int q.2)) (n := 2) (by rw [show (rs.map fun q => D.int q.2) = (rs.map Prod.snd).map .int by rw [List.map_map]; rfl]; exact gv_ints (n := 1) _) (by omega)).2
  simp (disch := walk_at "ln") [-getElem?_pos, -max_ii, -min_ii, -max_t2, -abs_i, max_iO, min_iO, max_tO, abs_iO, List.getElem?_cons_zero, List.getElem?_append_left, t__law_parts_right_1, e1]
  simp (disch := walk_at "ln") [-getElem?_pos, -max_ii, -min_ii, -max_t2, -abs_i, max_iO, min_iO, max_tO, abs_iO, List.getElem?_cons_zero, List.getElem?_append_left, t__law_parts_right_2, e2]
  simp (disch := walk_at "ln") [-getElem?_pos, -max_ii, -min_ii, -max_t2, -abs_i, max_iO, min_iO, max_tO, abs_iO, List.getElem?_cons_zero, List.getElem?_append_left, t__law_parts_right_3, e3]
  simp (disch := walk_at "ln") [-getElem?_pos, -max_ii, -min_ii, -max_t2, -abs_i, max_iO, min_iO, max_tO, abs_iO, List.getElem?_cons_zero, List.getElem?_append_left, t__law_parts_right_4, pp, p1, p2]
  simp (disch := walk_at "ln") [-getElem?_pos, -max_ii, -min_ii, -max_t2, -abs_i, max_iO, min_iO, max_tO, abs_iO, List.getElem?_cons_zero, List.getElem?_append_left, t__law_parts_right_6, ne]
  simp (disch := walk_at "ln") [-getElem?_pos, -max_ii, -min_ii, -max_t2, -abs_i, max_iO, min_iO, max_tO, abs_iO, List.getElem?_cons_zero, List.getElem?_append_left, t__law_parts_right_7, ni, na]
  simp (disch := walk_at "ln") [-getElem?_pos, -max_ii, -min_ii, -max_t2, -abs_i, max_iO, min_iO, max_tO, abs_iO, List.getElem?_cons_zero, List.getElem?_append_left, t__law_parts_right_9, wipeL]
  refine w_cA pd rs (fun _ => true) (fun q => .int q.1) (by simp [Tb.It.items, seqOf, asL, asT]) (by omega) (fun q hq => ?_) ?_
  · exact ⟨_, rfl, ⟨rfl, rfl⟩, fun _ => by simp (disch := walk_at "ln") [-getElem?_pos, -max_ii, -min_ii, -max_t2, -abs_i, max_iO, min_iO, max_tO, abs_iO, List.getElem?_cons_zero, List.getElem?_append_left, pd]⟩
  rw [List.filter_eq_self.mpr (fun _ _ => rfl), eM]
  clear eM
  generalize (rs.map Prod.fst).map D.int = PS at *
  simp (disch := walk_at "ln") [-getElem?_pos, -max_ii, -min_ii, -max_t2, -abs_i, max_iO, min_iO, max_tO, abs_iO, List.getElem?_cons_zero, List.getElem?_append_left, er]
  refine w_cA pd rs (fun _ => true) (fun q => .int q.2) (by simp [Tb.It.items, seqOf, asL, asT]) (by omega) (fun q hq => ?_) ?_
  · exact ⟨_, rfl, ⟨rfl, rfl⟩, fun _ => by simp (disch := walk_at "ln") [-getElem?_pos, -max_ii, -min_ii, -max_t2, -abs_i, max_iO, min_iO, max_tO, abs_iO, List.getElem?_cons_zero, List.getElem?_append_left, pd]⟩
  rw [List.filter_eq_self.mpr (fun _ _ => rfl)]
  simp (disch := walk_at "ln") [-getElem?_pos, -max_ii, -min_ii, -max_t2, -abs_i, max_iO, min_iO, max_tO, abs_iO, List.getElem?_cons_zero, List.getElem?_append_left, sf, t__law_parts_right_11, wipeL]
  refine w_cA pd rs (fun _ => true) (fun q => pd (blw q)) (by simp [Tb.It.items, seqOf, asL, asT]) (by omega) (fun q hq => ?_) ?_
  · have := d1 q hq
    exact ⟨_, rfl, ⟨rfl, rfl⟩, fun _ => by simp (disch := walk_at "ln") [-getElem?_pos, -max_ii, -min_ii, -max_t2, -abs_i, max_iO, min_iO, max_tO, abs_iO, List.getElem?_cons_zero, List.getElem?_append_left, pd, blw]⟩
  rw [List.filter_eq_self.mpr (fun _ _ => rfl)]
  have e4 : callM .P f_put_together [.lst (rs.map fun q => pd (blw q))] [] = .ok (.tup [.int (prodF rs), .int ((0 - w) % prodF rs)]) [] := by rw [← e4, List.map_map]; rfl
  generalize (rs.map fun q => pd (blw q)) = B at *
  generalize rs.map pd = G at *
  simp (disch := walk_at "ln") [-getElem?_pos, -max_ii, -min_ii, -max_t2, -abs_i, max_iO, min_iO, max_tO, abs_iO, List.getElem?_cons_zero, List.getElem?_append_left, t__law_parts_right_12, nk]
  rw [Int.zero_sub] at e4
  simp (disch := walk_at "ln") [-getElem?_pos, -max_ii, -min_ii, -max_t2, -abs_i, max_iO, min_iO, max_tO, abs_iO, List.getElem?_cons_zero, List.getElem?_append_left, e4, sm]
  have sf2 := (self_eq (h := []) (v := .tup [.int (prodF rs), .int (-w % prodF rs)]) (n := 2) rfl (by omega)).1
  simp (disch := walk_at "ln") [-getElem?_pos, -max_ii, -min_ii, -max_t2, -abs_i, max_iO, min_iO, max_tO, abs_iO, List.getElem?_cons_zero, List.getElem?_append_left, sf2]
  done
end U
namespace U
open PySem PySem.Spec PyProof.Rows L2 Tb
def b__law_all_primes : Ss := (.cons (.ret (.comp false [0] (.nm 0) (.rng (.cons (.int 2) (.cons (.int 1000) .nil))) (.cons (.cmp .Eq (.comp false [1] (.nm 1) (.rng (.cons (.int 2) (.cons (.int 32) .nil))) (.cons (.bop .And (.cons (.cmp .Eq (.bin false .Mod (.var 0) (.var 1)) (.int 0)) (.cons (.cmp .Lt (.var 1) (.var 0)) .nil))) .nil) (.var 1)) (.lst false .nil)) .nil) (.var 0)))
  .nil)
@[irreducible] def f__law_all_primes : Fn := fnS cs0 2 0 b__law_all_primes
def t__law_all_primes_1 : Ss := .cons (.ret (.comp false [0] (.nm 0) (.rng (.cons (.int 2) (.cons (.int 1000) .nil))) (.cons (.cmp .Eq (.comp false [1] (.nm 1) (.rng (.cons (.int 2) (.cons (.int 32) .nil))) (.cons (.bop .And (.cons (.cmp .Eq (.bin false .Mod (.var 0) (.var 1)) (.int 0)) (.cons (.cmp .Lt (.var 1) (.var 0)) .nil))) .nil) (.var 1)) (.lst false .nil)) .nil) (.var 0))) .nil
theorem u__law_all_primes : b__law_all_primes = t__law_all_primes_1 := rfl
def b__law_pool : Ss := (.cons (.asg (.nm 2) (.int 0))
  (.cons (.ifs (.cmp .Lt (.var 1) (.bi .len false (.cons (.var 0) .nil))) (.cons (.asg (.nm 2) (.idx (.var 0) (.var 1)))
  .nil) .nil)
  (.cons (.ifs (.cmp .GtE (.var 2) (.bin false .Pow (.int 10) (.int 18))) (.cons (.ret (.lst true (.cons (.bin false .Sub (.var 2) (.bin false .Pow (.int 10) (.int 18))) (.cons (.int 1) (.cons (.int 0) .nil)))))
  .nil) .nil)
  (.cons (.ret (.lst true (.cons (.var 2) (.cons (.int 0) (.cons (.bin false .Mult (.int 61) (.var 1)) .nil)))))
  .nil))))
def f__law_pool : Fn := fnS cs0 3 2 b__law_pool
def t__law_pool_6 : Ss := .cons (.ret (.lst true (.cons (.var 2) (.cons (.int 0) (.cons (.bin false .Mult (.int 61) (.var 1)) .nil))))) .nil
def t__law_pool_5 : Ss := .cons (.ret (.lst true (.cons (.bin false .Sub (.var 2) (.bin false .Pow (.int 10) (.int 18))) (.cons (.int 1) (.cons (.int 0) .nil))))) .nil
def t__law_pool_4 : Ss := .cons (.ifs (.cmp .GtE (.var 2) (.bin false .Pow (.int 10) (.int 18))) t__law_pool_5 .nil) t__law_pool_6
def t__law_pool_3 : Ss := .cons (.asg (.nm 2) (.idx (.var 0) (.var 1))) .nil
def t__law_pool_2 : Ss := .cons (.ifs (.cmp .Lt (.var 1) (.bi .len false (.cons (.var 0) .nil))) t__law_pool_3 .nil) t__law_pool_4
def t__law_pool_1 : Ss := .cons (.asg (.nm 2) (.int 0)) t__law_pool_2
theorem u__law_pool : b__law_pool = t__law_pool_1 := rfl
/-- script, k, cell -/
theorem w__law_pool {x0 x1 : D} {h : Hh} {Q : D → Hh → Prop} (w : WS (evSs cs0 t__law_pool_1 [some x0, some x1, none] h) (fun _ h1 => Q .non h1) Q no2 no2) : W (f__law_pool [x0, x1] h) Q := by
  rw [← u__law_pool] at w
  exact w_fnS2 (C := cs0) (n := 3) (np := 2) (b := b__law_pool) rfl rfl w
theorem r__law_pool {x0 x1 : D} {h : Hh} : f__law_pool [x0, x1] h = endR (evSs cs0 t__law_pool_1 [some x0, some x1, none] h) := by
  rw [← u__law_pool]
  exact fnS_run2 (C := cs0) (n := 3) (np := 2) (b := b__law_pool) rfl rfl
def b__law_take : Ss := (.cons (.ifs (.cmp .Eq (.idx (.var 0) (.int 1)) (.int 1)) (.cons (.asg (.nm 4) (.bin false .Mod (.idx (.var 0) (.int 0)) (.var 1)))
  (.cons (.sub (.var 0) (.int 0) (.bin false .FloorDiv (.idx (.var 0) (.int 0)) (.var 1)))
  (.cons (.ret (.var 4))
  .nil))) .nil)
  (.cons (.sub (.var 0) (.int 2) (.bin false .Add (.idx (.var 0) (.int 2)) (.int 1)))
  (.cons (.asg (.nm 2) (.idx (.var 0) (.int 2)))
  (.cons (.asg (.nm 3) (.bin false .Mult (.bin false .Add (.bin false .Mod (.idx (.var 0) (.int 0)) (.int 9999999517)) (.int 1031)) (.bin false .Add (.bin false .Mult (.int 53) (.var 2)) (.int 83))))
  (.cons (.asg (.nm 3) (.bin false .Add (.var 3) (.bin false .Mult (.bin false .Mult (.int 3607) (.var 2)) (.var 2))))
  (.cons (.asg (.nm 3) (.bin false .Mod (.bin false .Mult (.var 3) (.var 3)) (.int 99999999563)))
  (.cons (.ret (.bin false .Mod (.bin false .FloorDiv (.bin false .Mod (.bin false .Mult (.var 3) (.bin false .Add (.var 3) (.int 67))) (.int 99999999853)) (.int 113)) (.var 1)))
  .nil)))))))
def f__law_take : Fn := fnS cs0 5 2 b__law_take
def t__law_take_10 : Ss := .cons (.ret (.bin false .Mod (.bin false .FloorDiv (.bin false .Mod (.bin false .Mult (.var 3) (.bin false .Add (.var 3) (.int 67))) (.int 99999999853)) (.int 113)) (.var 1))) .nil
def t__law_take_9 : Ss := .cons (.asg (.nm 3) (.bin false .Mod (.bin false .Mult (.var 3) (.var 3)) (.int 99999999563))) t__law_take_10
def t__law_take_8 : Ss := .cons (.asg (.nm 3) (.bin false .Add (.var 3) (.bin false .Mult (.bin false .Mult (.int 3607) (.var 2)) (.var 2)))) t__law_take_9
def t__law_take_7 : Ss := .cons (.asg (.nm 3) (.bin false .Mult (.bin false .Add (.bin false .Mod (.idx (.var 0) (.int 0)) (.int 9999999517)) (.int 1031)) (.bin false .Add (.bin false .Mult (.int 53) (.var 2)) (.int 83)))) t__law_take_8
def t__law_take_6 : Ss := .cons (.asg (.nm 2) (.idx (.var 0) (.int 2))) t__law_take_7
def t__law_take_5 : Ss := .cons (.sub (.var 0) (.int 2) (.bin false .Add (.idx (.var 0) (.int 2)) (.int 1))) t__law_take_6
def t__law_take_4 : Ss := .cons (.ret (.var 4)) .nil
def t__law_take_3 : Ss := .cons (.sub (.var 0) (.int 0) (.bin false .FloorDiv (.idx (.var 0) (.int 0)) (.var 1))) t__law_take_4
def t__law_take_2 : Ss := .cons (.asg (.nm 4) (.bin false .Mod (.idx (.var 0) (.int 0)) (.var 1))) t__law_take_3
def t__law_take_1 : Ss := .cons (.ifs (.cmp .Eq (.idx (.var 0) (.int 1)) (.int 1)) t__law_take_2 .nil) t__law_take_5
theorem u__law_take : b__law_take = t__law_take_1 := rfl
/-- pool, many, step, mark, found -/
theorem w__law_take {x0 x1 : D} {h : Hh} {Q : D → Hh → Prop} (w : WS (evSs cs0 t__law_take_1 [some x0, some x1, none, none, none] h) (fun _ h1 => Q .non h1) Q no2 no2) : W (f__law_take [x0, x1] h) Q := by
  rw [← u__law_take] at w
  exact w_fnS2 (C := cs0) (n := 5) (np := 2) (b := b__law_take) rfl rfl w
theorem r__law_take {x0 x1 : D} {h : Hh} : f__law_take [x0, x1] h = endR (evSs cs0 t__law_take_1 [some x0, some x1, none, none, none] h) := by
  rw [← u__law_take]
  exact fnS_run2 (C := cs0) (n := 5) (np := 2) (b := b__law_take) rfl rfl
def b__law_far : Ss := (.cons (.asg (.nm 2) (.int 0))
  (.cons (.fr (.nm 3) (.rng (.cons (.var 1) .nil)) (.cons (.asg (.nm 2) (.bin false .Add (.bin false .Mult (.var 2) (.bin false .Pow (.int 10) (.int 6))) (.call .S "_law_take" f__law_take (.cons (.var 0) (.cons (.bin false .Pow (.int 10) (.int 6)) .nil)))))
  .nil))
  (.cons (.ret (.var 2))
  .nil)))
def f__law_far : Fn := fnS cs0 4 2 b__law_far
def t__law_far_4 : Ss := .cons (.ret (.var 2)) .nil
def t__law_far_3 : Ss := .cons (.asg (.nm 2) (.bin false .Add (.bin false .Mult (.var 2) (.bin false .Pow (.int 10) (.int 6))) (.call .S "_law_take" f__law_take (.cons (.var 0) (.cons (.bin false .Pow (.int 10) (.int 6)) .nil))))) .nil
def t__law_far_2 : Ss := .cons (.fr (.nm 3) (.rng (.cons (.var 1) .nil)) t__law_far_3) t__law_far_4
def t__law_far_1 : Ss := .cons (.asg (.nm 2) (.int 0)) t__law_far_2
theorem u__law_far : b__law_far = t__law_far_1 := rfl
/-- pool, turns, found, turn -/
theorem w__law_far {x0 x1 : D} {h : Hh} {Q : D → Hh → Prop} (w : WS (evSs cs0 t__law_far_1 [some x0, some x1, none, none] h) (fun _ h1 => Q .non h1) Q no2 no2) : W (f__law_far [x0, x1] h) Q := by
  rw [← u__law_far] at w
  exact w_fnS2 (C := cs0) (n := 4) (np := 2) (b := b__law_far) rfl rfl w
theorem r__law_far {x0 x1 : D} {h : Hh} : f__law_far [x0, x1] h = endR (evSs cs0 t__law_far_1 [some x0, some x1, none, none] h) := by
  rw [← u__law_far]
  exact fnS_run2 (C := cs0) (n := 4) (np := 2) (b := b__law_far) rfl rfl
def b__law_shared : Ss := (.cons (.asg (.nm 0) (.bi .abs false (.cons (.var 0) .nil)))
  (.cons (.asg (.nm 1) (.bi .abs false (.cons (.var 1) .nil)))
  (.cons (.whl (.cmp .Gt (.var 1) (.int 0)) (.cons (.asg (.tp [0, 1]) (.tup (.cons (.var 1) (.cons (.bin false .Mod (.var 0) (.var 1)) .nil))))
  .nil))
  (.cons (.ret (.var 0))
  .nil))))
def f__law_shared : Fn := fnS cs0 2 2 b__law_shared
def t__law_shared_5 : Ss := .cons (.ret (.var 0)) .nil
def t__law_shared_4 : Ss := .cons (.asg (.tp [0, 1]) (.tup (.cons (.var 1) (.cons (.bin false .Mod (.var 0) (.var 1)) .nil)))) .nil
def t__law_shared_3 : Ss := .cons (.whl (.cmp .Gt (.var 1) (.int 0)) t__law_shared_4) t__law_shared_5
def t__law_shared_2 : Ss := .cons (.asg (.nm 1) (.bi .abs false (.cons (.var 1) .nil))) t__law_shared_3
def t__law_shared_1 : Ss := .cons (.asg (.nm 0) (.bi .abs false (.cons (.var 0) .nil))) t__law_shared_2
theorem u__law_shared : b__law_shared = t__law_shared_1 := rfl
/-- one, other -/
theorem w__law_shared {x0 x1 : D} {h : Hh} {Q : D → Hh → Prop} (w : WS (evSs cs0 t__law_shared_1 [some x0, some x1] h) (fun _ h1 => Q .non h1) Q no2 no2) : W (f__law_shared [x0, x1] h) Q := by
  rw [← u__law_shared] at w
  exact w_fnS2 (C := cs0) (n := 2) (np := 2) (b := b__law_shared) rfl rfl w
theorem r__law_shared {x0 x1 : D} {h : Hh} : f__law_shared [x0, x1] h = endR (evSs cs0 t__law_shared_1 [some x0, some x1] h) := by
  rw [← u__law_shared]
  exact fnS_run2 (C := cs0) (n := 2) (np := 2) (b := b__law_shared) rfl rfl
def b__law_prime : Ss := (.cons (.asg (.nm 2) (.call .S "_law_take" f__law_take (.cons (.var 0) (.cons (.int 3) .nil))))
  (.cons (.ifs (.cmp .Eq (.var 2) (.int 0)) (.cons (.ret (.idx (.var 1) (.call .S "_law_take" f__law_take (.cons (.var 0) (.cons (.int 8) .nil)))))
  .nil) .nil)
  (.cons (.ifs (.cmp .Eq (.var 2) (.int 1)) (.cons (.ret (.idx (.var 1) (.call .S "_law_take" f__law_take (.cons (.var 0) (.cons (.int 168) .nil)))))
  .nil) .nil)
  (.cons (.ret (.idx (.var 1) (.bin false .Sub (.int 167) (.call .S "_law_take" f__law_take (.cons (.var 0) (.cons (.int 12) .nil))))))
  .nil))))
def f__law_prime : Fn := fnS cs0 3 2 b__law_prime
def t__law_prime_6 : Ss := .cons (.ret (.idx (.var 1) (.bin false .Sub (.int 167) (.call .S "_law_take" f__law_take (.cons (.var 0) (.cons (.int 12) .nil)))))) .nil
def t__law_prime_5 : Ss := .cons (.ret (.idx (.var 1) (.call .S "_law_take" f__law_take (.cons (.var 0) (.cons (.int 168) .nil))))) .nil
def t__law_prime_4 : Ss := .cons (.ifs (.cmp .Eq (.var 2) (.int 1)) t__law_prime_5 .nil) t__law_prime_6
def t__law_prime_3 : Ss := .cons (.ret (.idx (.var 1) (.call .S "_law_take" f__law_take (.cons (.var 0) (.cons (.int 8) .nil))))) .nil
def t__law_prime_2 : Ss := .cons (.ifs (.cmp .Eq (.var 2) (.int 0)) t__law_prime_3 .nil) t__law_prime_4
def t__law_prime_1 : Ss := .cons (.asg (.nm 2) (.call .S "_law_take" f__law_take (.cons (.var 0) (.cons (.int 3) .nil)))) t__law_prime_2
theorem u__law_prime : b__law_prime = t__law_prime_1 := rfl
/-- pool, primes, way -/
theorem w__law_prime {x0 x1 : D} {h : Hh} {Q : D → Hh → Prop} (w : WS (evSs cs0 t__law_prime_1 [some x0, some x1, none] h) (fun _ h1 => Q .non h1) Q no2 no2) : W (f__law_prime [x0, x1] h) Q := by
  rw [← u__law_prime] at w
  exact w_fnS2 (C := cs0) (n := 3) (np := 2) (b := b__law_prime) rfl rfl w
theorem r__law_prime {x0 x1 : D} {h : Hh} : f__law_prime [x0, x1] h = endR (evSs cs0 t__law_prime_1 [some x0, some x1, none] h) := by
  rw [← u__law_prime]
  exact fnS_run2 (C := cs0) (n := 3) (np := 2) (b := b__law_prime) rfl rfl
/-! the pool of k01 to k14 -/
def PlA (i : Nat) (h : Hh) (T : Int) : Prop := ∃ c f t : Int, h[i]? = some (.lst [.int c, .int f, .int t]) ∧ 0 ≤ t ∧ t ≤ T + 1000
theorem PlA.le {i : Nat} {h : Hh} {T U : Int} (s : PlA i h T) (q : T ≤ U) : PlA i h U := by
  obtain ⟨c, f, t, e, a, b⟩ := s
  exact ⟨c, f, t, e, a, by omega⟩
theorem PlA.lt {i : Nat} {h : Hh} {T : Int} (s : PlA i h T) : i < h.length := by
  obtain ⟨c, f, t, e, _⟩ := s
  exact (List.getElem?_eq_some_iff.mp e).1
theorem PlA.fx {i j : Nat} {h h' : Hh} {T : Int} (s : PlA i h T) (f : Fx j h h') (q : i ≠ j) : PlA i h' T := by
  obtain ⟨c, f', t, e, a, b⟩ := s
  exact ⟨c, f', t, f.at e q, a, b⟩
section
variable {i : Nat} {h : Hh} {T : Int} {Q : D → Hh → Prop}
theorem poolW {ns : List Int} {k : Nat} (hk : k ≤ 15) (q : ∀ i h', PlA i h' 0 → h.length ≤ i → (∀ j, Fx j h h') → Q (.cel i) h') : W (f__law_pool [.kl (ns.map .int), .int (k : Nat)] h) Q := by
  refine w__law_pool ?_
  have p18 : ∀ hh : Hh, binD false .Pow (.int 10) (.int 18) hh = .ok (.int 1000000000000000000) hh := fun hh => rfl
  have go : ∀ c : Int, WS (evSs cs0 t__law_pool_4 [some (.kl (ns.map .int)), some (.int (k : Nat)), some (.int c)] h) (fun _ h1 => Q .non h1) Q no2 no2 := by
    intro c
    simp (disch := walk_at "ln") [-getElem?_pos, -max_ii, -min_ii, -max_t2, -abs_i, max_iO, min_iO, max_tO, abs_iO, List.getElem?_cons_zero, List.getElem?_append_left, t__law_pool_4, p18]
    refine ⟨fun _ => ?_, fun _ => ?_⟩
    · simp (disch := walk_at "ln") [-getElem?_pos, -max_ii, -min_ii, -max_t2, -abs_i, max_iO, min_iO, max_tO, abs_iO, List.getElem?_cons_zero, List.getElem?_append_left, t__law_pool_5, p18]
      exact q _ _ ⟨c - 1000000000000000000, 1, 0, by simp, by omega, by omega⟩ (Nat.le_refl _) fun _ => Fx.app
    · simp (disch := walk_at "ln") [-getElem?_pos, -max_ii, -min_ii, -max_t2, -abs_i, max_iO, min_iO, max_tO, abs_iO, List.getElem?_cons_zero, List.getElem?_append_left, t__law_pool_6]
      exact q _ _ ⟨c, 0, 61 * k, by simp, by omega, by omega⟩ (Nat.le_refl _) fun _ => Fx.app
  simp (disch := walk_at "ln") [-getElem?_pos, -max_ii, -min_ii, -max_t2, -abs_i, max_iO, min_iO, max_tO, abs_iO, List.getElem?_cons_zero, List.getElem?_append_left, t__law_pool_1, t__law_pool_2]
  refine ⟨fun lt => ?_, fun _ => go 0⟩
  have hk2 : k < ns.length := by omega
  have ea : atI (ns.map D.int) (k : Nat) = some (.int ns[k]) := by
    rw [atI_at, List.getElem?_map, List.getElem?_eq_getElem hk2]; rfl
  simp (disch := walk_at "ln") [-getElem?_pos, -max_ii, -min_ii, -max_t2, -abs_i, max_iO, min_iO, max_tO, abs_iO, List.getElem?_cons_zero, List.getElem?_append_left, t__law_pool_3, ea]
  exact go _
theorem takeW {many : Int} (s : PlA i h T) (hT : T < 1000000) (hm : 0 < many) (hm2 : many ≤ 1000000000) (q : ∀ r h', 0 ≤ r → r < many → PlA i h' (T + 1) → Fx i h h' → Q (.int r) h') : W (f__law_take [.cel i, .int many] h) Q := by
  obtain ⟨c, f, t, e, t0, t1⟩ := s
  have hi : i < h.length := (List.getElem?_eq_some_iff.mp e).1
  refine w__law_take ?_
  simp (disch := walk_at "ln") [-getElem?_pos, -max_ii, -min_ii, -max_t2, -abs_i, max_iO, min_iO, max_tO, abs_iO, List.getElem?_cons_zero, List.getElem?_append_left, t__law_take_1, e]
  refine ⟨fun f1 => ?_, fun f1 => ?_⟩
  · simp (disch := walk_at "ln") [-getElem?_pos, -max_ii, -min_ii, -max_t2, -abs_i, max_iO, min_iO, max_tO, abs_iO, List.getElem?_cons_zero, List.getElem?_append_left, t__law_take_2, e, t__law_take_3, t__law_take_4]
    exact q _ _ (Int.emod_nonneg _ (by omega)) (Int.emod_lt_of_pos _ hm) ⟨c / many, f, t, by simp [hi], t0, by omega⟩ Fx.set
  · simp (disch := walk_at "ln") [-getElem?_pos, -max_ii, -min_ii, -max_t2, -abs_i, max_iO, min_iO, max_tO, abs_iO, List.getElem?_cons_zero, List.getElem?_append_left, t__law_take_5, e]
    have e2 : (h.set i (.lst [.int c, .int f, .int (t + 1)]))[i]? = some (.lst [.int c, .int f, .int (t + 1)]) := List.getElem?_set_self hi
    have c0 : 0 ≤ c % 9999999517 := Int.emod_nonneg _ (by decide)
    have c1 : c % 9999999517 < 9999999517 := Int.emod_lt_of_pos _ (by decide)
    have b1 : 0 ≤ (c % 9999999517 + 1031) * (53 * (t + 1) + 83) := Int.mul_nonneg (by omega) (by omega)
    have b2 : (c % 9999999517 + 1031) * (53 * (t + 1) + 83) ≤ 10000001000 * 54000000000 := by
      refine Int.le_trans (Int.mul_le_mul_of_nonneg_right (by omega : c % 9999999517 + 1031 ≤ 10000001000) (by omega)) (Int.mul_le_mul_of_nonneg_left (by omega) (by omega))
    have b3 : 0 ≤ 3607 * (t + 1) * (t + 1) := Int.mul_nonneg (by omega) (by omega)
    have b4 : 3607 * (t + 1) * (t + 1) ≤ 7214000000 * 2000000 := by
      refine Int.le_trans (Int.mul_le_mul_of_nonneg_right (by omega : 3607 * (t + 1) ≤ 7214000000) (by omega)) (Int.mul_le_mul_of_nonneg_left (by omega) (by omega))
    simp (disch := walk_at "ln") [-getElem?_pos, -max_ii, -min_ii, -max_t2, -abs_i, max_iO, min_iO, max_tO, abs_iO, List.getElem?_cons_zero, List.getElem?_append_left, t__law_take_6, e2, t__law_take_7, t__law_take_8]
    generalize (c % 9999999517 + 1031) * (53 * (t + 1) + 83) = u at *
    generalize 3607 * (t + 1) * (t + 1) = v at *
    simp (disch := walk_at "ln") [-getElem?_pos, -max_ii, -min_ii, -max_t2, -abs_i, max_iO, min_iO, max_tO, abs_iO, List.getElem?_cons_zero, List.getElem?_append_left, t__law_take_9]
    have y0 : 0 ≤ (u + v) * (u + v) % 99999999563 := Int.emod_nonneg _ (by decide)
    have y1 : (u + v) * (u + v) % 99999999563 < 99999999563 := Int.emod_lt_of_pos _ (by decide)
    generalize (u + v) * (u + v) % 99999999563 = y at *
    simp (disch := walk_at "ln") [-getElem?_pos, -max_ii, -min_ii, -max_t2, -abs_i, max_iO, min_iO, max_tO, abs_iO, List.getElem?_cons_zero, List.getElem?_append_left, t__law_take_10]
    exact q _ _ (Int.emod_nonneg _ (by omega)) (Int.emod_lt_of_pos _ hm) ⟨c, f, t + 1, e2, by omega, by omega⟩ Fx.set
theorem farW {t : Nat} (s : PlA i h T) (hT : T < 900000) (ht : t ≤ 5) (q : ∀ r h', 0 ≤ r → r < 1000000000000000000000000000000 → PlA i h' (T + 5) → Fx i h h' → Q (.int r) h') : W (f__law_far [.cel i, .int (t : Nat)] h) Q := by
  have p6 : ∀ hh : Hh, binD false .Pow (.int 10) (.int 6) hh = .ok (.int 1000000) hh := fun hh => rfl
  have bd : ∀ (j : Nat) (r : Int), j ≤ 5 → r < 1000000 ^ j → r < 1000000000000000000000000000000 := by
    intro j r hj c1
    have : j = 0 ∨ j = 1 ∨ j = 2 ∨ j = 3 ∨ j = 4 ∨ j = 5 := by omega
    rcases this with rfl | rfl | rfl | rfl | rfl | rfl <;> (simp at c1; omega)
  refine w__law_far ?_
  simp (disch := walk_at "ln") [-getElem?_pos, -max_ii, -min_ii, -max_t2, -abs_i, max_iO, min_iO, max_tO, abs_iO, List.getElem?_cons_zero, List.getElem?_append_left, t__law_far_1, t__law_far_2]
  obtain ⟨I, hI⟩ := opq fun (j : Nat) (ls : Ls) (h' : Hh) => ∃ (r : Int) (o3 : Option D), ls = [some (.cel i), some (.int (t : Nat)), some (.int r), o3] ∧ 0 ≤ r ∧ r < 1000000 ^ j ∧ PlA i h' (T + j) ∧ Fx i h h'
  refine w_rng0 I (by rw [hI]; exact ⟨0, _, rfl, by omega, by decide, s.le (by omega), Fx.refl⟩) ?_ ?_
  · intro j _ h0 hj p
    rw [hI] at p
    obtain ⟨r, o3, rfl, c0, c1, s, fx⟩ := p
    refine ⟨_, rfl, ?_⟩
    have rb := bd j r (by omega) c1
    have pw : (1000000 : Int) ^ (j + 1) = 1000000 ^ j * 1000000 := Int.pow_succ _ _
    simp (disch := walk_at "ln") [-getElem?_pos, -max_ii, -min_ii, -max_t2, -abs_i, max_iO, min_iO, max_tO, abs_iO, List.getElem?_cons_zero, List.getElem?_append_left, t__law_far_3, p6]
    refine takeW s (by omega) (by omega) (by omega) fun x h1 x0 x1 s f1 => ?_
    try simp (disch := walk_at "ln") [-getElem?_pos, -max_ii, -min_ii, -max_t2, -abs_i, max_iO, min_iO, max_tO, abs_iO, List.getElem?_cons_zero, List.getElem?_append_left]
    rw [hI]
    exact ⟨_, _, rfl, by omega, by rw [pw]; omega, s.le (by omega), fx.trans f1⟩
  · intro _ h9 p
    rw [hI] at p
    obtain ⟨r, o3, rfl, c0, c1, s, fx⟩ := p
    simp (disch := walk_at "ln") [-getElem?_pos, -max_ii, -min_ii, -max_t2, -abs_i, max_iO, min_iO, max_tO, abs_iO, List.getElem?_cons_zero, List.getElem?_append_left, t__law_far_4]
    exact q _ _ c0 (bd t r ht c1) (s.le (by omega)) fx
theorem far5W (s : PlA i h T) (hT : T < 900000) (q : ∀ r h', 0 ≤ r → r < 1000000000000000000000000000000 → PlA i h' (T + 5) → Fx i h h' → Q (.int r) h') : W (f__law_far [.cel i, .int 5] h) Q := farW (t := 5) s hT (by omega) q
theorem far2W (s : PlA i h T) (hT : T < 900000) (q : ∀ r h', 0 ≤ r → r < 1000000000000000000000000000000 → PlA i h' (T + 5) → Fx i h h' → Q (.int r) h') : W (f__law_far [.cel i, .int 2] h) Q := farW (t := 2) s hT (by omega) q
end
def divs (x : Int) : List Int := ((List.range 30).map fun (i : Nat) => 2 + (i : Int)).filter fun d => decide (x % d = 0 ∧ d < x)
def fewC (n : Nat) : Bool := (List.range 30).all fun i => !(Nat.beq (n % (2 + i)) 0 && Nat.blt (2 + i) n)
theorem fewC_eq (i : Nat) : fewC (2 + i) = decide (divs (2 + (i : Int)) = []) := by
  rw [Bool.eq_iff_iff, decide_eq_true_eq, fewC, List.all_eq_true, divs, List.filter_eq_nil_iff]
  constructor
  · intro z a ha
    obtain ⟨j, hj, rfl⟩ := List.mem_map.mp ha
    have := z j hj
    simp only [Bool.not_eq_true', Bool.and_eq_false_iff] at this
    simp only [decide_eq_true_eq]
    rintro ⟨q1, q2⟩
    have q3 : (2 + i) % (2 + j) = 0 := by
      have : (((2 + i) % (2 + j) : Nat) : Int) = 0 := by rw [← q1]; simp
      omega
    rcases this with t | t
    · rw [q3] at t; exact absurd t (by decide)
    · have := Nat.ble_eq_true_of_le (show 2 + j + 1 ≤ 2 + i by omega)
      unfold Nat.blt at t
      rw [this] at t
      cases t
  · intro z j hj
    have := z (2 + (j : Int)) (List.mem_map.mpr ⟨j, hj, rfl⟩)
    simp only [decide_eq_true_eq] at this
    simp only [Bool.not_eq_true', Bool.and_eq_false_iff]
    by_cases q : (2 + i) % (2 + j) = 0
    · right
      have q1 : (2 + (i : Int)) % (2 + (j : Int)) = 0 := by
        have : (((2 + i) % (2 + j) : Nat) : Int) = 0 := by rw [q]; rfl
        rw [← this]; simp
      have : ¬ (2 + j < 2 + i) := fun lt => this ⟨q1, by omega⟩
      unfold Nat.blt
      exact Bool.eq_false_iff.mpr fun t => this (Nat.le_of_ble_eq_true t)
    · left
      exact Bool.eq_false_iff.mpr fun t => q (Nat.eq_of_beq_eq_true t)
theorem divs_ok {x : Int} {o : Option D} : evE (.comp false [1] (.nm 1) (.rng (.cons (.int 2) (.cons (.int 32) .nil))) (.cons (.bop .And (.cons (.cmp .Eq (.bin false .Mod (.var 0) (.var 1)) (.int 0)) (.cons (.cmp .Lt (.var 1) (.var 0)) .nil))) .nil) (.var 1)) [some (.int x), o] [] = .ok (.lst ((divs x).map .int)) [] := by
  have c : compL (asgT (.nm 1)) (evTs (.cons (.bop .And (.cons (.cmp .Eq (.bin false .Mod (.var 0) (.var 1)) (.int 0)) (.cons (.cmp .Lt (.var 1) (.var 0)) .nil))) .nil)) (evE (.var 1)) [some (.int x), none] (rngL 2 1 30) [] = .ok ((divs x).map .int) [] := by
    rw [compL_map (fun y => [some (.int x), some y]) (fun y => match y with | .int d => decide (x % d = 0 ∧ d < x) | _ => false) id]
    · rw [rngL_eq (lo := 2), divs, List.map_id, List.filter_map, List.filter_map, List.map_map]
      rfl
    · intro y hy
      rw [rngL_eq (lo := 2)] at hy
      obtain ⟨i, hi, rfl⟩ := List.mem_map.mp hy
      have d0 : 0 < 2 + (i : Int) := by omega
      refine ⟨rfl, ?_, fun _ => rfl⟩
      by_cases z : x % (2 + (i : Int)) = 0
      · simp [d0, z]
      · simp [d0, z]
  simp [wipeL, compR_rng (show 30 ≤ LIM by decide), c]
theorem every_ok {h : Hh} : callM .P f__law_all_primes [] h = .ok (.lst (PR.map .int)) h := by
  refine callPP rfl (d := .lst (PR.map .int)) (h' := []) ?_ (pures_ints PR)
  unfold f__law_all_primes
  refine fn0.trans ?_
  have c : compL (asgT (.nm 0)) (evTs (.cons (.cmp .Eq (.comp false [1] (.nm 1) (.rng (.cons (.int 2) (.cons (.int 32) .nil))) (.cons (.bop .And (.cons (.cmp .Eq (.bin false .Mod (.var 0) (.var 1)) (.int 0)) (.cons (.cmp .Lt (.var 1) (.var 0)) .nil))) .nil) (.var 1)) (.lst false .nil)) .nil)) (evE (.var 0)) [none, none] (rngL 2 1 998) [] = .ok (PR.map .int) [] := by
    rw [compL_map (fun y => [some y, none]) (fun y => match y with | .int x => decide (divs x = []) | _ => false) id]
    · have k : (((List.range 998).filter fun (i : Nat) => fewC (2 + i)).map fun (i : Nat) => Int.ofNat (2 + i)) = PR := by decide +kernel
      rw [rngL_eq (lo := 2), List.map_id, List.filter_map, ← k, List.map_map]
      have e : (List.range 998).filter ((fun y => match y with | .int x => decide (divs x = []) | _ => false) ∘ fun (i : Nat) => D.int (2 + (i : Int))) = (List.range 998).filter fun (i : Nat) => fewC (2 + i) := by
        apply List.filter_congr
        intro i _
        exact (fewC_eq i).symm
      rw [e]
      congr 1
    · intro y hy
      rw [rngL_eq (lo := 2)] at hy
      obtain ⟨i, hi, rfl⟩ := List.mem_map.mp hy
      have dk := divs_ok (x := 2 + (i : Int)) (o := none)
      refine ⟨rfl, ?_, fun _ => rfl⟩
      rw [ev_t1, ev_cmp, dk]
      have := eq_ints0 (h := []) (ns := divs (2 + (i : Int)))
      simp [this]
  rw [b__law_all_primes]
  rw [ev_scons, ev_ret, ev_comp]
  have w : wipeL (List.replicate 2 (none : Option D)) [0] = [none, none] := rfl
  have r : evI (.rng (.cons (.int 2) (.cons (.int 1000) .nil))) (List.replicate 2 none) [] = .ok (.rng 2 998 1) [] := by
    simp
  rw [r, w, bind_ok]
  rw [compR_rng (show 998 ≤ LIM by decide), c]
  simp
theorem lshared_ok {a b : Int} {h : Hh} (hb : b.natAbs < 2 ^ 200) : callM .P f__law_shared [.int a, .int b] h = .ok (.int (Int.gcd a b : Nat)) h := by
  refine callPP rfl (d := .int (Int.gcd a b : Nat)) (h' := []) ?_ rfl
  refine fn2.trans ?_
  have hb2 : ((b.natAbs : Nat) : Int) < 2 ^ 200 := by exact_mod_cast hb
  obtain ⟨g, e, n, nn⟩ := gcd_run (t := .cmp .Gt (.var 1) (.int 0)) (s := 1) (.inl rfl) (fun x y hy => by
    by_cases q : y = 0
    · simp [q]
    · have : 0 < y := by omega
      simp [q, this]) 200 (a.natAbs : Int) (b.natAbs : Int) FUEL (by omega) hb2 (by decide)
  have g0 := nn (by omega)
  have ge : g = ((Int.gcd a b : Nat) : Int) := by
    have : Int.gcd (a.natAbs : Int) (b.natAbs : Int) = Int.gcd a b := by simp [Int.gcd]
    rw [this] at n
    omega
  have aa : (if a < 0 then -a else a) = (a.natAbs : Int) := by split <;> omega
  have bb : (if b < 0 then -b else b) = (b.natAbs : Int) := by split <;> omega
  rw [Int.one_mul, Int.one_mul, Int.one_mul, ge] at e
  simp only [gcBody] at e
  simp only [b__law_shared]
  generalize ((Int.gcd a b : Nat) : Int) = G at *
  generalize ((a.natAbs : Nat) : Int) = A at *
  generalize ((b.natAbs : Nat) : Int) = B at *
  simp [aa, bb, e]
/-- a fraction of at most thirty figures -/
def Fq (a b : Int) : Prop := 0 < b ∧ Int.gcd a b = 1 ∧ -1000000000000000000000000000000 ≤ a ∧ a ≤ 1000000000000000000000000000000 ∧ b ≤ 1000000000000000000000000000000
theorem Fq.fr {a b : Int} (f : Fq a b) : Fr (a, b) := by
  obtain ⟨h1, h2, h3, h4, h5⟩ := f
  exact ⟨h1, h2, by show _ ≤ a; omega, by show a ≤ _; omega, by show b ≤ _; omega⟩
theorem at_PR {r : Int} (h0 : 0 ≤ r) (h1 : r < 168) : ∃ p, atI (PR.map D.int) r = some (.int p) ∧ p ∈ PR := by
  have hl : r.toNat < PR.length := by rw [PR_len]; omega
  refine ⟨PR[r.toNat], ?_, List.getElem_mem hl⟩
  rw [atI_pos h0, List.getElem?_map, List.getElem?_eq_getElem hl]
  rfl
theorem low_ok {t b : Int} (b0 : 0 < b) (t0 : -1000000000000000000000000000000 ≤ t) (t1 : t ≤ 1000000000000000000000000000000) (b1 : b ≤ 1000000000000000000000000000000) : 0 < (Int.gcd t b : Int) ∧ (Int.gcd t b : Int) ≤ 1000000000000000000000000000000 ∧ Fq (t / (Int.gcd t b : Nat)) (b / (Int.gcd t b : Nat)) := by
  have g0 : 0 < Int.gcd t b := Int.gcd_pos_of_ne_zero_right _ (by omega)
  have db := Int.gcd_dvd_right t b
  have gl : (Int.gcd t b : Int) ≤ b := Int.le_of_dvd b0 db
  refine ⟨by omega, by omega, ?_, Int.gcd_ediv_gcd_ediv_gcd g0, ?_, ?_, ?_⟩
  · exact Int.ediv_pos_of_pos_of_dvd b0 (by omega) db
  · have : t / (Int.gcd t b : Int) * (Int.gcd t b : Int) = t := Int.ediv_mul_cancel (Int.gcd_dvd_left t b)
    generalize t / (Int.gcd t b : Int) = q at *
    by_cases z : 0 ≤ q
    · omega
    · have : q * (Int.gcd t b : Int) ≤ q * 1 := Int.mul_le_mul_of_nonpos_left (by omega) (by omega)
      omega
  · have : t / (Int.gcd t b : Int) * (Int.gcd t b : Int) = t := Int.ediv_mul_cancel (Int.gcd_dvd_left t b)
    generalize t / (Int.gcd t b : Int) = q at *
    by_cases z : 0 ≤ q
    · have : q * 1 ≤ q * (Int.gcd t b : Int) := Int.mul_le_mul_of_nonneg_left (by omega) z
      omega
    · omega
  · have := Int.ediv_le_self (Int.gcd t b : Int) (a := b) (by omega)
    omega
section
variable {i : Nat} {h : Hh} {T : Int} {Q : D → Hh → Prop}
theorem primeW (s : PlA i h T) (hT : T < 890000) (q : ∀ p h', p ∈ PR → PlA i h' (T + 2) → Fx i h h' → Q (.int p) h') : W (f__law_prime [.cel i, .lst (PR.map .int)] h) Q := by
  refine w__law_prime ?_
  simp (disch := walk_at "ln") [-getElem?_pos, -max_ii, -min_ii, -max_t2, -abs_i, max_iO, min_iO, max_tO, abs_iO, List.getElem?_cons_zero, List.getElem?_append_left, t__law_prime_1]
  refine takeW s (by omega) (by omega) (by omega) fun w h1 w0 w1 s f1 => ?_
  simp (disch := walk_at "ln") [-getElem?_pos, -max_ii, -min_ii, -max_t2, -abs_i, max_iO, min_iO, max_tO, abs_iO, List.getElem?_cons_zero, List.getElem?_append_left, t__law_prime_2]
  refine ⟨fun w2 => ?_, fun w2 => ?_⟩
  · simp (disch := walk_at "ln") [-getElem?_pos, -max_ii, -min_ii, -max_t2, -abs_i, max_iO, min_iO, max_tO, abs_iO, List.getElem?_cons_zero, List.getElem?_append_left, t__law_prime_3]
    refine takeW s (by omega) (by omega) (by omega) fun x h2 x0 x1 s f2 => ?_
    obtain ⟨p, ep, hp⟩ := at_PR x0 (by omega)
    generalize PR.map D.int = L at *
    simp (disch := walk_at "ln") [-getElem?_pos, -max_ii, -min_ii, -max_t2, -abs_i, max_iO, min_iO, max_tO, abs_iO, List.getElem?_cons_zero, List.getElem?_append_left, ep]
    exact q _ _ hp (s.le (by omega)) (f1.trans f2)
  simp (disch := walk_at "ln") [-getElem?_pos, -max_ii, -min_ii, -max_t2, -abs_i, max_iO, min_iO, max_tO, abs_iO, List.getElem?_cons_zero, List.getElem?_append_left, t__law_prime_4]
  refine ⟨fun w3 => ?_, fun w3 => ?_⟩
  · simp (disch := walk_at "ln") [-getElem?_pos, -max_ii, -min_ii, -max_t2, -abs_i, max_iO, min_iO, max_tO, abs_iO, List.getElem?_cons_zero, List.getElem?_append_left, t__law_prime_5]
    refine takeW s (by omega) (by omega) (by omega) fun x h2 x0 x1 s f2 => ?_
    obtain ⟨p, ep, hp⟩ := at_PR x0 (by omega)
    generalize PR.map D.int = L at *
    simp (disch := walk_at "ln") [-getElem?_pos, -max_ii, -min_ii, -max_t2, -abs_i, max_iO, min_iO, max_tO, abs_iO, List.getElem?_cons_zero, List.getElem?_append_left, ep]
    exact q _ _ hp (s.le (by omega)) (f1.trans f2)
  simp (disch := walk_at "ln") [-getElem?_pos, -max_ii, -min_ii, -max_t2, -abs_i, max_iO, min_iO, max_tO, abs_iO, List.getElem?_cons_zero, List.getElem?_append_left, t__law_prime_6]
  refine takeW s (by omega) (by omega) (by omega) fun x h2 x0 x1 s f2 => ?_
  obtain ⟨p, ep, hp⟩ := at_PR (r := 167 - x) (by omega) (by omega)
  generalize PR.map D.int = L at *
  simp (disch := walk_at "ln") [-getElem?_pos, -max_ii, -min_ii, -max_t2, -abs_i, max_iO, min_iO, max_tO, abs_iO, List.getElem?_cons_zero, List.getElem?_append_left, ep]
  exact q _ _ hp (s.le (by omega)) (f1.trans f2)
end
end U
namespace U
open PySem PySem.Spec PyProof.Rows L2 Tb
def b__law_number : Ss := (.cons (.asg (.nm 1) (.call .S "_law_take" f__law_take (.cons (.var 0) (.cons (.int 6) .nil))))
  (.cons (.ifs (.cmp .Lt (.var 1) (.int 2)) (.cons (.ret (.call .S "_law_take" f__law_take (.cons (.var 0) (.cons (.int 13) .nil))))
  .nil) .nil)
  (.cons (.ifs (.cmp .Eq (.var 1) (.int 2)) (.cons (.ret (.call .S "_law_take" f__law_take (.cons (.var 0) (.cons (.int 1200) .nil))))
  .nil) .nil)
  (.cons (.ifs (.cmp .Eq (.var 1) (.int 5)) (.cons (.ret (.bin false .Sub (.bin false .Sub (.bin false .Pow (.int 10) (.int 30)) (.int 1)) (.call .S "_law_take" f__law_take (.cons (.var 0) (.cons (.int 40) .nil)))))
  .nil) .nil)
  (.cons (.ret (.call .S "_law_far" f__law_far (.cons (.var 0) (.cons (.idx (.lst false (.cons (.int 2) (.cons (.int 5) .nil))) (.bin false .Sub (.var 1) (.int 3))) .nil))))
  .nil)))))
def f__law_number : Fn := fnS cs0 2 1 b__law_number
def t__law_number_8 : Ss := .cons (.ret (.call .S "_law_far" f__law_far (.cons (.var 0) (.cons (.idx (.lst false (.cons (.int 2) (.cons (.int 5) .nil))) (.bin false .Sub (.var 1) (.int 3))) .nil)))) .nil
def t__law_number_7 : Ss := .cons (.ret (.bin false .Sub (.bin false .Sub (.bin false .Pow (.int 10) (.int 30)) (.int 1)) (.call .S "_law_take" f__law_take (.cons (.var 0) (.cons (.int 40) .nil))))) .nil
def t__law_number_6 : Ss := .cons (.ifs (.cmp .Eq (.var 1) (.int 5)) t__law_number_7 .nil) t__law_number_8
def t__law_number_5 : Ss := .cons (.ret (.call .S "_law_take" f__law_take (.cons (.var 0) (.cons (.int 1200) .nil)))) .nil
def t__law_number_4 : Ss := .cons (.ifs (.cmp .Eq (.var 1) (.int 2)) t__law_number_5 .nil) t__law_number_6
def t__law_number_3 : Ss := .cons (.ret (.call .S "_law_take" f__law_take (.cons (.var 0) (.cons (.int 13) .nil)))) .nil
def t__law_number_2 : Ss := .cons (.ifs (.cmp .Lt (.var 1) (.int 2)) t__law_number_3 .nil) t__law_number_4
def t__law_number_1 : Ss := .cons (.asg (.nm 1) (.call .S "_law_take" f__law_take (.cons (.var 0) (.cons (.int 6) .nil)))) t__law_number_2
theorem u__law_number : b__law_number = t__law_number_1 := rfl
/-- pool, way -/
theorem w__law_number {x0 : D} {h : Hh} {Q : D → Hh → Prop} (w : WS (evSs cs0 t__law_number_1 [some x0, none] h) (fun _ h1 => Q .non h1) Q no2 no2) : W (f__law_number [x0] h) Q := by
  rw [← u__law_number] at w
  exact w_fnS2 (C := cs0) (n := 2) (np := 1) (b := b__law_number) rfl rfl w
theorem r__law_number {x0 : D} {h : Hh} : f__law_number [x0] h = endR (evSs cs0 t__law_number_1 [some x0, none] h) := by
  rw [← u__law_number]
  exact fnS_run2 (C := cs0) (n := 2) (np := 1) (b := b__law_number) rfl rfl
def b__law_fraction : Ss := (.cons (.asg (.nm 2) (.call .S "_law_number" f__law_number (.cons (.var 0) .nil)))
  (.cons (.asg (.nm 3) (.bi .max false (.cons (.int 1) (.cons (.call .S "_law_number" f__law_number (.cons (.var 0) .nil)) .nil))))
  (.cons (.asg (.nm 4) (.call .S "_law_take" f__law_take (.cons (.var 0) (.cons (.int 4) .nil))))
  (.cons (.ifs (.cmp .Lt (.var 4) (.int 2)) (.cons (.asg (.nm 6) (.bin false .Add (.int 1) (.call .S "_law_take" f__law_take (.cons (.var 0) (.cons (.int 6) .nil)))))
  (.cons (.fr (.nm 7) (.rng (.cons (.bin false .Add (.int 1) (.call .S "_law_take" f__law_take (.cons (.var 0) (.cons (.int 3) .nil)))) .nil)) (.cons (.asg (.nm 6) (.bin false .Mult (.var 6) (.call .S "_law_prime" f__law_prime (.cons (.var 0) (.cons (.var 1) .nil)))))
  .nil))
  (.cons (.asg (.nm 2) (.idx (.lst false (.cons (.var 6) (.cons (.var 2) .nil))) (.var 4)))
  (.cons (.asg (.nm 3) (.idx (.lst false (.cons (.var 3) (.cons (.var 6) .nil))) (.var 4)))
  .nil)))) .nil)
  (.cons (.ifs (.cmp .Eq (.call .S "_law_take" f__law_take (.cons (.var 0) (.cons (.int 2) .nil))) (.int 0)) (.cons (.asg (.nm 2) (.bin false .Sub (.int 0) (.var 2)))
  .nil) .nil)
  (.cons (.asg (.nm 5) (.call .P "_law_shared" f__law_shared (.cons (.var 2) (.cons (.var 3) .nil))))
  (.cons (.ret (.tup (.cons (.bin false .FloorDiv (.var 2) (.var 5)) (.cons (.bin false .FloorDiv (.var 3) (.var 5)) .nil))))
  .nil)))))))
def f__law_fraction : Fn := fnS cs0 8 2 b__law_fraction
def t__law_fraction_13 : Ss := .cons (.ret (.tup (.cons (.bin false .FloorDiv (.var 2) (.var 5)) (.cons (.bin false .FloorDiv (.var 3) (.var 5)) .nil)))) .nil
def t__law_fraction_12 : Ss := .cons (.asg (.nm 5) (.call .P "_law_shared" f__law_shared (.cons (.var 2) (.cons (.var 3) .nil)))) t__law_fraction_13
def t__law_fraction_11 : Ss := .cons (.asg (.nm 2) (.bin false .Sub (.int 0) (.var 2))) .nil
def t__law_fraction_10 : Ss := .cons (.ifs (.cmp .Eq (.call .S "_law_take" f__law_take (.cons (.var 0) (.cons (.int 2) .nil))) (.int 0)) t__law_fraction_11 .nil) t__law_fraction_12
def t__law_fraction_9 : Ss := .cons (.asg (.nm 3) (.idx (.lst false (.cons (.var 3) (.cons (.var 6) .nil))) (.var 4))) .nil
def t__law_fraction_8 : Ss := .cons (.asg (.nm 2) (.idx (.lst false (.cons (.var 6) (.cons (.var 2) .nil))) (.var 4))) t__law_fraction_9
def t__law_fraction_7 : Ss := .cons (.asg (.nm 6) (.bin false .Mult (.var 6) (.call .S "_law_prime" f__law_prime (.cons (.var 0) (.cons (.var 1) .nil))))) .nil
def t__law_fraction_6 : Ss := .cons (.fr (.nm 7) (.rng (.cons (.bin false .Add (.int 1) (.call .S "_law_take" f__law_take (.cons (.var 0) (.cons (.int 3) .nil)))) .nil)) t__law_fraction_7) t__law_fraction_8
def t__law_fraction_5 : Ss := .cons (.asg (.nm 6) (.bin false .Add (.int 1) (.call .S "_law_take" f__law_take (.cons (.var 0) (.cons (.int 6) .nil))))) t__law_fraction_6
def t__law_fraction_4 : Ss := .cons (.ifs (.cmp .Lt (.var 4) (.int 2)) t__law_fraction_5 .nil) t__law_fraction_10
def t__law_fraction_3 : Ss := .cons (.asg (.nm 4) (.call .S "_law_take" f__law_take (.cons (.var 0) (.cons (.int 4) .nil)))) t__law_fraction_4
def t__law_fraction_2 : Ss := .cons (.asg (.nm 3) (.bi .max false (.cons (.int 1) (.cons (.call .S "_law_number" f__law_number (.cons (.var 0) .nil)) .nil)))) t__law_fraction_3
def t__law_fraction_1 : Ss := .cons (.asg (.nm 2) (.call .S "_law_number" f__law_number (.cons (.var 0) .nil))) t__law_fraction_2
theorem u__law_fraction : b__law_fraction = t__law_fraction_1 := rfl
/-- pool, primes, top, bottom, way, part, some, turn -/
theorem w__law_fraction {x0 x1 : D} {h : Hh} {Q : D → Hh → Prop} (w : WS (evSs cs0 t__law_fraction_1 [some x0, some x1, none, none, none, none, none, none] h) (fun _ h1 => Q .non h1) Q no2 no2) : W (f__law_fraction [x0, x1] h) Q := by
  rw [← u__law_fraction] at w
  exact w_fnS2 (C := cs0) (n := 8) (np := 2) (b := b__law_fraction) rfl rfl w
theorem r__law_fraction {x0 x1 : D} {h : Hh} : f__law_fraction [x0, x1] h = endR (evSs cs0 t__law_fraction_1 [some x0, some x1, none, none, none, none, none, none] h) := by
  rw [← u__law_fraction]
  exact fnS_run2 (C := cs0) (n := 8) (np := 2) (b := b__law_fraction) rfl rfl
/-! the numbers and fractions of k01 to k07 -/
section
variable {i : Nat} {h : Hh} {T : Int} {Q : D → Hh → Prop}
theorem numberW (s : PlA i h T) (hT : T < 890000) (q : ∀ r h', 0 ≤ r → r < 1000000000000000000000000000000 → PlA i h' (T + 6) → Fx i h h' → Q (.int r) h') : W (f__law_number [.cel i] h) Q := by
  have p30 : ∀ hh : Hh, binD false .Pow (.int 10) (.int 30) hh = .ok (.int 1000000000000000000000000000000) hh := fun hh => rfl
  refine w__law_number ?_
  simp (disch := walk_at "ln") [-getElem?_pos, -max_ii, -min_ii, -max_t2, -abs_i, max_iO, min_iO, max_tO, abs_iO, List.getElem?_cons_zero, List.getElem?_append_left, t__law_number_1]
  refine takeW s (by omega) (by omega) (by omega) fun w h1 w0 w1 s f1 => ?_
  simp (disch := walk_at "ln") [-getElem?_pos, -max_ii, -min_ii, -max_t2, -abs_i, max_iO, min_iO, max_tO, abs_iO, List.getElem?_cons_zero, List.getElem?_append_left, t__law_number_2]
  refine ⟨fun w2 => ?_, fun w2 => ?_⟩
  · simp (disch := walk_at "ln") [-getElem?_pos, -max_ii, -min_ii, -max_t2, -abs_i, max_iO, min_iO, max_tO, abs_iO, List.getElem?_cons_zero, List.getElem?_append_left, t__law_number_3]
    exact takeW s (by omega) (by omega) (by omega) fun x h2 x0 x1 s f2 => q _ _ x0 (by omega) (s.le (by omega)) (f1.trans f2)
  simp (disch := walk_at "ln") [-getElem?_pos, -max_ii, -min_ii, -max_t2, -abs_i, max_iO, min_iO, max_tO, abs_iO, List.getElem?_cons_zero, List.getElem?_append_left, t__law_number_4]
  refine ⟨fun w3 => ?_, fun w3 => ?_⟩
  · simp (disch := walk_at "ln") [-getElem?_pos, -max_ii, -min_ii, -max_t2, -abs_i, max_iO, min_iO, max_tO, abs_iO, List.getElem?_cons_zero, List.getElem?_append_left, t__law_number_5]
    exact takeW s (by omega) (by omega) (by omega) fun x h2 x0 x1 s f2 => q _ _ x0 (by omega) (s.le (by omega)) (f1.trans f2)
  simp (disch := walk_at "ln") [-getElem?_pos, -max_ii, -min_ii, -max_t2, -abs_i, max_iO, min_iO, max_tO, abs_iO, List.getElem?_cons_zero, List.getElem?_append_left, t__law_number_6]
  refine ⟨fun w5 => ?_, fun w5 => ?_⟩
  · simp (disch := walk_at "ln") [-getElem?_pos, -max_ii, -min_ii, -max_t2, -abs_i, max_iO, min_iO, max_tO, abs_iO, List.getElem?_cons_zero, List.getElem?_append_left, t__law_number_7, p30]
    refine takeW s (by omega) (by omega) (by omega) fun x h2 x0 x1 s f2 => ?_
    try simp (disch := walk_at "ln") [-getElem?_pos, -max_ii, -min_ii, -max_t2, -abs_i, max_iO, min_iO, max_tO, abs_iO, List.getElem?_cons_zero, List.getElem?_append_left]
    exact q _ _ (by omega) (by omega) (s.le (by omega)) (f1.trans f2)
  have w34 : w = 3 ∨ w = 4 := by omega
  rcases w34 with rfl | rfl
  · simp (disch := walk_at "ln") [-getElem?_pos, -max_ii, -min_ii, -max_t2, -abs_i, max_iO, min_iO, max_tO, abs_iO, List.getElem?_cons_zero, List.getElem?_append_left, t__law_number_8]
    exact far2W s (by omega) fun x h2 x0 x1 s f2 => q _ _ x0 x1 (s.le (by omega)) (f1.trans f2)
  · simp (disch := walk_at "ln") [-getElem?_pos, -max_ii, -min_ii, -max_t2, -abs_i, max_iO, min_iO, max_tO, abs_iO, List.getElem?_cons_zero, List.getElem?_append_left, t__law_number_8]
    exact far5W s (by omega) fun x h2 x0 x1 s f2 => q _ _ x0 x1 (s.le (by omega)) (f1.trans f2)
theorem fracW (s : PlA i h T) (hT : T < 800000) (q : ∀ a b h', Fq a b → PlA i h' (T + 40) → Fx i h h' → Q (pd (a, b)) h') : W (f__law_fraction [.cel i, .lst (PR.map .int)] h) Q := by
  refine w__law_fraction ?_
  simp (disch := walk_at "ln") [-getElem?_pos, -max_ii, -min_ii, -max_t2, -abs_i, max_iO, min_iO, max_tO, abs_iO, List.getElem?_cons_zero, List.getElem?_append_left, t__law_fraction_1]
  refine numberW s (by omega) fun t h1 t0 t1 s f1 => ?_
  simp (disch := walk_at "ln") [-getElem?_pos, -max_ii, -min_ii, -max_t2, -abs_i, max_iO, min_iO, max_tO, abs_iO, List.getElem?_cons_zero, List.getElem?_append_left, t__law_fraction_2]
  refine numberW s (by omega) fun n h2 n0 n1 s f2 => ?_
  obtain ⟨b, eb, b0, b1⟩ : ∃ b : Int, max 1 n = b ∧ 1 ≤ b ∧ b ≤ 1000000000000000000000000000000 := ⟨_, rfl, by omega, by omega⟩
  simp (disch := walk_at "ln") [-getElem?_pos, -max_ii, -min_ii, -max_t2, -abs_i, max_iO, min_iO, max_tO, abs_iO, List.getElem?_cons_zero, List.getElem?_append_left, eb, t__law_fraction_3]
  refine takeW s (by omega) (by omega) (by omega) fun w h3 w0 w1 s f3 => ?_
  have fx3 := (f1.trans f2).trans f3
  have tail : ∀ (t b : Int) (o4 o5 o6 o7 : Option D) (h4 : Hh), -1000000000000000000000000000000 ≤ t → t ≤ 1000000000000000000000000000000 → 1 ≤ b → b ≤ 1000000000000000000000000000000 → PlA i h4 (T + 30) → Fx i h h4 → WS (evSs cs0 t__law_fraction_10 [some (.cel i), some (.lst (PR.map .int)), some (.int t), some (.int b), o4, o5, o6, o7] h4) (fun _ h1 => Q .non h1) Q no2 no2 := by
    intro t b o4 o5 o6 o7 h4 t0 t1 b0 b1 s fx
    have fin : ∀ (t : Int) (h5 : Hh), -1000000000000000000000000000000 ≤ t → t ≤ 1000000000000000000000000000000 → PlA i h5 (T + 31) → Fx i h h5 → WS (evSs cs0 t__law_fraction_12 [some (.cel i), some (.lst (PR.map .int)), some (.int t), some (.int b), o4, o5, o6, o7] h5) (fun _ h1 => Q .non h1) Q no2 no2 := by
      intro t h5 t0 t1 s fx
      obtain ⟨g0, g1, fq⟩ := low_ok (t := t) (by omega : 0 < b) t0 t1 b1
      have sh := lshared_ok (a := t) (b := b) (h := h5) (big200 (by omega) (by omega))
      generalize ((Int.gcd t b : Nat) : Int) = G at *
      simp (disch := walk_at "ln") [-getElem?_pos, -max_ii, -min_ii, -max_t2, -abs_i, max_iO, min_iO, max_tO, abs_iO, List.getElem?_cons_zero, List.getElem?_append_left, t__law_fraction_12, sh, t__law_fraction_13]
      exact q _ _ _ fq (s.le (by omega)) fx
    simp (disch := walk_at "ln") [-getElem?_pos, -max_ii, -min_ii, -max_t2, -abs_i, max_iO, min_iO, max_tO, abs_iO, List.getElem?_cons_zero, List.getElem?_append_left, t__law_fraction_10]
    refine takeW s (by omega) (by omega) (by omega) fun x h5 x0 x1 s f5 => ?_
    try simp (disch := walk_at "ln") [-getElem?_pos, -max_ii, -min_ii, -max_t2, -abs_i, max_iO, min_iO, max_tO, abs_iO, List.getElem?_cons_zero, List.getElem?_append_left]
    refine ⟨fun _ => ?_, fun _ => ?_⟩
    · simp (disch := walk_at "ln") [-getElem?_pos, -max_ii, -min_ii, -max_t2, -abs_i, max_iO, min_iO, max_tO, abs_iO, List.getElem?_cons_zero, List.getElem?_append_left, t__law_fraction_11]
      exact fin _ _ (by omega) (by omega) (s.le (by omega)) (fx.trans f5)
    · exact fin _ _ t0 t1 (s.le (by omega)) (fx.trans f5)
  simp (disch := walk_at "ln") [-getElem?_pos, -max_ii, -min_ii, -max_t2, -abs_i, max_iO, min_iO, max_tO, abs_iO, List.getElem?_cons_zero, List.getElem?_append_left, t__law_fraction_4]
  refine ⟨fun w2 => ?_, fun w2 => tail _ _ _ _ _ _ _ (by omega) (by omega) b0 b1 (s.le (by omega)) fx3⟩
  simp (disch := walk_at "ln") [-getElem?_pos, -max_ii, -min_ii, -max_t2, -abs_i, max_iO, min_iO, max_tO, abs_iO, List.getElem?_cons_zero, List.getElem?_append_left, t__law_fraction_5]
  refine takeW s (by omega) (by omega) (by omega) fun r4 h4 a4 b4 s f4 => ?_
  simp (disch := walk_at "ln") [-getElem?_pos, -max_ii, -min_ii, -max_t2, -abs_i, max_iO, min_iO, max_tO, abs_iO, List.getElem?_cons_zero, List.getElem?_append_left, t__law_fraction_6]
  refine takeW s (by omega) (by omega) (by omega) fun r5 h5 a5 b5 s f5 => ?_
  have fx5 := (fx3.trans f4).trans f5
  obtain ⟨m, em, m3⟩ : ∃ m : Nat, 1 + r5 = m ∧ m ≤ 3 := ⟨(1 + r5).toNat, by omega, by omega⟩
  simp (disch := walk_at "ln") [-getElem?_pos, -max_ii, -min_ii, -max_t2, -abs_i, max_iO, min_iO, max_tO, abs_iO, List.getElem?_cons_zero, List.getElem?_append_left, em]
  obtain ⟨I, hI⟩ := opq fun (j : Nat) (ls : Ls) (h' : Hh) => ∃ (v : Int) (o5 o7 : Option D), ls = [some (.cel i), some (.lst (PR.map .int)), some (.int t), some (.int b), some (.int w), o5, some (.int v), o7] ∧ 1 ≤ v ∧ v ≤ 6 * 1000 ^ j ∧ PlA i h' (T + 20 + 2 * (j : Int)) ∧ Fx i h h'
  refine w_rng0 I (by rw [hI]; exact ⟨1 + r4, _, _, rfl, by omega, by simp; omega, s.le (by omega), fx5⟩) ?_ ?_
  · intro j _ h6 hj p
    rw [hI] at p
    obtain ⟨v, o5, o7, rfl, v0, v1, s, fx⟩ := p
    refine ⟨_, rfl, ?_⟩
    have pw : (1000 : Int) ^ (j + 1) = 1000 ^ j * 1000 := Int.pow_succ _ _
    have j3 : j = 0 ∨ j = 1 ∨ j = 2 := by omega
    have wb : v ≤ 6000000000 := by rcases j3 with rfl | rfl | rfl <;> (simp at v1; omega)
    simp (disch := walk_at "ln") [-getElem?_pos, -max_ii, -min_ii, -max_t2, -abs_i, max_iO, min_iO, max_tO, abs_iO, List.getElem?_cons_zero, List.getElem?_append_left, t__law_fraction_7]
    refine primeW s (by omega) fun p h7 hp s f7 => ?_
    have pb := PR_lt hp
    have k0 : 1 * 1 ≤ v * p := Int.mul_le_mul v0 (by omega) (by omega) (by omega)
    have k1 : v * p ≤ (6 * 1000 ^ j) * 1000 := Int.mul_le_mul v1 (by omega) (by omega) (by omega)
    try simp (disch := walk_at "ln") [-getElem?_pos, -max_ii, -min_ii, -max_t2, -abs_i, max_iO, min_iO, max_tO, abs_iO, List.getElem?_cons_zero, List.getElem?_append_left]
    rw [hI]
    exact ⟨_, _, _, rfl, by omega, by rw [pw]; omega, s.le (by omega), fx.trans f7⟩
  · intro _ h6 p
    rw [hI] at p
    obtain ⟨v, o5, o7, rfl, v0, v1, s, fx⟩ := p
    have vb : v ≤ 6000000000000 := by
      have : m = 0 ∨ m = 1 ∨ m = 2 ∨ m = 3 := by omega
      rcases this with rfl | rfl | rfl | rfl <;> (simp at v1; omega)
    have ww : w = 0 ∨ w = 1 := by omega
    rcases ww with rfl | rfl
    · simp (disch := walk_at "ln") [-getElem?_pos, -max_ii, -min_ii, -max_t2, -abs_i, max_iO, min_iO, max_tO, abs_iO, List.getElem?_cons_zero, List.getElem?_append_left, t__law_fraction_8, t__law_fraction_9]
      exact tail _ _ _ _ _ _ _ (by omega) (by omega) b0 b1 (s.le (by omega)) fx
    · simp (disch := walk_at "ln") [-getElem?_pos, -max_ii, -min_ii, -max_t2, -abs_i, max_iO, min_iO, max_tO, abs_iO, List.getElem?_cons_zero, List.getElem?_append_left, t__law_fraction_8, t__law_fraction_9]
      exact tail _ _ _ _ _ _ _ (by omega) (by omega) (by omega) (by omega) (s.le (by omega)) fx
end
end U
namespace U
open PySem PySem.Spec PyProof.Rows L2 Tb
def b__law_changed_right : Ss := (.cons (.asg (.nm 2) (.call .S "_law_take" f__law_take (.cons (.var 0) (.cons (.bi .len false (.cons (.var 1) .nil)) .nil))))
  (.cons (.asg (.tp [6, 7]) (.idx (.var 1) (.var 2)))
  (.cons (.asg (.nm 3) (.bin false .Add (.bin false .Add (.slU false (.var 1) (.var 2)) (.lst false (.cons (.tup (.cons (.var 6) (.cons (.bin false .Mod (.bin false .Add (.bin false .Add (.var 7) (.int 1)) (.call .S "_law_take" f__law_take (.cons (.var 0) (.cons (.bin false .Sub (.var 6) (.int 1)) .nil)))) (.var 6)) .nil))) .nil))) (.slL false (.var 1) (.bin false .Add (.var 2) (.int 1)))))
  (.cons (.asg (.tp [8, 9]) (.call .P "put_together" f_put_together (.cons (.var 1) .nil)))
  (.cons (.asg (.nm 4) (.call .P "nearest_whole" f_nearest_whole (.cons (.var 1) .nil)))
  (.cons (.ifs (.bop .Or (.cons (.not (.call .P "is_readings" f_is_readings (.cons (.var 3) .nil))) (.cons (.cmp .NotEq (.call .P "not_kept" f_not_kept (.cons (.tup (.cons (.var 4) (.cons (.int 1) .nil))) (.cons (.var 3) .nil))) (.lst false (.cons (.var 2) .nil))) (.cons (.cmp .Eq (.idx (.call .P "put_together" f_put_together (.cons (.var 3) .nil)) (.int 1)) (.var 9)) .nil)))) (.cons (.ret (.bl false))
  .nil) .nil)
  (.cons (.asg (.nm 5) (.call .P "put_together" f_put_together (.cons (.bin false .Add (.slU false (.var 1) (.var 2)) (.slL false (.var 1) (.bin false .Add (.var 2) (.int 1)))) .nil)))
  (.cons (.ret (.bop .And (.cons (.cmp .Eq (.var 5) (.tup (.cons (.bin false .FloorDiv (.var 8) (.var 6)) (.cons (.bin false .Mod (.var 9) (.bin false .FloorDiv (.var 8) (.var 6))) .nil)))) (.cons (.cmp .Eq (.call .P "rest_of" f_rest_of (.cons (.tup (.cons (.var 4) (.cons (.int 1) .nil))) (.cons (.var 6) .nil))) (.var 7)) .nil))))
  .nil))))))))
def f__law_changed_right : Fn := fnS cs0 10 2 b__law_changed_right
def t__law_changed_right_9 : Ss := .cons (.ret (.bop .And (.cons (.cmp .Eq (.var 5) (.tup (.cons (.bin false .FloorDiv (.var 8) (.var 6)) (.cons (.bin false .Mod (.var 9) (.bin false .FloorDiv (.var 8) (.var 6))) .nil)))) (.cons (.cmp .Eq (.call .P "rest_of" f_rest_of (.cons (.tup (.cons (.var 4) (.cons (.int 1) .nil))) (.cons (.var 6) .nil))) (.var 7)) .nil)))) .nil
def t__law_changed_right_8 : Ss := .cons (.asg (.nm 5) (.call .P "put_together" f_put_together (.cons (.bin false .Add (.slU false (.var 1) (.var 2)) (.slL false (.var 1) (.bin false .Add (.var 2) (.int 1)))) .nil))) t__law_changed_right_9
def t__law_changed_right_7 : Ss := .cons (.ret (.bl false)) .nil
def t__law_changed_right_6 : Ss := .cons (.ifs (.bop .Or (.cons (.not (.call .P "is_readings" f_is_readings (.cons (.var 3) .nil))) (.cons (.cmp .NotEq (.call .P "not_kept" f_not_kept (.cons (.tup (.cons (.var 4) (.cons (.int 1) .nil))) (.cons (.var 3) .nil))) (.lst false (.cons (.var 2) .nil))) (.cons (.cmp .Eq (.idx (.call .P "put_together" f_put_together (.cons (.var 3) .nil)) (.int 1)) (.var 9)) .nil)))) t__law_changed_right_7 .nil) t__law_changed_right_8
def t__law_changed_right_5 : Ss := .cons (.asg (.nm 4) (.call .P "nearest_whole" f_nearest_whole (.cons (.var 1) .nil))) t__law_changed_right_6
def t__law_changed_right_4 : Ss := .cons (.asg (.tp [8, 9]) (.call .P "put_together" f_put_together (.cons (.var 1) .nil))) t__law_changed_right_5
def t__law_changed_right_3 : Ss := .cons (.asg (.nm 3) (.bin false .Add (.bin false .Add (.slU false (.var 1) (.var 2)) (.lst false (.cons (.tup (.cons (.var 6) (.cons (.bin false .Mod (.bin false .Add (.bin false .Add (.var 7) (.int 1)) (.call .S "_law_take" f__law_take (.cons (.var 0) (.cons (.bin false .Sub (.var 6) (.int 1)) .nil)))) (.var 6)) .nil))) .nil))) (.slL false (.var 1) (.bin false .Add (.var 2) (.int 1))))) t__law_changed_right_4
def t__law_changed_right_2 : Ss := .cons (.asg (.tp [6, 7]) (.idx (.var 1) (.var 2))) t__law_changed_right_3
def t__law_changed_right_1 : Ss := .cons (.asg (.nm 2) (.call .S "_law_take" f__law_take (.cons (.var 0) (.cons (.bi .len false (.cons (.var 1) .nil)) .nil)))) t__law_changed_right_2
theorem u__law_changed_right : b__law_changed_right = t__law_changed_right_1 := rfl
/-- pool, readings, at, other, near, less, p, rest, m, w -/
theorem w__law_changed_right {x0 x1 : D} {h : Hh} {Q : D → Hh → Prop} (w : WS (evSs cs0 t__law_changed_right_1 [some x0, some x1, none, none, none, none, none, none, none, none] h) (fun _ h1 => Q .non h1) Q no2 no2) : W (f__law_changed_right [x0, x1] h) Q := by
  rw [← u__law_changed_right] at w
  exact w_fnS2 (C := cs0) (n := 10) (np := 2) (b := b__law_changed_right) rfl rfl w
theorem r__law_changed_right {x0 x1 : D} {h : Hh} : f__law_changed_right [x0, x1] h = endR (evSs cs0 t__law_changed_right_1 [some x0, some x1, none, none, none, none, none, none, none, none] h) := by
  rw [← u__law_changed_right]
  exact fnS_run2 (C := cs0) (n := 10) (np := 2) (b := b__law_changed_right) rfl rfl
/-! one rest otherwise -/
variable {i : Nat} {h : Hh} {T : Int}
theorem changedW {rs : List (Int × Int)} {Q : D → Hh → Prop} (s : PlA i h T) (hT : T < 800000) (r : Rd rs) (hl : rs.length ≤ 10) (n0 : rs ≠ []) (k : ∀ h', PlA i h' (T + 2) → Fx i h h' → Q (.bl true) h') : W (f__law_changed_right [.cel i, .lst (rs.map pd)] h) Q := by
  refine w__law_changed_right ?_
  have l0 : 0 < rs.length := List.length_pos_iff.mpr n0
  simp (disch := walk_at "ln") [-getElem?_pos, -max_ii, -min_ii, -max_t2, -abs_i, max_iO, min_iO, max_tO, abs_iO, List.getElem?_cons_zero, List.getElem?_append_left, t__law_changed_right_1]
  refine takeW (many := (rs.length : Int)) s (by omega) (by omega) (by omega) fun a h1 a0 a1 s1 f1 => ?_
  obtain ⟨j, rfl⟩ : ∃ j : Nat, a = j := ⟨a.toNat, by omega⟩
  have hj : j < rs.length := by omega
  obtain ⟨⟨p, x⟩, e⟩ : ∃ q, rs[j]? = some q := ⟨rs[j], List.getElem?_eq_getElem hj⟩
  have er : rs = rs.take j ++ [(p, x)] ++ rs.drop (j + 1) := by
    obtain ⟨hj', e'⟩ := List.getElem?_eq_some_iff.mp e
    rw [← e', List.take_append_getElem hj, List.take_append_drop]
  have pm : (p, x) ∈ rs := List.mem_of_getElem? e
  obtain ⟨pp, x0, x1⟩ := r.2 _ pm
  simp only at pp x0 x1
  have pb := PR_lt pp
  have at1 : atI (rs.map pd) (j : Int) = some (.tup [.int p, .int x]) := by
    rw [atI_pos (by omega), List.getElem?_map, Int.toNat_natCast, e]; rfl
  simp (disch := walk_at "ln") [-getElem?_pos, -max_ii, -min_ii, -max_t2, -abs_i, max_iO, min_iO, max_tO, abs_iO, List.getElem?_cons_zero, List.getElem?_append_left, t__law_changed_right_2, at1]
  simp (disch := walk_at "ln") [-getElem?_pos, -max_ii, -min_ii, -max_t2, -abs_i, max_iO, min_iO, max_tO, abs_iO, List.getElem?_cons_zero, List.getElem?_append_left, t__law_changed_right_3]
  refine takeW (many := p - 1) s1 (by omega) (by omega) (by omega) fun b h2 b0 b1 s2 f2 => ?_
  have y0 : 0 ≤ (x + 1 + b) % p := Int.emod_nonneg _ (by omega)
  have y1 : (x + 1 + b) % p < p := Int.emod_lt_of_pos _ (by omega)
  have yx : (x + 1 + b) % p ≠ x := fun z => by
    by_cases q : x + 1 + b < p
    · rw [Int.emod_eq_of_lt (by omega) q] at z; omega
    · have e : (x + 1 + b) % p = x + 1 + b - p := by
        rw [← Int.sub_emod_right, Int.emod_eq_of_lt (by omega) (by omega)]
      rw [e] at z; omega
  have p0 : 0 < p := by omega
  simp (disch := walk_at "ln") [-getElem?_pos, -max_ii, -min_ii, -max_t2, -abs_i, max_iO, min_iO, max_tO, abs_iO, List.getElem?_cons_zero, List.getElem?_append_left, p0]
  generalize (x + 1 + b) % p = y at *
  obtain ⟨A, hA⟩ : ∃ A, A = rs.take j := ⟨_, rfl⟩
  obtain ⟨B, hB⟩ : ∃ B, B = rs.drop (j + 1) := ⟨_, rfl⟩
  have lA : A.length = j := by rw [hA, List.length_take]; omega
  have eo : List.take j (List.map pd rs) ++ D.tup [D.int p, .int y] :: List.drop (j + 1) (List.map pd rs) = (A ++ [(p, y)] ++ B).map pd := by
    rw [hA, hB, ← List.map_take, ← List.map_drop]; simp; rfl
  have el : List.take j (List.map pd rs) ++ List.drop (j + 1) (List.map pd rs) = (A ++ B).map pd := by
    rw [hA, hB, ← List.map_take, ← List.map_drop, List.map_append]
  rw [← hA, ← hB] at er
  rw [eo]
  have r' := r
  rw [er] at r'
  have ro := r'.put y0 y1
  have rl : Rd (A ++ B) := r.sub (by rw [er]; simp)
  have lo : (A ++ [(p, y)] ++ B).length = rs.length := by rw [er]; simp
  have ll : (A ++ B).length ≤ 10 := by have := congrArg List.length er; simp at this ⊢; omega
  obtain ⟨w, e1, hw⟩ := put_ok14 r hl
  obtain ⟨v, e2, hv⟩ := put_ok14 ro (by omega)
  obtain ⟨u, e3, hu⟩ := put_ok14 rl ll
  have ne := near_ok14 (h := h2) r hl hw
  have hw' := hw
  rw [er] at hw'
  have vw := hw'.ne hv yx
  obtain ⟨q1, q2⟩ := prodF_out r'
  have up := Has.part r (gs := A ++ B) (by rw [er]; simp) hw hu (by rw [er]; exact q2)
  rw [← er] at q1
  have m1 := prodF_small r hl
  have m0 := prodF_pos r
  have mo := prodF_put (rs := A) (gs := B) (p := p) (r := x) (x := y)
  rw [← er] at mo
  rw [mo] at e2
  obtain ⟨n0, n1⟩ := nr_small hw.1 hw.2.1 m1
  have nm := fun q (hq : q ∈ rs) => nr_mod hw hq
  have kf := fr_one n0 n1
  have ir := readingsO_ok (h := h2) ro.so (by simpa using (show (A ++ [(p, y)] ++ B).length ≤ 10 by omega))
  have nk := not_kept_ok (h := h2) kf ro.so (by simpa using (show (A ++ [(p, y)] ++ B).length ≤ 10 by omega))
  rw [NK_one r' (by rw [← er]; exact nm) y0 y1 yx, ← pd_pq, lA] at nk
  rw [← pd_pq] at ir
  have nk : callM .P f_not_kept [.tup [.int (nr (prodF rs) w), .int 1], .lst ((A ++ [(p, y)] ++ B).map pd)] h2 = .ok (.lst [.int (j : Nat)]) h2 := nk
  have rf := rest_of_ok (h := h2) kf pp
  rw [show rO (nr (prodF rs) w, (1 : Int)).1 (nr (prodF rs) w, (1 : Int)).2 p = some x by rw [rO_whole pp, nm _ pm]] at rf
  have rf : callM .P f_rest_of [.tup [.int (nr (prodF rs) w), .int 1], .int p] h2 = .ok (.int x) h2 := rf
  have e1 := e1 h2
  have e2 := e2 h2
  have e3 := e3 h2
  have k2 := k h2 (s2.le (by omega)) (f1.trans f2)
  rw [← el] at e3
  have sf := (self_eq (h := h2) (v := .lst [.int (j : Nat)]) (n := 2) rfl (by omega)).2
  have sf2 := (self_eq (h := h2) (v := .tup [.int (prodF (A ++ B)), .int (w % prodF (A ++ B))]) (n := 2) rfl (by omega)).1
  have l0 := prodF_pos rl
  rw [← up] at e3
  generalize nr (prodF rs) w = n at *
  generalize (A ++ [(p, y)] ++ B).map pd = G2 at *
  generalize prodF (A ++ B) = N at *
  generalize prodF rs = M at *
  clear eo el er lo ll mo r' hw' hv hu hw up
  simp (disch := walk_at "ln") [-getElem?_pos, -max_ii, -min_ii, -max_t2, -abs_i, max_iO, min_iO, max_tO, abs_iO, List.getElem?_cons_zero, List.getElem?_append_left, t__law_changed_right_4, e1]
  simp (disch := walk_at "ln") [-getElem?_pos, -max_ii, -min_ii, -max_t2, -abs_i, max_iO, min_iO, max_tO, abs_iO, List.getElem?_cons_zero, List.getElem?_append_left, t__law_changed_right_5, ne]
  simp (disch := walk_at "ln") [-getElem?_pos, -max_ii, -min_ii, -max_t2, -abs_i, max_iO, min_iO, max_tO, abs_iO, List.getElem?_cons_zero, List.getElem?_append_left, t__law_changed_right_6, ir, nk, sf, e2, vw]
  simp (disch := walk_at "ln") [-getElem?_pos, -max_ii, -min_ii, -max_t2, -abs_i, max_iO, min_iO, max_tO, abs_iO, List.getElem?_cons_zero, List.getElem?_append_left, t__law_changed_right_8, e3]
  simp (disch := walk_at "ln") [-getElem?_pos, -max_ii, -min_ii, -max_t2, -abs_i, max_iO, min_iO, max_tO, abs_iO, List.getElem?_cons_zero, List.getElem?_append_left, t__law_changed_right_9, p0, q1, l0, sf2, rf]
  exact k2
end U
namespace U
open PySem PySem.Spec PyProof.Rows L2 Tb
def b__law_unlike : Ss := (.cons (.asg (.nm 3) (.idx (.lst false (.cons (.slU true (.var 1) (.int 16)) (.cons (.bi .list true (.cons (.var 1) .nil)) (.cons (.slL true (.var 1) (.int 152)) .nil)))) (.call .S "_law_take" f__law_take (.cons (.var 0) (.cons (.int 3) .nil)))))
  (.cons (.ret (.comp false [4] (.nm 4) (.rng (.cons (.var 2) .nil)) .nil (.me .pop false (.var 3) (.cons (.call .S "_law_take" f__law_take (.cons (.var 0) (.cons (.bi .len false (.cons (.var 3) .nil)) .nil))) .nil))))
  .nil))
def f__law_unlike : Fn := fnS cs0 5 3 b__law_unlike
def t__law_unlike_2 : Ss := .cons (.ret (.comp false [4] (.nm 4) (.rng (.cons (.var 2) .nil)) .nil (.me .pop false (.var 3) (.cons (.call .S "_law_take" f__law_take (.cons (.var 0) (.cons (.bi .len false (.cons (.var 3) .nil)) .nil))) .nil)))) .nil
def t__law_unlike_1 : Ss := .cons (.asg (.nm 3) (.idx (.lst false (.cons (.slU true (.var 1) (.int 16)) (.cons (.bi .list true (.cons (.var 1) .nil)) (.cons (.slL true (.var 1) (.int 152)) .nil)))) (.call .S "_law_take" f__law_take (.cons (.var 0) (.cons (.int 3) .nil))))) t__law_unlike_2
theorem u__law_unlike : b__law_unlike = t__law_unlike_1 := rfl
/-- pool, primes, many, left, turn -/
theorem w__law_unlike {x0 x1 x2 : D} {h : Hh} {Q : D → Hh → Prop} (w : WS (evSs cs0 t__law_unlike_1 [some x0, some x1, some x2, none, none] h) (fun _ h1 => Q .non h1) Q no2 no2) : W (f__law_unlike [x0, x1, x2] h) Q := by
  rw [← u__law_unlike] at w
  exact w_fnS2 (C := cs0) (n := 5) (np := 3) (b := b__law_unlike) rfl rfl w
theorem r__law_unlike {x0 x1 x2 : D} {h : Hh} : f__law_unlike [x0, x1, x2] h = endR (evSs cs0 t__law_unlike_1 [some x0, some x1, some x2, none, none] h) := by
  rw [← u__law_unlike]
  exact fnS_run2 (C := cs0) (n := 5) (np := 3) (b := b__law_unlike) rfl rfl
/-! unlike primes -/
/-! readings, drawn and spoilt -/
theorem PlA.app {i : Nat} {h g : Hh} {T : Int} (s : PlA i h T) : PlA i (h ++ g) T := by
  have := s.lt
  obtain ⟨c, f', t, e, a, b⟩ := s
  exact ⟨c, f', t, by rw [List.getElem?_append_left this]; exact e, a, b⟩
theorem PlA.oth {i j : Nat} {h : Hh} {o : O} {T : Int} (s : PlA i h T) (q : i ≠ j) : PlA i (h.set j o) T := by
  obtain ⟨c, f', t, e, a, b⟩ := s
  exact ⟨c, f', t, by rw [List.getElem?_set_ne (Ne.symm q)]; exact e, a, b⟩
theorem er_perm {α : Type} : ∀ (l : List α) (i : Nat) (h : i < l.length), (l[i] :: l.eraseIdx i).Perm l
  | [], i, h => absurd h (Nat.not_lt_zero _)
  | a :: l, 0, h => by simp
  | a :: l, i + 1, h => by
    have q : i < l.length := by simpa using h
    exact (List.Perm.swap a l[i] _).trans ((er_perm l i q).cons a)
theorem er_map {α β : Type} (f : α → β) : ∀ (l : List α) (i : Nat), (l.map f).eraseIdx i = (l.eraseIdx i).map f
  | [], i => by simp
  | a :: l, 0 => by simp
  | a :: l, i + 1 => by simp [er_map f l i]
theorem unlikeW {i : Nat} {h : Hh} {T : Int} {m : Nat} {Q : D → Hh → Prop} (s : PlA i h T) (hT : T < 800000) (hm : m ≤ 10) (k : ∀ (ps : List Int) h', ps.length = m → ps.Nodup → (∀ p ∈ ps, p ∈ PR) → PlA i h' (T + 20) → Fx i h h' → Q (.lst (ps.map .int)) h') : W (f__law_unlike [.cel i, .lst (PR.map .int), .int (m : Nat)] h) Q := by
  refine w__law_unlike ?_
  have hi := s.lt
  have go : ∀ (c : Nat) (L0 : List Int) (h1 : Hh) (o : Option D), h.length ≤ c → h1[c]? = some (.lst (L0.map .int)) → 10 ≤ L0.length → L0.length ≤ 168 → L0.Nodup → (∀ p ∈ L0, p ∈ PR) → PlA i h1 (T + 1) → Fx i h h1 → WS (evSs cs0 t__law_unlike_2 [some (.cel i), some (.lst (PR.map .int)), some (.int (m : Nat)), some (.cel c), o] h1) (fun _ h1 => Q .non h1) Q no2 no2 := by
    intro c L0 h1 o hc e l0 l1 nd al s f
    generalize PR.map D.int = PP at *
    simp (disch := walk_at "ln") [-getElem?_pos, -max_ii, -min_ii, -max_t2, -abs_i, max_iO, min_iO, max_tO, abs_iO, List.getElem?_cons_zero, List.getElem?_append_left, t__law_unlike_2, wipeL]
    obtain ⟨I, hI⟩ := opq fun (j : Nat) (a : List D) (h' : Hh) => ∃ L ps : List Int, a = ps.map D.int ∧ ps.length = j ∧ L.length + j = L0.length ∧ (L ++ ps).Perm L0 ∧ h'[c]? = some (.lst (L.map .int)) ∧ PlA i h' (T + 1 + j) ∧ Fx i h h'
    refine w_comp_rng0 I (by simp; omega) (by rw [hI]; exact ⟨L0, [], rfl, rfl, rfl, by simp, e, s.le (by omega), f⟩) ?_ ?_
    · intro j a h2 hj p
      rw [hI] at p
      obtain ⟨L, ps, rfl, hp, hl, pm, e, s, f⟩ := p
      refine ⟨_, rfl, ?_⟩
      simp only [ev_t0, W_ok, true_implies, reduceCtorEq, false_implies, and_true]
      simp (disch := walk_at "ln") [-getElem?_pos, -max_ii, -min_ii, -max_t2, -abs_i, max_iO, min_iO, max_tO, abs_iO, List.getElem?_cons_zero, List.getElem?_append_left, e]
      refine takeW s (by omega) (by omega) (by omega) fun r h3 r0 r1 s f2 => ?_
      have e := f2.at e (by omega)
      have xl : r.toNat < L.length := by omega
      have pk := popK_s (xs := L.map D.int) (k := r) (d := .int L[r.toNat]) (i := c) (h := h3) r0 (by simp [xl])
      simp (disch := walk_at "ln") [-getElem?_pos, -max_ii, -min_ii, -max_t2, -abs_i, max_iO, min_iO, max_tO, abs_iO, List.getElem?_cons_zero, List.getElem?_append_left, e, pk]
      rw [hI]
      have pe := er_perm L _ xl
      generalize L[r.toNat] = x at *
      have le := List.length_eraseIdx_of_lt xl
      refine ⟨L.eraseIdx r.toNat, ps ++ [x], by simp, by simp; omega, by omega, ?_, ?_, (s.le (by omega)).oth (by omega), (f.trans f2).new (by omega)⟩
      · refine List.Perm.trans ?_ pm
        rw [← List.append_assoc]
        refine List.perm_append_comm.trans ?_
        exact (pe.append_right ps : _)
      · rw [er_map]
        have := (List.getElem?_eq_some_iff.mp e).1
        simp [this]
    · intro a h2 p
      rw [hI] at p
      obtain ⟨L, ps, rfl, hp, hl, pm, e, s, f⟩ := p
      have nd := pm.nodup_iff.mpr nd
      exact k ps h2 (by omega) (List.nodup_append.mp nd).2.1 (fun p hp => al p (pm.mem_iff.mp (List.mem_append_right _ hp))) (s.le (by omega)) f
  have n1 : (PR.take 16).Nodup := PR_nodup.sublist (List.take_sublist _ _)
  have n3 : (PR.drop 152).Nodup := PR_nodup.sublist (List.drop_sublist _ _)
  have a1 : ∀ p ∈ PR.take 16, p ∈ PR := fun p hp => (List.take_sublist _ _).subset hp
  have a3 : ∀ p ∈ PR.drop 152, p ∈ PR := fun p hp => (List.drop_sublist _ _).subset hp
  have e1 : (PR.map D.int).take 16 = (PR.take 16).map D.int := (List.map_take ..).symm
  have e3 : (PR.map D.int).drop 152 = (PR.drop 152).map D.int := (List.map_drop ..).symm
  have n2 := PR_nodup
  have pl := PR_len
  have l1 : (PR.take 16).length = 16 := by rw [List.length_take, pl]; rfl
  have l3 : (PR.drop 152).length = 16 := by rw [List.length_drop, pl]
  have a2 : ∀ p ∈ PR, p ∈ PR := fun p hp => hp
  have g1 := fun c => go c (PR.take 16)
  have g2 := fun c => go c PR
  have g3 := fun c => go c (PR.drop 152)
  clear go
  generalize PR.take 16 = P1 at *
  generalize PR.drop 152 = P3 at *
  generalize hP : PR.map D.int = PP at *
  have el : PP.length = 168 := by rw [← hP, List.length_map, pl]
  simp (disch := walk_at "ln") [-getElem?_pos, -max_ii, -min_ii, -max_t2, -abs_i, max_iO, min_iO, max_tO, abs_iO, List.getElem?_cons_zero, List.getElem?_append_left, t__law_unlike_1, e1, e3]
  refine takeW (many := 3) (T := T) (s.app (g := [.lst (P1.map .int), .lst PP, .lst (P3.map .int)])) (by omega) (by omega) (by omega) fun r h1 r0 r1 s f1 => ?_
  have fx : Fx i h h1 := Fx.app.trans f1
  have at_ : ∀ (j : Nat) (o : O), (h ++ [.lst (P1.map .int), .lst PP, .lst (P3.map .int)])[h.length + j]? = some o → h1[h.length + j]? = some o := fun j o e => f1.at e (by omega)
  have w3 : r = 0 ∨ r = 1 ∨ r = 2 := by omega
  rcases w3 with rfl | rfl | rfl
  · try simp (disch := walk_at "ln") [-getElem?_pos, -max_ii, -min_ii, -max_t2, -abs_i, max_iO, min_iO, max_tO, abs_iO, List.getElem?_cons_zero, List.getElem?_append_left]
    exact g1 h.length h1 _ (by omega) (at_ 0 _ (by simp)) (by omega) (by omega) n1 a1 s fx
  · try simp (disch := walk_at "ln") [-getElem?_pos, -max_ii, -min_ii, -max_t2, -abs_i, max_iO, min_iO, max_tO, abs_iO, List.getElem?_cons_zero, List.getElem?_append_left]
    exact g2 (h.length + 1) h1 _ (by omega) (at_ 1 _ (by simp [hP])) (by omega) (by omega) n2 a2 s fx
  · try simp (disch := walk_at "ln") [-getElem?_pos, -max_ii, -min_ii, -max_t2, -abs_i, max_iO, min_iO, max_tO, abs_iO, List.getElem?_cons_zero, List.getElem?_append_left]
    exact g3 (h.length + 2) h1 _ (by omega) (at_ 2 _ (by simp)) (by omega) (by omega) n3 a3 s fx
end U
namespace K14
open PySem PySem.Spec PyProof.Rows L2 Tb U
def b_law : Ss := (.cons (.asg (.nm 1) (.call .P "_law_all_primes" f__law_all_primes .nil))
  (.cons (.fr (.nm 2) (.rng (.cons (.bi .max false (.cons (.int 1) (.cons (.bi .min false (.cons (.int 8) (.cons (.bi .len false (.cons (.var 0) .nil)) .nil))) .nil))) .nil)) (.cons (.asg (.nm 3) (.call .S "_law_pool" f__law_pool (.cons (.var 0) (.cons (.var 2) .nil))))
  (.cons (.asg (.nm 4) (.call .S "_law_unlike" f__law_unlike (.cons (.var 3) (.cons (.var 1) (.cons (.idx (.lst false (.cons (.call .S "_law_take" f__law_take (.cons (.var 3) (.cons (.int 11) .nil))) (.cons (.int 10) .nil))) (.call .S "_law_take" f__law_take (.cons (.var 3) (.cons (.int 2) .nil)))) .nil)))))
  (.cons (.asg (.nm 5) (.comp false [11] (.nm 11) (.seq (.var 4)) .nil (.tup (.cons (.var 11) (.cons (.idx (.lst false (.cons (.call .S "_law_take" f__law_take (.cons (.var 3) (.cons (.var 11) .nil))) (.cons (.int 0) (.cons (.bin false .Sub (.var 11) (.int 1)) .nil)))) (.call .S "_law_take" f__law_take (.cons (.var 3) (.cons (.int 3) .nil)))) .nil)))))
  (.cons (.ifs (.bop .Or (.cons (.not (.call .P "is_readings" f_is_readings (.cons (.bi .list false (.cons (.var 5) .nil)) .nil))) (.cons (.not (.call .P "_law_parts_right" f__law_parts_right (.cons (.var 5) (.cons (.call .S "_law_take" f__law_take (.cons (.var 3) (.cons (.bin false .Add (.bi .len false (.cons (.var 5) .nil)) (.int 1)) .nil))) .nil)))) .nil))) (.cons (.ret (.bl false))
  .nil) .nil)
  (.cons (.ifs (.bop .And (.cons (.cmp .NotEq (.var 5) (.lst false .nil)) (.cons (.not (.call .S "_law_changed_right" f__law_changed_right (.cons (.var 3) (.cons (.var 5) .nil)))) .nil))) (.cons (.ret (.bl false))
  .nil) .nil)
  (.cons (.asg (.nm 6) (.call .S "_law_fraction" f__law_fraction (.cons (.var 3) (.cons (.var 1) .nil))))
  (.cons (.asg (.nm 7) (.comp false [11] (.nm 11) (.seq (.var 4)) (.cons (.cmp .NotEq (.bin false .Mod (.idx (.var 6) (.int 1)) (.var 11)) (.int 0)) .nil) (.var 11)))
  (.cons (.asg (.nm 8) (.lzip (.var 7) (.call .P "rests_of" f_rests_of (.cons (.var 6) (.cons (.var 7) .nil)))))
  (.cons (.asg (.tp [9, 10]) (.call .P "put_together" f_put_together (.cons (.var 8) .nil)))
  (.cons (.ifs (.bop .Or (.cons (.cmp .NotEq (.bin false .Mod (.bin false .Sub (.bin false .Mult (.var 10) (.idx (.var 6) (.int 1))) (.idx (.var 6) (.int 0))) (.var 9)) (.int 0)) (.cons (.cmp .NotEq (.call .P "not_kept" f_not_kept (.cons (.var 6) (.cons (.var 8) .nil))) (.lst false .nil)) .nil))) (.cons (.ret (.bl false))
  .nil) .nil)
  .nil)))))))))))
  (.cons (.ret (.bl true))
  .nil)))
def f_law : Fn := fnS cs0 12 1 b_law
def t_law_16 : Ss := .cons (.ret (.bl true)) .nil
def t_law_15 : Ss := .cons (.ret (.bl false)) .nil
def t_law_14 : Ss := .cons (.ifs (.bop .Or (.cons (.cmp .NotEq (.bin false .Mod (.bin false .Sub (.bin false .Mult (.var 10) (.idx (.var 6) (.int 1))) (.idx (.var 6) (.int 0))) (.var 9)) (.int 0)) (.cons (.cmp .NotEq (.call .P "not_kept" f_not_kept (.cons (.var 6) (.cons (.var 8) .nil))) (.lst false .nil)) .nil))) t_law_15 .nil) .nil
def t_law_13 : Ss := .cons (.asg (.tp [9, 10]) (.call .P "put_together" f_put_together (.cons (.var 8) .nil))) t_law_14
def t_law_12 : Ss := .cons (.asg (.nm 8) (.lzip (.var 7) (.call .P "rests_of" f_rests_of (.cons (.var 6) (.cons (.var 7) .nil))))) t_law_13
def t_law_11 : Ss := .cons (.asg (.nm 7) (.comp false [11] (.nm 11) (.seq (.var 4)) (.cons (.cmp .NotEq (.bin false .Mod (.idx (.var 6) (.int 1)) (.var 11)) (.int 0)) .nil) (.var 11))) t_law_12
def t_law_10 : Ss := .cons (.asg (.nm 6) (.call .S "_law_fraction" f__law_fraction (.cons (.var 3) (.cons (.var 1) .nil)))) t_law_11
def t_law_9 : Ss := .cons (.ret (.bl false)) .nil
def t_law_8 : Ss := .cons (.ifs (.bop .And (.cons (.cmp .NotEq (.var 5) (.lst false .nil)) (.cons (.not (.call .S "_law_changed_right" f__law_changed_right (.cons (.var 3) (.cons (.var 5) .nil)))) .nil))) t_law_9 .nil) t_law_10
def t_law_7 : Ss := .cons (.ret (.bl false)) .nil
def t_law_6 : Ss := .cons (.ifs (.bop .Or (.cons (.not (.call .P "is_readings" f_is_readings (.cons (.bi .list false (.cons (.var 5) .nil)) .nil))) (.cons (.not (.call .P "_law_parts_right" f__law_parts_right (.cons (.var 5) (.cons (.call .S "_law_take" f__law_take (.cons (.var 3) (.cons (.bin false .Add (.bi .len false (.cons (.var 5) .nil)) (.int 1)) .nil))) .nil)))) .nil))) t_law_7 .nil) t_law_8
def t_law_5 : Ss := .cons (.asg (.nm 5) (.comp false [11] (.nm 11) (.seq (.var 4)) .nil (.tup (.cons (.var 11) (.cons (.idx (.lst false (.cons (.call .S "_law_take" f__law_take (.cons (.var 3) (.cons (.var 11) .nil))) (.cons (.int 0) (.cons (.bin false .Sub (.var 11) (.int 1)) .nil)))) (.call .S "_law_take" f__law_take (.cons (.var 3) (.cons (.int 3) .nil)))) .nil))))) t_law_6
def t_law_4 : Ss := .cons (.asg (.nm 4) (.call .S "_law_unlike" f__law_unlike (.cons (.var 3) (.cons (.var 1) (.cons (.idx (.lst false (.cons (.call .S "_law_take" f__law_take (.cons (.var 3) (.cons (.int 11) .nil))) (.cons (.int 10) .nil))) (.call .S "_law_take" f__law_take (.cons (.var 3) (.cons (.int 2) .nil)))) .nil))))) t_law_5
def t_law_3 : Ss := .cons (.asg (.nm 3) (.call .S "_law_pool" f__law_pool (.cons (.var 0) (.cons (.var 2) .nil)))) t_law_4
def t_law_2 : Ss := .cons (.fr (.nm 2) (.rng (.cons (.bi .max false (.cons (.int 1) (.cons (.bi .min false (.cons (.int 8) (.cons (.bi .len false (.cons (.var 0) .nil)) .nil))) .nil))) .nil)) t_law_3) t_law_16
def t_law_1 : Ss := .cons (.asg (.nm 1) (.call .P "_law_all_primes" f__law_all_primes .nil)) t_law_2
theorem u_law : b_law = t_law_1 := rfl
/-- script, primes, k, pool, some, readings, f, by, own, m, w, p -/
theorem w_law {x0 : D} {h : Hh} {Q : D → Hh → Prop} (w : WS (evSs cs0 t_law_1 [some x0, none, none, none, none, none, none, none, none, none, none, none] h) (fun _ h1 => Q .non h1) Q no2 no2) : W (f_law [x0] h) Q := by
  rw [← u_law] at w
  exact w_fnS2 (C := cs0) (n := 12) (np := 1) (b := b_law) rfl rfl w
theorem r_law {x0 : D} {h : Hh} : f_law [x0] h = endR (evSs cs0 t_law_1 [some x0, none, none, none, none, none, none, none, none, none, none, none] h) := by
  rw [← u_law]
  exact fnS_run2 (C := cs0) (n := 12) (np := 1) (b := b_law) rfl rfl
theorem sc__law_all_primes : FnScope ["p", "d"] [] (defScope (top 32)) := ⟨rfl, rfl, rfl, by decide +kernel, rfl, by decide +kernel, by decide +kernel⟩
theorem ok__law_all_primes : okSs ⟨["p", "d"], defScope (top 32), fun _ => true⟩ b__law_all_primes (defBody (top 32)) = true := by decide +kernel
theorem ask__law_all_primes {R : Str → Fn → Nat → Prop} {G : Str → D → Prop} {V : Str → Str → Option (Fn × Nat) → Prop} {Q : Bool → Str → Prop} : AskSs R G V Q b__law_all_primes := by
  unfold b__law_all_primes
  repeat' first | assumption | exact True.intro | refine ⟨?_, ?_⟩
theorem sc__law_pool : FnScope ["script", "k", "cell"] ["script", "k"] (defScope (top 28)) := ⟨rfl, rfl, rfl, by decide +kernel, rfl, by decide +kernel, by decide +kernel⟩
theorem ok__law_pool : okSs ⟨["script", "k", "cell"], defScope (top 28), fun _ => true⟩ b__law_pool (defBody (top 28)) = true := by decide +kernel
theorem ask__law_pool {R : Str → Fn → Nat → Prop} {G : Str → D → Prop} {V : Str → Str → Option (Fn × Nat) → Prop} {Q : Bool → Str → Prop} : AskSs R G V Q b__law_pool := by
  unfold b__law_pool
  repeat' first | assumption | exact True.intro | refine ⟨?_, ?_⟩
theorem sc__law_take : FnScope ["pool", "many", "step", "mark", "found"] ["pool", "many"] (defScope (top 29)) := ⟨rfl, rfl, rfl, by decide +kernel, rfl, by decide +kernel, by decide +kernel⟩
theorem ok__law_take : okSs ⟨["pool", "many", "step", "mark", "found"], defScope (top 29), fun _ => true⟩ b__law_take (defBody (top 29)) = true := by decide +kernel
theorem ask__law_take {R : Str → Fn → Nat → Prop} {G : Str → D → Prop} {V : Str → Str → Option (Fn × Nat) → Prop} {Q : Bool → Str → Prop} : AskSs R G V Q b__law_take := by
  unfold b__law_take
  repeat' first | assumption | exact True.intro | refine ⟨?_, ?_⟩
theorem sc__law_unlike : FnScope ["pool", "primes", "many", "left", "turn"] ["pool", "primes", "many"] (defScope (top 36)) := ⟨rfl, rfl, rfl, by decide +kernel, rfl, by decide +kernel, by decide +kernel⟩
theorem ok__law_unlike : okSs ⟨["pool", "primes", "many", "left", "turn"], defScope (top 36), fun _ => true⟩ b__law_unlike (defBody (top 36)) = true := by decide +kernel
theorem ask__law_unlike {R : Str → Fn → Nat → Prop} {G : Str → D → Prop} {V : Str → Str → Option (Fn × Nat) → Prop} {Q : Bool → Str → Prop} (h__law_take : R "_law_take" f__law_take 2) : AskSs R G V Q b__law_unlike := by
  unfold b__law_unlike
  repeat' first | assumption | exact True.intro | refine ⟨?_, ?_⟩
theorem sc__law_far : FnScope ["pool", "turns", "found", "turn"] ["pool", "turns"] (defScope (top 30)) := ⟨rfl, rfl, rfl, by decide +kernel, rfl, by decide +kernel, by decide +kernel⟩
theorem ok__law_far : okSs ⟨["pool", "turns", "found", "turn"], defScope (top 30), fun _ => true⟩ b__law_far (defBody (top 30)) = true := by decide +kernel
theorem ask__law_far {R : Str → Fn → Nat → Prop} {G : Str → D → Prop} {V : Str → Str → Option (Fn × Nat) → Prop} {Q : Bool → Str → Prop} (h__law_take : R "_law_take" f__law_take 2) : AskSs R G V Q b__law_far := by
  unfold b__law_far
  repeat' first | assumption | exact True.intro | refine ⟨?_, ?_⟩
theorem sc__law_number : FnScope ["pool", "way"] ["pool"] (defScope (top 31)) := ⟨rfl, rfl, rfl, by decide +kernel, rfl, by decide +kernel, by decide +kernel⟩
theorem ok__law_number : okSs ⟨["pool", "way"], defScope (top 31), fun _ => true⟩ b__law_number (defBody (top 31)) = true := by decide +kernel
theorem ask__law_number {R : Str → Fn → Nat → Prop} {G : Str → D → Prop} {V : Str → Str → Option (Fn × Nat) → Prop} {Q : Bool → Str → Prop} (h__law_take : R "_law_take" f__law_take 2) (h__law_far : R "_law_far" f__law_far 2) : AskSs R G V Q b__law_number := by
  unfold b__law_number
  repeat' first | assumption | exact True.intro | refine ⟨?_, ?_⟩
theorem sc__law_shared : FnScope ["one", "other"] ["one", "other"] (defScope (top 34)) := ⟨rfl, rfl, rfl, by decide +kernel, rfl, by decide +kernel, by decide +kernel⟩
theorem ok__law_shared : okSs ⟨["one", "other"], defScope (top 34), fun _ => true⟩ b__law_shared (defBody (top 34)) = true := by decide +kernel
theorem ask__law_shared {R : Str → Fn → Nat → Prop} {G : Str → D → Prop} {V : Str → Str → Option (Fn × Nat) → Prop} {Q : Bool → Str → Prop} : AskSs R G V Q b__law_shared := by
  unfold b__law_shared
  repeat' first | assumption | exact True.intro | refine ⟨?_, ?_⟩
theorem sc__law_prime : FnScope ["pool", "primes", "way"] ["pool", "primes"] (defScope (top 33)) := ⟨rfl, rfl, rfl, by decide +kernel, rfl, by decide +kernel, by decide +kernel⟩
theorem ok__law_prime : okSs ⟨["pool", "primes", "way"], defScope (top 33), fun _ => true⟩ b__law_prime (defBody (top 33)) = true := by decide +kernel
theorem ask__law_prime {R : Str → Fn → Nat → Prop} {G : Str → D → Prop} {V : Str → Str → Option (Fn × Nat) → Prop} {Q : Bool → Str → Prop} (h__law_take : R "_law_take" f__law_take 2) : AskSs R G V Q b__law_prime := by
  unfold b__law_prime
  repeat' first | assumption | exact True.intro | refine ⟨?_, ?_⟩
theorem sc__law_fraction : FnScope ["pool", "primes", "top", "bottom", "way", "part", "some", "turn"] ["pool", "primes"] (defScope (top 35)) := ⟨rfl, rfl, rfl, by decide +kernel, rfl, by decide +kernel, by decide +kernel⟩
theorem ok__law_fraction : okSs ⟨["pool", "primes", "top", "bottom", "way", "part", "some", "turn"], defScope (top 35), fun _ => true⟩ b__law_fraction (defBody (top 35)) = true := by decide +kernel
theorem ask__law_fraction {R : Str → Fn → Nat → Prop} {G : Str → D → Prop} {V : Str → Str → Option (Fn × Nat) → Prop} {Q : Bool → Str → Prop} (h__law_number : R "_law_number" f__law_number 1) (h__law_take : R "_law_take" f__law_take 2) (h__law_shared : R "_law_shared" f__law_shared 2) (h__law_prime : R "_law_prime" f__law_prime 2) : AskSs R G V Q b__law_fraction := by
  unfold b__law_fraction
  repeat' first | assumption | exact True.intro | refine ⟨?_, ?_⟩
theorem sc_is_whole : FnScope ["thing"] ["thing"] (defScope (top 8)) := ⟨rfl, rfl, rfl, by decide +kernel, rfl, by decide +kernel, by decide +kernel⟩
theorem ok_is_whole : okSs ⟨["thing"], defScope (top 8), fun _ => true⟩ b_is_whole (defBody (top 8)) = true := by decide +kernel
theorem ask_is_whole {R : Str → Fn → Nat → Prop} {G : Str → D → Prop} {V : Str → Str → Option (Fn × Nat) → Prop} {Q : Bool → Str → Prop} : AskSs R G V Q b_is_whole := by
  unfold b_is_whole
  repeat' first | assumption | exact True.intro | refine ⟨?_, ?_⟩
theorem sc_is_prime : FnScope ["thing", "part"] ["thing"] (defScope (top 11)) := ⟨rfl, rfl, rfl, by decide +kernel, rfl, by decide +kernel, by decide +kernel⟩
theorem ok_is_prime : okSs ⟨["thing", "part"], defScope (top 11), fun _ => true⟩ b_is_prime (defBody (top 11)) = true := by decide +kernel
theorem ask_is_prime {R : Str → Fn → Nat → Prop} {G : Str → D → Prop} {V : Str → Str → Option (Fn × Nat) → Prop} {Q : Bool → Str → Prop} (h_is_whole : R "is_whole" f_is_whole 1) (g_PRIMES_BELOW : G "PRIMES_BELOW" (.int 1000)) : AskSs R G V Q b_is_prime := by
  unfold b_is_prime
  repeat' first | assumption | exact True.intro | refine ⟨?_, ?_⟩
theorem sc_is_reading : FnScope ["thing"] ["thing"] (defScope (top 18)) := ⟨rfl, rfl, rfl, by decide +kernel, rfl, by decide +kernel, by decide +kernel⟩
theorem ok_is_reading : okSs ⟨["thing"], defScope (top 18), fun _ => true⟩ b_is_reading (defBody (top 18)) = true := by decide +kernel
theorem ask_is_reading {R : Str → Fn → Nat → Prop} {G : Str → D → Prop} {V : Str → Str → Option (Fn × Nat) → Prop} {Q : Bool → Str → Prop} (h_is_prime : R "is_prime" f_is_prime 1) (h_is_whole : R "is_whole" f_is_whole 1) : AskSs R G V Q b_is_reading := by
  unfold b_is_reading
  repeat' first | assumption | exact True.intro | refine ⟨?_, ?_⟩
theorem sc_is_readings : FnScope ["thing", "one", "p", "rest"] ["thing"] (defScope (top 19)) := ⟨rfl, rfl, rfl, by decide +kernel, rfl, by decide +kernel, by decide +kernel⟩
theorem ok_is_readings : okSs ⟨["thing", "one", "p", "rest"], defScope (top 19), fun _ => true⟩ b_is_readings (defBody (top 19)) = true := by decide +kernel
theorem ask_is_readings {R : Str → Fn → Nat → Prop} {G : Str → D → Prop} {V : Str → Str → Option (Fn × Nat) → Prop} {Q : Bool → Str → Prop} (h_is_reading : R "is_reading" f_is_reading 1) (g_MOST_READINGS : G "MOST_READINGS" (.int 10)) : AskSs R G V Q b_is_readings := by
  unfold b_is_readings
  repeat' first | assumption | exact True.intro | refine ⟨?_, ?_⟩
theorem sc_need_readings : FnScope ["readings"] ["readings"] (defScope (top 20)) := ⟨rfl, rfl, rfl, by decide +kernel, rfl, by decide +kernel, by decide +kernel⟩
theorem ok_need_readings : okSs ⟨["readings"], defScope (top 20), fun _ => true⟩ b_need_readings (defBody (top 20)) = true := by decide +kernel
theorem ask_need_readings {R : Str → Fn → Nat → Prop} {G : Str → D → Prop} {V : Str → Str → Option (Fn × Nat) → Prop} {Q : Bool → Str → Prop} (h_is_readings : R "is_readings" f_is_readings 1) (r_NoReadings : Q false "NoReadings") : AskSs R G V Q b_need_readings := by
  unfold b_need_readings
  repeat' first | assumption | exact True.intro | refine ⟨?_, ?_⟩
theorem sc_turned_about : FnScope ["number", "m", "one", "other", "left", "right", "times"] ["number", "m"] (defScope (top 14)) := ⟨rfl, rfl, rfl, by decide +kernel, rfl, by decide +kernel, by decide +kernel⟩
theorem ok_turned_about : okSs ⟨["number", "m", "one", "other", "left", "right", "times"], defScope (top 14), fun _ => true⟩ b_turned_about (defBody (top 14)) = true := by decide +kernel
theorem ask_turned_about {R : Str → Fn → Nat → Prop} {G : Str → D → Prop} {V : Str → Str → Option (Fn × Nat) → Prop} {Q : Bool → Str → Prop} : AskSs R G V Q b_turned_about := by
  unfold b_turned_about
  repeat' first | assumption | exact True.intro | refine ⟨?_, ?_⟩
theorem sc_one_rest : FnScope ["readings", "m", "w", "p", "rest"] ["readings"] (defScope (top 24)) := ⟨rfl, rfl, rfl, by decide +kernel, rfl, by decide +kernel, by decide +kernel⟩
theorem ok_one_rest : okSs ⟨["readings", "m", "w", "p", "rest"], defScope (top 24), fun _ => true⟩ b_one_rest (defBody (top 24)) = true := by decide +kernel
theorem ask_one_rest {R : Str → Fn → Nat → Prop} {G : Str → D → Prop} {V : Str → Str → Option (Fn × Nat) → Prop} {Q : Bool → Str → Prop} (h_turned_about : R "turned_about" f_turned_about 2) : AskSs R G V Q b_one_rest := by
  unfold b_one_rest
  repeat' first | assumption | exact True.intro | refine ⟨?_, ?_⟩
theorem sc_put_together : FnScope ["readings", "p", "rest"] ["readings"] (defScope (top 25)) := ⟨rfl, rfl, rfl, by decide +kernel, rfl, by decide +kernel, by decide +kernel⟩
theorem ok_put_together : okSs ⟨["readings", "p", "rest"], defScope (top 25), fun _ => true⟩ b_put_together (defBody (top 25)) = true := by decide +kernel
theorem ask_put_together {R : Str → Fn → Nat → Prop} {G : Str → D → Prop} {V : Str → Str → Option (Fn × Nat) → Prop} {Q : Bool → Str → Prop} (h_need_readings : R "need_readings" f_need_readings 1) (h_one_rest : R "one_rest" f_one_rest 1) (r_NoReadings : Q false "NoReadings") : AskSs R G V Q b_put_together := by
  unfold b_put_together
  repeat' first | assumption | exact True.intro | refine ⟨?_, ?_⟩
theorem sc_nearest_whole : FnScope ["readings", "m", "w"] ["readings"] (defScope (top 26)) := ⟨rfl, rfl, rfl, by decide +kernel, rfl, by decide +kernel, by decide +kernel⟩
theorem ok_nearest_whole : okSs ⟨["readings", "m", "w"], defScope (top 26), fun _ => true⟩ b_nearest_whole (defBody (top 26)) = true := by decide +kernel
theorem ask_nearest_whole {R : Str → Fn → Nat → Prop} {G : Str → D → Prop} {V : Str → Str → Option (Fn × Nat) → Prop} {Q : Bool → Str → Prop} (h_put_together : R "put_together" f_put_together 1) : AskSs R G V Q b_nearest_whole := by
  unfold b_nearest_whole
  repeat' first | assumption | exact True.intro | refine ⟨?_, ?_⟩
theorem sc_shared : FnScope ["one", "other"] ["one", "other"] (defScope (top 9)) := ⟨rfl, rfl, rfl, by decide +kernel, rfl, by decide +kernel, by decide +kernel⟩
theorem ok_shared : okSs ⟨["one", "other"], defScope (top 9), fun _ => true⟩ b_shared (defBody (top 9)) = true := by decide +kernel
theorem ask_shared {R : Str → Fn → Nat → Prop} {G : Str → D → Prop} {V : Str → Str → Option (Fn × Nat) → Prop} {Q : Bool → Str → Prop} : AskSs R G V Q b_shared := by
  unfold b_shared
  repeat' first | assumption | exact True.intro | refine ⟨?_, ?_⟩
theorem sc_is_fraction : FnScope ["thing"] ["thing"] (defScope (top 10)) := ⟨rfl, rfl, rfl, by decide +kernel, rfl, by decide +kernel, by decide +kernel⟩
theorem ok_is_fraction : okSs ⟨["thing"], defScope (top 10), fun _ => true⟩ b_is_fraction (defBody (top 10)) = true := by decide +kernel
theorem ask_is_fraction {R : Str → Fn → Nat → Prop} {G : Str → D → Prop} {V : Str → Str → Option (Fn × Nat) → Prop} {Q : Bool → Str → Prop} (h_is_whole : R "is_whole" f_is_whole 1) (h_shared : R "shared" f_shared 2) : AskSs R G V Q b_is_fraction := by
  unfold b_is_fraction
  repeat' first | assumption | exact True.intro | refine ⟨?_, ?_⟩
theorem sc_need_fraction : FnScope ["f"] ["f"] (defScope (top 12)) := ⟨rfl, rfl, rfl, by decide +kernel, rfl, by decide +kernel, by decide +kernel⟩
theorem ok_need_fraction : okSs ⟨["f"], defScope (top 12), fun _ => true⟩ b_need_fraction (defBody (top 12)) = true := by decide +kernel
theorem ask_need_fraction {R : Str → Fn → Nat → Prop} {G : Str → D → Prop} {V : Str → Str → Option (Fn × Nat) → Prop} {Q : Bool → Str → Prop} (h_is_fraction : R "is_fraction" f_is_fraction 1) (r_NoFraction : Q false "NoFraction") : AskSs R G V Q b_need_fraction := by
  unfold b_need_fraction
  repeat' first | assumption | exact True.intro | refine ⟨?_, ?_⟩
theorem sc_need_prime : FnScope ["p"] ["p"] (defScope (top 13)) := ⟨rfl, rfl, rfl, by decide +kernel, rfl, by decide +kernel, by decide +kernel⟩
theorem ok_need_prime : okSs ⟨["p"], defScope (top 13), fun _ => true⟩ b_need_prime (defBody (top 13)) = true := by decide +kernel
theorem ask_need_prime {R : Str → Fn → Nat → Prop} {G : Str → D → Prop} {V : Str → Str → Option (Fn × Nat) → Prop} {Q : Bool → Str → Prop} (h_is_prime : R "is_prime" f_is_prime 1) (r_NoPrime : Q false "NoPrime") : AskSs R G V Q b_need_prime := by
  unfold b_need_prime
  repeat' first | assumption | exact True.intro | refine ⟨?_, ?_⟩
theorem sc_rest_by : FnScope ["f", "p"] ["f", "p"] (defScope (top 15)) := ⟨rfl, rfl, rfl, by decide +kernel, rfl, by decide +kernel, by decide +kernel⟩
theorem ok_rest_by : okSs ⟨["f", "p"], defScope (top 15), fun _ => true⟩ b_rest_by (defBody (top 15)) = true := by decide +kernel
theorem ask_rest_by {R : Str → Fn → Nat → Prop} {G : Str → D → Prop} {V : Str → Str → Option (Fn × Nat) → Prop} {Q : Bool → Str → Prop} (h_turned_about : R "turned_about" f_turned_about 2) : AskSs R G V Q b_rest_by := by
  unfold b_rest_by
  repeat' first | assumption | exact True.intro | refine ⟨?_, ?_⟩
theorem sc_rests_of : FnScope ["f", "primes", "p"] ["f", "primes"] (defScope (top 17)) := ⟨rfl, rfl, rfl, by decide +kernel, rfl, by decide +kernel, by decide +kernel⟩
theorem ok_rests_of : okSs ⟨["f", "primes", "p"], defScope (top 17), fun _ => true⟩ b_rests_of (defBody (top 17)) = true := by decide +kernel
theorem ask_rests_of {R : Str → Fn → Nat → Prop} {G : Str → D → Prop} {V : Str → Str → Option (Fn × Nat) → Prop} {Q : Bool → Str → Prop} (h_need_fraction : R "need_fraction" f_need_fraction 1) (h_need_prime : R "need_prime" f_need_prime 1) (h_rest_by : R "rest_by" f_rest_by 2) (r_NoPrime : Q false "NoPrime") : AskSs R G V Q b_rests_of := by
  unfold b_rests_of
  repeat' first | assumption | exact True.intro | refine ⟨?_, ?_⟩
theorem sc_keeps : FnScope ["f", "reading", "p", "rest"] ["f", "reading"] (defScope (top 21)) := ⟨rfl, rfl, rfl, by decide +kernel, rfl, by decide +kernel, by decide +kernel⟩
theorem ok_keeps : okSs ⟨["f", "reading", "p", "rest"], defScope (top 21), fun _ => true⟩ b_keeps (defBody (top 21)) = true := by decide +kernel
theorem ask_keeps {R : Str → Fn → Nat → Prop} {G : Str → D → Prop} {V : Str → Str → Option (Fn × Nat) → Prop} {Q : Bool → Str → Prop} : AskSs R G V Q b_keeps := by
  unfold b_keeps
  repeat' first | assumption | exact True.intro | refine ⟨?_, ?_⟩
theorem sc_not_kept : FnScope ["f", "readings", "place", "reading"] ["f", "readings"] (defScope (top 22)) := ⟨rfl, rfl, rfl, by decide +kernel, rfl, by decide +kernel, by decide +kernel⟩
theorem ok_not_kept : okSs ⟨["f", "readings", "place", "reading"], defScope (top 22), fun _ => true⟩ b_not_kept (defBody (top 22)) = true := by decide +kernel
theorem ask_not_kept {R : Str → Fn → Nat → Prop} {G : Str → D → Prop} {V : Str → Str → Option (Fn × Nat) → Prop} {Q : Bool → Str → Prop} (h_need_fraction : R "need_fraction" f_need_fraction 1) (h_need_readings : R "need_readings" f_need_readings 1) (h_keeps : R "keeps" f_keeps 2) : AskSs R G V Q b_not_kept := by
  unfold b_not_kept
  repeat' first | assumption | exact True.intro | refine ⟨?_, ?_⟩
theorem sc__law_parts_right : FnScope ["readings", "cut", "near", "below", "m", "w", "one", "left", "other", "right", "p", "rest"] ["readings", "cut"] (defScope (top 37)) := ⟨rfl, rfl, rfl, by decide +kernel, rfl, by decide +kernel, by decide +kernel⟩
theorem ok__law_parts_right : okSs ⟨["readings", "cut", "near", "below", "m", "w", "one", "left", "other", "right", "p", "rest"], defScope (top 37), fun _ => true⟩ b__law_parts_right (defBody (top 37)) = true := by decide +kernel
theorem ask__law_parts_right {R : Str → Fn → Nat → Prop} {G : Str → D → Prop} {V : Str → Str → Option (Fn × Nat) → Prop} {Q : Bool → Str → Prop} (h_put_together : R "put_together" f_put_together 1) (h_nearest_whole : R "nearest_whole" f_nearest_whole 1) (h_rests_of : R "rests_of" f_rests_of 2) (h_not_kept : R "not_kept" f_not_kept 2) : AskSs R G V Q b__law_parts_right := by
  unfold b__law_parts_right
  repeat' first | assumption | exact True.intro | refine ⟨?_, ?_⟩
theorem sc_rest_of : FnScope ["f", "p"] ["f", "p"] (defScope (top 16)) := ⟨rfl, rfl, rfl, by decide +kernel, rfl, by decide +kernel, by decide +kernel⟩
theorem ok_rest_of : okSs ⟨["f", "p"], defScope (top 16), fun _ => true⟩ b_rest_of (defBody (top 16)) = true := by decide +kernel
theorem ask_rest_of {R : Str → Fn → Nat → Prop} {G : Str → D → Prop} {V : Str → Str → Option (Fn × Nat) → Prop} {Q : Bool → Str → Prop} (h_need_fraction : R "need_fraction" f_need_fraction 1) (h_need_prime : R "need_prime" f_need_prime 1) (h_rest_by : R "rest_by" f_rest_by 2) : AskSs R G V Q b_rest_of := by
  unfold b_rest_of
  repeat' first | assumption | exact True.intro | refine ⟨?_, ?_⟩
theorem sc__law_changed_right : FnScope ["pool", "readings", "at", "other", "near", "less", "p", "rest", "m", "w"] ["pool", "readings"] (defScope (top 38)) := ⟨rfl, rfl, rfl, by decide +kernel, rfl, by decide +kernel, by decide +kernel⟩
theorem ok__law_changed_right : okSs ⟨["pool", "readings", "at", "other", "near", "less", "p", "rest", "m", "w"], defScope (top 38), fun _ => true⟩ b__law_changed_right (defBody (top 38)) = true := by decide +kernel
theorem ask__law_changed_right {R : Str → Fn → Nat → Prop} {G : Str → D → Prop} {V : Str → Str → Option (Fn × Nat) → Prop} {Q : Bool → Str → Prop} (h__law_take : R "_law_take" f__law_take 2) (h_put_together : R "put_together" f_put_together 1) (h_nearest_whole : R "nearest_whole" f_nearest_whole 1) (h_is_readings : R "is_readings" f_is_readings 1) (h_not_kept : R "not_kept" f_not_kept 2) (h_rest_of : R "rest_of" f_rest_of 2) : AskSs R G V Q b__law_changed_right := by
  unfold b__law_changed_right
  repeat' first | assumption | exact True.intro | refine ⟨?_, ?_⟩
theorem sc_law : FnScope ["script", "primes", "k", "pool", "some", "readings", "f", "by", "own", "m", "w", "p"] ["script"] (defScope (top 39)) := ⟨rfl, rfl, rfl, by decide +kernel, rfl, by decide +kernel, by decide +kernel⟩
theorem ok_law : okSs ⟨["script", "primes", "k", "pool", "some", "readings", "f", "by", "own", "m", "w", "p"], defScope (top 39), fun _ => true⟩ b_law (defBody (top 39)) = true := by decide +kernel
theorem ask_law {R : Str → Fn → Nat → Prop} {G : Str → D → Prop} {V : Str → Str → Option (Fn × Nat) → Prop} {Q : Bool → Str → Prop} (h__law_all_primes : R "_law_all_primes" f__law_all_primes 0) (h__law_pool : R "_law_pool" f__law_pool 2) (h__law_unlike : R "_law_unlike" f__law_unlike 3) (h__law_fraction : R "_law_fraction" f__law_fraction 2) (h_put_together : R "put_together" f_put_together 1) (h__law_take : R "_law_take" f__law_take 2) (h_is_readings : R "is_readings" f_is_readings 1) (h__law_parts_right : R "_law_parts_right" f__law_parts_right 2) (h__law_changed_right : R "_law_changed_right" f__law_changed_right 2) (h_rests_of : R "rests_of" f_rests_of 2) (h_not_kept : R "not_kept" f_not_kept 2) : AskSs R G V Q b_law := by
  unfold b_law
  repeat' first | assumption | exact True.intro | refine ⟨?_, ?_⟩
theorem all_ok {P : Program} {w : World} {K : PySem.W.Frag} {h : Heap} {mg : Str → Option Value} (X : K.In h) (G : h.Ns mainGlobals mg) (sy0 : (sysB K && excB K exL) = true) (c : He.SaysD faL fnL K) :
    ∃ fd, (∀ base : Heap, FnG P w K mg base 9 (He.ga K "law") fd ["script"] (spF (zn K) 1 f_law)) ∧ (∀ (s : Shared) (v : Value), BindsTo s fd ⟨[v], []⟩ [("script", v)]) ∧ mg "law" = some (.ref (He.ga K "law")) := by
  obtain ⟨sy, eb⟩ := Bool.and_eq_true_iff.mp sy0
  obtain ⟨fd__law_all_primes, F__law_all_primes⟩ := c.def_ 0 (d := d__law_all_primes) rfl
  have m__law_all_primes := He.glo_ok X G (fact_of c 0 (f := .glo "_law_all_primes") rfl)
  obtain ⟨fd__law_pool, F__law_pool⟩ := c.def_ 1 (d := d__law_pool) rfl
  have m__law_pool := He.glo_ok X G (fact_of c 1 (f := .glo "_law_pool") rfl)
  obtain ⟨fd__law_take, F__law_take⟩ := c.def_ 2 (d := d__law_take) rfl
  have m__law_take := He.glo_ok X G (fact_of c 2 (f := .glo "_law_take") rfl)
  obtain ⟨fd__law_unlike, F__law_unlike⟩ := c.def_ 3 (d := d__law_unlike) rfl
  have m__law_unlike := He.glo_ok X G (fact_of c 3 (f := .glo "_law_unlike") rfl)
  obtain ⟨fd__law_far, F__law_far⟩ := c.def_ 4 (d := d__law_far) rfl
  have m__law_far := He.glo_ok X G (fact_of c 4 (f := .glo "_law_far") rfl)
  obtain ⟨fd__law_number, F__law_number⟩ := c.def_ 5 (d := d__law_number) rfl
  have m__law_number := He.glo_ok X G (fact_of c 5 (f := .glo "_law_number") rfl)
  obtain ⟨fd__law_shared, F__law_shared⟩ := c.def_ 6 (d := d__law_shared) rfl
  have m__law_shared := He.glo_ok X G (fact_of c 6 (f := .glo "_law_shared") rfl)
  obtain ⟨fd__law_prime, F__law_prime⟩ := c.def_ 7 (d := d__law_prime) rfl
  have m__law_prime := He.glo_ok X G (fact_of c 7 (f := .glo "_law_prime") rfl)
  obtain ⟨fd__law_fraction, F__law_fraction⟩ := c.def_ 8 (d := d__law_fraction) rfl
  have m__law_fraction := He.glo_ok X G (fact_of c 8 (f := .glo "_law_fraction") rfl)
  obtain ⟨fd_is_whole, F_is_whole⟩ := c.def_ 9 (d := d_is_whole) rfl
  have m_is_whole := He.glo_ok X G (fact_of c 9 (f := .glo "is_whole") rfl)
  obtain ⟨fd_is_prime, F_is_prime⟩ := c.def_ 10 (d := d_is_prime) rfl
  have m_is_prime := He.glo_ok X G (fact_of c 10 (f := .glo "is_prime") rfl)
  obtain ⟨fd_is_reading, F_is_reading⟩ := c.def_ 11 (d := d_is_reading) rfl
  have m_is_reading := He.glo_ok X G (fact_of c 11 (f := .glo "is_reading") rfl)
  obtain ⟨fd_is_readings, F_is_readings⟩ := c.def_ 12 (d := d_is_readings) rfl
  have m_is_readings := He.glo_ok X G (fact_of c 12 (f := .glo "is_readings") rfl)
  obtain ⟨fd_need_readings, F_need_readings⟩ := c.def_ 13 (d := d_need_readings) rfl
  have m_need_readings := He.glo_ok X G (fact_of c 13 (f := .glo "need_readings") rfl)
  obtain ⟨fd_turned_about, F_turned_about⟩ := c.def_ 14 (d := d_turned_about) rfl
  have m_turned_about := He.glo_ok X G (fact_of c 14 (f := .glo "turned_about") rfl)
  obtain ⟨fd_one_rest, F_one_rest⟩ := c.def_ 15 (d := d_one_rest) rfl
  have m_one_rest := He.glo_ok X G (fact_of c 15 (f := .glo "one_rest") rfl)
  obtain ⟨fd_put_together, F_put_together⟩ := c.def_ 16 (d := d_put_together) rfl
  have m_put_together := He.glo_ok X G (fact_of c 16 (f := .glo "put_together") rfl)
  obtain ⟨fd_nearest_whole, F_nearest_whole⟩ := c.def_ 17 (d := d_nearest_whole) rfl
  have m_nearest_whole := He.glo_ok X G (fact_of c 17 (f := .glo "nearest_whole") rfl)
  obtain ⟨fd_shared, F_shared⟩ := c.def_ 18 (d := d_shared) rfl
  have m_shared := He.glo_ok X G (fact_of c 18 (f := .glo "shared") rfl)
  obtain ⟨fd_is_fraction, F_is_fraction⟩ := c.def_ 19 (d := d_is_fraction) rfl
  have m_is_fraction := He.glo_ok X G (fact_of c 19 (f := .glo "is_fraction") rfl)
  obtain ⟨fd_need_fraction, F_need_fraction⟩ := c.def_ 20 (d := d_need_fraction) rfl
  have m_need_fraction := He.glo_ok X G (fact_of c 20 (f := .glo "need_fraction") rfl)
  obtain ⟨fd_need_prime, F_need_prime⟩ := c.def_ 21 (d := d_need_prime) rfl
  have m_need_prime := He.glo_ok X G (fact_of c 21 (f := .glo "need_prime") rfl)
  obtain ⟨fd_rest_by, F_rest_by⟩ := c.def_ 22 (d := d_rest_by) rfl
  have m_rest_by := He.glo_ok X G (fact_of c 22 (f := .glo "rest_by") rfl)
  obtain ⟨fd_rests_of, F_rests_of⟩ := c.def_ 23 (d := d_rests_of) rfl
  have m_rests_of := He.glo_ok X G (fact_of c 23 (f := .glo "rests_of") rfl)
  obtain ⟨fd_keeps, F_keeps⟩ := c.def_ 24 (d := d_keeps) rfl
  have m_keeps := He.glo_ok X G (fact_of c 24 (f := .glo "keeps") rfl)
  obtain ⟨fd_not_kept, F_not_kept⟩ := c.def_ 25 (d := d_not_kept) rfl
  have m_not_kept := He.glo_ok X G (fact_of c 25 (f := .glo "not_kept") rfl)
  obtain ⟨fd__law_parts_right, F__law_parts_right⟩ := c.def_ 26 (d := d__law_parts_right) rfl
  have m__law_parts_right := He.glo_ok X G (fact_of c 26 (f := .glo "_law_parts_right") rfl)
  obtain ⟨fd_rest_of, F_rest_of⟩ := c.def_ 27 (d := d_rest_of) rfl
  have m_rest_of := He.glo_ok X G (fact_of c 27 (f := .glo "rest_of") rfl)
  obtain ⟨fd__law_changed_right, F__law_changed_right⟩ := c.def_ 28 (d := d__law_changed_right) rfl
  have m__law_changed_right := He.glo_ok X G (fact_of c 28 (f := .glo "_law_changed_right") rfl)
  obtain ⟨fd_law, F_law⟩ := c.def_ 29 (d := d_law) rfl
  have m_law := He.glo_ok X G (fact_of c 29 (f := .glo "law") rfl)
  have b := FunD.bindsA (ps := ["script"]) F_law fun _ _ _ _ _ _ us hl => match us, hl with | [_], _ => rfl
  refine ⟨fd_law, fun base => ?_, fun s v => b s [v] rfl, m_law⟩
  let M : Mz := ⟨P, w, K, mg, base⟩
  have B : Base (zn K) M := ⟨rfl, free_of X G c, sysB_ok sy⟩
  have g_PRIMES_BELOW := glo_int (M := M) (xs := exL.xs) X G (fact_of c 30 rfl)
  have g_MOST_READINGS := glo_int (M := M) (xs := exL.xs) X G (fact_of c 31 rfl)
  have r_NoReadings : RxM (zn K) M false "NoReadings" := rai_of (xs := exL.xs) (P := P) (w := w) (base := base) X G (fact_of c 32 rfl) (fact_of c 33 rfl) (by decide)
  have r_NoFraction : RxM (zn K) M false "NoFraction" := rai_of (xs := exL.xs) (P := P) (w := w) (base := base) X G (fact_of c 34 rfl) (fact_of c 35 rfl) (by decide)
  have r_NoPrime : RxM (zn K) M false "NoPrime" := rai_of (xs := exL.xs) (P := P) (w := w) (base := base) X G (fact_of c 36 rfl) (fact_of c 37 rfl) (by decide)
  have h__law_all_primes : FnM (zn K) 1 M "_law_all_primes" f__law_all_primes 0 := by
    unfold f__law_all_primes
    exact fn_def B F__law_all_primes sc__law_all_primes ok__law_all_primes (ask__law_all_primes (R := FnM (zn K) 0 M) (G := GloM (zn K) M) (V := MtM (zn K) 0 M) (Q := RxM (zn K) M) ) m__law_all_primes (FunD.bindsN (ps := []) F__law_all_primes fun _ _ _ _ _ _ us hl => match us, hl with | [], _ => rfl)
  have h__law_pool : FnM (zn K) 1 M "_law_pool" f__law_pool 2 := fn_def B F__law_pool sc__law_pool ok__law_pool (ask__law_pool (R := FnM (zn K) 0 M) (G := GloM (zn K) M) (V := MtM (zn K) 0 M) (Q := RxM (zn K) M) ) m__law_pool (FunD.bindsN (ps := ["script", "k"]) F__law_pool fun _ _ _ _ _ _ us hl => match us, hl with | [_, _], _ => rfl)
  have h__law_take : FnM (zn K) 1 M "_law_take" f__law_take 2 := fn_def B F__law_take sc__law_take ok__law_take (ask__law_take (R := FnM (zn K) 0 M) (G := GloM (zn K) M) (V := MtM (zn K) 0 M) (Q := RxM (zn K) M) ) m__law_take (FunD.bindsN (ps := ["pool", "many"]) F__law_take fun _ _ _ _ _ _ us hl => match us, hl with | [_, _], _ => rfl)
  have h__law_unlike : FnM (zn K) 2 M "_law_unlike" f__law_unlike 3 := fn_def B F__law_unlike sc__law_unlike ok__law_unlike (ask__law_unlike (R := FnM (zn K) 1 M) (G := GloM (zn K) M) (V := MtM (zn K) 1 M) (Q := RxM (zn K) M) (h__law_take.up (by decide))) m__law_unlike (FunD.bindsN (ps := ["pool", "primes", "many"]) F__law_unlike fun _ _ _ _ _ _ us hl => match us, hl with | [_, _, _], _ => rfl)
  have h__law_far : FnM (zn K) 2 M "_law_far" f__law_far 2 := fn_def B F__law_far sc__law_far ok__law_far (ask__law_far (R := FnM (zn K) 1 M) (G := GloM (zn K) M) (V := MtM (zn K) 1 M) (Q := RxM (zn K) M) (h__law_take.up (by decide))) m__law_far (FunD.bindsN (ps := ["pool", "turns"]) F__law_far fun _ _ _ _ _ _ us hl => match us, hl with | [_, _], _ => rfl)
  have h__law_number : FnM (zn K) 3 M "_law_number" f__law_number 1 := fn_def B F__law_number sc__law_number ok__law_number (ask__law_number (R := FnM (zn K) 2 M) (G := GloM (zn K) M) (V := MtM (zn K) 2 M) (Q := RxM (zn K) M) (h__law_take.up (by decide)) (h__law_far.up (by decide))) m__law_number (FunD.bindsN (ps := ["pool"]) F__law_number fun _ _ _ _ _ _ us hl => match us, hl with | [_], _ => rfl)
  have h__law_shared : FnM (zn K) 1 M "_law_shared" f__law_shared 2 := fn_def B F__law_shared sc__law_shared ok__law_shared (ask__law_shared (R := FnM (zn K) 0 M) (G := GloM (zn K) M) (V := MtM (zn K) 0 M) (Q := RxM (zn K) M) ) m__law_shared (FunD.bindsN (ps := ["one", "other"]) F__law_shared fun _ _ _ _ _ _ us hl => match us, hl with | [_, _], _ => rfl)
  have h__law_prime : FnM (zn K) 2 M "_law_prime" f__law_prime 2 := fn_def B F__law_prime sc__law_prime ok__law_prime (ask__law_prime (R := FnM (zn K) 1 M) (G := GloM (zn K) M) (V := MtM (zn K) 1 M) (Q := RxM (zn K) M) (h__law_take.up (by decide))) m__law_prime (FunD.bindsN (ps := ["pool", "primes"]) F__law_prime fun _ _ _ _ _ _ us hl => match us, hl with | [_, _], _ => rfl)
  have h__law_fraction : FnM (zn K) 4 M "_law_fraction" f__law_fraction 2 := fn_def B F__law_fraction sc__law_fraction ok__law_fraction (ask__law_fraction (R := FnM (zn K) 3 M) (G := GloM (zn K) M) (V := MtM (zn K) 3 M) (Q := RxM (zn K) M) (h__law_number.up (by decide)) (h__law_take.up (by decide)) (h__law_shared.up (by decide)) (h__law_prime.up (by decide))) m__law_fraction (FunD.bindsN (ps := ["pool", "primes"]) F__law_fraction fun _ _ _ _ _ _ us hl => match us, hl with | [_, _], _ => rfl)
  have h_is_whole : FnM (zn K) 1 M "is_whole" f_is_whole 1 := fn_def B F_is_whole sc_is_whole ok_is_whole (ask_is_whole (R := FnM (zn K) 0 M) (G := GloM (zn K) M) (V := MtM (zn K) 0 M) (Q := RxM (zn K) M) ) m_is_whole (FunD.bindsN (ps := ["thing"]) F_is_whole fun _ _ _ _ _ _ us hl => match us, hl with | [_], _ => rfl)
  have h_is_prime : FnM (zn K) 2 M "is_prime" f_is_prime 1 := fn_def B F_is_prime sc_is_prime ok_is_prime (ask_is_prime (R := FnM (zn K) 1 M) (G := GloM (zn K) M) (V := MtM (zn K) 1 M) (Q := RxM (zn K) M) (h_is_whole.up (by decide)) g_PRIMES_BELOW) m_is_prime (FunD.bindsN (ps := ["thing"]) F_is_prime fun _ _ _ _ _ _ us hl => match us, hl with | [_], _ => rfl)
  have h_is_reading : FnM (zn K) 3 M "is_reading" f_is_reading 1 := fn_def B F_is_reading sc_is_reading ok_is_reading (ask_is_reading (R := FnM (zn K) 2 M) (G := GloM (zn K) M) (V := MtM (zn K) 2 M) (Q := RxM (zn K) M) (h_is_prime.up (by decide)) (h_is_whole.up (by decide))) m_is_reading (FunD.bindsN (ps := ["thing"]) F_is_reading fun _ _ _ _ _ _ us hl => match us, hl with | [_], _ => rfl)
  have h_is_readings : FnM (zn K) 4 M "is_readings" f_is_readings 1 := fn_def B F_is_readings sc_is_readings ok_is_readings (ask_is_readings (R := FnM (zn K) 3 M) (G := GloM (zn K) M) (V := MtM (zn K) 3 M) (Q := RxM (zn K) M) (h_is_reading.up (by decide)) g_MOST_READINGS) m_is_readings (FunD.bindsN (ps := ["thing"]) F_is_readings fun _ _ _ _ _ _ us hl => match us, hl with | [_], _ => rfl)
  have h_need_readings : FnM (zn K) 5 M "need_readings" f_need_readings 1 := fn_def B F_need_readings sc_need_readings ok_need_readings (ask_need_readings (R := FnM (zn K) 4 M) (G := GloM (zn K) M) (V := MtM (zn K) 4 M) (Q := RxM (zn K) M) (h_is_readings.up (by decide)) r_NoReadings) m_need_readings (FunD.bindsN (ps := ["readings"]) F_need_readings fun _ _ _ _ _ _ us hl => match us, hl with | [_], _ => rfl)
  have h_turned_about : FnM (zn K) 1 M "turned_about" f_turned_about 2 := fn_def B F_turned_about sc_turned_about ok_turned_about (ask_turned_about (R := FnM (zn K) 0 M) (G := GloM (zn K) M) (V := MtM (zn K) 0 M) (Q := RxM (zn K) M) ) m_turned_about (FunD.bindsN (ps := ["number", "m"]) F_turned_about fun _ _ _ _ _ _ us hl => match us, hl with | [_, _], _ => rfl)
  have h_one_rest : FnM (zn K) 2 M "one_rest" f_one_rest 1 := fn_def B F_one_rest sc_one_rest ok_one_rest (ask_one_rest (R := FnM (zn K) 1 M) (G := GloM (zn K) M) (V := MtM (zn K) 1 M) (Q := RxM (zn K) M) (h_turned_about.up (by decide))) m_one_rest (FunD.bindsN (ps := ["readings"]) F_one_rest fun _ _ _ _ _ _ us hl => match us, hl with | [_], _ => rfl)
  have h_put_together : FnM (zn K) 6 M "put_together" f_put_together 1 := fn_def B F_put_together sc_put_together ok_put_together (ask_put_together (R := FnM (zn K) 5 M) (G := GloM (zn K) M) (V := MtM (zn K) 5 M) (Q := RxM (zn K) M) (h_need_readings.up (by decide)) (h_one_rest.up (by decide)) r_NoReadings) m_put_together (FunD.bindsN (ps := ["readings"]) F_put_together fun _ _ _ _ _ _ us hl => match us, hl with | [_], _ => rfl)
  have h_nearest_whole : FnM (zn K) 7 M "nearest_whole" f_nearest_whole 1 := fn_def B F_nearest_whole sc_nearest_whole ok_nearest_whole (ask_nearest_whole (R := FnM (zn K) 6 M) (G := GloM (zn K) M) (V := MtM (zn K) 6 M) (Q := RxM (zn K) M) (h_put_together.up (by decide))) m_nearest_whole (FunD.bindsN (ps := ["readings"]) F_nearest_whole fun _ _ _ _ _ _ us hl => match us, hl with | [_], _ => rfl)
  have h_shared : FnM (zn K) 1 M "shared" f_shared 2 := fn_def B F_shared sc_shared ok_shared (ask_shared (R := FnM (zn K) 0 M) (G := GloM (zn K) M) (V := MtM (zn K) 0 M) (Q := RxM (zn K) M) ) m_shared (FunD.bindsN (ps := ["one", "other"]) F_shared fun _ _ _ _ _ _ us hl => match us, hl with | [_, _], _ => rfl)
  have h_is_fraction : FnM (zn K) 2 M "is_fraction" f_is_fraction 1 := fn_def B F_is_fraction sc_is_fraction ok_is_fraction (ask_is_fraction (R := FnM (zn K) 1 M) (G := GloM (zn K) M) (V := MtM (zn K) 1 M) (Q := RxM (zn K) M) (h_is_whole.up (by decide)) (h_shared.up (by decide))) m_is_fraction (FunD.bindsN (ps := ["thing"]) F_is_fraction fun _ _ _ _ _ _ us hl => match us, hl with | [_], _ => rfl)
  have h_need_fraction : FnM (zn K) 3 M "need_fraction" f_need_fraction 1 := fn_def B F_need_fraction sc_need_fraction ok_need_fraction (ask_need_fraction (R := FnM (zn K) 2 M) (G := GloM (zn K) M) (V := MtM (zn K) 2 M) (Q := RxM (zn K) M) (h_is_fraction.up (by decide)) r_NoFraction) m_need_fraction (FunD.bindsN (ps := ["f"]) F_need_fraction fun _ _ _ _ _ _ us hl => match us, hl with | [_], _ => rfl)
  have h_need_prime : FnM (zn K) 3 M "need_prime" f_need_prime 1 := fn_def B F_need_prime sc_need_prime ok_need_prime (ask_need_prime (R := FnM (zn K) 2 M) (G := GloM (zn K) M) (V := MtM (zn K) 2 M) (Q := RxM (zn K) M) (h_is_prime.up (by decide)) r_NoPrime) m_need_prime (FunD.bindsN (ps := ["p"]) F_need_prime fun _ _ _ _ _ _ us hl => match us, hl with | [_], _ => rfl)
  have h_rest_by : FnM (zn K) 2 M "rest_by" f_rest_by 2 := fn_def B F_rest_by sc_rest_by ok_rest_by (ask_rest_by (R := FnM (zn K) 1 M) (G := GloM (zn K) M) (V := MtM (zn K) 1 M) (Q := RxM (zn K) M) (h_turned_about.up (by decide))) m_rest_by (FunD.bindsN (ps := ["f", "p"]) F_rest_by fun _ _ _ _ _ _ us hl => match us, hl with | [_, _], _ => rfl)
  have h_rests_of : FnM (zn K) 4 M "rests_of" f_rests_of 2 := fn_def B F_rests_of sc_rests_of ok_rests_of (ask_rests_of (R := FnM (zn K) 3 M) (G := GloM (zn K) M) (V := MtM (zn K) 3 M) (Q := RxM (zn K) M) (h_need_fraction.up (by decide)) (h_need_prime.up (by decide)) (h_rest_by.up (by decide)) r_NoPrime) m_rests_of (FunD.bindsN (ps := ["f", "primes"]) F_rests_of fun _ _ _ _ _ _ us hl => match us, hl with | [_, _], _ => rfl)
  have h_keeps : FnM (zn K) 1 M "keeps" f_keeps 2 := fn_def B F_keeps sc_keeps ok_keeps (ask_keeps (R := FnM (zn K) 0 M) (G := GloM (zn K) M) (V := MtM (zn K) 0 M) (Q := RxM (zn K) M) ) m_keeps (FunD.bindsN (ps := ["f", "reading"]) F_keeps fun _ _ _ _ _ _ us hl => match us, hl with | [_, _], _ => rfl)
  have h_not_kept : FnM (zn K) 6 M "not_kept" f_not_kept 2 := fn_def B F_not_kept sc_not_kept ok_not_kept (ask_not_kept (R := FnM (zn K) 5 M) (G := GloM (zn K) M) (V := MtM (zn K) 5 M) (Q := RxM (zn K) M) (h_need_fraction.up (by decide)) (h_need_readings.up (by decide)) (h_keeps.up (by decide))) m_not_kept (FunD.bindsN (ps := ["f", "readings"]) F_not_kept fun _ _ _ _ _ _ us hl => match us, hl with | [_, _], _ => rfl)
  have h__law_parts_right : FnM (zn K) 8 M "_law_parts_right" f__law_parts_right 2 := fn_def B F__law_parts_right sc__law_parts_right ok__law_parts_right (ask__law_parts_right (R := FnM (zn K) 7 M) (G := GloM (zn K) M) (V := MtM (zn K) 7 M) (Q := RxM (zn K) M) (h_put_together.up (by decide)) (h_nearest_whole.up (by decide)) (h_rests_of.up (by decide)) (h_not_kept.up (by decide))) m__law_parts_right (FunD.bindsN (ps := ["readings", "cut"]) F__law_parts_right fun _ _ _ _ _ _ us hl => match us, hl with | [_, _], _ => rfl)
  have h_rest_of : FnM (zn K) 4 M "rest_of" f_rest_of 2 := fn_def B F_rest_of sc_rest_of ok_rest_of (ask_rest_of (R := FnM (zn K) 3 M) (G := GloM (zn K) M) (V := MtM (zn K) 3 M) (Q := RxM (zn K) M) (h_need_fraction.up (by decide)) (h_need_prime.up (by decide)) (h_rest_by.up (by decide))) m_rest_of (FunD.bindsN (ps := ["f", "p"]) F_rest_of fun _ _ _ _ _ _ us hl => match us, hl with | [_, _], _ => rfl)
  have h__law_changed_right : FnM (zn K) 8 M "_law_changed_right" f__law_changed_right 2 := fn_def B F__law_changed_right sc__law_changed_right ok__law_changed_right (ask__law_changed_right (R := FnM (zn K) 7 M) (G := GloM (zn K) M) (V := MtM (zn K) 7 M) (Q := RxM (zn K) M) (h__law_take.up (by decide)) (h_put_together.up (by decide)) (h_nearest_whole.up (by decide)) (h_is_readings.up (by decide)) (h_not_kept.up (by decide)) (h_rest_of.up (by decide))) m__law_changed_right (FunD.bindsN (ps := ["pool", "readings"]) F__law_changed_right fun _ _ _ _ _ _ us hl => match us, hl with | [_, _], _ => rfl)
  have z := fn_defG (M := M) (C := cs0) B F_law sc_law ok_law (ask_law (R := FnM (zn K) 8 M) (G := GloM (zn K) M) (V := MtM (zn K) 8 M) (Q := RxM (zn K) M) (h__law_all_primes.up (by decide)) (h__law_pool.up (by decide)) (h__law_unlike.up (by decide)) (h__law_fraction.up (by decide)) (h_put_together.up (by decide)) (h__law_take.up (by decide)) (h_is_readings.up (by decide)) (h__law_parts_right.up (by decide)) (h__law_changed_right.up (by decide)) (h_rests_of.up (by decide)) (h_not_kept.up (by decide)))
  exact z
end K14
namespace K14
open PySem PySem.Spec PyProof.Rows L2 Tb U
section
variable {i : Nat} {h : Hh} {T : Int} {x0 x2 x4 x5 x6 x7 x8 x9 x10 x11 : Option D} {P : D} {N B K : Ls → Hh → Prop} {TT : D → Hh → Prop}
theorem pick3 {a b c t : Int} (t0 : 0 ≤ t) (t1 : t < 3) : ∃ v, atI [D.int a, .int b, .int c] t = some (.int v) ∧ (v = a ∨ v = b ∨ v = c) := by
  have : t = 0 ∨ t = 1 ∨ t = 2 := by omega
  rcases this with rfl | rfl | rfl
  · exact ⟨a, rfl, .inl rfl⟩
  · exact ⟨b, rfl, .inr (.inl rfl)⟩
  · exact ⟨c, rfl, .inr (.inr rfl)⟩
theorem pick2 {a b t : Int} (t0 : 0 ≤ t) (t1 : t < 2) : ∃ v, atI [D.int a, .int b] t = some (.int v) ∧ (v = a ∨ v = b) := by
  have : t = 0 ∨ t = 1 := by omega
  rcases this with rfl | rfl
  · exact ⟨a, rfl, .inl rfl⟩
  · exact ⟨b, rfl, .inr rfl⟩
/-- the readings -/
theorem line5 {ps : List Int} (s : PlA i h T) (hT : T < 700000) (al : ∀ p ∈ ps, p ∈ PR) (nd : ps.Nodup) (hl : ps.length ≤ 10) (k : ∀ rs h', Rd rs → rs.length = ps.length → PlA i h' (T + 20) → WS (evSs cs0 t_law_6 [x0, some P, x2, some (.cel i), some (.lst (ps.map .int)), some (.lst (rs.map pd)), x6, x7, x8, x9, x10, x11] h') N TT B K) :
    WS (evSs cs0 t_law_5 [x0, some P, x2, some (.cel i), some (.lst (ps.map .int)), x5, x6, x7, x8, x9, x10, x11] h) N TT B K := by
  simp (disch := walk_at "ln") [-getElem?_pos, -max_ii, -min_ii, -max_t2, -abs_i, max_iO, min_iO, max_tO, abs_iO, List.getElem?_cons_zero, List.getElem?_append_left, t_law_5, wipeL]
  obtain ⟨I, hI⟩ := opq fun (j : Nat) (ds : List D) (h' : Hh) => ∃ rs : List (Int × Int), ds = rs.map pd ∧ rs.map Prod.fst = ps.take j ∧ (∀ q ∈ rs, q.1 ∈ PR ∧ 0 ≤ q.2 ∧ q.2 < q.1) ∧ PlA i h' (T + 2 * (j : Int))
  refine w_cI (xs := ps.map D.int) I (by simp; omega) (fun _ _ _ _ => rfl) (by rw [hI]; exact ⟨[], rfl, by simp, (fun q hq => by cases hq), s.le (by omega)⟩) ?_ ?_
  · intro j x ds h' hx p
    rw [hI] at p
    obtain ⟨rs, rfl, e, r, s⟩ := p
    rw [List.getElem?_map] at hx
    obtain ⟨p, ep, rfl⟩ := Option.map_eq_some_iff.mp hx
    have hp := al p (List.mem_of_getElem? ep)
    have pb := PR_lt hp
    have hj : j < ps.length := (List.getElem?_eq_some_iff.mp ep).1
    refine ⟨_, rfl, ?_⟩
    try simp (disch := walk_at "ln") [-getElem?_pos, -max_ii, -min_ii, -max_t2, -abs_i, max_iO, min_iO, max_tO, abs_iO, List.getElem?_cons_zero, List.getElem?_append_left]
    refine takeW (many := p) s (by omega) (by omega) (by omega) fun a h2 a0 a1 s2 f2 => ?_
    try simp (disch := walk_at "ln") [-getElem?_pos, -max_ii, -min_ii, -max_t2, -abs_i, max_iO, min_iO, max_tO, abs_iO, List.getElem?_cons_zero, List.getElem?_append_left]
    refine takeW (many := 3) s2 (by omega) (by omega) (by omega) fun t h3 t0 t1 s3 f3 => ?_
    obtain ⟨v, ev, hv⟩ := pick3 (a := a) (b := 0) (c := p - 1) t0 t1
    simp (disch := walk_at "ln") [-getElem?_pos, -max_ii, -min_ii, -max_t2, -abs_i, max_iO, min_iO, max_tO, abs_iO, List.getElem?_cons_zero, List.getElem?_append_left, ev]
    rw [hI]
    refine ⟨rs ++ [(p, v)], by simp [pd], ?_, fun q hq => ?_, s3.le (by omega)⟩
    · rw [List.map_append, e, List.take_add_one, ep]; rfl
    · rcases List.mem_append.mp hq with hq | hq
      · exact r q hq
      · rw [List.mem_singleton.mp hq]
        refine ⟨hp, ?_, ?_⟩
        · show 0 ≤ v; omega
        · show v < p; omega
  · intro ds h' p
    rw [hI] at p
    obtain ⟨rs, rfl, e, r, s⟩ := p
    rw [List.length_map] at e s
    rw [List.take_length] at e
    try simp (disch := walk_at "ln") [-getElem?_pos, -max_ii, -min_ii, -max_t2, -abs_i, max_iO, min_iO, max_tO, abs_iO, List.getElem?_cons_zero, List.getElem?_append_left]
    exact k rs h' ⟨by rw [e]; exact nd, r⟩ (by rw [← e, List.length_map]) (s.le (by omega))
/-- the fraction's own -/
theorem line10 {ps : List Int} (s : PlA i h T) (hT : T < 700000) (al : ∀ p ∈ ps, p ∈ PR) (nd : ps.Nodup) (hl : ps.length ≤ 10) (k : ∀ v6 v7 v8 v9 v10 v11 h', N [x0, some (.lst (PR.map .int)), x2, some (.cel i), some (.lst (ps.map .int)), x5, v6, v7, v8, v9, v10, v11] h') :
    WS (evSs cs0 t_law_10 [x0, some (.lst (PR.map .int)), x2, some (.cel i), some (.lst (ps.map .int)), x5, x6, x7, x8, x9, x10, x11] h) N TT B K := by
  have fw := fun {Q : D → Hh → Prop} k => fracW (i := i) (h := h) (T := T) (Q := Q) s (by omega) k
  generalize PR.map D.int = PP at *
  simp (disch := walk_at "ln") [-getElem?_pos, -max_ii, -min_ii, -max_t2, -abs_i, max_iO, min_iO, max_tO, abs_iO, List.getElem?_cons_zero, List.getElem?_append_left, t_law_10]
  refine fw fun a b h1 f s1 f1 => ?_
  clear fw
  have kf := f.fr
  obtain ⟨b0, g, a0, a1, b1⟩ := id f
  simp (disch := walk_at "ln") [-getElem?_pos, -max_ii, -min_ii, -max_t2, -abs_i, max_iO, min_iO, max_tO, abs_iO, List.getElem?_cons_zero, List.getElem?_append_left, t_law_11, wipeL, pd]
  refine w_cA D.int ps (fun p => !decide (b % p = 0)) D.int (by simp [Tb.It.items, seqOf, asL, asT]) (by omega) (fun p hp => ?_) ?_
  · have := PR_lt (al p hp)
    have p0 : 0 < p := by omega
    refine ⟨_, rfl, ?_, fun _ => by try simp (disch := walk_at "ln") [-getElem?_pos, -max_ii, -min_ii, -max_t2, -abs_i, max_iO, min_iO, max_tO, abs_iO, List.getElem?_cons_zero, List.getElem?_append_left]⟩
    simp (disch := walk_at "ln") [-getElem?_pos, -max_ii, -min_ii, -max_t2, -abs_i, max_iO, min_iO, max_tO, abs_iO, List.getElem?_cons_zero, List.getElem?_append_left, p0]
  · obtain ⟨qs, hq⟩ : ∃ qs, qs = ps.filter fun p => !decide (b % p = 0) := ⟨_, rfl⟩
    rw [← hq]
    have qal : ∀ p ∈ qs, p ∈ PR ∧ ¬ b % p = 0 := fun p hp => by
      rw [hq] at hp
      obtain ⟨h1, h2⟩ := List.mem_filter.mp hp
      exact ⟨al p h1, by simpa using h2⟩
    have qnd : qs.Nodup := by rw [hq]; exact nd.filter _
    have ql : qs.length ≤ 10 := by rw [hq]; exact Nat.le_trans (List.length_filter_le _ _) hl
    clear hq
    have er := rests_okR (h := h1) kf (fun p hp => (qal p hp).1) (by omega : qs.length ≤ 1000)
    have er : callM .P f_rests_of [.tup [.int a, .int b], .lst (qs.map .int)] h1 = .ok (.lst (qs.map fun p => od (rO a b p))) h1 := er
    have eo := own_od (a := a) qal
    have rd := own_rd (a := a) qnd qal
    have lo : (own a b qs).length ≤ 10 := by simpa [own] using ql
    obtain ⟨w, e1, hw⟩ := put_ok14 rd lo
    have dv := own_dvd qnd qal hw
    have nk := not_kept_ok (h := h1) kf rd.so (by simpa using lo)
    rw [own_NK qal, ← pd_pq] at nk
    have nk : callM .P f_not_kept [.tup [.int a, .int b], .lst ((own a b qs).map pd)] h1 = .ok (.lst []) h1 := nk
    have m0 := prodF_pos rd
    have m1 := prodF_small rd lo
    have w0 := hw.1
    have w1 := hw.2.1
    have e1 := e1 h1
    have hz : lzipD (.lst (qs.map .int)) (.lst (qs.map fun p => od (rO a b p))) h1 = .ok (.lst ((own a b qs).map pd)) h1 := by
      show (if (qs.map D.int).length ≤ LIM then R.ok (D.lst (zipD (qs.map .int) (qs.map fun p => od (rO a b p)))) h1 else .bad) = _
      rw [if_pos (by rw [List.length_map]; unfold LIM; omega), zipD, eo]
    generalize (own a b qs).map pd = G at *
    generalize prodF (own a b qs) = M at *
    generalize (qs.map fun p => od (rO a b p)) = L at *
    generalize qs.map D.int = Y at *
    generalize ps.map D.int = Z at *
    have sw : small w = true := small_of (by omega) (by omega)
    have sb : small b = true := small_of (by omega) (by omega)
    simp (disch := walk_at "ln") [-getElem?_pos, -max_ii, -min_ii, -max_t2, -abs_i, max_iO, min_iO, max_tO, abs_iO, List.getElem?_cons_zero, List.getElem?_append_left, t_law_12, er, hz]
    simp (disch := walk_at "ln") [-getElem?_pos, -max_ii, -min_ii, -max_t2, -abs_i, max_iO, min_iO, max_tO, abs_iO, List.getElem?_cons_zero, List.getElem?_append_left, t_law_13, e1]
    simp (disch := walk_at "ln") [-getElem?_pos, -max_ii, -min_ii, -max_t2, -abs_i, max_iO, min_iO, max_tO, abs_iO, List.getElem?_cons_zero, List.getElem?_append_left, t_law_14, bin_mul, sw, sb, m0, dv, nk]
    exact k _ _ _ _ _ _ _
end
--% cut
theorem turn {i : Nat} {h : Hh} {x0 x2 x4 x5 x6 x7 x8 x9 x10 x11 : Option D} {N B K : Ls → Hh → Prop} {TT : D → Hh → Prop} (s : PlA i h 0) (k : ∀ v4 v5 v6 v7 v8 v9 v10 v11 h', N [x0, some (.lst (PR.map .int)), x2, some (.cel i), v4, v5, v6, v7, v8, v9, v10, v11] h') :
    WS (evSs cs0 t_law_4 [x0, some (.lst (PR.map .int)), x2, some (.cel i), x4, x5, x6, x7, x8, x9, x10, x11] h) N TT B K := by
  have uw := fun {m : Nat} {h : Hh} {T : Int} {Q : D → Hh → Prop} (s : PlA i h T) (hT : T < 800000) (hm : m ≤ 10) k => unlikeW (i := i) (h := h) (T := T) (m := m) (Q := Q) s hT hm k
  have l5 := fun {h : Hh} {T : Int} {ps : List Int} (s : PlA i h T) hT al nd hl k => line5 (i := i) (h := h) (T := T) (x0 := x0) (x2 := x2) (x5 := x5) (x6 := x6) (x7 := x7) (x8 := x8) (x9 := x9) (x10 := x10) (x11 := x11) (P := .lst (PR.map .int)) (N := N) (B := B) (K := K) (TT := TT) (ps := ps) s hT al nd hl k
  have l10 := fun {h : Hh} {T : Int} {ps : List Int} {y5 y6 y7 y8 y9 y10 y11 : Option D} (s : PlA i h T) hT al nd hl k => line10 (i := i) (h := h) (T := T) (x0 := x0) (x2 := x2) (x5 := y5) (x6 := y6) (x7 := y7) (x8 := y8) (x9 := y9) (x10 := y10) (x11 := y11) (N := N) (B := B) (K := K) (TT := TT) (ps := ps) s hT al nd hl k
  generalize PR.map D.int = PP at *
  simp (disch := walk_at "ln") [-getElem?_pos, -max_ii, -min_ii, -max_t2, -abs_i, max_iO, min_iO, max_tO, abs_iO, List.getElem?_cons_zero, List.getElem?_append_left, t_law_4]
  refine takeW s (by omega) (by omega) (by omega) fun a h1 a0 a1 s1 f1 => ?_
  try simp (disch := walk_at "ln") [-getElem?_pos, -max_ii, -min_ii, -max_t2, -abs_i, max_iO, min_iO, max_tO, abs_iO, List.getElem?_cons_zero, List.getElem?_append_left]
  refine takeW s1 (by omega) (by omega) (by omega) fun b h2 b0 b1 s2 f2 => ?_
  obtain ⟨m, em, hm⟩ := pick2 (a := a) (b := 10) b0 b1
  simp (disch := walk_at "ln") [-getElem?_pos, -max_ii, -min_ii, -max_t2, -abs_i, max_iO, min_iO, max_tO, abs_iO, List.getElem?_cons_zero, List.getElem?_append_left, em]
  obtain ⟨m, rfl⟩ : ∃ n : Nat, m = n := ⟨m.toNat, by omega⟩
  refine uw s2 (by omega) (by omega) fun ps h3 lm nd al s3 f3 => ?_
  clear uw
  try simp (disch := walk_at "ln") [-getElem?_pos, -max_ii, -min_ii, -max_t2, -abs_i, max_iO, min_iO, max_tO, abs_iO, List.getElem?_cons_zero, List.getElem?_append_left]
  refine l5 s3 (by omega) al nd (by omega) fun rs h4 r lr s4 => ?_
  clear l5
  have hl : rs.length ≤ 10 := by omega
  have ir := readingsO_ok (h := h4) r.so (by simpa using hl)
  rw [← pd_pq] at ir
  have pr := fun {c : Nat} {h : Hh} (hc : c ≤ rs.length) => parts_right (h := h) r hl hc
  have cw := fun {h : Hh} {T : Int} {Q : D → Hh → Prop} (s : PlA i h T) hT n0 k => changedW (i := i) (h := h) (T := T) (Q := Q) s hT r hl n0 k
  have en : ∀ h : Hh, cmpD .NotEq h (.lst (rs.map pd)) (.lst []) = some (!decide (rs = [])) := fun h => by
    obtain ⟨x, _, e2, q⟩ := eq_gv (h := h) (a := .lst (rs.map pd)) (b := .lst []) (n := 2) (m := 2) (gv_pd rs) rfl (by omega) (by omega)
    have : x = decide (rs = []) := by
      rw [Bool.eq_iff_iff, q, decide_eq_true_eq]
      cases rs <;> simp
    rw [e2, this]
  have lp : (rs.map pd).length = rs.length := List.length_map ..
  generalize rs.map pd = G at *
  simp (disch := walk_at "ln") [-getElem?_pos, -max_ii, -min_ii, -max_t2, -abs_i, max_iO, min_iO, max_tO, abs_iO, List.getElem?_cons_zero, List.getElem?_append_left, t_law_6, ir, lp]
  refine takeW (many := (rs.length : Int) + 1) s4 (by omega) (by omega) (by omega) fun c h5 c0 c1 s5 f5 => ?_
  obtain ⟨c, rfl⟩ : ∃ n : Nat, c = n := ⟨c.toNat, by omega⟩
  have pr := pr (c := c) (h := h5) (by omega)
  simp (disch := walk_at "ln") [-getElem?_pos, -max_ii, -min_ii, -max_t2, -abs_i, max_iO, min_iO, max_tO, abs_iO, List.getElem?_cons_zero, List.getElem?_append_left, pr]
  simp (disch := walk_at "ln") [-getElem?_pos, -max_ii, -min_ii, -max_t2, -abs_i, max_iO, min_iO, max_tO, abs_iO, List.getElem?_cons_zero, List.getElem?_append_left, t_law_8, en]
  have fin : ∀ {h6 : Hh} {V : Int}, PlA i h6 V → V < 100000 → WS (evSs cs0 t_law_10 [x0, some (.lst PP), x2, some (.cel i), some (.lst (ps.map .int)), some (.lst G), x6, x7, x8, x9, x10, x11] h6) N TT B K := fun s hV => l10 s (by omega) al nd (by omega) fun v6 v7 v8 v9 v10 v11 h' => k _ _ _ _ _ _ _ _ _
  generalize ps.map D.int = Z at *
  refine ⟨fun _ => fin s5 (by omega), fun n0 => ?_⟩
  refine cw s5 (by omega) n0 fun h6 s6 f6 => ?_
  have fin := fin s6 (by omega)
  try simp (disch := walk_at "ln") [-getElem?_pos, -max_ii, -min_ii, -max_t2, -abs_i, max_iO, min_iO, max_tO, abs_iO, List.getElem?_cons_zero, List.getElem?_append_left]
  exact fin
--% cut
theorem lawB {ns : List Int} {T : D → Hh → Prop} {N : Ls → Hh → Prop} (hT : ∀ h, T (.bl true) h) :
    WS (evSs cs0 t_law_2 [some (.kl (ns.map .int)), some (.lst (PR.map .int)), none, none, none, none, none, none, none, none, none, none] []) N T no2 no2 := by
  have tn := fun {i : Nat} {h : Hh} {x0 x2 x4 x5 x6 x7 x8 x9 x10 x11 : Option D} {N B K : Ls → Hh → Prop} {TT : D → Hh → Prop} (s : PlA i h 0) k => turn (i := i) (h := h) (x0 := x0) (x2 := x2) (x4 := x4) (x5 := x5) (x6 := x6) (x7 := x7) (x8 := x8) (x9 := x9) (x10 := x10) (x11 := x11) (N := N) (B := B) (K := K) (TT := TT) s k
  generalize PR.map D.int = P at *
  simp (disch := walk_at "ln") [-getElem?_pos, -max_ii, -min_ii, -max_t2, -abs_i, max_iO, min_iO, max_tO, abs_iO, List.getElem?_cons_zero, List.getElem?_append_left, t_law_2]
  obtain ⟨I, hI⟩ := opq fun (j : Nat) (ls : Ls) (h' : Hh) => ∃ o2 o3 o4 o5 o6 o7 o8 o9 o10 o11 : Option D, ls = [some (.kl (ns.map .int)), some (.lst P), o2, o3, o4, o5, o6, o7, o8, o9, o10, o11]
  refine w_rng0 I (by rw [hI]; exact ⟨_, _, _, _, _, _, _, _, _, _, rfl⟩) ?_ ?_
  · intro j _ h0 hj p
    rw [hI] at p
    obtain ⟨o2, o3, o4, o5, o6, o7, o8, o9, o10, o11, rfl⟩ := p
    refine ⟨_, rfl, ?_⟩
    simp (disch := walk_at "ln") [-getElem?_pos, -max_ii, -min_ii, -max_t2, -abs_i, max_iO, min_iO, max_tO, abs_iO, List.getElem?_cons_zero, List.getElem?_append_left, t_law_3]
    refine poolW (by omega) fun i h1 s _ _ => ?_
    try simp (disch := walk_at "ln") [-getElem?_pos, -max_ii, -min_ii, -max_t2, -abs_i, max_iO, min_iO, max_tO, abs_iO, List.getElem?_cons_zero, List.getElem?_append_left]
    refine tn s fun v4 v5 v6 v7 v8 v9 v10 v11 h' => ?_
    rw [hI]
    exact ⟨_, _, _, _, _, _, _, _, _, _, rfl⟩
  · intro _ h9 p
    rw [hI] at p
    obtain ⟨o2, o3, o4, o5, o6, o7, o8, o9, o10, o11, rfl⟩ := p
    simp (disch := walk_at "ln") [-getElem?_pos, -max_ii, -min_ii, -max_t2, -abs_i, max_iO, min_iO, max_tO, abs_iO, List.getElem?_cons_zero, List.getElem?_append_left, t_law_16]
    exact hT _
theorem line1 {F : Fn} {n : Str} {t : Ss} {d x0 : D} {h : Hh} {N B K : Ls → Hh → Prop} {T : D → Hh → Prop} (e : callM .P F [] h = .ok d h) (fin : WS (evSs cs0 t [some x0, some d, none, none, none, none, none, none, none, none, none, none] h) N T B K) : WS (evSs cs0 (.cons (.asg (.nm 1) (.call .P n F .nil)) t) [some x0, none, none, none, none, none, none, none, none, none, none, none] h) N T B K := by
  simp (disch := walk_at "ln") [-getElem?_pos, -max_ii, -min_ii, -max_t2, -abs_i, max_iO, min_iO, max_tO, abs_iO, List.getElem?_cons_zero, List.getElem?_append_left, e]
  exact fin
theorem lawA {T : D → Hh → Prop} {ns : List Int} {P : D} (ev : callM .P f__law_all_primes [] [] = .ok P [])
    (k : WS (evSs cs0 t_law_2 [some (.kl (ns.map .int)), some P, none, none, none, none, none, none, none, none, none, none] []) (fun _ h1 => T .non h1) T no2 no2) : W (f_law [.kl (ns.map .int)] []) T := by
  refine w_law ?_
  refine line1 (n := "_law_all_primes") (t := t_law_2) ev ?_
  exact k
theorem law_ok (ns : List Int) (hn : ns.length ≤ 63) (hb : ∀ i ∈ ns, Builtin.Int.intBits i ≤ 1048576) : ∃ h', f_law [.kl (ns.map .int)] [] = .ok (.bl true) h' := by
  have w : W (f_law [.kl (ns.map .int)] []) (fun d _ => d = .bl true) := lawA every_ok (lawB fun _ => rfl)
  obtain ⟨d, h', e, rfl⟩ := w.ex
  exact ⟨h', e⟩
end K14
set_option maxHeartbeats 0
theorem PySem.Challenge.cw_toldback_k14_whole_readings_in_parts_holds : PySem.Challenge.rw_toldback_k14_whole_readings_in_parts.Holds :=
  K14.pre K14.f_law (fun X G sy c => K14.all_ok X G sy c) K14.law_ok
