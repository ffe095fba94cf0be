import PyProof.Rows.All
import Wide.All
import OpenK.AllK
import Wide.FinOn
import PySem.Challenge.RW_toldback_k57_what_is_a_quotient
import HandS.ForMost
import HandS.ForExc
import HandS.ExcIs
import PyProof.EqAt
import PyProof.NeKinds
import HandS.Wide
import HandS.Flow
import HandS.IsInst
import HandS.Conv
import HandS.TupAny
import HandS.SortInts
import HandS.HeadEnd
import HandS.HeadHook2
import HandS.Head2
import HandS.CallSlots
import HandS.Deep
import HandS.Style
import HandS.RaiseMore
import KE.DatumOrd
import HandS.SetFor
import HandS.More
import HandS.EndBits
import HandS.Zip
import KE.KExcStr
import KE.KDictZip
import HandS.Words
set_option Elab.async false
set_option linter.all false
set_option maxRecDepth 100000
set_option maxHeartbeats 4000000
set_option exponentiation.threshold 5000
namespace Tb
open PySem PySem.Spec PyProof.Rows L2
/-! ### a caught exception that is kept -/
/-- an exception that was caught -/
def ExK (cls : Value) (a : Addr) : HO := .ext fun h => ∃ (oe : Obj) (vs : Array Value), h.get? a = some oe ∧ Zc cls none oe ∧ oe.data = .fields vs
theorem exK_ok {P : Program} {w : World} {H : Hp} {h : Heap} {a : Addr} {cls : Value} {oe : Obj} {vs : Array Value} (e : h.get? a = some oe) (z : Zc cls none oe) (d : oe.data = .fields vs) : ObjOk P w H h a (ExK cls a) :=
  ⟨⟨oe, vs, e, z, d⟩, ⟨oe, e⟩, fun _ _ ⟨o, v, q, r⟩ k => ⟨o, v, k o q, r⟩⟩
section
variable {X : Cx} {pins : List (Addr × Obj)} {σ : L2.St} {H : Hp} {s : Shared} {a : Addr}
/-- it is tracked from now on -/
theorem trackX {oe : Obj} {vs : Array Value} {cls : Value} (I : Inv X pins σ H s) (he : s.heap.get? a = some oe) (hz : Zc cls none oe) (hd : oe.data = .fields vs) (hn : H a = none) (h0 : X.s_0.heap.get? a = none) (np : ∀ p ∈ X.pn ++ pins, p.1 ≠ a)
    (nL : X.env.locals ≠ a) (nc : ∀ x c, X.env.cells.lookup x = some c → c ≠ a) : Inv X pins σ (upd H a (ExK cls a)) s where
  ok := I.ok
  os := I.os
  bare := I.bare
  base := ⟨I.base.keep, I.base.slot, fun b o e n hx => by rw [upd_ne (fun q => by rw [q, h0] at e; cases e)]; exact I.base.free b o e n hx, I.base.there,
    fun b xs e => by have z := I.base.tups b xs e; rw [upd_ne (ne_of_none z hn)]; exact z, fun b o u e => by have z := I.base.frzs b o u e; rw [upd_ne (ne_of_none z hn)]; exact z,
    fun b ps e => by obtain ⟨m, z⟩ := I.base.tbls b ps e; exact ⟨m, by rw [upd_ne (ne_of_none z hn)]; exact z⟩⟩
  loc := I.loc
  cell := I.cell
  free := by rw [upd_ne nL]; exact I.free
  freeC := fun x c e => by rw [upd_ne (nc x c e)]; exact I.freeC x c e
  pin := fun p hp => by
    obtain ⟨e1, e2, e3⟩ := I.pin p hp
    exact ⟨e1, by rw [upd_ne (np p hp)]; exact e2, e3⟩
  hok := fun b u e => by
    by_cases hb : b = a
    · subst hb
      rw [upd_same] at e
      cases e
      exact exK_ok he hz hd
    · rw [upd_ne hb] at e
      exact (I.hok b u e).stay (fun c v _ q => q) (fun c q => by rw [upd_ne (ne_of_none q hn)]; exact q) fun c xs q => by rw [upd_ne (ne_of_none q hn)]; exact q
  len := I.len
end
/-- what 'except x as n: y = n' wishes of an exception of the body: n in slot i, y in slot j -/
def wKeep (K : PySem.W.Frag) (c : Value) (i j : Nat) (Wout : WX) (D : Ends) : WX := fun cls d σ H =>
  ∃ b, PySem.W.exmOne K cls c = some b ∧ (b = true → d = none ∧ ∀ a, H a = none → D.nx (((σ.set i (some (.ref a))).set j (some (.ref a))).set i none) (upd H a (ExK cls a))) ∧ (b = false → Wout cls d σ H)
section
variable {X : Cx} {x n y : Str} {c : Value} {i j : Nat} {body : List Stmt} {np pv pa py pos pos' : Pos} {tb : WX → TS} {Wout : WX}
theorem ps_try_keep (hs : X.stack = X.env :: X.outer) (hf : X.env.frame = some X.env.locals) (hx : X.ex = []) (hN : X.N.Nodup) (hi : X.N[i]? = some n) (hln : X.env.kindOf n = some .local) (hj : X.N[j]? = some y) (hly : X.env.kindOf y = some .local) (hnn : (n == ("__debug__" : Str)) = false ∧ (n == ("__classdict__" : Str)) = false) (hc : Names X x c) (tk : Takes X Wout)
    (hb : ∀ (W : WX) (pn : List (Addr × Obj)) (xe : Value → Shared → Prop), Takes (X.tr pn xe) W → PassesOwn (model X.prog X.w) X.A X.env xe → PSs (X.tr pn xe) body (tb W)) :
    PS X (.Try body [.ExceptHandler (some (.Name x np)) (some n) [.Assign [.Name y py] (.Name n pv) pa] pos'] [] [] pos) (fun D σ H => tb (wKeep X.K c i j Wout D) D σ H) := by
  refine ⟨fun pins s σ H D I h => ?_⟩
  have ok := I.ok
  have hfr : X.A.frames = some (X.env :: X.outer) := by rw [ok.frames, hs]
  have hloc : Loc X.env.scope n := .inl hln
  refine wpAny_Try_except (wpAny_mono ((hb (wKeep X.K c i j Wout D) (X.pn ++ pins) (fun e s₁ => wpAny (model X.prog X.w) X.A (noteFrame e X.env) (fun _ s₂ => wpAny (model X.prog X.w) X.A (setFlight e none) (fun _ s₃ =>
    wpAny (model X.prog X.w) X.A (handleBy e X.env [.ExceptHandler (some (.Name x np)) (some n) [.Assign [.Name y py] (.Name n pv) pa] pos']) (SP X pins D) X.xe s₃) X.xe s₂) X.xe s₁) (fun u s' xx => ?_) PassesOwn.looking).run [] s σ H D (I.toTry _) h) (fun f s1 hsp => ?_) (fun e s1 he => he))
  · obtain ⟨a, B, sI, pins', σ', H', cls, d, rfl, J', nb, up, sky, na, os, ag, b, hb1, hyes, hno⟩ := xx
    have J : Inv X pins σ' H' sI := J'.ofTry ok
    have sky' : Sky B (X.env :: X.outer) a (Zc cls d) X.env.locals s'.heap := by rw [← hs]; exact sky
    show wpAny (model X.prog X.w) X.A (noteFrame (.ref a) X.env) _ _ _
    refine Sky.land Zc.steady hfr hf sky' fun h3 fl3 up3 => ?_
    have J3 : Inv X pins σ' H' { s' with heap := h3 } := J.landed nb fl3.1 (up.trans up3) os ag
    obtain ⟨oe3, vs3, he3, hz3, hd3⟩ := fl3.there
    have nfr : a ∉ frs (X.env :: X.outer) := fun hm => by
      obtain ⟨_, o', e', hnf⟩ := fl3.2.2.1.mem hm
      rw [he3] at e'; cases e'
      exact hnf _ hd3
    have nL : a ≠ X.env.locals := fun z => nfr (List.mem_filterMap.mpr ⟨X.env, List.mem_cons_self, by rw [hf, z]⟩)
    have nF : a ∉ X.fs := fun hm => by
      obtain ⟨e, he, q⟩ := List.mem_filterMap.mp hm
      exact nfr (List.mem_filterMap.mpr ⟨e, List.mem_cons_of_mem _ he, q⟩)
    have new : sI.heap.get? a = none := by
      cases q : sI.heap.get? a with
      | none => rfl
      | some o =>
        have z := nb a o q (by rw [hs]; exact nfr)
        rw [fl3.2.1] at z; cases z
    have S3 := J3.suite he3 hd3 na nL nF
    refine wpAny_handleBy_cons (codeAny_handlers_test ?_) (by intro q; cases q)
    have LT : PySem.W.Looks (model X.prog X.w) h3 (typeOf (.ref a)) cls := fun A Q E s k q => wpAny_typeOf_ref (k _ _ he3) (by rw [hz3.1]; exact q)
    have LM := PySem.W.exm_one (M := model X.prog X.w) (J3.kIn) LT hb1
    have test : ∀ {Q : Value → Shared → Prop} {E : Value → Shared → Prop}, Q c { s' with heap := h3 } → wpAny (model X.prog X.w) (X.A.mark (some (.ref a))) (eval (.Name x np) X.env) Q E { s' with heap := h3 } := fun {Q E} q => by
      obtain ⟨hg, hdbg, hm | ⟨hm, hv, hnn⟩⟩ := hc
      · exact ld_glob (X := X.suite a ((a, oe3) :: (X.pn ++ pins))) S3 hg hm q hdbg
      · exact ld_blt (X := X.suite a ((a, oe3) :: (X.pn ++ pins))) S3 hg hm hv q hnn hdbg
    refine test (LM.here ?_)
    cases b with
    | true =>
      obtain ⟨rfl, fin⟩ := hyes rfl
      refine codeAny_handlers_suite_as ?_
      refine HandSPX.lands_againZ fl3 fun h4 fl4 up4 => ?_
      have J4 : Inv X pins σ' H' { s' with heap := h4 } := J.landed nb fl4.1 ((up.trans up3).trans up4) os ag
      obtain ⟨oe4, vs4, he4, hz4, hd4⟩ := fl4.there
      have S4 := J4.suite he4 hd4 na nL nF
      refine store_ok (X := X.suite a ((a, oe4) :: (X.pn ++ pins))) (v := .ref a) S4 hN hi hloc rfl (fun s5 S5 => ?_) (.inr hln)
      have suite : PSs (X.suite a ((a, oe4) :: (X.pn ++ pins))) [.Assign [.Name y py] (.Name n pv) pa] _ := pss_cons (ps_asg (pe_var (i := i) hi (.inl hln) hnn.1 hnn.2) (pg_name (i := j) hN hj (.inl hly) (.inr hly))) pss_nil
      have hlen : i < σ'.length := by rw [J.len]; exact (List.getElem?_eq_some_iff.mp hi).1
      refine wpAny_mono (suite.run [] s5 (σ'.set i (some (.ref a))) H' ⟨fun σ6 H6 => σ6 = (σ'.set i (some (.ref a))).set j (some (.ref a)) ∧ H6 = H', fun _ _ => False, fun _ _ => False, fun _ _ => False⟩ S5 ?_) (fun f s6 hsp => ?_) (fun _ _ z => False.elim z)
      · exact ⟨.ref a, List.getElem?_set_self hlen, rfl, rfl⟩
      · cases f with
        | next =>
          obtain ⟨σ6, H6, S6, rfl, rfl⟩ := hsp
          refine gone_ok (X := X.suite a ((a, oe4) :: (X.pn ++ pins))) S6 hN hi hln fun s7 S7 => ?_
          have J7 : Inv X pins _ _ s7 := S7.unsuite ok
          obtain ⟨g7, _⟩ := S7.pin (a, oe4) (List.mem_append.mpr (.inl List.mem_cons_self))
          refine ⟨_, _, trackX J7 g7 hz4 hd4 na ?_ ?_ (Ne.symm nL) ?_, fin a na⟩
          · cases q : X.s_0.heap.get? a with
            | none => rfl
            | some o =>
              obtain ⟨o', z⟩ := J.base.there a o q (by rw [hx]; exact List.not_mem_nil)
              rw [new] at z; cases z
          · intro p hp z
            have := (J.pin p hp).1
            rw [z, new] at this; cases this
          · intro x' c' e z
            obtain ⟨v, q⟩ := J.cell x' c' e
            rw [z] at q
            obtain ⟨o, q1, _⟩ := q
            rw [new] at q1; cases q1
        | brk => exact absurd hsp (fun ⟨_, _, _, z⟩ => z)
        | cont => exact absurd hsp (fun ⟨_, _, _, z⟩ => z)
        | ret u => exact absurd hsp (fun ⟨_, _, _, _, _, z⟩ => z)
    | false =>
      show wpAny _ X.A (handleBy (.ref a) X.env []) _ _ _
      refine wpAny_handleBy_nil ?_
      obtain ⟨k1, k2, k3, oe, vs, T, oT, ts', he, hz, hd, h1, hr⟩ := id fl3
      unfold PySem.passOn
      refine wpAny_bind (wpAny_field he hd h1 ?_)
      rw [if_neg (show ¬ ((Value.ref T == Value.none) = true) from by simp)]
      have fin : wpAny (model X.prog X.w) X.A (setFlight (.ref a) X.env.frame) (fun _ s4 => wpAny (model X.prog X.w) X.A (throw (.ref a) : Sem Flow) (SP X pins D) X.xe s4) X.xe { s' with heap := h3 } := by
        rw [hf]
        refine HandSPX.setFlight_upZ fl3 fun h4 hh4 up4 => wpAny_throw (tk _ _ ?_)
        exact ⟨a, B, sI, pins, σ', H', cls, d, rfl, J, nb, (up.trans up3).trans up4, .inr (.inr (by rw [hs]; exact hh4)), na, os, ag, hno rfl⟩
      first
        | exact wpAny_bind (wpAny_pure (wpAny_bind fin))
        | exact wpAny_bind fin
  · cases f with
    | next =>
      obtain ⟨σ', H', J', q⟩ := hsp
      exact wpAny_execs_nil ⟨σ', H', J'.ofTry ok, q⟩
    | brk =>
      obtain ⟨σ', H', J', q⟩ := hsp
      exact ⟨σ', H', J'.ofTry ok, q⟩
    | cont =>
      obtain ⟨σ', H', J', q⟩ := hsp
      exact ⟨σ', H', J'.ofTry ok, q⟩
    | ret u =>
      obtain ⟨v, σ', H', J', r, q⟩ := hsp
      exact ⟨v, σ', H', J'.ofTry ok, r, q⟩
end
end Tb
namespace Tb
open PySem PySem.Spec PyProof.Rows L2
/-! ### data -/
inductive D where
  | non | bl (b : Bool) | int (i : Int) | str (x : Str)
  | tup (xs : List D) | lst (xs : List D) | kl (xs : List D)
  | dic (kvs : List (Key × D))
  | cel (i : Nat)
  | cls (n : Str) | ty (n : String) | exc (n : Str)
inductive O where
  | lst (xs : List D)
  | ins (c : Str) (fs : List (Str × D))
  | dct (kvs : List (Key × D))
abbrev Hh := List O
abbrev Ls := List (Option D)
inductive R (α : Type) where
  | ok (a : α) (h : Hh) | exc (c : Str) (h : Hh) | bad
def R.bind {α β : Type} (r : R α) (f : α → Hh → R β) : R β := match r with
  | .ok a h => f a h
  | .exc c h => .exc c h
  | .bad => .bad
abbrev Fn := List D → Hh → R D
def LIM : Nat := 1000000
def BIG : Nat := 2 ^ 1900
def small (i : Int) : Bool := decide (i.natAbs < BIG)
/-- what is known of the module: the written part, the classes by name -/
structure Zn where
  K : PySem.W.Frag
  cl : Str → Option Addr
  /-- the exception classes -/
  xs : List Str
/-- cells, foreign cells -/
structure Wd where
  rho : List Addr
  F : Addr → Prop
def KL (K : PySem.W.Frag) (a : Addr) (xs : List V) : Prop :=
  ∃ (o : Obj) (its : Array Value) (n : Nat), K.lookup a = some o ∧ o.cls = .type "list" ∧ o.dict = none ∧ o.data = .seq its n ∧ its.size ≤ sizeLine ∧ Vals xs its.toList
/-- a list that is only read from now on -/
def FzL (W : Wd) (H : Hp) (a : Addr) (xs : List V) : Prop := H a = some (.lst xs) ∧ a ∉ W.rho ∧ ¬ W.F a
def KzL (Z : Zn) (W : Wd) (H : Hp) (a : Addr) (xs : List V) : Prop := (∃ o, H a = some (.frz o (.lst xs)) ∧ a ∉ W.rho ∧ ¬ W.F a) ∨ KL Z.K a xs
def KT (K : PySem.W.Frag) (a : Addr) (xs : List V) : Prop :=
  ∃ (o : Obj) (its : Array Value) (n : Nat), K.lookup a = some o ∧ o.cls = .type "tuple" ∧ o.data = .seq its n ∧ its.size ≤ sizeLine ∧ Vals xs its.toList
def FzT (Z : Zn) (H : Hp) (a : Addr) (xs : List V) : Prop := H a = some (.tup xs) ∨ KT Z.K a xs
/-- every exception class stands right under BackError -/
def subX (n m : Str) : Bool := decide (n = m) || decide (m = "BackError")
def XFa (Z : Zn) (C : Addr) : Prop := ExcC Z.K C ∧ PySem.W.kitOne Z.K (.ref C) (.type "ValueError") = some true
def mkB (K : PySem.W.Frag) (C : Addr) : Bool :=
  PySem.W.excIn K C [.type "ValueError", .type "Exception", .type "BaseException", .type "object"] "ValueError.__new__" && PySem.W.keepIn K (.ref C) && decide (PySem.W.findIn K (.ref C) "__str__" = some (some (.builtin "BaseException.__str__"))) && decide (PySem.W.subIn K (.ref C) (.type "BaseException") = some true)
def XCl (Z : Zn) (n : Str) (a : Addr) : Prop := (∀ m ∈ Z.xs, ∀ C, Z.cl m = some C → PySem.W.kitOne Z.K (.ref C) (.ref a) = some (subX m n)) ∧ mkB Z.K a = true
mutual
def RelD (Z : Zn) (W : Wd) (H : Hp) : D → V → Prop
  | .non, v => v = .non
  | .bl b, v => v = .bl b
  | .int i, v => v = .int i
  | .str x, v => v = .str x
  | .tup xs, v => ∃ a vs, v = .ref a ∧ FzT Z H a vs ∧ RelDs Z W H xs vs
  | .lst xs, v => ∃ a vs, v = .ref a ∧ FzL W H a vs ∧ RelDs Z W H xs vs
  | .kl xs, v => ∃ a vs, v = .ref a ∧ KzL Z W H a vs ∧ RelDs Z W H xs vs
  | .dic kvs, v => ∃ a vs, v = .ref a ∧ H a = some (.dK vs) ∧ a ∉ W.rho ∧ ¬ W.F a ∧ RelKs Z W H kvs vs
  | .cel i, v => ∃ a, v = .ref a ∧ W.rho[i]? = some a
  | .cls n, v => ∃ a, v = .ref a ∧ Z.cl n = some a ∧ XCl Z n a
  | .ty n, v => v = .ty n
  | .exc n, v => ∃ a C, v = .ref a ∧ Z.cl n = some C ∧ n ∈ Z.xs ∧ XFa Z C ∧ H a = some (ExK (.ref C) a)
def RelDs (Z : Zn) (W : Wd) (H : Hp) : List D → List V → Prop
  | [], vs => vs = []
  | d :: ds, vs => ∃ v r, vs = v :: r ∧ RelD Z W H d v ∧ RelDs Z W H ds r
def RelKs (Z : Zn) (W : Wd) (H : Hp) : List (Key × D) → List (Key × V) → Prop
  | [], vs => vs = []
  | (k, d) :: ds, vs => ∃ v r, vs = (k, v) :: r ∧ RelD Z W H d v ∧ RelKs Z W H ds r
end
def RelFs (Z : Zn) (W : Wd) (H : Hp) : List (Str × D) → List (Str × V) → Prop
  | [], vs => vs = []
  | (k, d) :: ds, vs => ∃ v r, vs = (k, v) :: r ∧ RelD Z W H d v ∧ RelFs Z W H ds r
def ObjR (Z : Zn) (W : Wd) (H : Hp) (a : Addr) : O → Prop
  | .lst xs => ∃ vs, H a = some (.lst vs) ∧ RelDs Z W H xs vs
  | .ins c fs => ∃ C dx vs, Z.cl c = some C ∧ H a = some (.ins C dx vs) ∧ RelFs Z W H fs vs
  | .dct kvs => ∃ vs, H a = some (.dK vs) ∧ RelKs Z W H kvs vs
structure HRel (Z : Zn) (W : Wd) (H : Hp) (h : Hh) : Prop where
  len : W.rho.length = h.length
  nd : W.rho.Nodup
  obj : ∀ (i : Nat) a o, W.rho[i]? = some a → h[i]? = some o → ObjR Z W H a o
  dis : ∀ a ∈ W.rho, ¬ W.F a
  frn : ∀ a, W.F a → H a ≠ none
def LRel (Z : Zn) (W : Wd) (H : Hp) (ls : Ls) (σ : L2.St) : Prop :=
  ls.length = σ.length ∧ ∀ (i : Nat) d, ls[i]? = some (some d) → ∃ v, σ[i]? = some (some v) ∧ RelD Z W H d v
/-- what never changes -/
def fixO : HO → Bool
  | .tup _ => true
  | .ext _ => true
  | _ => false
/-- growth -/
structure Gr (W : Wd) (H : Hp) (W' : Wd) (H' : Hp) : Prop where
  pre : ∃ l, W'.rho = W.rho ++ l ∧ ∀ a ∈ l, H a = none
  frn : W'.F = W.F
  keep : ∀ a o, H a = some o → a ∉ W.rho → H' a = some o
  tups : ∀ a o, fixO o = true → H a = some o → H' a = some o
  trk : ∀ a, H' a = none → H a = none
section
variable {Z : Zn} {W W1 W2 : Wd} {H H1 H2 : Hp}
theorem Gr.refl : Gr W H W H := ⟨⟨[], by simp, fun _ h => nomatch h⟩, rfl, fun _ _ h _ => h, fun _ _ _ h => h, fun _ h => h⟩
theorem Gr.out (g : Gr W H W1 H1) {x : Addr} {o : HO} (h : H x = some o) (hx : x ∉ W.rho) : x ∉ W1.rho := fun hm => by
  obtain ⟨l, e, n⟩ := g.pre
  rw [e] at hm
  rcases List.mem_append.mp hm with z | z
  · exact hx z
  · rw [n x z] at h; cases h
theorem Gr.trans (a : Gr W H W1 H1) (b : Gr W1 H1 W2 H2) : Gr W H W2 H2 := by
  obtain ⟨l, e, n⟩ := a.pre
  obtain ⟨l2, e2, n2⟩ := b.pre
  refine ⟨⟨l ++ l2, by rw [e2, e, List.append_assoc], fun x hx => ?_⟩, b.frn.trans a.frn, fun x o h hx => b.keep x o (a.keep x o h hx) (a.out h hx), fun x o f h => b.tups x o f (a.tups x o f h), fun x h => a.trk x (b.trk x h)⟩
  rcases List.mem_append.mp hx with z | z
  · exact n x z
  · exact a.trk x (n2 x z)
theorem Gr.at (g : Gr W H W1 H1) {i : Nat} {a : Addr} (h : W.rho[i]? = some a) : W1.rho[i]? = some a := by
  obtain ⟨l, e, _⟩ := g.pre
  rw [e, List.getElem?_append_left (List.getElem?_eq_some_iff.mp h).1]
  exact h
theorem FzL.mono (g : Gr W H W1 H1) {a : Addr} {xs : List V} (h : FzL W H a xs) : FzL W1 H1 a xs :=
  ⟨g.keep _ _ h.1 h.2.1, g.out h.1 h.2.1, by rw [g.frn]; exact h.2.2⟩
theorem KzL.mono (g : Gr W H W1 H1) {a : Addr} {xs : List V} (h : KzL Z W H a xs) : KzL Z W1 H1 a xs := by
  rcases h with ⟨o, h, n, f⟩ | h
  · exact .inl ⟨o, g.keep _ _ h n, g.out h n, by rw [g.frn]; exact f⟩
  · exact .inr h
theorem FzL.sq {K : PySem.W.Frag} {a : Addr} {xs : List V} (h : FzL W H a xs) : SqL K H a xs := .inl (.inl h.1)
theorem KzL.sq {a : Addr} {xs : List V} (h : KzL Z W H a xs) : SqL Z.K H a xs := by
  rcases h with ⟨o, h, _, _⟩ | h
  · exact .inl (.inr ⟨o, h⟩)
  · exact .inr h
theorem FzT.mono (g : Gr W H W1 H1) {a : Addr} {xs : List V} (h : FzT Z H a xs) : FzT Z H1 a xs := by
  rcases h with h | h
  · exact .inl (g.tups _ _ rfl h)
  · exact .inr h
theorem FzT.sq {a : Addr} {xs : List V} (h : FzT Z H a xs) : SqT Z.K H a xs := by
  rcases h with h | h
  · exact .inl (.inl h)
  · exact .inr h
mutual
theorem RelD.mono (g : Gr W H W1 H1) : ∀ (d : D) {v : V}, RelD Z W H d v → RelD Z W1 H1 d v
  | .non, _, h => h
  | .bl _, _, h => h
  | .int _, _, h => h
  | .str _, _, h => h
  | .tup xs, _, ⟨a, vs, e, f, r⟩ => ⟨a, vs, e, f.mono g, RelDs.mono g xs r⟩
  | .lst xs, _, ⟨a, vs, e, f, r⟩ => ⟨a, vs, e, f.mono g, RelDs.mono g xs r⟩
  | .kl xs, _, ⟨a, vs, e, f, r⟩ => ⟨a, vs, e, f.mono g, RelDs.mono g xs r⟩
  | .dic kvs, _, ⟨a, vs, e, k, n, f, r⟩ => ⟨a, vs, e, g.keep _ _ k n, g.out k n, by rw [g.frn]; exact f, RelKs.mono g kvs r⟩
  | .cel i, _, ⟨a, e, f⟩ => ⟨a, e, g.at f⟩
  | .cls _, _, h => h
  | .ty _, _, h => h
  | .exc _, _, ⟨a, C, e1, e2, e3, e4, e5⟩ => ⟨a, C, e1, e2, e3, e4, g.tups _ _ rfl e5⟩
theorem RelDs.mono (g : Gr W H W1 H1) : ∀ (ds : List D) {vs : List V}, RelDs Z W H ds vs → RelDs Z W1 H1 ds vs
  | [], _, h => h
  | d :: ds, _, ⟨v, r, e, h1, h2⟩ => ⟨v, r, e, RelD.mono g d h1, RelDs.mono g ds h2⟩
theorem RelKs.mono (g : Gr W H W1 H1) : ∀ (ds : List (Key × D)) {vs : List (Key × V)}, RelKs Z W H ds vs → RelKs Z W1 H1 ds vs
  | [], _, h => h
  | (k, d) :: ds, _, ⟨v, r, e, h1, h2⟩ => ⟨v, r, e, RelD.mono g d h1, RelKs.mono g ds h2⟩
end
theorem RelFs.mono (g : Gr W H W1 H1) : ∀ (ds : List (Str × D)) {vs : List (Str × V)}, RelFs Z W H ds vs → RelFs Z W1 H1 ds vs
  | [], _, h => h
  | (k, d) :: ds, _, ⟨v, r, e, h1, h2⟩ => ⟨v, r, e, RelD.mono g d h1, RelFs.mono g ds h2⟩
theorem LRel.mono (g : Gr W H W1 H1) {ls : Ls} {σ : L2.St} (h : LRel Z W H ls σ) : LRel Z W1 H1 ls σ :=
  ⟨h.1, fun i d e => let ⟨v, e1, r⟩ := h.2 i d e; ⟨v, e1, RelD.mono g d r⟩⟩
/-! ### lists of data -/
theorem RelDs.length : ∀ {ds : List D} {vs : List V}, RelDs Z W H ds vs → ds.length = vs.length
  | [], _, h => by rw [show _ = [] from h]; rfl
  | d :: ds, _, ⟨v, r, e, _, h2⟩ => by rw [e, List.length_cons, List.length_cons, RelDs.length h2]
theorem RelDs.get : ∀ {ds : List D} {vs : List V} {i : Nat} {d : D}, RelDs Z W H ds vs → ds[i]? = some d → ∃ v, vs[i]? = some v ∧ RelD Z W H d v
  | [], _, _, _, _, e => by simp at e
  | d :: ds, _, 0, x, ⟨v, r, e, h1, _⟩, q => by simp at q; subst q; subst e; exact ⟨v, rfl, h1⟩
  | d :: ds, _, i + 1, x, ⟨v, r, e, _, h2⟩, q => by
    subst e
    obtain ⟨w, e1, r1⟩ := RelDs.get (i := i) h2 (by simpa using q)
    exact ⟨w, by simpa using e1, r1⟩
theorem RelDs.getV {ds : List D} {vs : List V} {i : Nat} {v : V} (r : RelDs Z W H ds vs) (e : vs[i]? = some v) : ∃ d, ds[i]? = some d ∧ RelD Z W H d v := by
  have hl := r.length
  have hi := (List.getElem?_eq_some_iff.mp e).1
  obtain ⟨w, e1, r1⟩ := r.get (i := i) (d := ds[i]'(by omega)) (by simp)
  rw [e] at e1; cases e1
  exact ⟨_, List.getElem?_eq_getElem (by omega), r1⟩
theorem RelDs.append : ∀ {ds es : List D} {vs us : List V}, RelDs Z W H ds vs → RelDs Z W H es us → RelDs Z W H (ds ++ es) (vs ++ us)
  | [], _, _, _, h, k => by rw [show _ = [] from h]; exact k
  | d :: ds, _, _, _, ⟨v, r, e, h1, h2⟩, k => by subst e; exact ⟨v, _, rfl, h1, RelDs.append h2 k⟩
theorem RelDs.one {d : D} {v : V} (h : RelD Z W H d v) : RelDs Z W H [d] [v] := ⟨v, [], rfl, h, rfl⟩
theorem RelDs.take : ∀ {ds : List D} {vs : List V} (n : Nat), RelDs Z W H ds vs → RelDs Z W H (ds.take n) (vs.take n)
  | [], _, _, h => by rw [show _ = [] from h]; simp [RelDs]
  | d :: ds, _, 0, h => by simp [RelDs]
  | d :: ds, _, n + 1, ⟨v, r, e, h1, h2⟩ => by subst e; exact ⟨v, _, rfl, h1, RelDs.take n h2⟩
theorem RelDs.drop : ∀ {ds : List D} {vs : List V} (n : Nat), RelDs Z W H ds vs → RelDs Z W H (ds.drop n) (vs.drop n)
  | [], _, _, h => by rw [show _ = [] from h]; simp [RelDs]
  | d :: ds, _, 0, h => h
  | d :: ds, _, n + 1, ⟨v, r, e, h1, h2⟩ => by subst e; exact RelDs.drop n h2
theorem RelDs.set : ∀ {ds : List D} {vs : List V} {d : D} {v : V} (n : Nat), RelDs Z W H ds vs → RelD Z W H d v → RelDs Z W H (ds.set n d) (vs.set n v)
  | [], _, _, _, _, h, _ => by rw [show _ = [] from h]; simp [RelDs]
  | d :: ds, _, _, _, 0, ⟨v, r, e, h1, h2⟩, k => by subst e; exact ⟨_, _, rfl, k, h2⟩
  | d :: ds, _, _, _, n + 1, ⟨v, r, e, h1, h2⟩, k => by subst e; exact ⟨v, _, rfl, h1, RelDs.set n h2 k⟩
theorem RelDs.eraseIdx : ∀ {ds : List D} {vs : List V} (n : Nat), RelDs Z W H ds vs → RelDs Z W H (ds.eraseIdx n) (vs.eraseIdx n)
  | [], _, _, h => by rw [show _ = [] from h]; simp [RelDs]
  | d :: ds, _, 0, ⟨v, r, e, h1, h2⟩ => by subst e; exact h2
  | d :: ds, _, n + 1, ⟨v, r, e, h1, h2⟩ => by subst e; exact ⟨v, _, rfl, h1, RelDs.eraseIdx n h2⟩
theorem RelDs.dropLast : ∀ {ds : List D} {vs : List V}, RelDs Z W H ds vs → RelDs Z W H ds.dropLast vs.dropLast
  | [], _, h => by rw [show _ = [] from h]; simp [RelDs]
  | [d], _, ⟨v, r, e, h1, h2⟩ => by subst e; rw [show r = [] from h2]; simp [RelDs]
  | d :: d2 :: ds, _, ⟨v, r, e, h1, v2, r2, e2, h3, h4⟩ => by
    subst e; subst e2
    exact ⟨v, _, rfl, h1, RelDs.dropLast (ds := d2 :: ds) ⟨v2, r2, rfl, h3, h4⟩⟩
theorem RelDs.reverse : ∀ {ds : List D} {vs : List V}, RelDs Z W H ds vs → RelDs Z W H ds.reverse vs.reverse
  | [], _, h => by rw [show _ = [] from h]; simp [RelDs]
  | d :: ds, _, ⟨v, r, e, h1, h2⟩ => by subst e; rw [List.reverse_cons, List.reverse_cons]; exact RelDs.append (RelDs.reverse h2) (RelDs.one h1)
theorem RelDs.rep {ds : List D} {vs : List V} (h : RelDs Z W H ds vs) : ∀ k : Nat, RelDs Z W H (List.replicate k ds).flatten (List.replicate k vs).flatten
  | 0 => by simp [RelDs]
  | k + 1 => by rw [List.replicate_succ, List.replicate_succ, List.flatten_cons, List.flatten_cons]; exact RelDs.append h (RelDs.rep h k)
theorem RelDs.ints {ns : List Int} : ∀ {vs : List V}, RelDs Z W H (ns.map D.int) vs ↔ vs = ns.map V.int := by
  induction ns with
  | nil => intro vs; exact Iff.rfl
  | cons n r ih =>
    intro vs
    constructor
    · rintro ⟨v, q, rfl, h1, h2⟩
      rw [show v = .int n from h1, ih.mp h2]; rfl
    · rintro rfl
      exact ⟨_, _, rfl, rfl, ih.mpr rfl⟩
theorem RelDs.strs {ns : List Str} : ∀ {vs : List V}, RelDs Z W H (ns.map D.str) vs ↔ vs = ns.map V.str := by
  induction ns with
  | nil => intro vs; exact Iff.rfl
  | cons n r ih =>
    intro vs
    constructor
    · rintro ⟨v, q, rfl, h1, h2⟩
      rw [show v = .str n from h1, ih.mp h2]; rfl
    · rintro rfl
      exact ⟨_, _, rfl, rfl, ih.mpr rfl⟩
end
/-! ### what is wanted behind a step -/
def Tri {α β : Type} (Z : Zn) (rel : Wd → Hp → α → β → Prop) (E : Str → Hp → Prop) (Q : β → Hp → Prop) (W : Wd) (H : Hp) : R α → Prop
  | .ok d h' => ∀ v W' H', Gr W H W' H' → HRel Z W' H' h' → rel W' H' d v → Q v H'
  | .exc c h' => ∀ W' H', Gr W H W' H' → HRel Z W' H' h' → E c H'
  | .bad => False
section
variable {α β γ δ : Type} {Z : Zn} {W W1 : Wd} {H H1 : Hp} {E : Str → Hp → Prop} {rel : Wd → Hp → α → β → Prop} {rel2 : Wd → Hp → γ → δ → Prop} {Q : β → Hp → Prop}
theorem Tri.grow {r : R α} (g : Gr W H W1 H1) (t : Tri Z rel E Q W H r) : Tri Z rel E Q W1 H1 r := by
  cases r with
  | ok d h' => exact fun v W' H' g' => t v W' H' (g.trans g')
  | exc c h' => exact fun W' H' g' => t W' H' (g.trans g')
  | bad => exact t
/-- a step, then another -/
theorem Tri.bind {r : R γ} {f : γ → Hh → R α} (t : Tri Z rel E Q W H (r.bind f)) :
    Tri Z rel2 E (fun x H1 => ∃ W1 d h1, Gr W H W1 H1 ∧ HRel Z W1 H1 h1 ∧ rel2 W1 H1 d x ∧ Tri Z rel E Q W1 H1 (f d h1)) W H r := by
  cases r with
  | ok d h' => exact fun v W' H' g hr rl => ⟨W', d, h', g, hr, rl, Tri.grow g t⟩
  | exc c h' => exact t
  | bad => exact t
theorem Tri.imp {r : R α} {Q' : β → Hp → Prop} (t : Tri Z rel E Q W H r) (h : ∀ v H', Q v H' → Q' v H') : Tri Z rel E Q' W H r := by
  cases r with
  | ok d h' => exact fun v W' H' g hr rl => h _ _ (t v W' H' g hr rl)
  | exc c h' => exact t
  | bad => exact t
end
abbrev TriD (Z : Zn) := Tri Z (RelD Z)
abbrev TriB (Z : Zn) := Tri (α := Bool) (β := Bool) Z (fun _ _ a b => a = b)
abbrev TriL (Z : Zn) := Tri Z (RelDs Z)
/-! ### new objects -/
def mkL (c : Bool) (xs : List D) (h : Hh) : R D := if c then .ok (.cel h.length) (h ++ [.lst xs]) else .ok (.lst xs) h
section
variable {Z : Zn} {W : Wd} {H : Hp} {h : Hh} {E : Str → Hp → Prop} {Q : VK} {p : Addr}
theorem ObjR.mono {W1 : Wd} {H1 : Hp} {a : Addr} (g : Gr W H W1 H1) (hk : ∀ o, H a = some o → H1 a = some o) : ∀ {o : O}, ObjR Z W H a o → ObjR Z W1 H1 a o
  | .lst xs, ⟨vs, e, r⟩ => ⟨vs, hk _ e, RelDs.mono g xs r⟩
  | .ins c fs, ⟨C, dx, vs, e1, e2, r⟩ => ⟨C, dx, vs, e1, hk _ e2, RelFs.mono g fs r⟩
  | .dct kvs, ⟨vs, e, r⟩ => ⟨vs, hk _ e, RelKs.mono g kvs r⟩
theorem Gr.fresh {o : HO} (hr : HRel Z W H h) (n : H p = none) : Gr W H W (upd H p o) :=
  ⟨⟨[], by simp, fun _ z => nomatch z⟩, rfl, fun a u e _ => by rw [upd_ne (ne_of_none e n)]; exact e, fun a xs _ e => by rw [upd_ne (ne_of_none e n)]; exact e, fun a e => by
    by_cases q : a = p
    · subst q; exact n
    · rw [upd_ne q] at e; exact e⟩
theorem HRel.notin (hr : HRel Z W H h) (n : H p = none) : p ∉ W.rho := fun hm => by
  obtain ⟨i, hi, e⟩ := List.getElem_of_mem hm
  have hl := hr.len
  have q := hr.obj i p h[i] (by rw [List.getElem?_eq_getElem hi, e]) (List.getElem?_eq_getElem (by omega))
  cases ho : h[i] with
  | lst xs => rw [ho] at q; obtain ⟨vs, e1, _⟩ := q; rw [n] at e1; cases e1
  | ins c fs => rw [ho] at q; obtain ⟨C, dx, vs, _, e1, _⟩ := q; rw [n] at e1; cases e1
  | dct kvs => rw [ho] at q; obtain ⟨vs, e1, _⟩ := q; rw [n] at e1; cases e1
theorem HRel.fresh {o : HO} (hr : HRel Z W H h) (n : H p = none) : HRel Z W (upd H p o) h :=
  ⟨hr.len, hr.nd, fun i a ob e1 e2 => ObjR.mono (Gr.fresh hr n) (fun u e => by rw [upd_ne (ne_of_none e n)]; exact e) (hr.obj i a ob e1 e2), hr.dis, fun a f e => hr.frn a f ((Gr.fresh (o := o) hr n).trk a e)⟩
theorem HRel.nF (hr : HRel Z W H h) (n : H p = none) : ¬ W.F p := fun f => hr.frn p f n
/-- the new object as a cell -/
def Wd.add (W : Wd) (p : Addr) : Wd := ⟨W.rho ++ [p], W.F⟩
theorem Gr.cell {o : HO} (hr : HRel Z W H h) (n : H p = none) : Gr W H (W.add p) (upd H p o) :=
  ⟨⟨[p], rfl, fun a z => by rw [List.mem_singleton.mp z]; exact n⟩, rfl, fun a u e _ => by rw [upd_ne (ne_of_none e n)]; exact e, fun a xs _ e => by rw [upd_ne (ne_of_none e n)]; exact e, (Gr.fresh (o := o) hr n).trk⟩
theorem HRel.cell {o : HO} {ob : O} (hr : HRel Z W H h) (n : H p = none) (new : ObjR Z (W.add p) (upd H p o) p ob) : HRel Z (W.add p) (upd H p o) (h ++ [ob]) := by
  have np := hr.notin n
  refine ⟨by simp [Wd.add, hr.len], ?_, fun i a ob' e1 e2 => ?_, fun a ha => ?_, fun a f e => hr.frn a f ((Gr.cell (o := o) hr n).trk a e)⟩
  · show (W.rho ++ [p]).Nodup
    rw [List.nodup_append]
    exact ⟨hr.nd, by simp, fun a ha b hb => by rw [List.mem_singleton.mp hb]; rintro rfl; exact np ha⟩
  · by_cases hi : i < W.rho.length
    · have e1' : W.rho[i]? = some a := by rw [← e1]; exact (List.getElem?_append_left hi).symm
      have e2' : h[i]? = some ob' := by rw [← e2]; exact (List.getElem?_append_left (by rw [← hr.len]; exact hi)).symm
      exact ObjR.mono (Gr.cell hr n) (fun u e => by rw [upd_ne (ne_of_none e n)]; exact e) (hr.obj i a ob' e1' e2')
    · have hl := hr.len
      have e1' : (W.rho ++ [p])[i]? = some a := e1
      have hi2 : i = W.rho.length := by
        have := (List.getElem?_eq_some_iff.mp e1').1
        simp at this; omega
      subst hi2
      rw [List.getElem?_append_right (Nat.le_refl _)] at e1'
      rw [hl, List.getElem?_append_right (Nat.le_refl _)] at e2
      simp at e1' e2
      subst e1' e2
      exact new
  · rcases List.mem_append.mp ha with z | z
    · exact hr.dis a z
    · rw [List.mem_singleton.mp z]; exact hr.nF n
theorem Tri.newL {c : Bool} {xs : List D} {vs : List V} (t : TriD Z E Q W H (mkL c xs h)) (hr : HRel Z W H h) (r : RelDs Z W H xs vs) (n : H p = none) : Q (.ref p) (upd H p (.lst vs)) := by
  cases c with
  | false => exact t (.ref p) W (upd H p (.lst vs)) (Gr.fresh hr n) (hr.fresh n) ⟨p, vs, rfl, ⟨upd_same, hr.notin n, hr.nF n⟩, RelDs.mono (Gr.fresh hr n) xs r⟩
  | true =>
    refine t (.ref p) (W.add p) (upd H p (.lst vs)) (Gr.cell hr n) (hr.cell n ⟨vs, upd_same, RelDs.mono (Gr.cell hr n) xs r⟩) ⟨p, rfl, ?_⟩
    show (W.rho ++ [p])[h.length]? = some p
    rw [← hr.len, List.getElem?_append_right (Nat.le_refl _)]; simp
theorem Tri.newT {xs : List D} {vs : List V} (t : TriD Z E Q W H (.ok (.tup xs) h)) (hr : HRel Z W H h) (r : RelDs Z W H xs vs) (n : H p = none) : Q (.ref p) (upd H p (.tup vs)) :=
  t (.ref p) W (upd H p (.tup vs)) (Gr.fresh hr n) (hr.fresh n) ⟨p, vs, rfl, .inl upd_same, RelDs.mono (Gr.fresh hr n) xs r⟩
theorem Tri.now {α β : Type} {rel : Wd → Hp → α → β → Prop} {Q : β → Hp → Prop} {d : α} {v : β} (t : Tri Z rel E Q W H (.ok d h)) (hr : HRel Z W H h) (r : rel W H d v) : Q v H := t v W H Gr.refl hr r
end
/-! ### reading lists -/
def asO : Option O → Option (List D)
  | some (.lst xs) => some xs
  | _ => none
/-- the items of a tracked list, frozen or a cell -/
def asT (h : Hh) : D → Option (List D)
  | .lst xs => some xs
  | .cel i => asO h[i]?
  | _ => none
/-- the items of any list -/
def asL (h : Hh) : D → Option (List D)
  | .kl xs => some xs
  | d => asT h d
section
variable {Z : Zn} {W : Wd} {H : Hp} {h : Hh} {d : D} {v : V} {xs : List D}
theorem asT_at (hr : HRel Z W H h) (r : RelD Z W H d v) (e : asT h d = some xs) : ∃ a vs, v = .ref a ∧ H a = some (.lst vs) ∧ RelDs Z W H xs vs := by
  cases d with
  | lst ys =>
    obtain ⟨a, vs, e1, f, r1⟩ := r
    cases e
    exact ⟨a, vs, e1, f.1, r1⟩
  | cel i =>
    obtain ⟨a, e1, f⟩ := r
    have e : asO h[i]? = some xs := e
    cases q : h[i]? with
    | none => rw [q] at e; cases e
    | some o =>
      rw [q] at e
      cases o with
      | lst ys =>
        cases e
        obtain ⟨vs, e2, r2⟩ := hr.obj i a _ f q
        exact ⟨a, vs, e1, e2, r2⟩
      | ins c fs => cases e
      | dct kvs => cases e
  | _ => cases e
theorem asL_sq (hr : HRel Z W H h) (r : RelD Z W H d v) (e : asL h d = some xs) : ∃ a vs, v = .ref a ∧ SqL Z.K H a vs ∧ RelDs Z W H xs vs := by
  have go : asT h d = some xs → ∃ a vs, v = .ref a ∧ SqL Z.K H a vs ∧ RelDs Z W H xs vs := fun e => by
    obtain ⟨a, vs, e1, e2, r1⟩ := asT_at hr r e
    exact ⟨a, vs, e1, .inl (.inl e2), r1⟩
  cases d with
  | kl ys =>
    obtain ⟨a, vs, e1, f, r1⟩ := r
    cases e
    exact ⟨a, vs, e1, f.sq, r1⟩
  | _ => exact go e
end
end Tb
namespace Tb
open PySem PySem.Spec PyProof.Rows L2
/-! ### numbers and joins -/
def addL (c : Bool) (a b : Option (List D)) (h : Hh) : R D := match a, b with
  | some xs, some ys => if xs.length + ys.length ≤ LIM then mkL c (xs ++ ys) h else .bad
  | _, _ => .bad
def addD (c : Bool) (a b : D) (h : Hh) : R D := match a, b with
  | .int i, .int j => .ok (.int (i + j)) h
  | .str x, .str y => if x.length + y.length ≤ LIM then .ok (.str (x ++ y)) h else .bad
  | .tup xs, .tup ys => if xs.length + ys.length ≤ LIM then .ok (.tup (xs ++ ys)) h else .bad
  | a, b => addL c (asT h a) (asT h b) h
def mulL (c : Bool) (a : Option (List D)) (k : Int) (h : Hh) : R D := match a with
  | some xs => if xs.length * k.toNat ≤ LIM ∧ -1000000 ≤ k ∧ k ≤ 1000000 then mkL c (List.replicate k.toNat xs).flatten h else .bad
  | none => .bad
def mulD (c : Bool) (a b : D) (h : Hh) : R D := match a, b with
  | .int i, .int j => if small i = true ∧ small j = true then .ok (.int (i * j)) h else .bad
  | .str x, .int k => if x.length ≤ 1000 ∧ -1000 ≤ k ∧ k ≤ 1000 then .ok (.str (Txt.mul x k)) h else .bad
  | a, .int k => mulL c (asT h a) k h
  | _, _ => .bad
def fdivD (a b : D) (h : Hh) : R D := match a, b with
  | .int i, .int j => if 0 < j ∧ small j = true then .ok (.int (i / j)) h else .bad
  | _, _ => .bad
def modD (a b : D) (h : Hh) : R D := match a, b with
  | .int i, .int j => if 0 < j then .ok (.int (i % j)) h else if j < 0 then .ok (.int (i.fmod j)) h else .bad
  | _, _ => .bad
def powD (a b : D) (h : Hh) : R D := match a, b with
  | .int i, .int j => if 0 ≤ j ∧ j ≤ 10000 ∧ i.natAbs < 18446744073709551616 then .ok (.int (i ^ j.toNat)) h else .bad
  | _, _ => .bad
def subD (a b : D) (h : Hh) : R D := match a, b with
  | .int i, .int j => .ok (.int (i - j)) h
  | _, _ => .bad
def binD (c : Bool) : Operator → D → D → Hh → R D
  | .Add => addD c
  | .Sub => subD
  | .Mult => mulD c
  | .FloorDiv => fdivD
  | .Mod => modD
  | .Pow => powD
  | _ => fun _ _ _ => .bad
/-- a two-place step by values -/
def rD (Z : Zn) (g : D → D → Hh → R D) : R2 := fun x y H Q => ∃ W h a b, RelD Z W H a x ∧ RelD Z W H b y ∧ HRel Z W H h ∧ TriD Z (fun _ _ => False) Q W H (g a b h)
section
variable {X : Cx} {Z : Zn}
theorem lim_le : LIM ≤ sizeLine := by rw [sizeLine_eq]; decide
theorem lim_lt {n : Nat} (h : n ≤ LIM) : n < sizeLine := by rw [sizeLine_eq]; unfold LIM at h; omega
theorem small_log {i : Int} (h : small i = true) : i.natAbs.log2 < 1900 := by
  have q : i.natAbs < 2 ^ 1900 := of_decide_eq_true h
  exact PySem.Flt.log2_lt_of (by decide) q
/-- the pieces in the order that the rules want them -/
theorem opD_of {f : Value → Value → Sem Value} {g : D → D → Hh → R D}
    (k : ∀ (pins : List (Addr × Obj)) (s : Shared) (σ : L2.St) (H : Hp) (x y : V) (v u : Value) (Q : VK) (W : Wd) (h : Hh) (a b : D), Inv X pins σ H s → RelV x v → RelV y u → HRel Z W H h → RelD Z W H a x → RelD Z W H b y →
      TriD Z (fun _ _ => False) Q W H (g a b h) → wpAny (model X.prog X.w) X.A (f v u) (EP X pins σ Q) X.xe s) : OpR X f (rD Z g) := by
  intro pins s σ H x y v u Q I rx ry ⟨W, h, a, b, ra, rb, hr, t⟩
  exact k pins s σ H x y v u Q W h a b I rx ry hr ra rb t
theorem op_addD (hK : X.K = Z.K) (c : Bool) : OpR X (binaryOp .Add) (rD Z (addD c)) := by
  refine opD_of fun pins s σ H x y v u Q W h a b I rx ry hr ra rb t => ?_
  have lists : ∀ (t : TriD Z (fun _ _ => False) Q W H (addL c (asT h a) (asT h b) h)), wpAny (model X.prog X.w) X.A (binaryOp .Add v u) (EP X pins σ Q) X.xe s := fun t => by
    cases ea : asT h a with
    | none => rw [ea] at t; exact t.elim
    | some xs =>
      cases eb : asT h b with
      | none => rw [ea, eb] at t; exact t.elim
      | some ys =>
        rw [ea, eb] at t
        obtain ⟨p, vs, rfl, hp, r1⟩ := asT_at hr ra ea
        obtain ⟨q, us, rfl, hq, r2⟩ := asT_at hr rb eb
        by_cases hz : xs.length + ys.length ≤ LIM
        · have t : TriD Z (fun _ _ => False) Q W H (if xs.length + ys.length ≤ LIM then mkL c (xs ++ ys) h else .bad) := t
          rw [if_pos hz] at t
          refine op_cat pins s σ H _ _ v u Q I rx ry ⟨p, q, vs, us, rfl, rfl, hp, hq, ?_, fun l nl => Tri.newL t hr (r1.append r2) nl⟩
          rw [← r1.length, ← r2.length]
          exact Nat.le_trans hz lim_le
        · have t : TriD Z (fun _ _ => False) Q W H (if xs.length + ys.length ≤ LIM then mkL c (xs ++ ys) h else .bad) := t
          rw [if_neg hz] at t
          exact t.elim
  cases a with
  | int i =>
    cases b with
    | int j => exact op_add pins s σ H x y v u Q I rx ry ⟨i, j, ra, rb, t.now hr rfl⟩
    | _ => exact lists t
  | str z =>
    cases b with
    | str z' =>
      have t : TriD Z (fun _ _ => False) Q W H (if z.length + z'.length ≤ LIM then .ok (.str (z ++ z')) h else .bad) := t
      by_cases hz : z.length + z'.length ≤ LIM
      · rw [if_pos hz] at t
        exact op_add_str pins s σ H x y v u Q I rx ry ⟨z, z', ra, rb, Nat.le_trans hz lim_le, t.now hr rfl⟩
      · rw [if_neg hz] at t; exact t.elim
    | _ => exact lists t
  | tup xs =>
    cases b with
    | tup ys =>
      have t : TriD Z (fun _ _ => False) Q W H (if xs.length + ys.length ≤ LIM then .ok (.tup (xs ++ ys)) h else .bad) := t
      by_cases hz : xs.length + ys.length ≤ LIM
      · rw [if_pos hz] at t
        obtain ⟨p, vs, rfl, fp, r1⟩ := ra
        obtain ⟨q, us, rfl, fq, r2⟩ := rb
        refine op_catA pins s σ H _ _ v u Q I rx ry ⟨p, q, vs, us, rfl, rfl, hK ▸ fp.sq, hK ▸ fq.sq, ?_, fun e => ?_, fun _ e => ?_, fun _ _ l nl => Tri.newT t hr (r1.append r2) nl⟩
        · rw [← r1.length, ← r2.length]; exact Nat.le_trans hz lim_le
        · have := r1.length
          rw [e] at this
          have : xs = [] := List.eq_nil_of_length_eq_zero this
          subst this
          exact t.now hr ⟨q, us, rfl, fq, r2⟩
        · have := r2.length
          rw [e] at this
          have : ys = [] := List.eq_nil_of_length_eq_zero this
          subst this
          rw [List.append_nil] at t
          exact t.now hr ⟨p, vs, rfl, fp, r1⟩
      · rw [if_neg hz] at t; exact t.elim
    | _ => exact lists t
  | _ => exact lists t
theorem op_subD : OpR X (binaryOp .Sub) (rD Z subD) := by
  refine opD_of fun pins s σ H x y v u Q W h a b I rx ry hr ra rb t => ?_
  cases a with
  | int i =>
    cases b with
    | int j => exact op_sub pins s σ H x y v u Q I rx ry ⟨i, j, ra, rb, t.now hr rfl⟩
    | _ => exact t.elim
  | _ => cases b <;> exact t.elim
theorem op_mulD (c : Bool) : OpR X (binaryOp .Mult) (rD Z (mulD c)) := by
  refine opD_of fun pins s σ H x y v u Q W h a b I rx ry hr ra rb t => ?_
  have lists : ∀ k : Int, b = .int k → ∀ (t : TriD Z (fun _ _ => False) Q W H (mulL c (asT h a) k h)), wpAny (model X.prog X.w) X.A (binaryOp .Mult v u) (EP X pins σ Q) X.xe s := fun k eb t' => by
    clear t
    subst eb
    have t := t'
    cases ea : asT h a with
    | none => rw [ea] at t; exact t.elim
    | some xs =>
      rw [ea] at t
      obtain ⟨p, vs, rfl, hp, r1⟩ := asT_at hr ra ea
      have t : TriD Z (fun _ _ => False) Q W H (if xs.length * k.toNat ≤ LIM ∧ -1000000 ≤ k ∧ k ≤ 1000000 then mkL c (List.replicate k.toNat xs).flatten h else .bad) := t
      by_cases hz : xs.length * k.toNat ≤ LIM ∧ -1000000 ≤ k ∧ k ≤ 1000000
      · rw [if_pos hz] at t
        refine op_rep pins s σ H _ _ v u Q I rx ry ⟨p, k, vs, rfl, rb, hp, by omega, by omega, ?_, fun l nl => Tri.newL t hr (r1.rep _) nl⟩
        rw [← r1.length]
        exact Nat.le_trans hz.1 lim_le
      · rw [if_neg hz] at t; exact t.elim
  cases b with
  | int j =>
    cases a with
    | int i =>
      have t : TriD Z (fun _ _ => False) Q W H (if small i = true ∧ small j = true then .ok (.int (i * j)) h else .bad) := t
      by_cases hz : small i = true ∧ small j = true
      · rw [if_pos hz] at t
        have h1 := small_log hz.1
        have h2 := small_log hz.2
        exact op_mulW pins s σ H x y v u Q I rx ry ⟨i, j, ra, rb, by unfold CMulW; omega, t.now hr rfl⟩
      · rw [if_neg hz] at t; exact t.elim
    | str x =>
      have t : TriD Z (fun _ _ => False) Q W H (if x.length ≤ 1000 ∧ -1000 ≤ j ∧ j ≤ 1000 then .ok (.str (Txt.mul x j)) h else .bad) := t
      by_cases hz : x.length ≤ 1000 ∧ -1000 ≤ j ∧ j ≤ 1000
      · rw [if_pos hz] at t
        have ra : _ = V.str x := ra
        have rb : _ = V.int j := rb
        subst ra; subst rb
        obtain ⟨t1, rfl⟩ := rx
        obtain ⟨t2, rfl⟩ := ry
        exact PySem.SB.mul (PyProof.Rows.mulOk_of 1000 1000 hz.1 (by omega) (by omega) (by omega) (by omega)) fun t' k => ⟨.str _, H, I.tok _, ⟨_, rfl⟩, t.now hr rfl⟩
      · rw [if_neg hz] at t; exact t.elim
    | _ => exact lists j rfl t
  | _ => cases a <;> exact t.elim
theorem op_fdivD : OpR X (binaryOp .FloorDiv) (rD Z fdivD) := by
  refine opD_of fun pins s σ H x y v u Q W h a b I rx ry hr ra rb t => ?_
  cases a with
  | int i =>
    cases b with
    | int j =>
      have t : TriD Z (fun _ _ => False) Q W H (if 0 < j ∧ small j = true then .ok (.int (i / j)) h else .bad) := t
      by_cases hz : 0 < j ∧ small j = true
      · rw [if_pos hz] at t
        have h2 := small_log hz.2
        exact op_fdivW pins s σ H x y v u Q I rx ry ⟨i, j, ra, rb, ⟨hz.1, by omega⟩, t.now hr rfl⟩
      · rw [if_neg hz] at t; exact t.elim
    | _ => exact t.elim
  | _ => cases b <;> exact t.elim
theorem op_modD : OpR X (binaryOp .Mod) (rD Z modD) := by
  refine opD_of fun pins s σ H x y v u Q W h a b I rx ry hr ra rb t => ?_
  cases a with
  | int i =>
    cases b with
    | int j =>
      have t : TriD Z (fun _ _ => False) Q W H (if 0 < j then .ok (.int (i % j)) h else if j < 0 then .ok (.int (i.fmod j)) h else .bad) := t
      by_cases hz : 0 < j
      · rw [if_pos hz] at t
        exact op_mod pins s σ H x y v u Q I rx ry ⟨i, j, ra, rb, hz, t.now hr rfl⟩
      · rw [if_neg hz] at t
        by_cases hn : j < 0
        · rw [if_pos hn] at t
          exact op_modN pins s σ H x y v u Q I rx ry ⟨i, j, ra, rb, by omega, t.now hr rfl⟩
        · rw [if_neg hn] at t; exact t.elim
    | _ => exact t.elim
  | _ => cases b <;> exact t.elim
theorem op_powD : OpR X (binaryOp .Pow) (rD Z powD) := by
  refine opD_of fun pins s σ H x y v u Q W h a b I rx ry hr ra rb t => ?_
  cases a with
  | int i =>
    cases b with
    | int j =>
      have t : TriD Z (fun _ _ => False) Q W H (if 0 ≤ j ∧ j ≤ 10000 ∧ i.natAbs < 18446744073709551616 then .ok (.int (i ^ j.toNat)) h else .bad) := t
      by_cases hz : 0 ≤ j ∧ j ≤ 10000 ∧ i.natAbs < 18446744073709551616
      · rw [if_pos hz] at t
        exact op_pow pins s σ H x y v u Q I rx ry ⟨i, j, ra, rb, ⟨hz.1, by omega, by omega⟩, t.now hr rfl⟩
      · rw [if_neg hz] at t; exact t.elim
    | _ => exact t.elim
  | _ => cases b <;> exact t.elim
theorem op_none {f : Value → Value → Sem Value} : OpR X f (rD Z fun _ _ _ => .bad) := opD_of fun _ _ _ _ _ _ _ _ _ _ _ _ _ _ _ _ _ _ _ t => t.elim
theorem op_binD (hK : X.K = Z.K) (c : Bool) : ∀ o : Operator, OpR X (binaryOp o) (rD Z (binD c o))
  | .Add => op_addD hK c
  | .Sub => op_subD
  | .Mult => op_mulD c
  | .FloorDiv => op_fdivD
  | .Mod => op_modD
  | .Pow => op_powD
  | .MatMult => op_none
  | .Div => op_none
  | .LShift => op_none
  | .RShift => op_none
  | .BitOr => op_none
  | .BitXor => op_none
  | .BitAnd => op_none
end
/-! ### comparisons -/
mutual
def py : D → Option PyData
  | .non => some .none
  | .bl b => some (.bool b)
  | .int i => some (.int i)
  | .str x => some (.str x)
  | .tup xs => (pys xs).map .tuple
  | .lst xs => (pys xs).map .list
  | .kl xs => (pys xs).map .list
  | _ => none
def pys : List D → Option (List PyData)
  | [] => some []
  | d :: ds => (py d).bind fun p => (pys ds).map fun ps => p :: ps
end
def toPy (h : Hh) : D → Option PyData
  | .cel i => (asO h[i]?).bind fun xs => (pys xs).map .list
  | d => py d
section
variable {Z : Zn} {W : Wd} {H : Hp}
mutual
theorem py_dp : ∀ (d : D) {v : V} {p : PyData}, RelD Z W H d v → py d = some p → Dp Z.K H v p
  | .non, _, _, r, e => by cases e; rw [show _ = V.non from r]; exact .non
  | .bl b, _, _, r, e => by cases e; rw [show _ = V.bl b from r]; exact .bl b
  | .int i, _, _, r, e => by cases e; rw [show _ = V.int i from r]; exact .int i
  | .str x, _, _, r, e => by cases e; rw [show _ = V.str x from r]; exact .str x
  | .tup xs, _, _, ⟨a, vs, e1, f, r⟩, e => by
    obtain ⟨ps, e2, rfl⟩ := Option.map_eq_some_iff.mp (show (pys xs).map PyData.tuple = some _ from e)
    subst e1
    exact .tup f.sq (pys_dp xs r e2)
  | .lst xs, _, _, ⟨a, vs, e1, f, r⟩, e => by
    obtain ⟨ps, e2, rfl⟩ := Option.map_eq_some_iff.mp (show (pys xs).map PyData.list = some _ from e)
    subst e1
    exact .lst f.sq (pys_dp xs r e2)
  | .kl xs, _, _, ⟨a, vs, e1, f, r⟩, e => by
    obtain ⟨ps, e2, rfl⟩ := Option.map_eq_some_iff.mp (show (pys xs).map PyData.list = some _ from e)
    subst e1
    exact .lst f.sq (pys_dp xs r e2)
  | .dic _, _, _, _, e => by cases e
  | .cel _, _, _, _, e => by cases e
  | .cls _, _, _, _, e => by cases e
  | .ty _, _, _, _, e => by cases e
  | .exc _, _, _, _, e => by cases e
theorem pys_dp : ∀ (ds : List D) {vs : List V} {ps : List PyData}, RelDs Z W H ds vs → pys ds = some ps → DpAll Z.K H vs ps
  | [], _, _, r, e => by cases e; rw [show _ = [] from r]; exact .nil
  | d :: ds, _, _, ⟨v, r, e1, h1, h2⟩, e => by
    obtain ⟨p, e2, e3⟩ := Option.bind_eq_some_iff.mp (show (py d).bind _ = some _ from e)
    obtain ⟨ps, e4, rfl⟩ := Option.map_eq_some_iff.mp e3
    subst e1
    exact .cons (py_dp d h1 e2) (pys_dp ds h2 e4)
end
theorem toPy_dp {h : Hh} {d : D} {v : V} {p : PyData} (hr : HRel Z W H h) (r : RelD Z W H d v) (e : toPy h d = some p) : Dp Z.K H v p := by
  have go : py d = some p → Dp Z.K H v p := py_dp d r
  cases d with
  | cel i =>
    obtain ⟨xs, e1, e2⟩ := Option.bind_eq_some_iff.mp (show (asO h[i]?).bind _ = some _ from e)
    obtain ⟨ps, e3, rfl⟩ := Option.map_eq_some_iff.mp e2
    obtain ⟨a, vs, rfl, hp, r1⟩ := asT_at (d := .cel i) hr r e1
    exact .lst (.inl (.inl hp)) (pys_dp xs r1 e3)
  | _ => exact go e
end
def mapO (f : D → Option PyData) : List D → Option (List PyData)
  | [] => some []
  | d :: ds => (f d).bind fun p => (mapO f ds).map fun ps => p :: ps
/-- data with cells within -/
def pyN (h : Hh) : Nat → D → Option PyData
  | 0, _ => none
  | k + 1, d => match d with
    | .tup xs => (mapO (pyN h k) xs).map .tuple
    | .lst xs => (mapO (pyN h k) xs).map .list
    | .kl xs => (mapO (pyN h k) xs).map .list
    | .cel i => (asO h[i]?).bind fun xs => (mapO (pyN h k) xs).map .list
    | d => py d
section
variable {Z : Zn} {W : Wd} {H : Hp}
theorem mapO_dp {f : D → Option PyData} (ih : ∀ (d : D) (v : V) (p : PyData), RelD Z W H d v → f d = some p → Dp Z.K H v p) : ∀ (ds : List D) {vs : List V} {ps : List PyData}, RelDs Z W H ds vs → mapO f ds = some ps → DpAll Z.K H vs ps
  | [], _, _, r, e => by cases e; rw [show _ = [] from r]; exact .nil
  | d :: ds, _, _, ⟨v, r, e1, h1, h2⟩, e => by
    obtain ⟨p, e2, e3⟩ := Option.bind_eq_some_iff.mp (show (f d).bind _ = some _ from e)
    obtain ⟨ps, e4, rfl⟩ := Option.map_eq_some_iff.mp e3
    subst e1
    exact .cons (ih d v p h1 e2) (mapO_dp ih ds h2 e4)
theorem pyN_dp {h : Hh} (hr : HRel Z W H h) : ∀ (k : Nat) (d : D) (v : V) (p : PyData), RelD Z W H d v → pyN h k d = some p → Dp Z.K H v p
  | 0, _, _, _, _, e => by cases e
  | k + 1, d, v, p, r, e => by
    have ih := pyN_dp hr k
    cases d with
    | tup xs =>
      obtain ⟨a, vs, e1, f, r⟩ := r
      obtain ⟨ps, e2, rfl⟩ := Option.map_eq_some_iff.mp (show (mapO (pyN h k) xs).map PyData.tuple = some _ from e)
      subst e1
      exact .tup f.sq (mapO_dp ih xs r e2)
    | lst xs =>
      obtain ⟨a, vs, e1, f, r⟩ := r
      obtain ⟨ps, e2, rfl⟩ := Option.map_eq_some_iff.mp (show (mapO (pyN h k) xs).map PyData.list = some _ from e)
      subst e1
      exact .lst f.sq (mapO_dp ih xs r e2)
    | kl xs =>
      obtain ⟨a, vs, e1, f, r⟩ := r
      obtain ⟨ps, e2, rfl⟩ := Option.map_eq_some_iff.mp (show (mapO (pyN h k) xs).map PyData.list = some _ from e)
      subst e1
      exact .lst f.sq (mapO_dp ih xs r e2)
    | cel i =>
      obtain ⟨xs, e1, e2⟩ := Option.bind_eq_some_iff.mp (show (asO h[i]?).bind _ = some _ from e)
      obtain ⟨ps, e3, rfl⟩ := Option.map_eq_some_iff.mp e2
      obtain ⟨a, vs, rfl, hp, r1⟩ := asT_at (d := .cel i) hr r e1
      exact .lst (.inl (.inl hp)) (mapO_dp ih xs r1 e3)
    | _ => exact py_dp _ r e
end
/-- == -/
def eqP : Option PyData → Option PyData → Option Bool
  | some p, some q => if SeqAt.shaped p = true ∧ SeqAt.shaped q = true then some (PyData.eqv p q) else none
  | _, _ => none
/-- lists of unlike lengths, whatever stands in them -/
def neLen (h : Hh) (a b : D) : Option Bool := match asT h a, asT h b with
  | some xs, some ys => if xs.length = ys.length then eqP (pyN h 8 a) (pyN h 8 b) else some false
  | _, _ => eqP (pyN h 8 a) (pyN h 8 b)
def eqD (h : Hh) (a b : D) : Option Bool := match a, b with
  | .int i, .int j => some (i == j)
  | .str i, .str j => some (decide (i = j))
  | a, b => match eqP (toPy h a) (toPy h b) with
    | some r => some r
    | none => neLen h a b
/-- items that are == -/
def inP : Option PyData → Option PyData → Option Bool
  | some p, some (.list ds) => if SeqAt.shaped p = true ∧ SeqAt.shaped (.list ds) = true then some (ds.any fun z => PyData.eqv z p) else none
  | some p, some (.tuple ds) => if SeqAt.shaped p = true ∧ SeqAt.shaped (.tuple ds) = true then some (ds.any fun z => PyData.eqv z p) else none
  | _, _ => none
def hasK (kvs : List (Key × D)) (k : Key) : Bool := kvs.any fun p => decide (p.1 = k)
def inD (h : Hh) (a b : D) : Option Bool := match a, b with
  | .int i, .dic kvs => some (hasK kvs (.inl i))
  | .str i, .dic kvs => some (hasK kvs (.inr i))
  | .str x, .str y => some (!(Builtin.Str.occurrences y x 0 y.length 1).isEmpty)
  | a, b => inP (toPy h a) (toPy h b)
def isD (a b : D) : Option Bool := match b with
  | .non => match a with
    | .non => some true
    | _ => some false
  | .bl y => match a with
    | .bl x => some (decide (x = y))
    | _ => none
  | _ => none
def ltD (a b : D) : Option Bool := match a, b with
  | .int i, .int j => some (decide (i < j))
  | _, _ => none
def leD (a b : D) : Option Bool := match a, b with
  | .int i, .int j => some (decide (i ≤ j))
  | _, _ => none
def cmpD (o : CmpOp) (h : Hh) (a b : D) : Option Bool := match o with
  | .Eq => eqD h a b
  | .NotEq => (eqD h a b).map not
  | .Lt => ltD a b
  | .LtE => leD a b
  | .Gt => ltD b a
  | .GtE => leD b a
  | .Is => isD a b
  | .IsNot => (isD a b).map not
  | .In => inD h a b
  | .NotIn => (inD h a b).map not
def ofB (o : Option Bool) (h : Hh) : R D := match o with
  | some b => .ok (.bl b) h
  | none => .bad
section
variable {X : Cx} {Z : Zn}
theorem ofB_tri {E Q W H h} {o : Option Bool} (t : TriD Z E Q W H (ofB o h)) (hE : ∀ c H, ¬ E c H) (hr : HRel Z W H h) : ∃ b, o = some b ∧ Q (.bl b) H := by
  cases o with
  | none => exact t.elim
  | some b => exact ⟨b, rfl, t.now hr rfl⟩
theorem cmp_of {op : CmpOp} {g : Hh → D → D → Option Bool}
    (k : ∀ (pins : List (Addr × Obj)) (s : Shared) (σ : L2.St) (H : Hp) (x y : V) (v u : Value) (Q : VK) (W : Wd) (h : Hh) (a b : D) (r : Bool), Inv X pins σ H s → RelV x v → RelV y u → HRel Z W H h → RelD Z W H a x → RelD Z W H b y →
      g h a b = some r → Q (.bl r) H → wpAny (model X.prog X.w) X.A (compareOp op v u) (EP X pins σ Q) X.xe s) : OpR X (compareOp op) (rD Z fun a b h => ofB (g h a b) h) := by
  refine opD_of fun pins s σ H x y v u Q W h a b I rx ry hr ra rb t => ?_
  obtain ⟨r, e, q⟩ := ofB_tri t (fun _ _ z => z) hr
  exact k pins s σ H x y v u Q W h a b r I rx ry hr ra rb e q
theorem eqP_some {p q : Option PyData} {r : Bool} (e : eqP p q = some r) : ∃ a b, p = some a ∧ q = some b ∧ SeqAt.shaped a = true ∧ SeqAt.shaped b = true ∧ r = PyData.eqv a b := by
  cases p with
  | none => cases e
  | some a =>
    cases q with
    | none => cases e
    | some b =>
      have e : (if SeqAt.shaped a = true ∧ SeqAt.shaped b = true then some (PyData.eqv a b) else none) = some r := e
      by_cases hz : SeqAt.shaped a = true ∧ SeqAt.shaped b = true
      · rw [if_pos hz] at e; cases e; exact ⟨a, b, rfl, rfl, hz.1, hz.2, rfl⟩
      · rw [if_neg hz] at e; cases e
def rLen (K : PySem.W.Frag) (r : Bool) : R2 := fun x y H Q => ∃ a b xs ys, x = .ref a ∧ y = .ref b ∧ SqL K H a xs ∧ SqL K H b ys ∧ xs.length ≠ ys.length ∧ Q (.bl r) H
theorem op_eqLen (hu : X.A.units < cLine) : OpR X (compareOp .Eq) (rLen X.K false) := by
  intro pins s σ H x y v u Q I rx ry ⟨a, b, xs, ys, hx, hy, ha, hb, ne, q⟩
  subst hx hy
  cases rx
  cases ry
  obtain ⟨its, rv, pl, hz⟩ := I.list ha
  obtain ⟨its2, rv2, pl2, hz2⟩ := I.list hb
  have l1 := rv.length
  have l2 := rv2.length
  exact PySem.SeqAt.RcAt.lists_lengths pl.isList pl2.isList (by simp; omega) hu _ _ _ _ ⟨.bl false, H, I, rfl, q⟩
theorem op_neLen (hu : X.A.units < cLine) : OpR X (compareOp .NotEq) (rLen X.K true) := by
  intro pins s σ H x y v u Q I rx ry ⟨a, b, xs, ys, hx, hy, ha, hb, ne, q⟩
  subst hx hy
  cases rx
  cases ry
  obtain ⟨its, rv, pl, hz⟩ := I.list ha
  obtain ⟨its2, rv2, pl2, hz2⟩ := I.list hb
  have l1 := rv.length
  have l2 := rv2.length
  exact PySem.SeqAt.RcNeAt.lists_lengths pl.isList pl2.isList (by simp; omega) hu _ _ _ _ ⟨.bl true, H, I, rfl, q⟩
theorem dec_strV {i j : Str} : decide (V.str i = V.str j) = decide (i = j) := by simp only [V.str.injEq]
theorem neLen_some {h : Hh} {a b : D} {r : Bool} (e : neLen h a b = some r) : (r = false ∧ ∃ xs ys, asT h a = some xs ∧ asT h b = some ys ∧ xs.length ≠ ys.length) ∨ eqP (pyN h 8 a) (pyN h 8 b) = some r := by
  unfold neLen at e
  cases ea : asT h a with
  | none => rw [ea] at e; exact .inr e
  | some xs =>
    cases eb : asT h b with
    | none => rw [ea, eb] at e; exact .inr e
    | some ys =>
      simp only [ea, eb] at e
      by_cases hl : xs.length = ys.length
      · rw [if_pos hl] at e; exact .inr e
      · rw [if_neg hl] at e; cases e; exact .inl ⟨rfl, xs, ys, rfl, rfl, hl⟩
theorem op_eqX (hK : X.K = Z.K) (hu : X.A.units + 64 < cLine) : OpR X (compareOp .Eq) (rD Z fun a b h => ofB (eqD h a b) h) := by
  refine cmp_of (g := eqD) fun pins s σ H x y v u Q W h a b r I rx ry hr ra rb e q => ?_
  have gen : ∀ (e : (match eqP (toPy h a) (toPy h b) with | some r => some r | none => neLen h a b) = some r), wpAny (model X.prog X.w) X.A (compareOp .Eq v u) (EP X pins σ Q) X.xe s := fun e => by
    cases q0 : eqP (toPy h a) (toPy h b) with
    | none =>
      rw [q0] at e
      rcases neLen_some e with ⟨rfl, xs, ys, ea, eb, ne⟩ | e
      rotate_left
      · obtain ⟨p, p', e1, e2, s1, s2, rfl⟩ := eqP_some e
        exact op_eqD hu pins s σ H x y v u Q I rx ry ⟨p, p', hK ▸ pyN_dp hr 8 _ _ _ ra e1, hK ▸ pyN_dp hr 8 _ _ _ rb e2, s1, s2, q⟩
      obtain ⟨p, vs, rfl, hp, r1⟩ := asT_at hr ra ea
      obtain ⟨p', us, rfl, hp', r2⟩ := asT_at hr rb eb
      exact op_eqLen (by omega) pins s σ H _ _ v u Q I rx ry ⟨p, p', vs, us, rfl, rfl, .inl (.inl hp), .inl (.inl hp'), by rw [← r1.length, ← r2.length]; exact ne, q⟩
    | some r' =>
    rw [q0] at e
    cases e
    obtain ⟨p, p', e1, e2, s1, s2, rfl⟩ := eqP_some q0
    exact op_eqD hu pins s σ H x y v u Q I rx ry ⟨p, p', hK ▸ toPy_dp hr ra e1, hK ▸ toPy_dp hr rb e2, s1, s2, q⟩
  cases a with
  | int i =>
    cases b with
    | int j =>
      cases e
      rw [show x = V.int i from ra] at rx
      rw [show y = V.int j from rb] at ry
      exact op_eq pins s σ H _ _ v u Q I rx ry ⟨rfl, by rw [dec_int]; exact q⟩
    | _ => exact gen e
  | str i =>
    cases b with
    | str j =>
      cases e
      rw [show x = V.str i from ra] at rx
      rw [show y = V.str j from rb] at ry
      exact op_eq pins s σ H _ _ v u Q I rx ry ⟨rfl, by rw [dec_strV]; exact q⟩
    | _ => exact gen e
  | _ => exact gen e
theorem op_neX (hK : X.K = Z.K) (hu : X.A.units + 64 < cLine) : OpR X (compareOp .NotEq) (rD Z fun a b h => ofB ((eqD h a b).map not) h) := by
  refine cmp_of (g := fun h a b => (eqD h a b).map not) fun pins s σ H x y v u Q W h a b r0 I rx ry hr ra rb e0 q => ?_
  obtain ⟨r, e, rfl⟩ := Option.map_eq_some_iff.mp e0
  clear e0
  have gen : ∀ (e : (match eqP (toPy h a) (toPy h b) with | some r => some r | none => neLen h a b) = some r), wpAny (model X.prog X.w) X.A (compareOp .NotEq v u) (EP X pins σ Q) X.xe s := fun e => by
    cases q0 : eqP (toPy h a) (toPy h b) with
    | none =>
      rw [q0] at e
      rcases neLen_some e with ⟨rfl, xs, ys, ea, eb, ne⟩ | e
      rotate_left
      · obtain ⟨p, p', e1, e2, s1, s2, rfl⟩ := eqP_some e
        exact op_neD hu pins s σ H x y v u Q I rx ry ⟨p, p', hK ▸ pyN_dp hr 8 _ _ _ ra e1, hK ▸ pyN_dp hr 8 _ _ _ rb e2, s1, s2, q⟩
      obtain ⟨p, vs, rfl, hp, r1⟩ := asT_at hr ra ea
      obtain ⟨p', us, rfl, hp', r2⟩ := asT_at hr rb eb
      exact op_neLen (by omega) pins s σ H _ _ v u Q I rx ry ⟨p, p', vs, us, rfl, rfl, .inl (.inl hp), .inl (.inl hp'), by rw [← r1.length, ← r2.length]; exact ne, q⟩
    | some r' =>
    rw [q0] at e
    cases e
    obtain ⟨p, p', e1, e2, s1, s2, rfl⟩ := eqP_some q0
    exact op_neD hu pins s σ H x y v u Q I rx ry ⟨p, p', hK ▸ toPy_dp hr ra e1, hK ▸ toPy_dp hr rb e2, s1, s2, q⟩
  cases a with
  | int i =>
    cases b with
    | int j =>
      obtain rfl : (i == j) = r := Option.some.inj e
      rw [show x = V.int i from ra] at rx
      rw [show y = V.int j from rb] at ry
      exact op_ne pins s σ H _ _ v u Q I rx ry ⟨rfl, by rw [dec_int]; exact q⟩
    | _ => exact gen e
  | str i =>
    cases b with
    | str j =>
      obtain rfl : decide (i = j) = r := Option.some.inj e
      rw [show x = V.str i from ra] at rx
      rw [show y = V.str j from rb] at ry
      exact op_ne pins s σ H _ _ v u Q I rx ry ⟨rfl, by rw [dec_strV]; exact q⟩
    | _ => exact gen e
  | _ => exact gen e
theorem op_ltX : OpR X (compareOp .Lt) (rD Z fun a b h => ofB (ltD a b) h) := by
  refine cmp_of (g := fun _ => ltD) fun pins s σ H x y v u Q W h a b r I rx ry hr ra rb e q => ?_
  cases a with
  | int i =>
    cases b with
    | int j => cases e; exact op_lt pins s σ H x y v u Q I rx ry ⟨i, j, ra, rb, q⟩
    | _ => cases e
  | _ => cases b <;> cases e
theorem op_gtX : OpR X (compareOp .Gt) (rD Z fun a b h => ofB (ltD b a) h) := by
  refine cmp_of (g := fun _ a b => ltD b a) fun pins s σ H x y v u Q W h a b r I rx ry hr ra rb e q => ?_
  cases a with
  | int i =>
    cases b with
    | int j => cases e; exact op_gt pins s σ H x y v u Q I rx ry ⟨i, j, ra, rb, q⟩
    | _ => cases e
  | _ => cases b <;> cases e
theorem op_leX : OpR X (compareOp .LtE) (rD Z fun a b h => ofB (leD a b) h) := by
  refine cmp_of (g := fun _ => leD) fun pins s σ H x y v u Q W h a b r I rx ry hr ra rb e q => ?_
  cases a with
  | int i =>
    cases b with
    | int j => cases e; exact op_le pins s σ H x y v u Q I rx ry ⟨i, j, ra, rb, q⟩
    | _ => cases e
  | _ => cases b <;> cases e
theorem op_geX : OpR X (compareOp .GtE) (rD Z fun a b h => ofB (leD b a) h) := by
  refine cmp_of (g := fun _ a b => leD b a) fun pins s σ H x y v u Q W h a b r I rx ry hr ra rb e q => ?_
  cases a with
  | int i =>
    cases b with
    | int j => cases e; exact op_ge pins s σ H x y v u Q I rx ry ⟨i, j, ra, rb, q⟩
    | _ => cases e
  | _ => cases b <;> cases e
theorem rel_non {W H} {a : D} {x : V} {r : Bool} (ra : RelD Z W H a x) (e : isD a .non = some r) : decide (x = .non) = r := by
  cases a with
  | non => cases e; rw [show x = V.non from ra]; rfl
  | bl b => cases e; rw [show x = V.bl b from ra]; rfl
  | int b => cases e; rw [show x = V.int b from ra]; rfl
  | str b => cases e; rw [show x = V.str b from ra]; rfl
  | ty b => cases e; rw [show x = V.ty b from ra]; rfl
  | tup b => cases e; obtain ⟨p, _, rfl, _⟩ := ra; rfl
  | lst b => cases e; obtain ⟨p, _, rfl, _⟩ := ra; rfl
  | kl b => cases e; obtain ⟨p, _, rfl, _⟩ := ra; rfl
  | dic b => cases e; obtain ⟨p, _, rfl, _⟩ := ra; rfl
  | cel b => cases e; obtain ⟨p, rfl, _⟩ := ra; rfl
  | cls b => cases e; obtain ⟨p, rfl, _⟩ := ra; rfl
  | exc b => cases e; obtain ⟨p, _, rfl, _⟩ := ra; rfl
theorem op_isX : OpR X (compareOp .Is) (rD Z fun a b h => ofB (isD a b) h) := by
  refine cmp_of (g := fun _ => isD) fun pins s σ H x y v u Q W h a b r I rx ry hr ra rb e q => ?_
  cases b with
  | non => exact op_isN pins s σ H x y v u Q I rx ry ⟨rb, by rw [rel_non ra e]; exact q⟩
  | bl j =>
    cases a with
    | bl i => cases e; exact op_isBl pins s σ H x y v u Q I rx ry ⟨i, j, ra, rb, q⟩
    | _ => cases e
  | _ => cases e
theorem op_isNotX : OpR X (compareOp .IsNot) (rD Z fun a b h => ofB ((isD a b).map not) h) := by
  refine cmp_of (g := fun _ a b => (isD a b).map not) fun pins s σ H x y v u Q W h a b r0 I rx ry hr ra rb e0 q => ?_
  obtain ⟨r, e, rfl⟩ := Option.map_eq_some_iff.mp e0
  clear e0
  cases b with
  | non => exact op_notN pins s σ H x y v u Q I rx ry ⟨rb, by rw [rel_non ra e]; exact q⟩
  | bl j =>
    cases a with
    | bl i => cases e; exact op_notBl pins s σ H x y v u Q I rx ry ⟨i, j, ra, rb, q⟩
    | _ => cases e
  | _ => cases e
end
end Tb
namespace Tb
open PySem PySem.Spec PyProof.Rows L2
section
variable {X : Cx} {Z : Zn}
theorem relK_any {W H} {k : Key} : ∀ {kvs : List (Key × D)} {vs : List (Key × V)}, RelKs Z W H kvs vs → hasK kvs k = (valV vs k).isSome
  | [], _, r => by rw [show _ = [] from r]; rfl
  | (k', d) :: kvs, _, ⟨v, r, e, h1, h2⟩ => by
    subst e
    rw [← valV_any]
    show (decide (k' = k) || hasK kvs k) = (decide (k' = k) || _)
    rw [relK_any h2, ← valV_any]
theorem inP_some {p q : Option PyData} {r : Bool} (e : inP p q = some r) : ∃ a ds, p = some a ∧ ((q = some (.list ds) ∧ SeqAt.shaped (.list ds) = true) ∨ (q = some (.tuple ds) ∧ SeqAt.shaped (.tuple ds) = true)) ∧ SeqAt.shaped a = true ∧ r = ds.any fun z => PyData.eqv z a := by
  cases p with
  | none => cases e
  | some a =>
    cases q with
    | none => cases e
    | some b =>
      cases b with
      | list ds =>
        have e : (if SeqAt.shaped a = true ∧ SeqAt.shaped (.list ds) = true then some (ds.any fun z => PyData.eqv z a) else none) = some r := e
        by_cases hz : SeqAt.shaped a = true ∧ SeqAt.shaped (.list ds) = true
        · rw [if_pos hz] at e; cases e; exact ⟨a, ds, rfl, .inl ⟨rfl, hz.2⟩, hz.1, rfl⟩
        · rw [if_neg hz] at e; cases e
      | tuple ds =>
        have e : (if SeqAt.shaped a = true ∧ SeqAt.shaped (.tuple ds) = true then some (ds.any fun z => PyData.eqv z a) else none) = some r := e
        by_cases hz : SeqAt.shaped a = true ∧ SeqAt.shaped (.tuple ds) = true
        · rw [if_pos hz] at e; cases e; exact ⟨a, ds, rfl, .inr ⟨rfl, hz.2⟩, hz.1, rfl⟩
        · rw [if_neg hz] at e; cases e
      | _ => cases e
theorem op_inT (hu : X.A.units + 65 < cLine) : OpR X (compareOp .In) (fun x y H Q => ∃ d ds, Dp X.K H x d ∧ Dp X.K H y (.tuple ds) ∧ SeqAt.shaped d = true ∧ SeqAt.shaped (.tuple ds) = true ∧ Q (.bl (ds.any fun z => PyData.eqv z d)) H) := by
  intro pins s σ H x y v u Q I rx ry h
  obtain ⟨d, ds, hd, he, sd, se, q⟩ := h
  obtain ⟨as, r1⟩ := Dp.reads I d x v hd rx
  obtain ⟨bs, r2⟩ := Dp.reads I (.tuple ds) y u he ry
  exact SeqAt.in_tuple_reads r2 r1 (SeqAt.canLay_of_shaped se) (SeqAt.canLay_of_shaped sd) (room_in_shaped sd hu) ⟨.bl _, H, I, rfl, q⟩
theorem op_notInT (hu : X.A.units + 65 < cLine) : OpR X (compareOp .NotIn) (fun x y H Q => ∃ d ds, Dp X.K H x d ∧ Dp X.K H y (.tuple ds) ∧ SeqAt.shaped d = true ∧ SeqAt.shaped (.tuple ds) = true ∧ Q (.bl (!ds.any fun z => PyData.eqv z d)) H) := by
  intro pins s σ H x y v u Q I rx ry h
  obtain ⟨d, ds, hd, he, sd, se, q⟩ := h
  obtain ⟨as, r1⟩ := Dp.reads I d x v hd rx
  obtain ⟨bs, r2⟩ := Dp.reads I (.tuple ds) y u he ry
  exact SeqAt.notIn_tuple_reads r2 r1 (SeqAt.canLay_of_shaped se) (SeqAt.canLay_of_shaped sd) (room_in_shaped sd hu) ⟨.bl _, H, I, rfl, q⟩
theorem op_inX (hK : X.K = Z.K) (hu : X.A.units + 65 < cLine) : OpR X (compareOp .In) (rD Z fun a b h => ofB (inD h a b) h) := by
  refine cmp_of (g := inD) fun pins s σ H x y v u Q W h a b r I rx ry hr ra rb e q => ?_
  have gen : ∀ (e : inP (toPy h a) (toPy h b) = some r), wpAny (model X.prog X.w) X.A (compareOp .In v u) (EP X pins σ Q) X.xe s := fun e => by
    obtain ⟨p, ds, e1, ⟨e2, s2⟩ | ⟨e2, s2⟩, s1, rfl⟩ := inP_some e
    · exact op_inD hu pins s σ H x y v u Q I rx ry ⟨p, ds, hK ▸ toPy_dp hr ra e1, hK ▸ toPy_dp hr rb e2, s1, s2, q⟩
    · exact op_inT hu pins s σ H x y v u Q I rx ry ⟨p, ds, hK ▸ toPy_dp hr ra e1, hK ▸ toPy_dp hr rb e2, s1, s2, q⟩
  have dict : ∀ (k : Key) (kvs : List (Key × D)), x = kV k → b = .dic kvs → hasK kvs k = r → wpAny (model X.prog X.w) X.A (compareOp .In v u) (EP X pins σ Q) X.xe s := fun k kvs ex eb e1 => by
    subst ex; subst eb
    obtain ⟨p, vs, rfl, hp, _, _, rk⟩ := rb
    cases ry
    refine d_in (by omega) I (DGet.k (k := k) hp) rx fun s3 I3 => ⟨.bl _, H, I3, rfl, ?_⟩
    rw [← relK_any rk, e1]; exact q
  cases a with
  | int i =>
    cases b with
    | dic kvs => cases e; exact dict (.inl i) kvs ra rfl rfl
    | _ => exact gen e
  | str i =>
    cases b with
    | dic kvs => cases e; exact dict (.inr i) kvs ra rfl rfl
    | str j => cases e; exact op_in_str pins s σ H x y v u Q I rx ry ⟨i, j, ra, rb, q⟩
    | _ => exact gen e
  | _ => exact gen e
theorem op_notInX (hK : X.K = Z.K) (hu : X.A.units + 65 < cLine) : OpR X (compareOp .NotIn) (rD Z fun a b h => ofB ((inD h a b).map not) h) := by
  refine cmp_of (g := fun h a b => (inD h a b).map not) fun pins s σ H x y v u Q W h a b r0 I rx ry hr ra rb e0 q => ?_
  obtain ⟨r, e, rfl⟩ := Option.map_eq_some_iff.mp e0
  clear e0
  have gen : ∀ (e : inP (toPy h a) (toPy h b) = some r), wpAny (model X.prog X.w) X.A (compareOp .NotIn v u) (EP X pins σ Q) X.xe s := fun e => by
    obtain ⟨p, ds, e1, ⟨e2, s2⟩ | ⟨e2, s2⟩, s1, rfl⟩ := inP_some e
    · exact op_notInD hu pins s σ H x y v u Q I rx ry ⟨p, ds, hK ▸ toPy_dp hr ra e1, hK ▸ toPy_dp hr rb e2, s1, s2, q⟩
    · exact op_notInT hu pins s σ H x y v u Q I rx ry ⟨p, ds, hK ▸ toPy_dp hr ra e1, hK ▸ toPy_dp hr rb e2, s1, s2, q⟩
  have dict : ∀ (k : Key) (kvs : List (Key × D)), x = kV k → b = .dic kvs → hasK kvs k = r → wpAny (model X.prog X.w) X.A (compareOp .NotIn v u) (EP X pins σ Q) X.xe s := fun k kvs ex eb e1 => by
    subst ex; subst eb
    obtain ⟨p, vs, rfl, hp, _, _, rk⟩ := rb
    cases ry
    refine d_notIn (by omega) I (DGet.k (k := k) hp) rx fun s3 I3 => ⟨.bl _, H, I3, rfl, ?_⟩
    rw [← relK_any rk, e1]; exact q
  cases a with
  | int i =>
    cases b with
    | dic kvs => exact dict (.inl i) kvs ra rfl (Option.some.inj e)
    | _ => exact gen e
  | str i =>
    cases b with
    | dic kvs => exact dict (.inr i) kvs ra rfl (Option.some.inj e)
    | str j =>
      obtain rfl : (!(Builtin.Str.occurrences j i 0 j.length 1).isEmpty) = r := Option.some.inj e
      exact op_notIn_str pins s σ H x y v u Q I rx ry ⟨i, j, ra, rb, q⟩
    | _ => exact gen e
  | _ => exact gen e
theorem op_cmpD (hK : X.K = Z.K) (hu : X.A.units + 65 < cLine) : ∀ o : CmpOp, OpR X (compareOp o) (rD Z fun a b h => ofB (cmpD o h a b) h)
  | .Eq => op_eqX hK (by omega)
  | .NotEq => op_neX hK (by omega)
  | .Lt => op_ltX
  | .LtE => op_leX
  | .Gt => op_gtX
  | .GtE => op_geX
  | .Is => op_isX
  | .IsNot => op_isNotX
  | .In => op_inX hK hu
  | .NotIn => op_notInX hK hu
end
/-! ### a[i] -/
def optD (o : Option D) (h : Hh) : R D := match o with
  | some d => .ok d h
  | none => .bad
def idxL (o : Option (List D)) (i : Int) (h : Hh) : R D := match o with
  | some xs => optD (atI xs i) h
  | none => .bad
def idxS (x : Str) (i : Int) : Option D := if x.length ≤ LIM then (atI x.cps.toList i).map fun c => .str ⟨#[c]⟩ else none
def idxD (a b : D) (h : Hh) : R D := match b with
  | .int i => match a with
    | .tup xs => optD (atI xs i) h
    | .str x => optD (idxS x i) h
    | a => idxL (asL h a) i h
  | _ => .bad
theorem atI_rel {Z : Zn} {W : Wd} {H : Hp} {xs : List D} {vs : List V} {i : Int} {d : D} (r : RelDs Z W H xs vs) (e : atI xs i = some d) : ∃ v, atI vs i = some v ∧ RelD Z W H d v := by
  unfold atI at e ⊢
  rw [← r.length]
  cases q : ixN xs.length i with
  | none => rw [q] at e; cases e
  | some j =>
    rw [q] at e
    exact r.get e
section
variable {X : Cx} {Z : Zn}
theorem ix_D (hK : X.K = Z.K) : IxR X (rD Z idxD) := by
  intro value slice pins s σ H x y v u Q I rx ry ⟨W, h, a, b, ra, rb, hr, t⟩ hs
  cases b with
  | int i =>
    have lists : ∀ (t : TriD Z (fun _ _ => False) Q W H (idxL (asL h a) i h)), wpAny (model X.prog X.w) X.A (subscriptTail value slice v u) (EP X pins σ Q) X.xe s := fun t => by
      cases e : asL h a with
      | none => rw [e] at t; exact t.elim
      | some xs =>
        rw [e] at t
        obtain ⟨p, vs, rfl, hp, r1⟩ := asL_sq hr ra e
        have t : TriD Z (fun _ _ => False) Q W H (optD (atI xs i) h) := t
        cases e2 : atI xs i with
        | none => rw [e2] at t; exact t.elim
        | some d =>
          rw [e2] at t
          obtain ⟨w, e3, r3⟩ := atI_rel r1 e2
          exact ix_list value slice pins s σ H _ _ v u Q I rx ry ⟨p, vs, i, w, rfl, rb, hK ▸ hp, e3, t.now hr r3⟩ hs
    cases a with
    | tup xs =>
      have t : TriD Z (fun _ _ => False) Q W H (optD (atI xs i) h) := t
      obtain ⟨p, vs, rfl, fp, r1⟩ := ra
      cases e2 : atI xs i with
      | none => rw [e2] at t; exact t.elim
      | some d =>
        rw [e2] at t
        obtain ⟨w, e3, r3⟩ := atI_rel r1 e2
        exact ix_tup value slice pins s σ H _ _ v u Q I rx ry ⟨p, vs, i, w, rfl, rb, hK ▸ fp.sq, e3, t.now hr r3⟩ hs
    | str z =>
      have t : TriD Z (fun _ _ => False) Q W H (optD (idxS z i) h) := t
      cases e2 : idxS z i with
      | none => rw [e2] at t; exact t.elim
      | some d =>
        rw [e2] at t
        unfold idxS at e2
        by_cases hz : z.length ≤ LIM
        · rw [if_pos hz] at e2
          obtain ⟨c, e3, rfl⟩ := Option.map_eq_some_iff.mp e2
          exact ix_str value slice pins s σ H _ _ v u Q I rx ry ⟨z, i, c, ra, rb, Nat.le_trans hz lim_le, e3, t.now hr rfl⟩ hs
        · rw [if_neg hz] at e2; cases e2
    | _ => exact lists t
  | _ => exact t.elim
end
/-! ### a[lo:hi] -/
def cutD (xs : List D) (lo hi : Option Int) : List D := (xs.drop (HT.sIx xs.length 0 lo)).take (HT.sIx xs.length xs.length hi - HT.sIx xs.length 0 lo)
def slcL (c : Bool) (o : Option (List D)) (lo hi : Option Int) (h : Hh) : R D := match o with
  | some xs => mkL c (cutD xs lo hi) h
  | none => .bad
def slcD (c : Bool) (a : D) (lo hi : Option Int) (h : Hh) : R D := match a with
  | .tup xs => .ok (.tup (cutD xs lo hi)) h
  | .str x => if x.length ≤ LIM then .ok (.str (cutS x lo hi)) h else .bad
  | a => slcL c (asL h a) lo hi h
theorem cut_rel {Z : Zn} {W : Wd} {H : Hp} {xs : List D} {vs : List V} (lo hi : Option Int) (r : RelDs Z W H xs vs) : RelDs Z W H (cutD xs lo hi) (cutV vs lo hi) := by
  unfold cutD cutV
  rw [← r.length]
  exact (r.drop _).take _
def rSD (Z : Zn) (c : Bool) : V → Option Int → Option Int → Hp → VK → Prop := fun x lo hi H Q => ∃ W h a, RelD Z W H a x ∧ HRel Z W H h ∧ TriD Z (fun _ _ => False) Q W H (slcD c a lo hi h)
section
variable {X : Cx} {Z : Zn}
theorem sl_D (hK : X.K = Z.K) (c : Bool) : SlR X (rSD Z c) := by
  intro pins s σ H x v vl vu lo hi sl Q I rx hs pl pu ⟨W, h, a, ra, hr, t⟩
  have lists : ∀ (t : TriD Z (fun _ _ => False) Q W H (slcL c (asL h a) lo hi h)), ∃ T id, typeLookup (.type T) "__getitem__" = pure (some (.builtin id)) ∧ s.TypeIs v T ∧ wpAny (model X.prog X.w) X.A (getItem v (.ref sl)) (EP X pins σ Q) X.xe s := fun t => by
    cases e : asL h a with
    | none => rw [e] at t; exact t.elim
    | some xs =>
      rw [e] at t
      obtain ⟨p, vs, rfl, hp, r1⟩ := asL_sq hr ra e
      exact sl_list pins s σ H _ v vl vu lo hi sl Q I rx hs pl pu ⟨p, vs, rfl, hK ▸ hp, fun l nl => Tri.newL t hr (cut_rel lo hi r1) nl⟩
  cases a with
  | tup xs =>
    obtain ⟨p, vs, rfl, fp, r1⟩ := ra
    refine sl_tupA pins s σ H _ v vl vu lo hi sl Q I rx hs pl pu ⟨p, vs, rfl, hK ▸ fp.sq, fun e => t.now hr ⟨p, vs, rfl, fp, ?_⟩, fun _ l nl => Tri.newT t hr (cut_rel lo hi r1) nl⟩
    have q := cut_rel lo hi r1
    have e2 : cutV vs lo hi = vs := by
      unfold cutV
      rw [e.1, e.2, List.drop_zero, Nat.sub_zero, List.take_length]
    rw [e2] at q
    exact q
  | str z =>
    have t : TriD Z (fun _ _ => False) Q W H (if z.length ≤ LIM then .ok (.str (cutS z lo hi)) h else .bad) := t
    by_cases hz : z.length ≤ LIM
    · rw [if_pos hz] at t
      exact sl_str pins s σ H _ v vl vu lo hi sl Q I rx hs pl pu ⟨z, ra, Nat.le_trans hz lim_le, t.now hr rfl⟩
    · rw [if_neg hz] at t; exact t.elim
  | _ => exact lists t
end
/-! ### a[i] = v -/
def setD (a i v : D) (h : Hh) : R Unit := match a, i with
  | .cel c, .int k => match h[c]? with
    | some (.lst xs) => match ixN xs.length k with
      | some j => .ok () (h.set c (.lst (xs.set j v)))
      | none => .bad
    | _ => .bad
  | _, _ => .bad
def wSt (Z : Zn) (W : Wd) (H : Hp) (h : Hh) (r : R Unit) (Q : Hp → Prop) : Prop := Tri (α := Unit) (β := Unit) Z (fun _ _ _ _ => True) (fun _ _ => False) (fun _ H' => Q H') W H r
section
variable {Z : Zn} {W : Wd} {H : Hp} {h : Hh} {c : Nat} {a : Addr}
theorem nodup_ixA {N : List Addr} (hN : N.Nodup) {i j : Nat} {x : Addr} (p : N[i]? = some x) (q : N[j]? = some x) : i = j := by
  obtain ⟨h1, e1⟩ := List.getElem?_eq_some_iff.mp p
  obtain ⟨h2, e2⟩ := List.getElem?_eq_some_iff.mp q
  exact (List.getElem_inj hN).mp (e1.trans e2.symm)
/-- a cell's list is rewritten -/
theorem Gr.write {o : HO} {ob : O} (hr : HRel Z W H h) (e : W.rho[c]? = some a) (hh : h[c]? = some ob) (nt : ∀ o, H a = some o → fixO o = false) : Gr W H W (upd H a o) := by
  have ha : a ∈ W.rho := List.mem_of_getElem? e
  refine ⟨⟨[], by simp, fun _ z => nomatch z⟩, rfl, fun x u ex hx => ?_, fun x xs fx ex => ?_, fun x ex => ?_⟩
  · rw [upd_ne (fun (q : x = a) => hx (by rw [q]; exact ha))]; exact ex
  · rw [upd_ne (fun (q : x = a) => by rw [nt xs (by rw [← q]; exact ex)] at fx; cases fx)]; exact ex
  · by_cases q : x = a
    · subst q; rw [upd_same] at ex; cases ex
    · rw [upd_ne q] at ex; exact ex
theorem HRel.write {o : HO} {ob ob' : O} (hr : HRel Z W H h) (e : W.rho[c]? = some a) (hh : h[c]? = some ob) (nt : ∀ o, H a = some o → fixO o = false) (new : ObjR Z W (upd H a o) a ob') : HRel Z W (upd H a o) (h.set c ob') := by
  have g := Gr.write (o := o) hr e hh nt
  refine ⟨by rw [List.length_set]; exact hr.len, hr.nd, fun i b o2 e1 e2 => ?_, hr.dis, fun x f ex => hr.frn x f (g.trk x ex)⟩
  by_cases hi : i = c
  · subst hi
    rw [e] at e1; cases e1
    rw [List.getElem?_set_self (List.getElem?_eq_some_iff.mp hh).1] at e2
    cases e2
    exact new
  · rw [List.getElem?_set_ne (Ne.symm hi)] at e2
    have nb : b ≠ a := fun q => hi (nodup_ixA hr.nd e1 (by rw [q]; exact e))
    exact ObjR.mono g (fun u ex => by rw [upd_ne nb]; exact ex) (hr.obj i b o2 e1 e2)
theorem cel_at {v : V} {xs : List D} (hr : HRel Z W H h) (r : RelD Z W H (.cel c) v) (hh : h[c]? = some (.lst xs)) : ∃ a vs, v = .ref a ∧ W.rho[c]? = some a ∧ H a = some (.lst vs) ∧ RelDs Z W H xs vs := by
  obtain ⟨a, e1, e2⟩ := r
  obtain ⟨vs, e3, r3⟩ := hr.obj c a _ e2 hh
  exact ⟨a, vs, e1, e2, e3, r3⟩
/-- behind a rewritten cell -/
theorem Tri.wrote {α β : Type} {rel : Wd → Hp → α → β → Prop} {E : Str → Hp → Prop} {Q : β → Hp → Prop} {d : α} {v : β} {xs ys : List D} {vs us : List V} (t : Tri Z rel E Q W H (.ok d (h.set c (.lst ys)))) (hr : HRel Z W H h)
    (e : W.rho[c]? = some a) (hh : h[c]? = some (.lst xs)) (ha : H a = some (.lst vs)) (r : RelDs Z W H ys us) (rd : ∀ W' H', Gr W H W' H' → rel W' H' d v) : Q v (upd H a (.lst us)) := by
  have nt : ∀ o, H a = some o → fixO o = false := fun o z => by rw [ha] at z; cases z; rfl
  have g := Gr.write (o := .lst us) hr e hh nt
  exact t v W _ g (hr.write e hh nt ⟨us, upd_same, RelDs.mono g ys r⟩) (rd _ _ g)
end
section
variable {X : Cx} {Z : Zn}
def rSetD (Z : Zn) : TSet := fun o i v H Q => ∃ W h a b d, RelD Z W H a o ∧ RelD Z W H b i ∧ RelD Z W H d v ∧ HRel Z W H h ∧ wSt Z W H h (setD a b d h) Q
theorem set_D : PSet X (rSetD Z) := by
  intro pins s σ H o i v ov iv u Q I ro ri rv ⟨W, h, a, b, d, ra, rb, rd, hr, t⟩
  cases a with
  | cel c =>
    cases b with
    | int k =>
      cases e : h[c]? with
      | none => exact (by unfold wSt setD at t; simp only [e] at t; exact t.elim)
      | some ob =>
        cases ob with
        | lst xs =>
          cases e2 : ixN xs.length k with
          | none => exact (by unfold wSt setD at t; simp only [e, e2] at t; exact t.elim)
          | some j =>
            obtain ⟨p, vs, rfl, ep, hp, r1⟩ := cel_at hr ra e
            refine set_list pins s σ H _ _ v ov iv u Q I ro ri rv ⟨p, vs, k, j, rfl, rb, hp, by rw [← r1.length]; exact e2, ?_⟩
            have t : Tri (α := Unit) (β := Unit) Z (fun _ _ _ _ => True) (fun _ _ => False) (fun _ H' => Q H') W H (.ok () (h.set c (.lst (xs.set j d)))) := by
              unfold wSt setD at t; simp only [e, e2] at t; exact t
            exact Tri.wrote (v := ()) t hr ep e hp (r1.set j rd) fun _ _ _ => trivial
        | ins c fs => exact (by unfold wSt setD at t; simp only [e] at t; exact t.elim)
        | dct kvs => exact (by unfold wSt setD at t; simp only [e] at t; exact t.elim)
    | _ => exact t.elim
  | _ => exact t.elim
end
end Tb
namespace Tb
open PySem PySem.Spec PyProof.Rows L2
/-! ### built-ins -/
inductive Bi where
  | len | abs | min | max | sum | sorted | int | str | list | tuple | repr | dict
def asInts : List D → Option (List Int)
  | [] => some []
  | .int i :: ds => (asInts ds).map fun r => i :: r
  | _ :: _ => none
def insI (x : Int) : List Int → List Int
  | [] => [x]
  | y :: r => if x ≤ y then x :: y :: r else y :: insI x r
def sortI : List Int → List Int
  | [] => []
  | x :: r => insI x (sortI r)
def maxI : List Int → Option Int
  | [] => none
  | x :: r => some (r.foldl (fun a b => if b > a then b else a) x)
def minI : List Int → Option Int
  | [] => none
  | x :: r => some (r.foldl (fun a b => if b < a then b else a) x)
def optI (o : Option Int) (h : Hh) : R D := match o with
  | some i => .ok (.int i) h
  | none => .bad
def lenD (h : Hh) : D → Option Int
  | .tup xs => some (xs.length : Int)
  | .str x => if x.length ≤ LIM then some (x.length : Int) else none
  | .dic kvs => some (kvs.length : Int)
  | d => (asL h d).map fun xs => (xs.length : Int)
def intsOf (h : Hh) (d : D) : Option (List Int) := (asL h d).bind asInts
def mkSorted (c : Bool) (o : Option (List Int)) (h : Hh) : R D := match o with
  | some ns => mkL c ((sortI ns).map .int) h
  | none => .bad
def mkList (c : Bool) (d : D) (h : Hh) : R D := match d with
  | .tup xs => mkL c xs h
  | d => match asL h d with
    | some xs => mkL c xs h
    | none => .bad
def mkTup (d : D) (h : Hh) : R D := match d with
  | .tup xs => .ok (.tup xs) h
  | d => match asL h d with
    | some xs => .ok (.tup xs) h
    | none => .bad
/-- pairs of keys and data -/
def pairK : D → Option (Key × D)
  | .tup [.int i, d] => some (.inl i, d)
  | .tup [.str x, d] => some (.inr x, d)
  | _ => none
def pairsK : List D → Option (List (Key × D))
  | [] => some []
  | d :: ds => (pairK d).bind fun p => (pairsK ds).map fun r => p :: r
def mkDict (d : D) (h : Hh) : R D := match (asL h d).bind pairsK with
  | some kvs => if (kvs.map (·.1)).Nodup then .ok (.dic kvs) h else .bad
  | none => .bad
def intD (d : D) : Option Int := match d with
  | .int i => some i
  | .bl b => some (if b then 1 else 0)
  | .str x => if x.length ≤ 640 then PySem.intText? x else none
  | _ => none
def strD (d : D) : Option D := match d with
  | .int i => if small i = true then some (.str (toString i)) else none
  | .str x => some (.str x)
  | _ => none
def keyPy : Key → PyData
  | .inl i => .int i
  | .inr x => .str x
mutual
/-- data as repr shows it -/
def pyR : D → Option PyData
  | .non => some .none
  | .bl b => some (.bool b)
  | .int i => some (.int i)
  | .str x => some (.str x)
  | .tup xs => (pysR xs).map .tuple
  | .lst xs => (pysR xs).map .list
  | .kl xs => (pysR xs).map .list
  | .dic kvs => (pykR kvs).map .dict
  | _ => none
def pykR : List (Key × D) → Option (List (PyData × PyData))
  | [] => some []
  | (k, d) :: ds => (pyR d).bind fun p => (pykR ds).map fun ps => (keyPy k, p) :: ps
def pysR : List D → Option (List PyData)
  | [] => some []
  | d :: ds => (pyR d).bind fun p => (pysR ds).map fun ps => p :: ps
end
def toPyR0 (h : Hh) : D → Option PyData
  | .cel i => (asO h[i]?).bind fun xs => (pysR xs).map .list
  | d => pyR d
/-- .. with cells within -/
def pyRN (h : Hh) : Nat → D → Option PyData
  | 0, _ => none
  | k + 1, d => match d with
    | .tup xs => (mapO (pyRN h k) xs).map .tuple
    | .lst xs => (mapO (pyRN h k) xs).map .list
    | .kl xs => (mapO (pyRN h k) xs).map .list
    | .cel i => (asO h[i]?).bind fun xs => (mapO (pyRN h k) xs).map .list
    | d => pyR d
def toPyR (h : Hh) (d : D) : Option PyData := match toPyR0 h d with
  | some p => some p
  | none => pyRN h 8 d
def shownD (h : Hh) (d : D) : Option D := (toPyR h d).bind fun p => if p.showable = true ∧ p.depth ≤ 20 ∧ p.shown.length ≤ LIM then some (.str p.shown) else none
def biD (b : Bi) (c : Bool) (ds : List D) (h : Hh) : R D := match b, ds with
  | .len, [d] => optI (lenD h d) h
  | .abs, [.int i] => .ok (.int (if i < 0 then -i else i)) h
  | .min, [.int i, .int j] => .ok (.int (if j < i then j else i)) h
  | .max, [.int i, .int j] => .ok (.int (if j > i then j else i)) h
  | .min, [d] => optI ((intsOf h d).bind minI) h
  | .max, [.tup xs] => optI ((asInts xs).bind maxI) h
  | .max, [d] => optI ((intsOf h d).bind maxI) h
  | .sum, [d] => optI ((intsOf h d).map List.sum) h
  | .sorted, [d] => mkSorted c (intsOf h d) h
  | .int, [d] => optI (intD d) h
  | .str, [d] => optD (strD d) h
  | .list, [d] => mkList c d h
  | .tuple, [d] => mkTup d h
  | .repr, [d] => optD (shownD h d) h
  | .dict, [d] => mkDict d h
  | _, _ => .bad
/-- a call by values -/
def rC (Z : Zn) (g : List D → Hh → R D) : List V → Hp → VK → Prop := fun xs H Q => ∃ W h ds, RelDs Z W H ds xs ∧ HRel Z W H h ∧ TriD Z (fun _ _ => False) Q W H (g ds h)
theorem asInts_eq : ∀ {ds : List D} {ns : List Int}, asInts ds = some ns → ds = ns.map .int
  | [], _, e => by cases e; rfl
  | d :: ds, ns, e => by
    cases d with
    | int i =>
      obtain ⟨r, e1, rfl⟩ := Option.map_eq_some_iff.mp (show (asInts ds).map _ = some _ from e)
      rw [asInts_eq e1]; rfl
    | _ => cases e
theorem insI_perm (x : Int) : ∀ l : List Int, (insI x l).Perm (x :: l)
  | [] => List.Perm.refl _
  | y :: r => by
    unfold insI
    by_cases h : x ≤ y
    · rw [if_pos h]
    · rw [if_neg h]
      exact ((insI_perm x r).cons y).trans (List.Perm.swap x y r)
theorem sortI_perm : ∀ l : List Int, (sortI l).Perm l
  | [] => List.Perm.refl _
  | x :: r => (insI_perm x (sortI r)).trans ((sortI_perm r).cons x)
theorem insI_sorted (x : Int) : ∀ {l : List Int}, l.Pairwise (· ≤ ·) → (insI x l).Pairwise (· ≤ ·)
  | [], _ => by simp [insI]
  | y :: r, h => by
    unfold insI
    have h1 := List.pairwise_cons.mp h
    by_cases q : x ≤ y
    · rw [if_pos q]
      refine List.pairwise_cons.mpr ⟨fun z hz => ?_, h⟩
      rcases List.mem_cons.mp hz with rfl | hz
      · exact q
      · exact Int.le_trans q (h1.1 z hz)
    · rw [if_neg q]
      refine List.pairwise_cons.mpr ⟨fun z hz => ?_, insI_sorted x h1.2⟩
      rcases List.mem_cons.mp ((insI_perm x r).mem_iff.mp hz) with rfl | hz
      · omega
      · exact h1.1 z hz
theorem sortI_sorted : ∀ l : List Int, (sortI l).Pairwise (· ≤ ·)
  | [] => List.Pairwise.nil
  | x :: r => insI_sorted x (sortI_sorted r)
theorem sorted_one : ∀ {l m : List Int}, l.Perm m → l.Pairwise (· ≤ ·) → m.Pairwise (· ≤ ·) → l = m
  | [], m, p, _, _ => (List.Perm.nil_eq p)
  | x :: l, m, p, h1, h2 => by
    cases m with
    | nil => exact absurd p.symm (by intro q; have := List.Perm.nil_eq q; cases this)
    | cons y m =>
      have a1 := List.pairwise_cons.mp h1
      have a2 := List.pairwise_cons.mp h2
      have e : x = y := by
        have hx : x ∈ y :: m := p.mem_iff.mp List.mem_cons_self
        have hy : y ∈ x :: l := p.mem_iff.mpr List.mem_cons_self
        rcases List.mem_cons.mp hx with z | z
        · exact z
        · rcases List.mem_cons.mp hy with w | w
          · exact w.symm
          · have q1 := a2.1 x z
            have q2 := a1.1 y w
            omega
      subst e
      rw [sorted_one ((List.perm_cons x).mp p) a1.2 a2.2]
theorem fold_max : ∀ (r : List Int) (x : Int), (r.foldl (fun a b => if b > a then b else a) x) ∈ x :: r ∧ ∀ y ∈ x :: r, y ≤ r.foldl (fun a b => if b > a then b else a) x
  | [], x => ⟨by simp, fun y hy => by simp at hy; simp [hy]⟩
  | z :: r, x => by
    have ih := fold_max r (if z > x then z else x)
    rw [List.foldl_cons]
    refine ⟨?_, fun y hy => ?_⟩
    · rcases List.mem_cons.mp ih.1 with q | q
      · rw [q]
        split <;> simp
      · exact List.mem_cons_of_mem _ (List.mem_cons_of_mem _ q)
    · have h0 := ih.2 (if z > x then z else x) List.mem_cons_self
      rcases List.mem_cons.mp hy with q | q
      · subst q
        split at h0 <;> rename_i hh <;> simp only [hh, if_true, if_false] <;> omega
      · rcases List.mem_cons.mp q with q | q
        · subst q
          split at h0 <;> rename_i hh <;> simp only [hh, if_true, if_false] <;> omega
        · exact ih.2 y (List.mem_cons_of_mem _ q)
theorem fold_min : ∀ (r : List Int) (x : Int), (r.foldl (fun a b => if b < a then b else a) x) ∈ x :: r ∧ ∀ y ∈ x :: r, r.foldl (fun a b => if b < a then b else a) x ≤ y
  | [], x => ⟨by simp, fun y hy => by simp at hy; simp [hy]⟩
  | z :: r, x => by
    have ih := fold_min r (if z < x then z else x)
    rw [List.foldl_cons]
    refine ⟨?_, fun y hy => ?_⟩
    · rcases List.mem_cons.mp ih.1 with q | q
      · rw [q]
        split <;> simp
      · exact List.mem_cons_of_mem _ (List.mem_cons_of_mem _ q)
    · have h0 := ih.2 (if z < x then z else x) List.mem_cons_self
      rcases List.mem_cons.mp hy with q | q
      · subst q
        split at h0 <;> rename_i hh <;> simp only [hh, if_true, if_false] <;> omega
      · rcases List.mem_cons.mp q with q | q
        · subst q
          split at h0 <;> rename_i hh <;> simp only [hh, if_true, if_false] <;> omega
        · exact ih.2 y (List.mem_cons_of_mem _ q)
section
variable {X : Cx} {Z : Zn}
theorem optI_tri {E Q W H h} {o : Option Int} (t : TriD Z E Q W H (optI o h)) (hr : HRel Z W H h) : ∃ b, o = some b ∧ Q (.int b) H := by
  cases o with
  | none => exact t.elim
  | some b => exact ⟨b, rfl, t.now hr rfl⟩
theorem optD_tri {E Q W H h} {o : Option D} (t : TriD Z E Q W H (optD o h)) : ∃ b, o = some b ∧ TriD Z E Q W H (.ok b h) := by
  cases o with
  | none => exact t.elim
  | some b => exact ⟨b, rfl, t⟩
/-- one argument -/
theorem call1_of {f : Value} {g : D → Hh → R D} {G : List D → Hh → R D} (hG : ∀ d h, G [d] h = g d h) (hB : ∀ ds h, ds.length ≠ 1 → G ds h = .bad)
    (k : ∀ (pins : List (Addr × Obj)) (s : Shared) (σ : L2.St) (H : Hp) (x : V) (us : List Value) (Q : VK) (W : Wd) (h : Hh) (d : D), Inv X pins σ H s → Vals [x] us → HRel Z W H h → RelD Z W H d x →
      TriD Z (fun _ _ => False) Q W H (g d h) → wpAny (model X.prog X.w) X.A (call f us) (EP X pins σ Q) X.xe s) : CallR X f (rC Z G) := by
  intro pins s σ H xs us Q I rx ⟨W, h, ds, rd, hr, t⟩
  cases ds with
  | nil => rw [hB [] h (by simp)] at t; exact t.elim
  | cons d r =>
    cases r with
    | cons d2 r2 => rw [hB _ h (by simp)] at t; exact t.elim
    | nil =>
      rw [hG] at t
      obtain ⟨v, q, rfl, r1, rfl⟩ := rd
      exact k pins s σ H v us Q W h d I rx hr r1 t
theorem c_len (hK : X.K = Z.K) (c : Bool) : CallR X (.builtin "len") (rC Z (biD .len c)) := by
  refine call1_of (g := fun d h => optI (lenD h d) h) (fun _ _ => rfl) (fun ds h hn => by rcases ds with _ | ⟨d, _ | ⟨d2, r⟩⟩ <;> first | rfl | exact absurd rfl hn) fun pins s σ H x us Q W h d I rx hr rd t => ?_
  obtain ⟨n, e, q⟩ := optI_tri t hr
  have lists : ∀ (e : (asL h d).map (fun xs => (xs.length : Int)) = some n), wpAny (model X.prog X.w) X.A (call (.builtin "len") us) (EP X pins σ Q) X.xe s := fun e => by
    obtain ⟨xs, e1, rfl⟩ := Option.map_eq_some_iff.mp e
    obtain ⟨p, vs, rfl, hp, r1⟩ := asL_sq hr rd e1
    exact call_len_seq pins s σ H _ us Q I rx ⟨p, vs, rfl, .inl (hK ▸ hp), by rw [← r1.length]; exact q⟩
  cases d with
  | tup xs =>
    obtain ⟨p, vs, rfl, fp, r1⟩ := rd
    cases e
    exact call_len_seq pins s σ H _ us Q I rx ⟨p, vs, rfl, .inr (hK ▸ fp.sq), by rw [← r1.length]; exact q⟩
  | str z =>
    have e : (if z.length ≤ LIM then some (z.length : Int) else none) = some n := e
    by_cases hz : z.length ≤ LIM
    · rw [if_pos hz] at e; cases e
      rw [show x = V.str z from rd] at rx
      exact call_len_str pins s σ H _ us Q I rx ⟨z, rfl, Nat.le_trans hz lim_le, q⟩
    · rw [if_neg hz] at e; cases e
  | dic kvs =>
    obtain ⟨p, vs, rfl, hp, _, _, rk⟩ := rd
    cases e
    refine call_lenD pins s σ H _ us Q I rx ⟨p, vs, rfl, hp, ?_⟩
    have : vs.length = kvs.length := relK_len rk
    rw [this]; exact q
  | _ => exact lists e
where relK_len {W H} : ∀ {kvs : List (Key × D)} {vs : List (Key × V)}, RelKs Z W H kvs vs → vs.length = kvs.length
  | [], _, r => by rw [show _ = [] from r]; rfl
  | (k, d) :: kvs, _, ⟨v, r, e, _, h2⟩ => by subst e; rw [List.length_cons, List.length_cons, relK_len h2]
theorem c_abs (c : Bool) : CallR X (.builtin "abs") (rC Z (biD .abs c)) := by
  intro pins s σ H xs us Q I rx ⟨W, h, ds, rd, hr, t⟩
  rcases ds with _ | ⟨d, _ | ⟨d2, r⟩⟩
  · exact t.elim
  · cases d with
    | int i =>
      obtain ⟨v, q, rfl, r1, rfl⟩ := rd
      rw [show v = V.int i from r1] at rx
      exact call_abs pins s σ H _ us Q I rx ⟨i, rfl, t.now hr rfl⟩
    | _ => exact t.elim
  · cases d <;> exact t.elim
theorem intsOf_sq {W H h} {d : D} {v : V} {ns : List Int} (hr : HRel Z W H h) (r : RelD Z W H d v) (e : intsOf h d = some ns) : ∃ a, v = .ref a ∧ SqL Z.K H a (ns.map V.int) := by
  obtain ⟨xs, e1, e2⟩ := Option.bind_eq_some_iff.mp e
  obtain ⟨a, vs, rfl, hp, r1⟩ := asL_sq hr r e1
  rw [asInts_eq e2] at r1
  rw [RelDs.ints.mp r1] at hp
  exact ⟨a, rfl, hp⟩
theorem two_of {G : List D → Hh → R D} {Q : VK} {W H h} {ds : List D} {xs : List V} (g1 : D → Hh → R D) (h1 : ∀ d, G [d] h = g1 d h) (hB : ∀ ds, ds.length ≠ 1 → (∀ i j, ds ≠ [.int i, .int j]) → G ds h = .bad)
    (rd : RelDs Z W H ds xs) (t : TriD Z (fun _ _ => False) Q W H (G ds h)) : (∃ d x, xs = [x] ∧ RelD Z W H d x ∧ TriD Z (fun _ _ => False) Q W H (g1 d h)) ∨ ∃ i j, ds = [.int i, .int j] ∧ xs = [.int i, .int j] := by
  by_cases hl : ds.length = 1
  · obtain ⟨d, rfl⟩ := List.length_eq_one_iff.mp hl
    obtain ⟨v, q, rfl, r1, rfl⟩ := rd
    exact .inl ⟨d, v, rfl, r1, by rw [← h1]; exact t⟩
  · by_cases hh : ∃ i j, ds = [.int i, .int j]
    · obtain ⟨i, j, rfl⟩ := hh
      obtain ⟨v, q, rfl, r1, w, q2, rfl, r2, rfl⟩ := rd
      exact .inr ⟨i, j, rfl, by rw [show v = V.int i from r1, show w = V.int j from r2]⟩
    · rw [hB ds hl fun i j e => hh ⟨i, j, e⟩] at t
      exact t.elim
theorem c_maxT (hc : X.calm = true) (hu : X.A.units + 64 < cLine) {H : Hp} {ns : List Int} {n : Int} {a : Addr} {pins : List (Addr × Obj)} {s : Shared} {σ : L2.St} {us : List Value} {Q : VK} (I : L2.Inv X pins σ H s) (rx : Vals [V.ref a] us) (sq : SqT X.K H a ((n :: ns).map V.int))
    (q : Q (.int (ns.foldl (fun a b => if b > a then b else a) n)) H) : wpAny (model X.prog X.w) X.A (call (.builtin "max") us) (EP X pins σ Q) X.xe s := by
  obtain ⟨its, rv, pt, hz⟩ := I.tuple sq
  rw [Vals.ref1 rx]
  refine PySem.W.max_tuple_datum (α := Int) (x := n) (xs := ns) (I.ok.hd hc) (show s.heap.IsTuple a its.toArray from pt) (PySem.W.HoldAll.of_ints (by simpa using intsAre_of (ns := n :: ns) rv)) (show X.A.units + 1 + 0 < cLine by omega) fun i v h' tk hi hv hk => ?_
  obtain ⟨as, r⟩ := hv
  have e : PySem.W.maxOf n ns = ns.foldl (fun a b => if b > a then b else a) n := by
    unfold PySem.W.maxOf
    congr 1
    funext x y
    show (if decide (x < y) = true then y else x) = if y > x then y else x
    by_cases c : x < y <;> simp [c]
  rw [e] at r
  have r : Reads h' v (.int (ns.foldl (fun a b => if b > a then b else a) n)) as := r
  cases r
  exact ⟨.int _, H, I.kept hk, ⟨_, rfl⟩, q⟩
theorem c_max (hK : X.K = Z.K) (hc : X.calm = true) (hu : X.A.units + 64 < cLine) (c : Bool) : CallR X (.builtin "max") (rC Z (biD .max c)) := by
  intro pins s σ H xs us Q I rx ⟨W, h, ds, rd, hr, t⟩
  rcases two_of (fun d h => match d with | .tup xs => optI ((asInts xs).bind maxI) h | d => optI ((intsOf h d).bind maxI) h) (fun d => by cases d <;> rfl) (fun ds h1 h2 => by
    rcases ds with _ | ⟨d, _ | ⟨d2, _ | ⟨d3, r⟩⟩⟩ <;> first | rfl | exact absurd rfl h1 | skip
    · cases d <;> first | rfl | (cases d2 <;> first | rfl | exact absurd rfl (h2 _ _))
    · cases d <;> first | rfl | (cases d2 <;> rfl)) rd t with ⟨d, x, rfl, r1, t⟩ | ⟨i, j, rfl, rfl⟩
  · have lists : TriD Z (fun _ _ => False) Q W H (optI ((intsOf h d).bind maxI) h) → wpAny (model X.prog X.w) X.A (call (.builtin "max") us) (EP X pins σ Q) X.xe s := fun t => by
      obtain ⟨m, e, q⟩ := optI_tri t hr
      obtain ⟨ns, e1, e2⟩ := Option.bind_eq_some_iff.mp e
      obtain ⟨a, rfl, hp⟩ := intsOf_sq hr r1 e1
      cases ns with
      | nil => cases e2
      | cons n r =>
        refine cr_max hc pins s σ H _ us Q I rx ⟨a, n :: r, rfl, hK ▸ hp, by simp, fun m' h1 h2 => ?_⟩
        have f := fold_max r n
        obtain rfl : _ = m := Option.some.inj e2
        have e3 : m' = r.foldl (fun a b => if b > a then b else a) n := Int.le_antisymm (f.2 m' h1) (h2 _ f.1)
        rw [e3]; exact q
    cases d with
    | tup ys =>
      obtain ⟨m, e, q⟩ := optI_tri (o := (asInts ys).bind maxI) t hr
      obtain ⟨ns, e1, e2⟩ := Option.bind_eq_some_iff.mp e
      obtain ⟨a, vs, rfl, f, rs⟩ := r1
      rw [asInts_eq e1] at rs
      cases RelDs.ints.mp rs
      cases ns with
      | nil => cases e2
      | cons n r =>
        obtain rfl : _ = m := Option.some.inj e2
        exact c_maxT hc hu I rx (hK ▸ f.sq) q
    | _ => exact lists t
  · exact call_max2 hc pins s σ H _ us Q I rx ⟨i, j, rfl, t.now hr rfl⟩
theorem c_min (hK : X.K = Z.K) (hc : X.calm = true) (c : Bool) : CallR X (.builtin "min") (rC Z (biD .min c)) := by
  intro pins s σ H xs us Q I rx ⟨W, h, ds, rd, hr, t⟩
  rcases two_of (fun d h => optI ((intsOf h d).bind minI) h) (fun d => by cases d <;> rfl) (fun ds h1 h2 => by
    rcases ds with _ | ⟨d, _ | ⟨d2, _ | ⟨d3, r⟩⟩⟩ <;> first | rfl | exact absurd rfl h1 | skip
    · cases d <;> first | rfl | (cases d2 <;> first | rfl | exact absurd rfl (h2 _ _))
    · cases d <;> first | rfl | (cases d2 <;> rfl)) rd t with ⟨d, x, rfl, r1, t⟩ | ⟨i, j, rfl, rfl⟩
  · obtain ⟨m, e, q⟩ := optI_tri t hr
    obtain ⟨ns, e1, e2⟩ := Option.bind_eq_some_iff.mp e
    obtain ⟨a, rfl, hp⟩ := intsOf_sq hr r1 e1
    cases ns with
    | nil => cases e2
    | cons n r =>
      refine cr_min hc pins s σ H _ us Q I rx ⟨a, n :: r, rfl, hK ▸ hp, by simp, fun m' h1 h2 => ?_⟩
      have f := fold_min r n
      obtain rfl : _ = m := Option.some.inj e2
      have e3 : m' = r.foldl (fun a b => if b < a then b else a) n := Int.le_antisymm (h2 _ f.1) (f.2 m' h1)
      rw [e3]; exact q
  · exact call_min2 hc pins s σ H _ us Q I rx ⟨i, j, rfl, t.now hr rfl⟩
theorem bad1 {G : List D → Hh → R D} (h0 : ∀ h, G [] h = .bad) (h2 : ∀ d d2 r h, G (d :: d2 :: r) h = .bad) (ds : List D) (h : Hh) (hn : ds.length ≠ 1) : G ds h = .bad := by
  rcases ds with _ | ⟨d, _ | ⟨d2, r⟩⟩
  · exact h0 h
  · exact absurd rfl hn
  · exact h2 d d2 r h
theorem c_sum (hK : X.K = Z.K) (hc : X.calm = true) (c : Bool) : CallR X (.builtin "sum") (rC Z (biD .sum c)) := by
  refine call1_of (g := fun d h => optI ((intsOf h d).map List.sum) h) (fun _ _ => rfl) (bad1 (fun _ => rfl) fun _ _ _ _ => rfl) fun pins s σ H x us Q W h d I rx hr rd t => ?_
  obtain ⟨m, e, q⟩ := optI_tri t hr
  obtain ⟨ns, e1, rfl⟩ := Option.map_eq_some_iff.mp e
  obtain ⟨a, rfl, hp⟩ := intsOf_sq hr rd e1
  exact cr_sum hc pins s σ H _ us Q I rx ⟨a, ns, rfl, hK ▸ hp, q⟩
theorem c_sorted (hK : X.K = Z.K) (c : Bool) : CallR X (.builtin "sorted") (rC Z (biD .sorted c)) := by
  refine call1_of (g := fun d h => mkSorted c (intsOf h d) h) (fun _ _ => rfl) (bad1 (fun _ => rfl) fun _ _ _ _ => rfl) fun pins s σ H x us Q W h d I rx hr rd t => ?_
  cases e : intsOf h d with
  | none => rw [e] at t; exact t.elim
  | some ns =>
    rw [e] at t
    obtain ⟨a, rfl, hp⟩ := intsOf_sq hr rd e
    refine cr_sortedI pins s σ H _ us Q I rx ⟨a, ns, rfl, hK ▸ hp, fun ns' p h1 h2 n => ?_⟩
    rw [sorted_one (h1.trans (sortI_perm ns).symm) h2 (sortI_sorted ns)]
    exact Tri.newL t hr (RelDs.ints.mpr rfl) n
theorem c_list (hK : X.K = Z.K) (c : Bool) : CallR X (.type "list") (rC Z (biD .list c)) := by
  refine call1_of (g := fun d h => mkList c d h) (fun _ _ => rfl) (bad1 (fun _ => rfl) fun _ _ _ _ => rfl) fun pins s σ H x us Q W h d I rx hr rd t => ?_
  have lists : ∀ (t : TriD Z (fun _ _ => False) Q W H (match asL h d with | some xs => mkL c xs h | none => .bad)), wpAny (model X.prog X.w) X.A (call (.type "list") us) (EP X pins σ Q) X.xe s := fun t => by
    cases e : asL h d with
    | none => rw [e] at t; exact t.elim
    | some xs =>
      rw [e] at t
      obtain ⟨p, vs, rfl, hp, r1⟩ := asL_sq hr rd e
      exact call_list_of pins s σ H _ us Q I rx ⟨p, vs, rfl, .inl (hK ▸ hp), fun l nl => Tri.newL t hr r1 nl⟩
  cases d with
  | tup xs =>
    obtain ⟨p, vs, rfl, fp, r1⟩ := rd
    exact call_list_of pins s σ H _ us Q I rx ⟨p, vs, rfl, .inr (hK ▸ fp.sq), fun l nl => Tri.newL t hr r1 nl⟩
  | _ => exact lists t
theorem c_tuple (hK : X.K = Z.K) (c : Bool) : CallR X (.type "tuple") (rC Z (biD .tuple c)) := by
  refine call1_of (g := fun d h => mkTup d h) (fun _ _ => rfl) (bad1 (fun _ => rfl) fun _ _ _ _ => rfl) fun pins s σ H x us Q W h d I rx hr rd t => ?_
  have lists : ∀ (t : TriD Z (fun _ _ => False) Q W H (match asL h d with | some xs => .ok (.tup xs) h | none => .bad)), wpAny (model X.prog X.w) X.A (call (.type "tuple") us) (EP X pins σ Q) X.xe s := fun t => by
    cases e : asL h d with
    | none => rw [e] at t; exact t.elim
    | some xs =>
      rw [e] at t
      obtain ⟨p, vs, rfl, hp, r1⟩ := asL_sq hr rd e
      exact call_tuple_of pins s σ H _ us Q I rx ⟨p, vs, rfl, .inl ⟨hK ▸ hp, fun l nl => Tri.newT t hr r1 nl⟩⟩
  cases d with
  | tup xs =>
    obtain ⟨p, vs, rfl, fp, r1⟩ := rd
    exact call_tuple_of pins s σ H _ us Q I rx ⟨p, vs, rfl, .inr ⟨hK ▸ fp.sq, t.now hr ⟨p, vs, rfl, fp, r1⟩⟩⟩
  | _ => exact lists t
theorem mergeK_nodup : ∀ (more acc : List (Key × V)), ((acc ++ more).map (·.1)).Nodup → mergeK acc more = acc ++ more
  | [], acc, _ => by simp [mergeK]
  | p :: r, acc, h => by
    have e : putK acc p.1 p.2 = acc ++ [p] := by
      unfold putK
      rw [if_neg]
      intro z
      obtain ⟨q, hq, e⟩ := List.any_eq_true.mp z
      have e : q.1 = p.1 := of_decide_eq_true e
      rw [List.map_append, List.nodup_append] at h
      exact h.2.2 q.1 (List.mem_map_of_mem hq) p.1 (by simp) e
    show mergeK (putK acc p.1 p.2) r = _
    rw [e, mergeK_nodup r (acc ++ [p]) (by simpa using h)]
    simp
theorem pairs_rel {W : Wd} {H : Hp} : ∀ {ds : List D} {kvs : List (Key × D)} {vs : List V}, pairsK ds = some kvs → RelDs Z W H ds vs → ∃ (ps : List Addr) (kv : List (Key × V)), vs = ps.map V.ref ∧ Paired (fun p q => SqT Z.K H p [kV q.1, q.2]) ps kv ∧ kv.map (·.1) = kvs.map (·.1) ∧ RelKs Z W H kvs kv
  | [], kvs, vs, e, r => by cases e; exact ⟨[], [], r, .nil, rfl, rfl⟩
  | d :: ds, kvs, vs, e, r => by
    obtain ⟨v, r', rfl, r1, r2⟩ := r
    obtain ⟨p, e1, e2⟩ := Option.bind_eq_some_iff.mp (show (pairK d).bind _ = some kvs from e)
    obtain ⟨ks, e3, rfl⟩ := Option.map_eq_some_iff.mp e2
    obtain ⟨ps, kv, rfl, pr, ek, rk⟩ := pairs_rel e3 r2
    unfold pairK at e1
    split at e1
    · cases e1
      obtain ⟨a, us, rfl, f, w1, _, rfl, rfl, w2, _, rfl, rd, rfl⟩ := r1
      exact ⟨a :: ps, (.inl _, w2) :: kv, rfl, .cons f.sq pr, by simp [ek], w2, kv, rfl, rd, rk⟩
    · cases e1
      obtain ⟨a, us, rfl, f, w1, _, rfl, rfl, w2, _, rfl, rd, rfl⟩ := r1
      exact ⟨a :: ps, (.inr _, w2) :: kv, rfl, .cons f.sq pr, by simp [ek], w2, kv, rfl, rd, rk⟩
    · cases e1
theorem c_dict (hK : X.K = Z.K) (hc : X.calm = true) (c : Bool) : CallR X (.type "dict") (rC Z (biD .dict c)) := by
  refine call1_of (g := fun d h => mkDict d h) (fun _ _ => rfl) (bad1 (fun _ => rfl) fun _ _ _ _ => rfl) fun pins s σ H x us Q W h d I rx hr rd t => ?_
  have t : TriD Z (fun _ _ => False) Q W H (match (asL h d).bind pairsK with | some kvs => if (kvs.map (·.1)).Nodup then .ok (.dic kvs) h else .bad | none => .bad) := t
  cases e : (asL h d).bind pairsK with
  | none => rw [e] at t; exact t.elim
  | some kvs =>
    rw [e] at t
    obtain ⟨xs, e1, e2⟩ := Option.bind_eq_some_iff.mp e
    by_cases nd : (kvs.map (·.1)).Nodup
    · have t : TriD Z (fun _ _ => False) Q W H (if (kvs.map (·.1)).Nodup then .ok (.dic kvs) h else .bad) := t
      rw [if_pos nd] at t
      obtain ⟨p, vs, rfl, hp, r1⟩ := asL_sq hr rd e1
      obtain ⟨ps, kv, rfl, pr, ek, rk⟩ := pairs_rel e2 r1
      refine call_dictP hc pins s σ H _ us Q I rx ⟨p, ps, kv, rfl, hK ▸ hp, hK ▸ pr, fun a na => ?_⟩
      rw [mergeK_nodup kv [] (by rw [List.nil_append, ek]; exact nd), List.nil_append]
      exact t (.ref a) W (upd H a (.dK kv)) (Gr.fresh hr na) (hr.fresh na) ⟨a, kv, rfl, upd_same, hr.notin na, hr.nF na, RelKs.mono (Gr.fresh hr na) kvs rk⟩
    · have t : TriD Z (fun _ _ => False) Q W H (if (kvs.map (·.1)).Nodup then .ok (.dic kvs) h else .bad) := t
      rw [if_neg nd] at t; exact t.elim
theorem c_int (c : Bool) : CallR X (.type "int") (rC Z (biD .int c)) := by
  refine call1_of (g := fun d h => optI (intD d) h) (fun _ _ => rfl) (bad1 (fun _ => rfl) fun _ _ _ _ => rfl) fun pins s σ H x us Q W h d I rx hr rd t => ?_
  obtain ⟨m, e, q⟩ := optI_tri t hr
  cases d with
  | int i => cases e; exact call_int1 pins s σ H _ us Q I rx (.inl ⟨_, congrArg (fun z => [z]) rd, q⟩)
  | bl b => cases e; exact call_int1 pins s σ H _ us Q I rx (.inr ⟨b, by rw [show x = V.bl b from rd], q⟩)
  | str z =>
    have e : (if z.length ≤ 640 then PySem.intText? z else none) = some m := e
    by_cases hz : z.length ≤ 640
    · rw [if_pos hz] at e
      exact call_int_str pins s σ H _ us Q I rx ⟨z, m, by rw [show x = V.str z from rd], e, hz, q⟩
    · rw [if_neg hz] at e; cases e
  | _ => cases e
theorem c_str (c : Bool) : CallR X (.type "str") (rC Z (biD .str c)) := by
  refine call1_of (g := fun d h => optD (strD d) h) (fun _ _ => rfl) (bad1 (fun _ => rfl) fun _ _ _ _ => rfl) fun pins s σ H x us Q W h d I rx hr rd t => ?_
  obtain ⟨m, e, t⟩ := optD_tri t
  cases d with
  | int i =>
    have e : (if small i = true then some (D.str (toString i)) else none) = some m := e
    by_cases hz : small i = true
    · rw [if_pos hz] at e; cases e
      exact call_str_int pins s σ H _ us Q I rx ⟨i, by rw [show x = V.int i from rd], by have := small_log hz; omega, t.now hr rfl⟩
    · rw [if_neg hz] at e; cases e
  | str z => cases e; exact SkE.call_str_str pins s σ H _ us Q I rx ⟨z, by rw [show x = V.str z from rd], t.now hr rfl⟩
  | _ => cases e
/-- repr of data -/
def SysOk (K : PySem.W.Frag) : Prop := ∃ o, K.lookup sysModules = some o ∧ o.cls = .type "dict"
section
variable {pins : List (Addr × Obj)} {s : Shared} {σ : L2.St} {H : Hp} {W : Wd}
theorem sys_none (hS : SysOk X.K) (I : Inv X pins σ H s) : H sysModules = none := by
  obtain ⟨o, e, _⟩ := hS
  exact (I.bs _ o (I.ok.mod.kin _ o e)).2
theorem ne_sys (hS : SysOk X.K) (I : Inv X pins σ H s) {a : Addr} {ob : HO} (e : H a = some ob) : a ≠ sysModules := fun q => by
  rw [q, sys_none hS I] at e; cases e
theorem sq_ne (hS : SysOk X.K) (I : Inv X pins σ H s) {a : Addr} {vs : List V} (e : SqL X.K H a vs) : a ≠ sysModules := by
  rcases e with (e | ⟨o, e⟩) | ⟨o, its, n, e, c, _⟩
  · exact ne_sys hS I e
  · exact ne_sys hS I e
  · intro q
    obtain ⟨o', e', c'⟩ := hS
    rw [q, e'] at e; cases e
    rw [c] at c'
    exact absurd c' (by decide +kernel)
theorem key_reads {k : Key} {v : Value} {h : Heap} (e : keyIs k v = true) : Reads h v (keyPy k) [] := by
  rcases keyIs_shape e with ⟨i, t, rfl, rfl⟩ | ⟨x, t, rfl, rfl⟩
  · exact .int i t
  · exact .str x t
mutual
theorem reads_D (hK : X.K = Z.K) (hS : SysOk X.K) (I : Inv X pins σ H s) : ∀ (d : D) {v : V} {u : Value} {p : PyData}, RelD Z W H d v → RelV v u → pyR d = some p → ∃ as, Reads s.heap u p as ∧ sysModules ∉ as
  | .non, _, _, _, r, ru, e => by cases e; rw [show _ = V.non from r] at ru; cases ru; exact ⟨[], .none, by simp⟩
  | .bl b, _, _, _, r, ru, e => by cases e; rw [show _ = V.bl b from r] at ru; cases ru; exact ⟨[], .bool b, by simp⟩
  | .int i, _, _, _, r, ru, e => by cases e; rw [show _ = V.int i from r] at ru; obtain ⟨t, rfl⟩ := ru; exact ⟨[], .int i t, by simp⟩
  | .str x, _, _, _, r, ru, e => by cases e; rw [show _ = V.str x from r] at ru; obtain ⟨t, rfl⟩ := ru; exact ⟨[], .str x t, by simp⟩
  | .tup xs, _, _, _, ⟨a, vs, e1, f, r⟩, ru, e => by
    obtain ⟨ps, e2, rfl⟩ := Option.map_eq_some_iff.mp (show (pysR xs).map PyData.tuple = some _ from e)
    subst e1; cases ru
    obtain ⟨its, rv, ⟨o, ho, hc, n, hd⟩, _⟩ := I.tuple (hK ▸ f.sq)
    obtain ⟨as, hr, hn⟩ := reads_Ds hK hS I xs (us := its) r rv e2
    exact ⟨_, .tuple ho hc hd hr, hn⟩
  | .lst xs, _, _, _, ⟨a, vs, e1, f, r⟩, ru, e => by
    obtain ⟨ps, e2, rfl⟩ := Option.map_eq_some_iff.mp (show (pysR xs).map PyData.list = some _ from e)
    subst e1; cases ru
    have sq : SqL X.K H a vs := hK ▸ f.sq
    obtain ⟨its, rv, ⟨o, n, ho, hc, _, hd⟩, _⟩ := I.list sq
    obtain ⟨as, hr, hn⟩ := reads_Ds hK hS I xs (us := its) r rv e2
    exact ⟨_, .list ho hc hd hr, by simp only [List.mem_cons, not_or]; exact ⟨fun q => sq_ne hS I sq q.symm, hn⟩⟩
  | .kl xs, _, _, _, ⟨a, vs, e1, f, r⟩, ru, e => by
    obtain ⟨ps, e2, rfl⟩ := Option.map_eq_some_iff.mp (show (pysR xs).map PyData.list = some _ from e)
    subst e1; cases ru
    have sq : SqL X.K H a vs := hK ▸ f.sq
    obtain ⟨its, rv, ⟨o, n, ho, hc, _, hd⟩, _⟩ := I.list sq
    obtain ⟨as, hr, hn⟩ := reads_Ds hK hS I xs (us := its) r rv e2
    exact ⟨_, .list ho hc hd hr, by simp only [List.mem_cons, not_or]; exact ⟨fun q => sq_ne hS I sq q.symm, hn⟩⟩
  | .dic kvs, _, _, _, ⟨a, vs, e1, f, _, _, r⟩, ru, e => by
    obtain ⟨ps, e2, rfl⟩ := Option.map_eq_some_iff.mp (show (pykR kvs).map PyData.dict = some _ from e)
    subst e1; cases ru
    obtain ⟨_, _, ws, kv, o, es, ep, ho, hx, hd, _, hp, _⟩ := I.hok a _ f
    obtain ⟨as, bs, h1, h2, hn1, hn2⟩ := reads_Ks hK hS I kvs r kv hp e2
    refine ⟨_, .dict ho hx.1 hd h1 h2, ?_⟩
    simp only [List.cons_append, List.mem_cons, List.mem_append, not_or]
    exact ⟨fun q => ne_sys hS I f q.symm, hn1, hn2⟩
  | .cel _, _, _, _, _, _, e => by cases e
  | .cls _, _, _, _, _, _, e => by cases e
  | .ty _, _, _, _, _, _, e => by cases e
  | .exc _, _, _, _, _, _, e => by cases e
theorem reads_Ds (hK : X.K = Z.K) (hS : SysOk X.K) (I : Inv X pins σ H s) : ∀ (ds : List D) {vs : List V} {us : List Value} {ps : List PyData}, RelDs Z W H ds vs → Vals vs us → pysR ds = some ps → ∃ as, ReadsAll s.heap us ps as ∧ sysModules ∉ as
  | [], _, _, _, r, ru, e => by cases e; rw [show _ = [] from r] at ru; cases ru; exact ⟨[], .nil, by simp⟩
  | d :: ds, _, _, _, ⟨v, r, e1, h1, h2⟩, ru, e => by
    obtain ⟨p, e2, e3⟩ := Option.bind_eq_some_iff.mp (show (pyR d).bind _ = some _ from e)
    obtain ⟨ps, e4, rfl⟩ := Option.map_eq_some_iff.mp e3
    subst e1
    cases ru with
    | cons ru1 ru2 =>
      obtain ⟨as, q1, n1⟩ := reads_D hK hS I d h1 ru1 e2
      obtain ⟨bs, q2, n2⟩ := reads_Ds hK hS I ds h2 ru2 e4
      exact ⟨_, .cons q1 q2, by simp only [List.mem_append, not_or]; exact ⟨n1, n2⟩⟩
theorem reads_Ks (hK : X.K = Z.K) (hS : SysOk X.K) (I : Inv X pins σ H s) : ∀ (ds : List (Key × D)) {vs : List (Key × V)} {us : List (Key × Value)} {es : List DictEntry} {ps : List (PyData × PyData)}, RelKs Z W H ds vs → KV vs us → Pairs (mixKind X.prog X.w) es us → pykR ds = some ps →
      ∃ as bs, ReadsAll s.heap (es.map (·.key)) (ps.map (·.1)) as ∧ ReadsAll s.heap (es.map (·.val)) (ps.map (·.2)) bs ∧ sysModules ∉ as ∧ sysModules ∉ bs
  | [], _, _, _, _, r, kv, hp, e => by
    cases e
    rw [show _ = [] from r] at kv
    cases kv
    cases hp
    exact ⟨[], [], .nil, .nil, by simp, by simp⟩
  | (k, d) :: ds, _, _, _, _, ⟨v, r, e1, h1, h2⟩, kv, hp, e => by
    obtain ⟨p, e2, e3⟩ := Option.bind_eq_some_iff.mp (show (pyR d).bind _ = some _ from e)
    obtain ⟨ps, e4, rfl⟩ := Option.map_eq_some_iff.mp e3
    subst e1
    cases kv with
    | cons kv1 kv2 =>
      cases hp with
      | cons hk hv hp2 =>
        obtain ⟨as, q1, n1⟩ := reads_D hK hS I d h1 kv1.2 e2
        obtain ⟨bs, cs, q2, q3, n2, n3⟩ := reads_Ks hK hS I ds h2 kv2 hp2 e4
        refine ⟨[] ++ bs, as ++ cs, .cons ?_ q2, .cons (by dsimp only; rw [hv]; exact q1) q3, by simpa using n2, by simp only [List.mem_append, not_or]; exact ⟨n1, n3⟩⟩
        rw [← kv1.1] at hk
        exact key_reads hk
end
end
section
variable {pins : List (Addr × Obj)} {s : Shared} {σ : L2.St} {H : Hp} {W : Wd} {h : Hh}
theorem reads_Os {f : D → Option PyData} (ih : ∀ (d : D) (v : V) (u : Value) (p : PyData), RelD Z W H d v → RelV v u → f d = some p → ∃ as, Reads s.heap u p as ∧ sysModules ∉ as) : ∀ (ds : List D) {vs : List V} {us : List Value} {ps : List PyData}, RelDs Z W H ds vs → Vals vs us → mapO f ds = some ps → ∃ as, ReadsAll s.heap us ps as ∧ sysModules ∉ as
  | [], _, _, _, r, ru, e => by cases e; rw [show _ = [] from r] at ru; cases ru; exact ⟨[], .nil, by simp⟩
  | d :: ds, _, _, _, ⟨v, r, e1, h1, h2⟩, ru, e => by
    obtain ⟨p, e2, e3⟩ := Option.bind_eq_some_iff.mp (show (f d).bind _ = some _ from e)
    obtain ⟨ps, e4, rfl⟩ := Option.map_eq_some_iff.mp e3
    subst e1
    cases ru with
    | cons ru1 ru2 =>
      obtain ⟨as, q1, n1⟩ := ih d _ _ _ h1 ru1 e2
      obtain ⟨bs, q2, n2⟩ := reads_Os ih ds h2 ru2 e4
      exact ⟨_, .cons q1 q2, by simp only [List.mem_append, not_or]; exact ⟨n1, n2⟩⟩
theorem reads_N (hK : X.K = Z.K) (hS : SysOk X.K) (I : Inv X pins σ H s) (hr : HRel Z W H h) : ∀ (k : Nat) (d : D) (v : V) (u : Value) (p : PyData), RelD Z W H d v → RelV v u → pyRN h k d = some p → ∃ as, Reads s.heap u p as ∧ sysModules ∉ as
  | 0, _, _, _, _, _, _, e => by cases e
  | k + 1, d, v, u, p, rd, ru, e => by
    have ih := reads_N hK hS I hr k
    have lists : ∀ (a : Addr) (vs : List V) (xs : List D), v = .ref a → SqL X.K H a vs → RelDs Z W H xs vs → (mapO (pyRN h k) xs).map PyData.list = some p → ∃ as, Reads s.heap u p as ∧ sysModules ∉ as := by
      intro a vs xs e1 sq r e
      obtain ⟨ps, e2, rfl⟩ := Option.map_eq_some_iff.mp e
      subst e1; cases ru
      obtain ⟨its, rv, ⟨o, n, ho, hc, _, hd⟩, _⟩ := I.list sq
      obtain ⟨as, hr, hn⟩ := reads_Os ih xs (us := its) r rv e2
      exact ⟨_, .list ho hc hd hr, by simp only [List.mem_cons, not_or]; exact ⟨fun q => sq_ne hS I sq q.symm, hn⟩⟩
    cases d with
    | tup xs =>
      obtain ⟨a, vs, e1, f, r⟩ := rd
      obtain ⟨ps, e2, rfl⟩ := Option.map_eq_some_iff.mp (show (mapO (pyRN h k) xs).map PyData.tuple = some _ from e)
      subst e1; cases ru
      obtain ⟨its, rv, ⟨o, ho, hc, n, hd⟩, _⟩ := I.tuple (hK ▸ f.sq)
      obtain ⟨as, hr, hn⟩ := reads_Os ih xs (us := its) r rv e2
      exact ⟨_, .tuple ho hc hd hr, hn⟩
    | lst xs => obtain ⟨a, vs, e1, f, r⟩ := rd; exact lists a vs xs e1 (hK ▸ f.sq) r e
    | kl xs => obtain ⟨a, vs, e1, f, r⟩ := rd; exact lists a vs xs e1 (hK ▸ f.sq) r e
    | cel i =>
      obtain ⟨xs, e1, e2⟩ := Option.bind_eq_some_iff.mp (show (asO h[i]?).bind _ = some _ from e)
      obtain ⟨a, vs, e3, hp, r1⟩ := asT_at (d := .cel i) hr rd e1
      exact lists a vs xs e3 (.inl (.inl hp)) r1 e2
    | _ => exact reads_D hK hS I _ rd ru e
end
theorem c_repr (hK : X.K = Z.K) (hS : SysOk X.K) (hg : X.A.guards = some []) (hu : X.A.units + 64 < cLine) (c : Bool) : CallR X (.builtin "repr") (rC Z (biD .repr c)) := by
  refine call1_of (g := fun d h => optD (shownD h d) h) (fun _ _ => rfl) (bad1 (fun _ => rfl) fun _ _ _ _ => rfl) fun pins s σ H x us Q W h d I rx hr rd t => ?_
  obtain ⟨m, e, t⟩ := optD_tri t
  obtain ⟨p, e1, e2⟩ := Option.bind_eq_some_iff.mp e
  by_cases hz : p.showable = true ∧ p.depth ≤ 20 ∧ p.shown.length ≤ LIM
  · rw [if_pos hz] at e2
    obtain rfl : _ = m := Option.some.inj e2
    obtain ⟨u, rfl, ru⟩ := vals1 rx
    have hsz : p.shown.length ≤ sizeLine := Nat.le_trans hz.2.2 lim_le
    have q : Q (.str p.shown) H := t.now hr rfl
    have ref : ∀ (a : Addr) (as : List Addr), Reads s.heap (.ref a) p as → sysModules ∉ as → wpAny (model X.prog X.w) X.A (call (.builtin "repr") [.ref a]) (EP X pins σ Q) X.xe s := fun a as r hn =>
      repr_of_reads' r hz.1 (fun _ => hn) hg (by omega) (fun _ _ e => e) (fun h' u tk hk => ⟨.str p.shown, H, I.kept hk, ⟨_, rfl⟩, q⟩) hsz
    cases q0 : toPyR0 h d with
    | none =>
      have e1 : pyRN h 8 d = some p := by unfold toPyR at e1; rw [q0] at e1; exact e1
      obtain ⟨as, r, hn⟩ := reads_N hK hS I hr 8 d _ _ _ rd ru e1
      have rf : ∃ a, u = .ref a := by
        cases d with
        | tup xs => obtain ⟨a, vs, rfl, _⟩ := rd; cases ru; exact ⟨a, rfl⟩
        | lst xs => obtain ⟨a, vs, rfl, _⟩ := rd; cases ru; exact ⟨a, rfl⟩
        | kl xs => obtain ⟨a, vs, rfl, _⟩ := rd; cases ru; exact ⟨a, rfl⟩
        | cel i => obtain ⟨a, rfl, _⟩ := rd; cases ru; exact ⟨a, rfl⟩
        | _ => exact absurd (q0.symm.trans e1) (by simp)
      obtain ⟨a, rfl⟩ := rf
      exact ref a as r hn
    | some p0 =>
    have e1 : toPyR0 h d = some p := by unfold toPyR at e1; rw [q0] at e1; rw [q0]; exact e1
    clear q0
    cases d with
    | non => cases e1; rw [show x = V.non from rd] at ru; cases ru; exact PySem.P.repr_of_none ⟨.str _, H, I.tok _, ⟨_, rfl⟩, q⟩
    | bl b => cases e1; rw [show x = V.bl b from rd] at ru; cases ru; exact PySem.P.repr_of_bool ⟨.str _, H, I.tok _, ⟨_, rfl⟩, q⟩
    | int i => cases e1; rw [show x = V.int i from rd] at ru; obtain ⟨t', rfl⟩ := ru; exact PySem.P.repr_of_int (of_decide_eq_true hz.1) ⟨.str _, H, I.tok _, ⟨_, rfl⟩, q⟩
    | str z => cases e1; rw [show x = V.str z from rd] at ru; obtain ⟨t', rfl⟩ := ru; exact PySem.P.repr_of_str ⟨.str _, H, I.tok _, ⟨_, rfl⟩, q⟩ hsz
    | cel i =>
      obtain ⟨xs, e3, e4⟩ := Option.bind_eq_some_iff.mp (show (asO h[i]?).bind _ = some _ from e1)
      obtain ⟨ps, e5, rfl⟩ := Option.map_eq_some_iff.mp e4
      obtain ⟨a, vs, rfl, hp, r1⟩ := asT_at (d := .cel i) hr rd e3
      cases ru
      have sq : SqL X.K H a vs := .inl (.inl hp)
      obtain ⟨its, rv, ⟨o, n, ho, hc, _, hd⟩, _⟩ := I.list sq
      obtain ⟨as, hr2, hn⟩ := reads_Ds hK hS I xs (us := its) r1 rv e5
      exact ref a _ (.list ho hc hd hr2) (by simp only [List.mem_cons, not_or]; exact ⟨fun q => sq_ne hS I sq q.symm, hn⟩)
    | tup xs =>
      obtain ⟨as, r, hn⟩ := reads_D hK hS I (.tup xs) rd ru e1
      obtain ⟨a, vs, rfl, _⟩ := rd
      cases ru
      exact ref a as r hn
    | lst xs =>
      obtain ⟨as, r, hn⟩ := reads_D hK hS I (.lst xs) rd ru e1
      obtain ⟨a, vs, rfl, _⟩ := rd
      cases ru
      exact ref a as r hn
    | kl xs =>
      obtain ⟨as, r, hn⟩ := reads_D hK hS I (.kl xs) rd ru e1
      obtain ⟨a, vs, rfl, _⟩ := rd
      cases ru
      exact ref a as r hn
    | dic xs =>
      obtain ⟨as, r, hn⟩ := reads_D hK hS I (.dic xs) rd ru e1
      obtain ⟨a, vs, rfl, _⟩ := rd
      cases ru
      exact ref a as r hn
    | _ => cases e1
  · rw [if_neg hz] at e2; cases e2
end
end Tb
namespace Tb
open PySem PySem.Spec PyProof.Rows L2
/-! ### methods of lists and texts -/
inductive Me where
  | append | pop | extend | insert | clear | reverse | count | index | remove | join | split | partition
def Me.isStr : Me → Bool
  | .join => true
  | .split => true
  | .partition => true
  | _ => false
def Me.okR (m : Me) (h : Hh) (d : D) : Bool := if m.isStr then (match d with | .str _ => true | _ => false) else (asL h d).isSome
def asStrs : List D → Option (List Str)
  | [] => some []
  | .str i :: ds => (asStrs ds).map fun r => i :: r
  | _ :: _ => none
/-- the first place of an equal one -/
def findP (p : PyData) : Nat → List PyData → Option Nat
  | _, [] => none
  | n, q :: r => if PyData.eqv q p = true then some n else findP p (n + 1) r
def indexP : Option PyData → Option PyData → Option Int
  | some (.list ds), some p => if SeqAt.shaped (.list ds) = true ∧ SeqAt.shaped p = true then (findP p 0 ds).map fun n : Nat => (n : Int) else none
  | _, _ => none
def findI (k : Int) : Nat → List Int → Option Nat
  | _, [] => none
  | n, q :: r => if q = k then some n else findI k (n + 1) r
def setC (o : Option D) (i : Nat) (xs : List D) (h : Hh) : R D := match o with
  | some d => .ok d (h.set i (.lst xs))
  | none => .bad
def meC (m : Me) (i : Nat) (xs : List D) (ds : List D) (h : Hh) : R D := match m, ds with
  | .append, [d] => if xs.length < LIM then .ok .non (h.set i (.lst (xs ++ [d]))) else .bad
  | .pop, [] => setC (xs[xs.length - 1]?) i xs.dropLast h
  | .pop, [.int k] => match ixN xs.length k with
    | some j => setC (xs[j]?) i (xs.eraseIdx j) h
    | none => .bad
  | .extend, [d] => match asT h d with
    | some ys => if xs.length + ys.length ≤ LIM then .ok .non (h.set i (.lst (xs ++ ys))) else .bad
    | none => .bad
  | .insert, [.int k, d] => if 0 ≤ k ∧ k ≤ 1000000 ∧ xs.length < LIM then .ok .non (h.set i (.lst (xs.take k.toNat ++ [d] ++ xs.drop k.toNat))) else .bad
  | .clear, [] => .ok .non (h.set i (.lst []))
  | .reverse, [] => .ok .non (h.set i (.lst xs.reverse))
  | .remove, [.int k] => match asInts xs with
    | some ns => match findI k 0 ns with
      | some j => .ok .non (h.set i (.lst (xs.eraseIdx j)))
      | none => .bad
    | none => .bad
  | _, _ => .bad
def asBools : List D → Option (List Bool)
  | [] => some []
  | .bl b :: ds => (asBools ds).map fun r => b :: r
  | _ :: _ => none
def meD (m : Me) (c : Bool) (x : D) (ds : List D) (h : Hh) : R D := match m with
  | .count => match ds with
    | [.int k] => optI ((intsOf h x).map fun ns => ((ns.count k : Nat) : Int)) h
    | [.bl k] => optI (((asL h x).bind asBools).map fun ns => ((ns.count k : Nat) : Int)) h
    | _ => .bad
  | .index => match ds with
    | [d] => optI (indexP (toPy h x) (toPy h d)) h
    | _ => .bad
  | .join => match x, ds with
    | .str a, [d] => match (asL h d).bind asStrs with
      | some ys => if (ys.map (·.length)).sum + ys.length * a.length ≤ LIM then .ok (.str (Txt.join a ys)) h else .bad
      | none => .bad
    | _, _ => .bad
  | .split => match x, ds with
    | .str a, [.str b] => if b.length ≠ 0 ∧ a.length ≤ LIM then mkL c ((Txt.split a b).map .str) h else .bad
    | _, _ => .bad
  | .partition => match x, ds with
    | .str a, [.str b] => if b.length ≠ 0 ∧ a.length ≤ LIM then .ok (.tup [.str (Txt.partition a b).1, .str (Txt.partition a b).2.1, .str (Txt.partition a b).2.2]) h else .bad
    | _, _ => .bad
  | m => match x with
    | .cel i => match asO h[i]? with
      | some xs => meC m i xs ds h
      | none => .bad
    | _ => .bad
def rM (Z : Zn) (g : D → List D → Hh → R D) : V → List V → Hp → VK → Prop := fun x xs H Q => ∃ W h d ds, RelD Z W H d x ∧ RelDs Z W H ds xs ∧ HRel Z W H h ∧ TriD Z (fun _ _ => False) Q W H (g d ds h)
def Me.id : Me → String
  | .append => "list.append" | .pop => "list.pop" | .extend => "list.extend" | .insert => "list.insert" | .clear => "list.clear" | .reverse => "list.reverse"
  | .count => "list.count" | .index => "list.index" | .remove => "list.remove" | .join => "str.join" | .split => "str.split" | .partition => "str.partition"
theorem ixN_idx {n : Nat} {k : Int} {j : Nat} (e : ixN n k = some j) (hn : n ≤ sizeLine) : -(2 ^ 63) ≤ k ∧ k < 2 ^ 63 ∧ seqIndex? k n = some j := by
  obtain ⟨h1, h2, h3, h4⟩ := ixN_seq e
  have := line63
  exact ⟨by omega, by omega, h1⟩
theorem findP_spec (p : PyData) : ∀ (ds : List PyData) (n j : Nat), findP p n ds = some j → ∃ i, j = n + i ∧ ∃ z, ds[i]? = some z ∧ PyData.eqv z p = true ∧ ∀ (m : Nat) z', m < i → ds[m]? = some z' → PyData.eqv z' p = false
  | [], _, _, e => by cases e
  | q :: r, n, j, e => by
    unfold findP at e
    by_cases h : PyData.eqv q p = true
    · rw [if_pos h] at e; cases e
      exact ⟨0, rfl, q, rfl, h, fun m z' hm => absurd hm (Nat.not_lt_zero _)⟩
    · rw [if_neg h] at e
      obtain ⟨i, e1, z, e2, e3, e4⟩ := findP_spec p r (n + 1) j e
      refine ⟨i + 1, by omega, z, by simpa using e2, e3, fun m z' hm hz => ?_⟩
      cases m with
      | zero => simp at hz; subst hz; simpa using h
      | succ m => exact e4 m z' (by omega) (by simpa using hz)
theorem findI_spec (k : Int) : ∀ (ns : List Int) (n j : Nat), findI k n ns = some j → ∃ i, j = n + i ∧ ns[i]? = some k ∧ ∀ m : Nat, m < i → ns[m]? ≠ some k
  | [], _, _, e => by cases e
  | q :: r, n, j, e => by
    unfold findI at e
    by_cases h : q = k
    · rw [if_pos h] at e; cases e
      exact ⟨0, rfl, by simp [h], fun m hm => absurd hm (Nat.not_lt_zero _)⟩
    · rw [if_neg h] at e
      obtain ⟨i, e1, e2, e4⟩ := findI_spec k r (n + 1) j e
      refine ⟨i + 1, by omega, by simpa using e2, fun m hm hz => ?_⟩
      cases m with
      | zero => simp at hz; exact h hz
      | succ m => exact e4 m (by omega) (by simpa using hz)
theorem asStrs_eq : ∀ {ds : List D} {ns : List Str}, asStrs ds = some ns → ds = ns.map .str
  | [], _, e => by cases e; rfl
  | d :: ds, ns, e => by
    cases d with
    | str i =>
      obtain ⟨r, e1, rfl⟩ := Option.map_eq_some_iff.mp (show (asStrs ds).map _ = some _ from e)
      rw [asStrs_eq e1]; rfl
    | _ => cases e
theorem erase_mapD : ∀ (l : List Int) (j : Nat), (l.map D.int).eraseIdx j = (l.eraseIdx j).map D.int
  | [], j => by simp
  | a :: r, 0 => by simp
  | a :: r, j + 1 => by have ih := erase_mapD r j; simp [ih]
section
variable {X : Cx} {Z : Zn}
/-- a method that rewrites a cell -/
theorem cell_of {m : Me} {c : Bool} {id : String} (hm : ∀ x ds h, meD m c x ds h = match x with | .cel i => (match asO h[i]? with | some xs => meC m i xs ds h | none => .bad) | _ => .bad)
    (k : ∀ (pins : List (Addr × Obj)) (s : Shared) (σ : L2.St) (H : Hp) (p : Addr) (vs xs' : List V) (v : Value) (us : List Value) (Q : VK) (W : Wd) (h : Hh) (i : Nat) (xs ds : List D), Inv X pins σ H s → RelV (.ref p) v → Vals xs' us → HRel Z W H h →
      RelDs Z W H ds xs' → W.rho[i]? = some p → h[i]? = some (.lst xs) → H p = some (.lst vs) → RelDs Z W H xs vs → TriD Z (fun _ _ => False) Q W H (meC m i xs ds h) → wpAny (model X.prog X.w) X.A (call (.builtin id) (v :: us)) (EP X pins σ Q) X.xe s) :
    MtR X id (rM Z (meD m c)) := by
  intro pins s σ H x xs' v us Q I rx rs ⟨W, h, d, ds, rd, rds, hr, t⟩
  rw [hm] at t
  cases d with
  | cel i =>
    cases e : h[i]? with
    | none => exact (by simp only [e, asO] at t; exact t.elim)
    | some o =>
      cases o with
      | lst xs =>
        obtain ⟨p, vs, rfl, ep, hp, r1⟩ := cel_at hr rd e
        exact k pins s σ H p vs xs' v us Q W h i xs ds I rx rs hr rds ep e hp r1 (by simp only [e, asO] at t; exact t)
      | ins a b => exact (by simp only [e, asO] at t; exact t.elim)
      | dct b => exact (by simp only [e, asO] at t; exact t.elim)
  | _ => exact t.elim
theorem m_append (c : Bool) : MtR X "list.append" (rM Z (meD .append c)) := by
  refine cell_of (fun _ _ _ => rfl) fun pins s σ H p vs xs' v us Q W h i xs ds I rx rs hr rds ep eh hp r1 t => ?_
  rcases ds with _ | ⟨d, _ | ⟨d2, r⟩⟩
  · exact t.elim
  · obtain ⟨w, q, rfl, rw1, rfl⟩ := rds
    have t : TriD Z (fun _ _ => False) Q W H (if xs.length < LIM then .ok .non (h.set i (.lst (xs ++ [d]))) else .bad) := t
    by_cases hz : xs.length < LIM
    · rw [if_pos hz] at t
      refine mt_append pins s σ H _ _ v us Q I rx rs ⟨p, vs, w, rfl, rfl, hp, ?_, Tri.wrote (v := V.non) t hr ep eh hp (r1.append (.one rw1)) fun _ _ _ => rfl⟩
      rw [← r1.length]; exact lim_lt (Nat.le_of_lt hz)
    · rw [if_neg hz] at t; exact t.elim
  · exact t.elim
theorem m_pop (c : Bool) : MtR X "list.pop" (rM Z (meD .pop c)) := by
  refine cell_of (fun _ _ _ => rfl) fun pins s σ H p vs xs' v us Q W h i xs ds I rx rs hr rds ep eh hp r1 t => ?_
  rcases ds with _ | ⟨d, _ | ⟨d2, r⟩⟩
  · obtain rfl := rds
    have t : TriD Z (fun _ _ => False) Q W H (setC (xs[xs.length - 1]?) i xs.dropLast h) := t
    cases e : xs[xs.length - 1]? with
    | none => rw [e] at t; exact t.elim
    | some d =>
      rw [e] at t
      obtain ⟨w, e1, rw1⟩ := r1.get e
      exact mt_pop pins s σ H _ _ v us Q I rx rs ⟨p, vs, w, rfl, rfl, hp, by rw [← r1.length]; exact e1, Tri.wrote (v := w) t hr ep eh hp r1.dropLast fun _ _ g => RelD.mono g d rw1⟩
  · cases d with
    | int k =>
      obtain ⟨w, q, rfl, rw1, rfl⟩ := rds
      rw [show w = V.int k from rw1] at rs
      cases e : ixN xs.length k with
      | none => exact (by unfold meC at t; simp only [e] at t; exact t.elim)
      | some j =>
        have t : TriD Z (fun _ _ => False) Q W H (setC (xs[j]?) i (xs.eraseIdx j) h) := by unfold meC at t; simp only [e] at t; exact t
        cases e2 : xs[j]? with
        | none => rw [e2] at t; exact t.elim
        | some d =>
          rw [e2] at t
          obtain ⟨w, e1, rw1⟩ := r1.get e2
          have hl := (I.lstM hp).1
          obtain ⟨a1, a2, a3⟩ := ixN_idx e (by rw [r1.length]; exact hl)
          exact mt_popAt pins s σ H _ _ v us Q I rx rs ⟨p, vs, k, j, w, rfl, rfl, hp, a1, a2, by rw [← r1.length]; exact a3, e1, Tri.wrote (v := w) t hr ep eh hp (r1.eraseIdx j) fun _ _ g => RelD.mono g d rw1⟩
    | _ => exact t.elim
  · cases d <;> exact t.elim
theorem m_extend (c : Bool) : MtR X "list.extend" (rM Z (meD .extend c)) := by
  refine cell_of (fun _ _ _ => rfl) fun pins s σ H p vs xs' v us Q W h i xs ds I rx rs hr rds ep eh hp r1 t => ?_
  rcases ds with _ | ⟨d, _ | ⟨d2, r⟩⟩
  · exact t.elim
  · obtain ⟨w, q, rfl, rw1, rfl⟩ := rds
    cases e : asT h d with
    | none => exact (by unfold meC at t; simp only [e] at t; exact t.elim)
    | some ys =>
      have t : TriD Z (fun _ _ => False) Q W H (if xs.length + ys.length ≤ LIM then .ok .non (h.set i (.lst (xs ++ ys))) else .bad) := by unfold meC at t; simp only [e] at t; exact t
      by_cases hz : xs.length + ys.length ≤ LIM
      · rw [if_pos hz] at t
        obtain ⟨b, zs, rfl, hb, r2⟩ := asT_at hr rw1 e
        refine mt_extend pins s σ H _ _ v us Q I rx rs ⟨p, b, vs, zs, rfl, rfl, hp, hb, ?_, Tri.wrote (v := V.non) t hr ep eh hp (r1.append r2) fun _ _ _ => rfl⟩
        rw [← r1.length, ← r2.length]; exact Nat.le_trans hz lim_le
      · rw [if_neg hz] at t; exact t.elim
  · exact t.elim
theorem m_insert (c : Bool) : MtR X "list.insert" (rM Z (meD .insert c)) := by
  refine cell_of (fun _ _ _ => rfl) fun pins s σ H p vs xs' v us Q W h i xs ds I rx rs hr rds ep eh hp r1 t => ?_
  rcases ds with _ | ⟨d0, _ | ⟨d, _ | ⟨d2, r⟩⟩⟩
  · exact t.elim
  · cases d0 <;> exact t.elim
  · cases d0 with
    | int k =>
      obtain ⟨w0, q, rfl, rw0, w, q2, rfl, rw1, rfl⟩ := rds
      rw [show w0 = V.int k from rw0] at rs
      have t : TriD Z (fun _ _ => False) Q W H (if 0 ≤ k ∧ k ≤ 1000000 ∧ xs.length < LIM then .ok .non (h.set i (.lst (xs.take k.toNat ++ [d] ++ xs.drop k.toNat))) else .bad) := t
      by_cases hz : 0 ≤ k ∧ k ≤ 1000000 ∧ xs.length < LIM
      · rw [if_pos hz] at t
        refine mt_insert pins s σ H _ _ v us Q I rx rs ⟨p, vs, k, w, rfl, rfl, hp, ?_, hz.1, by omega, Tri.wrote (v := V.non) t hr ep eh hp (((r1.take _).append (.one rw1)).append (r1.drop _)) fun _ _ _ => rfl⟩
        rw [← r1.length]; exact lim_lt (Nat.le_of_lt hz.2.2)
      · rw [if_neg hz] at t; exact t.elim
    | _ => exact t.elim
  · cases d0 <;> exact t.elim
theorem m_clear (c : Bool) : MtR X "list.clear" (rM Z (meD .clear c)) := by
  refine cell_of (fun _ _ _ => rfl) fun pins s σ H p vs xs' v us Q W h i xs ds I rx rs hr rds ep eh hp r1 t => ?_
  cases ds with
  | nil =>
    obtain rfl := rds
    exact mt_clear pins s σ H _ _ v us Q I rx rs ⟨p, vs, rfl, rfl, hp, Tri.wrote (v := V.non) (us := []) t hr ep eh hp rfl fun _ _ _ => rfl⟩
  | cons d r => exact t.elim
theorem m_reverse (c : Bool) : MtR X "list.reverse" (rM Z (meD .reverse c)) := by
  refine cell_of (fun _ _ _ => rfl) fun pins s σ H p vs xs' v us Q W h i xs ds I rx rs hr rds ep eh hp r1 t => ?_
  cases ds with
  | nil =>
    obtain rfl := rds
    exact mt_reverse pins s σ H _ _ v us Q I rx rs ⟨p, vs, rfl, rfl, hp, Tri.wrote (v := V.non) t hr ep eh hp r1.reverse fun _ _ _ => rfl⟩
  | cons d r => exact t.elim
theorem m_remove (c : Bool) : MtR X "list.remove" (rM Z (meD .remove c)) := by
  refine cell_of (fun _ _ _ => rfl) fun pins s σ H p vs xs' v us Q W h i xs ds I rx rs hr rds ep eh hp r1 t => ?_
  rcases ds with _ | ⟨d, _ | ⟨d2, r⟩⟩
  · exact t.elim
  · cases d with
    | int k =>
      obtain ⟨w, q, rfl, rw1, rfl⟩ := rds
      rw [show w = V.int k from rw1] at rs
      cases e : asInts xs with
      | none => exact (by unfold meC at t; simp only [e] at t; exact t.elim)
      | some ns =>
        cases e2 : findI k 0 ns with
        | none => exact (by unfold meC at t; simp only [e, e2] at t; exact t.elim)
        | some j =>
          have t : TriD Z (fun _ _ => False) Q W H (.ok .non (h.set i (.lst (xs.eraseIdx j)))) := by unfold meC at t; simp only [e, e2] at t; exact t
          obtain ⟨i2, e3, e4, e5⟩ := findI_spec k ns 0 j e2
          obtain rfl : j = i2 := by omega
          have ex := asInts_eq e
          subst ex
          have ev := RelDs.ints.mp r1
          subst ev
          rw [erase_mapD] at t
          exact mt_remove pins s σ H _ _ v us Q I rx rs ⟨p, ns, k, j, rfl, rfl, hp, e4, e5, Tri.wrote (v := V.non) t hr ep eh hp (RelDs.ints.mpr rfl) fun _ _ _ => rfl⟩
    | _ => exact t.elim
  · cases d <;> exact t.elim
theorem asBools_eq : ∀ {ds : List D} {bs : List Bool}, asBools ds = some bs → ds = bs.map .bl
  | [], _, e => by cases e; rfl
  | d :: ds, bs, e => by
    cases d with
    | bl b =>
      obtain ⟨r, e1, rfl⟩ := Option.map_eq_some_iff.mp (show (asBools ds).map _ = some _ from e)
      rw [asBools_eq e1]; rfl
    | _ => cases e
theorem relD_bls {W H} {bs : List Bool} : ∀ {vs : List V}, RelDs Z W H (bs.map D.bl) vs → vs = bs.map V.bl := by
  induction bs with
  | nil => intro vs r; exact r
  | cons b r ih => intro vs ⟨v, q, e, h1, h2⟩; rw [e, ih h2, show v = V.bl b from h1]; rfl
theorem vals_bls : ∀ {bs : List Bool} {us : List Value}, Vals (bs.map V.bl) us → us = bs.map Value.bool
  | [], _, r => by cases r; rfl
  | b :: bs, _, r => by
    cases r with
    | cons r1 r2 => cases r1; rw [vals_bls r2]; rfl
theorem reads_bls {h : Heap} : ∀ bs : List Bool, ReadsAll h (bs.map Value.bool) (bs.map PyData.bool) []
  | [] => .nil
  | b :: bs => .cons (as := []) (bs := []) (.bool b) (reads_bls bs)
theorem countIn_bls (k : Bool) : ∀ bs : List Bool, countIn (.bool k) (bs.map PyData.bool) = ((bs.count k : Nat) : Int)
  | [] => rfl
  | b :: bs => by
    rw [List.map_cons, countIn, countIn_bls k bs, List.count_cons]
    simp only [same]
    by_cases q : b = k
    · simp [q]; omega
    · simp [q]
theorem all_bls : ∀ bs : List Bool, (bs.map PyData.bool).all Shape.bool.has = true
  | [] => rfl
  | b :: bs => by rw [List.map_cons, List.all_cons, all_bls bs]; rfl
theorem m_count (hK : X.K = Z.K) (c : Bool) : MtR X "list.count" (rM Z (meD .count c)) := by
  intro pins s σ H x xs' v us Q I rx rs ⟨W, h, d, ds, rd, rds, hr, t⟩
  rcases ds with _ | ⟨d1, _ | ⟨d2, r⟩⟩
  · exact t.elim
  · cases d1 with
    | int k =>
      obtain ⟨w, q, rfl, rw1, rfl⟩ := rds
      rw [show w = V.int k from rw1] at rs
      obtain ⟨m, e, q⟩ := optI_tri t hr
      obtain ⟨ns, e1, rfl⟩ := Option.map_eq_some_iff.mp e
      obtain ⟨a, rfl, hp⟩ := intsOf_sq hr rd e1
      exact mt_lcount pins s σ H _ _ v us Q I rx rs ⟨a, ns, k, rfl, rfl, hK ▸ hp, q⟩
    | bl k =>
      obtain ⟨w, q, rfl, rw1, rfl⟩ := rds
      rw [show w = V.bl k from rw1] at rs
      obtain ⟨m, e, q⟩ := optI_tri t hr
      obtain ⟨bs, e1, rfl⟩ := Option.map_eq_some_iff.mp e
      obtain ⟨xs, e2, e3⟩ := Option.bind_eq_some_iff.mp e1
      obtain ⟨a, vs, rfl, hp, r1⟩ := asL_sq hr rd e2
      rw [asBools_eq e3] at r1
      rw [relD_bls r1] at hp
      cases rx
      obtain ⟨u, rfl, ru⟩ := rs.one
      cases ru
      obtain ⟨its, rv, pl, hz⟩ := I.list (hK ▸ hp)
      have ei := vals_bls rv
      subst ei
      refine count_list_bools (xs := bs.map PyData.bool) (as := []) (hp := s.heap) pl.isList (reads_bls bs) (all_bls bs) ?_
      rw [countIn_bls]
      exact ⟨.int ((bs.count k : Nat) : Int), H, I.tok _, ⟨s.toks, rfl⟩, q⟩
    | _ => exact t.elim
  · cases d1 <;> exact t.elim
theorem m_index (hK : X.K = Z.K) (hu : X.A.units + 65 < cLine) (c : Bool) : MtR X "list.index" (rM Z (meD .index c)) := by
  intro pins s σ H x xs' v us Q I rx rs ⟨W, h, d, ds, rd, rds, hr, t⟩
  rcases ds with _ | ⟨d1, _ | ⟨d2, r⟩⟩
  · exact t.elim
  · obtain ⟨w, q, rfl, rw1, rfl⟩ := rds
    obtain ⟨m, e, q⟩ := optI_tri t hr
    cases e1 : toPy h d with
    | none => rw [e1] at e; cases e
    | some p1 =>
      cases e2 : toPy h d1 with
      | none => rw [e1, e2] at e; cases p1 <;> cases e
      | some p2 =>
        cases p1 with
        | list ps =>
          have e : (if SeqAt.shaped (.list ps) = true ∧ SeqAt.shaped p2 = true then (findP p2 0 ps).map (fun n : Nat => (n : Int)) else none) = some m := by rw [e1, e2] at e; exact e
          by_cases hz : SeqAt.shaped (.list ps) = true ∧ SeqAt.shaped p2 = true
          · rw [if_pos hz] at e
            obtain ⟨j, e3, rfl⟩ := Option.map_eq_some_iff.mp e
            obtain ⟨i, e4, z, e5, e6, e7⟩ := findP_spec p2 ps 0 j e3
            obtain rfl : j = i := by omega
            have hd := toPy_dp hr rd e1
            cases hd with
            | @lst a vs _ hs ha =>
              exact mt_indexD hu pins s σ H _ _ v us Q I rx rs ⟨a, w, p2, ps, j, z, rfl, rfl, hK ▸ Dp.lst hs ha, hK ▸ toPy_dp hr rw1 e2, hz.1, hz.2, e5, e6, e7, q⟩
          · rw [if_neg hz] at e; cases e
        | _ => rw [e1, e2] at e; cases e
  · exact t.elim
theorem m_join (hK : X.K = Z.K) (c : Bool) : MtR X "str.join" (rM Z (meD .join c)) := by
  intro pins s σ H x xs' v us Q I rx rs ⟨W, h, d, ds, rd, rds, hr, t⟩
  cases d with
  | str a =>
    rcases ds with _ | ⟨d1, _ | ⟨d2, r⟩⟩
    · exact t.elim
    · obtain ⟨w, q, rfl, rw1, rfl⟩ := rds
      cases e : (asL h d1).bind asStrs with
      | none => exact (by unfold meD at t; simp only [e] at t; exact t.elim)
      | some ys =>
        have t : TriD Z (fun _ _ => False) Q W H (if (ys.map (·.length)).sum + ys.length * a.length ≤ LIM then .ok (.str (Txt.join a ys)) h else .bad) := by unfold meD at t; simp only [e] at t; exact t
        by_cases hz : (ys.map (·.length)).sum + ys.length * a.length ≤ LIM
        · rw [if_pos hz] at t
          obtain ⟨xs, e1, e2⟩ := Option.bind_eq_some_iff.mp e
          obtain ⟨p, vs, rfl, hp, r1⟩ := asL_sq hr rw1 e1
          rw [asStrs_eq e2] at r1
          rw [RelDs.strs.mp r1] at hp
          exact mt_join pins s σ H _ _ v us Q I rx rs ⟨a, p, ys, rd, rfl, .inl (hK ▸ hp), by unfold LIM at hz; omega, t.now hr rfl⟩
        · rw [if_neg hz] at t; exact t.elim
    · exact t.elim
  | _ => exact t.elim
theorem m_split (c : Bool) : MtR X "str.split" (rM Z (meD .split c)) := by
  intro pins s σ H x xs' v us Q I rx rs ⟨W, h, d, ds, rd, rds, hr, t⟩
  cases d with
  | str a =>
    rcases ds with _ | ⟨d1, _ | ⟨d2, r⟩⟩
    · exact t.elim
    · cases d1 with
      | str b =>
        obtain ⟨w, q, rfl, rw1, rfl⟩ := rds
        rw [show w = V.str b from rw1] at rs
        have t : TriD Z (fun _ _ => False) Q W H (if b.length ≠ 0 ∧ a.length ≤ LIM then mkL c ((Txt.split a b).map .str) h else .bad) := t
        by_cases hz : b.length ≠ 0 ∧ a.length ≤ LIM
        · rw [if_pos hz] at t
          have l := sizeLine_eq
          exact mt_split pins s σ H _ _ v us Q I rx rs ⟨a, b, rd, rfl, by simpa using hz.1, by have := hz.2; unfold LIM at this; omega, fun p np => Tri.newL t hr (RelDs.strs.mpr rfl) np⟩
        · rw [if_neg hz] at t; exact t.elim
      | _ => exact t.elim
    · cases d1 <;> exact t.elim
  | _ => exact t.elim
theorem m_partition (c : Bool) : MtR X "str.partition" (rM Z (meD .partition c)) := by
  intro pins s σ H x xs' v us Q I rx rs ⟨W, h, d, ds, rd, rds, hr, t⟩
  cases d with
  | str a =>
    rcases ds with _ | ⟨d1, _ | ⟨d2, r⟩⟩
    · exact t.elim
    · cases d1 with
      | str b =>
        obtain ⟨w, q, rfl, rw1, rfl⟩ := rds
        rw [show w = V.str b from rw1] at rs
        have t : TriD Z (fun _ _ => False) Q W H (if b.length ≠ 0 ∧ a.length ≤ LIM then .ok (.tup [.str (Txt.partition a b).1, .str (Txt.partition a b).2.1, .str (Txt.partition a b).2.2]) h else .bad) := t
        by_cases hz : b.length ≠ 0 ∧ a.length ≤ LIM
        · rw [if_pos hz] at t
          exact mt_partition pins s σ H _ _ v us Q I rx rs ⟨a, b, rd, rfl, by simpa using hz.1, Nat.le_trans hz.2 lim_le, fun p np => Tri.newT t hr ⟨_, _, rfl, rfl, _, _, rfl, rfl, _, _, rfl, rfl, rfl⟩ np⟩
        · rw [if_neg hz] at t; exact t.elim
      | _ => exact t.elim
    · cases d1 <;> exact t.elim
  | _ => exact t.elim
end
/-! ### isinstance -/
def tyN (h : Hh) : D → Option String
  | .non => some "NoneType"
  | .bl _ => some "bool"
  | .int _ => some "int"
  | .str _ => some "str"
  | .tup _ => some "tuple"
  | .lst _ => some "list"
  | .kl _ => some "list"
  | .dic _ => some "dict"
  | .cel i => (asO h[i]?).map fun _ => "list"
  | _ => none
def isiB (a b : String) : Bool := a == b || (b == "int" && a == "bool")
def tyAll : List String := ["NoneType", "bool", "int", "str", "tuple", "list", "dict"]
def tyAsk : List String := ["int", "bool", "str", "list", "tuple", "dict"]
theorem isi_table : (tyAll.all fun a => tyAsk.all fun b => decide (kitB a b = some (isiB a b))) = true := by decide +kernel
/-- classes, by their names -/
def clsL : List D → Option (List Str)
  | [] => some []
  | d :: r => match d with
    | .cls n => (clsL r).map fun l => n :: l
    | _ => none
def isX (n : Str) (b : D) : Option Bool := match b with
  | .ty m => if m = "ValueError" then some true else none
  | .cls m => some (subX n m)
  | .tup ms => (clsL ms).map fun l => l.any (subX n)
  | _ => none
def isiT (h : Hh) (a b : D) : Option Bool := match b with
  | .ty n => if tyAsk.contains n then (tyN h a).map fun t => isiB t n else none
  | _ => none
def isiD (h : Hh) (a b : D) : Option Bool := match a with
  | .exc n => isX n b
  | a => isiT h a b
section
variable {X : Cx} {Z : Zn}
theorem tyN_mem {h : Hh} {d : D} {t : String} (e : tyN h d = some t) : t ∈ tyAll := by
  cases d with
  | cel i => obtain ⟨_, _, rfl⟩ := Option.map_eq_some_iff.mp (show (asO h[i]?).map _ = some _ from e); decide
  | cls _ => cases e
  | ty _ => cases e
  | exc _ => cases e
  | _ => cases e; decide
theorem tyN_ty {W H} {h : Hh} {d : D} {v : V} {t : String} (hr : HRel Z W H h) (r : RelD Z W H d v) (e : tyN h d = some t) : TyX Z.K H v (.type t) := by
  cases d with
  | non => cases e; rw [show v = V.non from r]; exact .base .non
  | bl b => cases e; rw [show v = V.bl b from r]; exact .base (.bl b)
  | int b => cases e; rw [show v = V.int b from r]; exact .base (.int b)
  | str b => cases e; rw [show v = V.str b from r]; exact .base (.str b)
  | tup b =>
    cases e
    obtain ⟨p, _, rfl, f, _⟩ := r
    rcases f with f | ⟨o, its, n, e, c, _⟩
    · exact .base (.tup f)
    · exact .kTuple e c
  | lst b => cases e; obtain ⟨p, _, rfl, f, _⟩ := r; exact .base (.lst f.1)
  | kl b =>
    cases e
    obtain ⟨p, _, rfl, f, _⟩ := r
    rcases f with ⟨o, f, _⟩ | ⟨o, its, n, e, c, _⟩
    · exact .base (.frz f)
    · exact .kList e c
  | dic b => cases e; obtain ⟨p, _, rfl, f, _⟩ := r; exact .base (.dK f)
  | cel i =>
    obtain ⟨xs, e1, rfl⟩ := Option.map_eq_some_iff.mp (show (asO h[i]?).map _ = some _ from e)
    obtain ⟨p, vs, rfl, hp, _⟩ := asT_at (d := .cel i) hr r e1
    exact .base (.lst hp)
  | _ => cases e
theorem inst_of {pins : List (Addr × Obj)} {σ : L2.St} {H : Hp} {s : Shared} {a C : Addr} (I : Inv X pins σ H s) (e : H a = some (ExK (.ref C) a)) : ∃ oe, PySem.W.InstAt s.heap a oe C none := by
  obtain ⟨⟨oe, vs, h1, h2, h3⟩, _, _⟩ := I.hok a _ e
  refine ⟨oe, ?_⟩
  obtain ⟨oc, od, oda, osl⟩ := oe
  obtain ⟨z1, z2⟩ := h2
  dsimp only at z1 z2 h3
  subst z1 z2 h3
  exact ⟨h1, rfl, rfl, trivial⟩
theorem kit_any {W H} {n : Str} {C : Addr} (hn : n ∈ Z.xs) (hC : Z.cl n = some C) : ∀ {ms : List D} {l : List Str} {vs : List V} {its : List Value}, clsL ms = some l → RelDs Z W H ms vs → Vals vs its → PySem.W.kitAny Z.K (.ref C) its = some (l.any (subX n))
  | [], l, vs, its, e, r, q => by cases e; rw [show vs = [] from r] at q; cases q; rfl
  | d :: ms, l, vs, its, e, r, q => by
    obtain ⟨v, r', rfl, r1, r2⟩ := r
    cases d with
    | cls m =>
      obtain ⟨l', e1, rfl⟩ := Option.map_eq_some_iff.mp (show (clsL ms).map _ = some l from e)
      cases q with
      | cons q1 q2 =>
        obtain ⟨a, rfl, _, xc⟩ := r1
        cases q1
        have k := xc.1 n hn C hC
        have ih := kit_any hn hC e1 r2 q2
        show (match PySem.W.kitOne Z.K (.ref C) (.ref a) with | some true => some true | some false => PySem.W.kitAny Z.K (.ref C) _ | none => none) = _
        rw [k, List.any_cons]
        cases subX n m with
        | true => rfl
        | false => exact ih
    | _ => cases e
theorem c_isi (hK : X.K = Z.K) : CallR X (.builtin "isinstance") (rC Z fun ds h => match ds with | [a, b] => ofB (isiD h a b) h | _ => .bad) := by
  intro pins s σ H xs us Q I rx ⟨W, h, ds, rd, hr, t⟩
  rcases ds with _ | ⟨a, _ | ⟨b, _ | ⟨d, r⟩⟩⟩
  · exact t.elim
  · exact t.elim
  · obtain ⟨x, _, rfl, r1, y, _, rfl, r2, rfl⟩ := rd
    obtain ⟨k, e, q⟩ := ofB_tri t (fun _ _ z => z) hr
    by_cases ex : ∃ n, a = .exc n
    · obtain ⟨n, rfl⟩ := ex
      obtain ⟨p, C, rfl, hC, hn, ⟨xc, kv⟩, hp⟩ := r1
      have e : isX n b = some k := e
      obtain ⟨oe, J⟩ := inst_of I hp
      rw [← hK] at xc kv
      have KX := PySem.W.handS_kitx_exc (x := p) (ox := oe) xc.hg xc.hk xc.hs xc.hd xc.ha xc.hn xc.ht xc.hm
      cases rx with
      | cons q1 q2 =>
        cases q2 with
        | cons q2 q3 =>
          cases q3
          cases q1
          cases b with
          | ty m =>
            have e : (if m = "ValueError" then some true else none) = some k := e
            by_cases hm : m = "ValueError"
            · rw [if_pos hm] at e
              cases e
              subst hm
              rw [show y = V.ty "ValueError" from r2] at q2
              cases q2
              exact PySem.W.kia_one KX I.kIn J kv (fun z => nomatch z) fun tk => ⟨.bl true, H, I.kept (t' := tk) fun _ _ z => z, rfl, q⟩
            · rw [if_neg hm] at e; cases e
          | cls m =>
            obtain ⟨pc, rfl, _, xm⟩ := r2
            cases q2
            cases e
            have kk := xm.1 n hn C hC
            rw [← hK] at kk
            exact PySem.W.kia_one KX I.kIn J kk (fun z => nomatch z) fun tk => ⟨.bl _, H, I.kept (t' := tk) fun _ _ z => z, rfl, q⟩
          | tup ms =>
            obtain ⟨l, e1, rfl⟩ := Option.map_eq_some_iff.mp (show (clsL ms).map _ = some k from e)
            obtain ⟨tp, vs, rfl, fz, rv⟩ := r2
            cases q2
            have fz : FzT Z H tp vs := fz
            obtain ⟨its, vi, ⟨o, g1, g2, nn, g3⟩, _⟩ := I.tuple (hK ▸ fz.sq)
            have ka := kit_any hn hC e1 rv vi
            rw [← hK] at ka
            obtain ⟨oc, od, oda, osl⟩ := o
            dsimp only at g2 g3
            subst g2 g3
            exact PySem.W.kia_tup KX I.kIn J g1 ka (fun z => nomatch z) fun tk => ⟨.bl _, H, I.kept (t' := tk) fun _ _ z => z, rfl, q⟩
          | _ => cases e
    have e : isiT h a b = some k := by
      cases a with
      | exc n => exact absurd ⟨n, rfl⟩ ex
      | _ => exact e
    cases b with
    | ty n =>
      have e : (if tyAsk.contains n then (tyN h a).map (fun t => isiB t n) else none) = some k := e
      by_cases hc : tyAsk.contains n = true
      · rw [if_pos hc] at e
        obtain ⟨t', e1, rfl⟩ := Option.map_eq_some_iff.mp e
        have h1 := List.all_eq_true.mp isi_table t' (tyN_mem e1)
        have h2 := of_decide_eq_true (List.all_eq_true.mp h1 n (by simpa using hc))
        exact call_isi pins s σ H _ us Q I rx ⟨x, y, .type t', .type n, _, rfl, by rw [show y = V.ty n from r2]; exact .ty n, hK ▸ tyN_ty hr r1 e1, kit_ty h2, q⟩
      · rw [if_neg hc] at e; cases e
    | _ => cases e
  · exact t.elim
end
end Tb
namespace Tb
open PySem PySem.Spec PyProof.Rows L2
/-! ### the texts -/
/-- how a def is called: by what is only read (pure), with the cells shared, shared and what is new frozen -/
inductive Md where
  | P | S | F | C | L
inductive Tg where
  | nm (i : Nat) | tp (is : List Nat)
/-- a name or a number -/
inductive At where
  | v (i : Nat) | n (i : Int)
mutual
inductive E where
  | var (i : Nat)
  | int (i : Int) | bl (b : Bool) | non | str (x : Str)
  | glo (x : Str) (d : D)
  | bty (n : String)
  | bin (c : Bool) (o : Operator) (a b : E)
  | neg (a : E)
  | cmp (o : CmpOp) (a b : E)
  | chn (o o2 : CmpOp) (a b c : E)
  | bop (o : BoolOp) (es : Es)
  | not (a : E)
  | ife (t a b : E)
  | lst (c : Bool) (es : Es) | tup (es : Es)
  | idx (a i : E)
  | slU (c : Bool) (a hi : E) | slL (c : Bool) (a lo : E) | slB (c : Bool) (a lo hi : E)
  | call (m : Md) (x : Str) (F : Fn) (es : Es)
  | bi (b : Bi) (c : Bool) (es : Es)
  | isi (a b : E)
  | me (m : Me) (c : Bool) (a : E) (es : Es)
  | comp (c : Bool) (own : List Nat) (tg : Tg) (it : I) (tt : Es) (elt : E)
  | rvl (c : Bool) (a : E)
  | lset (a : E)
  | lrg (c : Bool) (a b : E)
  | dic (ps : List (At × At))
  | strx (c : Str) (a : E)
  | dnew
  | dget (a k : E)
  | dhas (n : Bool) (k a : E)
  | dlst (c : Bool) (a : E)
  | denu (a : E)
inductive Es where
  | nil | cons (e : E) (es : Es)
inductive I where
  | seq (e : E) | rng (es : Es) | enu (e : E) | zip (a b : E) | rev (e : E)
end
mutual
inductive S where
  | asg (t : Tg) (e : E)
  | sub (a i e : E)
  | dput (a i e : E)
  | aug (i : Nat) (o : Operator) (e : E)
  | ex (e : E)
  | ret (e : E)
  | retN
  | ifs (t : E) (a b : Ss)
  | whl (t : E) (b : Ss)
  | fr (t : Tg) (it : I) (b : Ss)
  | pass | brk | cnt
  | rais (c : Str)
  | nev
  | tryN (b : Ss) (c : Str) (s : Ss)
  | tryA (b : Ss) (c : Str) (i j : Nat)
  | tryK (b : Ss) (c : Str) (j : Nat) (v : Bool)
inductive Ss where
  | nil | cons (s : S) (r : Ss)
end
/-! ### what they do -/
def noX {α : Type} : R α → R α
  | .exc _ _ => .bad
  | r => r
def setN (i : Nat) (d : D) (ls : Ls) : Option Ls := if i < ls.length then some (ls.set i (some d)) else none
def setNs : List Nat → List D → Ls → Option Ls
  | [], [], ls => some ls
  | i :: is, d :: ds, ls => (setN i d ls).bind fun l => setNs is ds l
  | _, _, _ => none
def asgT (t : Tg) (d : D) (ls : Ls) : Option Ls := match t with
  | .nm i => setN i d ls
  | .tp is => match d with
    | .tup ds => setNs is ds ls
    | .lst ds => setNs is ds ls
    | _ => none
def wipeL (ls : Ls) : List Nat → Ls
  | [] => ls
  | v :: vs => (wipeL ls vs).set v none
/-- what is walked -/
inductive It where
  | seq (d : D) | enu (d : D) | zip (d e : D) | rev (d : D) (n : Nat) | rng (lo : Int) (n : Nat) (st : Int)
def seqOf (h : Hh) : D → Option (List D)
  | .tup xs => some xs
  | d => asL h d
def D.isCel : D → Bool
  | .cel _ => true
  | _ => false
def enumL : Nat → List D → List D
  | _, [] => []
  | n, d :: ds => .tup [.int n, d] :: enumL (n + 1) ds
def zipL : List D → List D → List D
  | d :: ds, e :: es => .tup [d, e] :: zipL ds es
  | _, _ => []
def rngL (lo st : Int) : Nat → List D
  | 0 => []
  | n + 1 => .int lo :: rngL (lo + st) st n
def It.cst : It → Bool
  | .seq d => !d.isCel
  | .enu d => !d.isCel
  | .zip d e => !d.isCel && !e.isCel
  | .rev d _ => !d.isCel
  | .rng _ _ _ => true
def It.items (h : Hh) : It → Option (List D)
  | .seq d => seqOf h d
  | .enu d => (asL h d).map (enumL 0)
  | .zip d e => (asL h d).bind fun xs => (asL h e).map fun ys => zipL xs ys
  | .rev d n => (asL h d).bind fun xs => if xs.length = n then some xs.reverse else none
  | .rng lo n st => some (rngL lo st n)
inductive RS where
  | nx (ls : Ls) (h : Hh) | rt (d : D) (h : Hh) | bk (ls : Ls) (h : Hh) | ct (ls : Ls) (h : Hh) | exc (c : Str) (ls : Ls) (h : Hh) | bad
def FUEL : Nat := 100000
/-- over items that stay -/
def loopL (g : D → Ls → Option Ls) (b : Ls → Hh → RS) : List D → Ls → Hh → RS
  | [], ls, h => .nx ls h
  | x :: xs, ls, h => match g x ls with
    | none => .bad
    | some l1 => match b l1 h with
      | .nx l2 h2 => loopL g b xs l2 h2
      | .ct l2 h2 => loopL g b xs l2 h2
      | .bk l2 h2 => .nx l2 h2
      | r => r
/-- over items as they stand -/
def loopI (it : It) (g : D → Ls → Option Ls) (b : Ls → Hh → RS) : Nat → Nat → Ls → Hh → RS
  | 0, _, _, _ => .bad
  | n + 1, i, ls, h => match it.items h with
    | none => .bad
    | some xs => match xs[i]? with
      | none => .nx ls h
      | some x => match g x ls with
        | none => .bad
        | some l1 => match b l1 h with
          | .nx l2 h2 => loopI it g b n (i + 1) l2 h2
          | .ct l2 h2 => loopI it g b n (i + 1) l2 h2
          | .bk l2 h2 => .nx l2 h2
          | r => r
def forR (it : It) (g : D → Ls → Option Ls) (b : Ls → Hh → RS) (ls : Ls) (h : Hh) : RS :=
  if it.cst then (match it.items h with
    | some xs => loopL g b xs ls h
    | none => .bad)
  else loopI it g b FUEL 0 ls h
def compL (g : D → Ls → Option Ls) (t : Ls → Hh → R Bool) (f : Ls → Hh → R D) (ls : Ls) : List D → Hh → R (List D)
  | [], h => .ok [] h
  | x :: xs, h => match g x ls with
    | none => .bad
    | some l1 => (t l1 h).bind fun b h1 => if b = true then (f l1 h1).bind fun d h2 => (compL g t f ls xs h2).bind fun ds h3 => .ok (d :: ds) h3 else compL g t f ls xs h1
def compI (it : It) (g : D → Ls → Option Ls) (t : Ls → Hh → R Bool) (f : Ls → Hh → R D) (ls : Ls) : Nat → Nat → Hh → R (List D)
  | 0, _, _ => .bad
  | n + 1, i, h => match it.items h with
    | none => .bad
    | some xs => match xs[i]? with
      | none => .ok [] h
      | some x => match g x ls with
        | none => .bad
        | some l1 => (t l1 h).bind fun b h1 => if b = true then (f l1 h1).bind fun d h2 => (compI it g t f ls n (i + 1) h2).bind fun ds h3 => .ok (d :: ds) h3 else compI it g t f ls n (i + 1) h1
def compR (it : It) (g : D → Ls → Option Ls) (t : Ls → Hh → R Bool) (f : Ls → Hh → R D) (ls : Ls) (h : Hh) : R (List D) :=
  if it.cst then (match it.items h with
    | some xs => if xs.length ≤ LIM then compL g t f ls xs h else .bad
    | none => .bad)
  else compI it g t f ls FUEL 0 h
def whileR (t : Ls → Hh → R Bool) (b : Ls → Hh → RS) : Nat → Ls → Hh → RS
  | 0, _, _ => .bad
  | n + 1, ls, h => match t ls h with
    | .bad => .bad
    | .exc c h1 => .exc c ls h1
    | .ok false h1 => .nx ls h1
    | .ok true h1 => match b ls h1 with
      | .nx l2 h2 => whileR t b n l2 h2
      | .ct l2 h2 => whileR t b n l2 h2
      | .bk l2 h2 => .nx l2 h2
      | r => r
/-! freezing -/
mutual
def D.pure : D → Bool
  | .tup xs => pures xs
  | .lst xs => pures xs
  | .kl xs => pures xs
  | .dic kvs => pureK kvs
  | .cel _ => false
  | _ => true
def pures : List D → Bool
  | [] => true
  | d :: ds => d.pure && pures ds
def pureK : List (Key × D) → Bool
  | [] => true
  | (_, d) :: ds => d.pure && pureK ds
end
mutual
/-- no list within -/
def D.nol : D → Bool
  | .tup xs => nols xs
  | .lst _ => false
  | .kl _ => false
  | .dic _ => false
  | .cel _ => false
  | _ => true
def nols : List D → Bool
  | [] => true
  | d :: ds => d.nol && nols ds
end
def frzL (f : D → Option D) : List D → Option (List D)
  | [] => some []
  | d :: ds => (f d).bind fun e => (frzL f ds).map fun es => e :: es
/-- the cells from n on frozen -/
def frz (n : Nat) (h : Hh) : Nat → D → Option D
  | 0, _ => none
  | k + 1, d => match d with
    | .tup xs => (frzL (frz n h k) xs).map .tup
    | .lst xs => (frzL (frz n h k) xs).map .lst
    | .kl xs => if pures xs = true then some (.kl xs) else none
    | .dic kvs => if pureK kvs = true then some (.dic kvs) else none
    | .cel i => if i < n then some (.cel i) else (asO h[i]?).bind fun xs => (frzL (frz n h k) xs).map .lst
    | d => some d
/-- a dict's cell, frozen -/
def dicO : Option O → Option (List (Key × D))
  | some (.dct kvs) => if pureK kvs = true then some kvs else none
  | _ => none
def fz (n : Nat) (h : Hh) (d : D) : Option D := if d.pure = true then some d else frz n h 8 d
mutual
def D.under (n : Nat) : D → Bool
  | .tup xs => unders n xs
  | .lst xs => unders n xs
  | .kl xs => unders n xs
  | .dic kvs => underK n kvs
  | .cel i => decide (i < n)
  | _ => true
def unders (n : Nat) : List D → Bool
  | [] => true
  | d :: ds => d.under n && unders n ds
def underK (n : Nat) : List (Key × D) → Bool
  | [] => true
  | (_, d) :: ds => d.under n && underK n ds
end
def O.under (n : Nat) : O → Bool
  | .lst xs => unders n xs
  | .ins _ fs => fs.all fun p => p.2.under n
  | .dct kvs => underK n kvs
/-- all lists within are cells of the call's own -/
def ownD (h : Hh) : Nat → D → Bool
  | 0, _ => false
  | k + 1, d => match d with
    | .tup xs => xs.all (ownD h k)
    | .lst _ => false
    | .kl _ => false
    | .dic _ => false
    | .cel i => match asO h[i]? with
      | some xs => xs.all (ownD h k)
      | none => false
    | _ => true
mutual
/-- the cells by n farther on -/
def D.sh (n : Nat) : D → D
  | .tup xs => .tup (shs n xs)
  | .lst xs => .lst (shs n xs)
  | .kl xs => .kl (shs n xs)
  | .dic kvs => .dic (shK n kvs)
  | .cel i => .cel (n + i)
  | d => d
def shs (n : Nat) : List D → List D
  | [] => []
  | d :: ds => d.sh n :: shs n ds
def shK (n : Nat) : List (Key × D) → List (Key × D)
  | [] => []
  | (k, d) :: ds => (k, d.sh n) :: shK n ds
end
def O.sh (n : Nat) : O → O
  | .lst xs => .lst (shs n xs)
  | .ins c fs => .ins c (fs.map fun p => (p.1, p.2.sh n))
  | .dct kvs => .dct (shK n kvs)
mutual
/-- no list but cells -/
def D.nlc : D → Bool
  | .tup xs => nlcs xs
  | .lst _ => false
  | .kl _ => false
  | .dic _ => false
  | _ => true
def nlcs : List D → Bool
  | [] => true
  | d :: ds => d.nlc && nlcs ds
def nlcK : List (Key × D) → Bool
  | [] => true
  | (_, d) :: ds => d.nlc && nlcK ds
end
def O.nlc : O → Bool
  | .lst xs => nlcs xs
  | .ins _ _ => false
  | .dct kvs => nlcK kvs
def O.noI : O → Bool
  | .ins _ _ => false
  | _ => true
def callP (F : Fn) (ds : List D) (h : Hh) : R D := match frzL (fz 0 h) ds with
  | none => .bad
  | some es => match F es [] with
    | .bad => .bad
    | .exc c _ => .exc c h
    | .ok d h' => match fz 0 h' d with
      | none => .bad
      | some e => if pures ds = true ∨ e.nol = true then .ok e h else if d.pure = false ∧ ownD h' 8 d = true then .ok e h else .bad
def callF (F : Fn) (ds : List D) (h : Hh) : R D := match F ds h with
  | .bad => .bad
  | .exc c h' => if (h'.take h.length).all (O.under h.length) = true then .exc c (h'.take h.length) else .bad
  | .ok d h' => match fz h.length h' d with
    | none => .bad
    | some e => if (h'.take h.length).all (O.under h.length) = true ∧ h.length ≤ h'.length then .ok e (h'.take h.length) else .bad
/-- by what is only read; the list that comes is new and ours -/
def callC (F : Fn) (ds : List D) (h : Hh) : R D := match frzL (fz 0 h) ds with
  | none => .bad
  | some es => match F es [] with
    | .bad => .bad
    | .exc c _ => .exc c h
    | .ok d h' => match d with
      | .cel i => match asO h'[i]? with
        | some xs => if pures xs = true ∧ (pures ds = true ∨ nols xs = true) then .ok (.cel h.length) (h ++ [.lst xs]) else .bad
        | none => .bad
      | _ => .bad
/-- by what is only read; all cells that come are new and ours -/
def callL (F : Fn) (ds : List D) (h : Hh) : R D := match frzL (fz 0 h) ds with
  | none => .bad
  | some es => match F es [] with
    | .bad => .bad
    | .exc c _ => .exc c h
    | .ok d h' => if h'.all O.noI = true ∧ (pures ds = true ∨ (d.nlc = true ∧ h'.all O.nlc = true)) then .ok (d.sh h.length) (h ++ h'.map (O.sh h.length)) else .bad
def callM : Md → Fn → Fn
  | .P => callP
  | .C => callC
  | .L => callL
  | .S => fun F => F
  | .F => callF
def truD (d : D) (h : Hh) : R Bool := match d with
  | .bl b => .ok b h
  | _ => .bad
def negD (d : D) (h : Hh) : R D := match d with
  | .int i => .ok (.int (-i)) h
  | _ => .bad
def mkR (o : Option It) (h : Hh) : R It := match o with
  | some i => .ok i h
  | none => .bad
def smallR (i : Int) : Bool := Nat.ble i.natAbs 1000000000000
def rngOf : List D → Option It
  | [.int j] => if smallR j = true then some (.rng 0 j.toNat 1) else none
  | [.int i, .int j] => if smallR i = true ∧ smallR j = true then some (.rng i (j - i).toNat 1) else none
  | [.int i, .int j, .int (-1)] => if smallR i = true ∧ smallR j = true then some (.rng i (i - j).toNat (-1)) else none
  | _ => none
def revL (c : Bool) (o : Option (List D)) (h : Hh) : R D := match o with
  | some xs => mkL c xs.reverse h
  | none => .bad
def revD (c : Bool) (d : D) (h : Hh) : R D := revL c (asL h d) h
def intsL : List D → Option (List Int)
  | [] => some []
  | .int i :: ds => (intsL ds).map fun r => i :: r
  | _ :: _ => none
def dstI (ns : List Int) : List Int := ns.foldl PyProof.Rows.step_dedup []
/-- str(X(text)) -/
def strxD (d : D) (h : Hh) : R D := match d with
  | .str m => .ok (.str m) h
  | _ => .bad
def lsetD (d : D) (h : Hh) : R D := match (asL h d).bind intsL with
  | some ns => if ns.length ≤ 4000 then .ok (.int ((dstI ns).length : Nat)) h else .bad
  | none => .bad
def lrgD (c : Bool) (a b : D) (h : Hh) : R D := match a, b with
  | .int i, .int j => if smallR i = true ∧ smallR j = true ∧ (j - i).toNat ≤ LIM then mkL c (rngL i 1 (j - i).toNat) h else .bad
  | _, _ => .bad
def asI : D → Option Int
  | .int i => some i
  | _ => none
def withI {α : Type} (d : D) (k : Int → R α) : R α := match d with
  | .int i => k i
  | _ => .bad
def evAt (ls : Ls) : At → Option D
  | .v i => match ls[i]? with
    | some (some d) => some d
    | _ => none
  | .n i => some (.int i)
def evKV (ls : Ls) (p : At × At) : Option (Key × D) := match evAt ls p.1, evAt ls p.2 with
  | some (.int i), some d => some (.inl i, d)
  | some (.str x), some d => some (.inr x, d)
  | _, _ => none
/-- at most one pair -/
def dicD (ls : Ls) (ps : List (At × At)) (h : Hh) : R D := match ps with
  | [] => .ok (.dic []) h
  | [p] => match evKV ls p with
    | some kv => .ok (.dic [kv]) h
    | none => .bad
  | _ => .bad
/-! dicts -/
def keyD : D → Option Key
  | .int i => some (.inl i)
  | .str x => some (.inr x)
  | _ => none
def keyV : Key → D
  | .inl i => .int i
  | .inr x => .str x
def dctO : Option O → Option (List (Key × D))
  | some (.dct kvs) => some kvs
  | _ => none
def dictO (h : Hh) : D → Option (List (Key × D))
  | .dic kvs => some kvs
  | .cel i => dctO h[i]?
  | _ => none
def valD (kvs : List (Key × D)) (k : Key) : Option D := (kvs.find? fun p => decide (p.1 = k)).map (·.2)
def putD (kvs : List (Key × D)) (k : Key) (d : D) : List (Key × D) :=
  if (kvs.any fun p => decide (p.1 = k)) = true then kvs.map (fun p => if p.1 = k then (p.1, d) else p) else kvs ++ [(k, d)]
def dgetK (o : Option (List (Key × D))) (k : Option Key) (h : Hh) : R D := match o, k with
  | some kvs, some k => optD (valD kvs k) h
  | _, _ => .bad
def dgetD (x y : D) (h : Hh) : R D := dgetK (dictO h x) (keyD y) h
def dhasK (n : Bool) (o : Option (List (Key × D))) (k : Option Key) (h : Hh) : R D := match o, k with
  | some kvs, some k => .ok (.bl (if n then !(valD kvs k).isSome else (valD kvs k).isSome)) h
  | _, _ => .bad
def dhasD (n : Bool) (y x : D) (h : Hh) : R D := dhasK n (dictO h x) (keyD y) h
def enuKs {α : Type} : Nat → List α → List (Key × α)
  | _, [] => []
  | n, x :: r => (.inl (n : Int), x) :: enuKs (n + 1) r
def denD (x : D) (h : Hh) : R D := match asL h x with
  | some xs => .ok (.dic (enuKs 0 xs)) h
  | none => .bad
def dlstD (c : Bool) (x : D) (h : Hh) : R D := match dictO h x with
  | some kvs => if kvs.length ≤ LIM then mkL c (kvs.map fun p => keyV p.1) h else .bad
  | none => .bad
def dputK (i : Nat) (o : Option (List (Key × D))) (k : Option Key) (v : D) (h : Hh) : R Unit := match o, k with
  | some kvs, some k => if kvs.length < LIM then .ok () (h.set i (.dct (putD kvs k v))) else .bad
  | _, _ => .bad
def dputD (x y v : D) (h : Hh) : R Unit := match x with
  | .cel i => dputK i (dctO h[i]?) (keyD y) v h
  | _ => .bad
mutual
def evE : E → Ls → Hh → R D
  | .var i, ls, h => match ls[i]? with
    | some (some d) => .ok d h
    | _ => .bad
  | .int i, _, h => .ok (.int i) h
  | .bl b, _, h => .ok (.bl b) h
  | .non, _, h => .ok .non h
  | .str x, _, h => .ok (.str x) h
  | .glo _ d, _, h => .ok d h
  | .bty n, _, h => .ok (.ty n) h
  | .bin c o a b, ls, h => (evE a ls h).bind fun x h1 => (evE b ls h1).bind fun y h2 => binD c o x y h2
  | .neg a, ls, h => (evE a ls h).bind fun x h1 => negD x h1
  | .cmp o a b, ls, h => (evE a ls h).bind fun x h1 => (evE b ls h1).bind fun y h2 => ofB (cmpD o h2 x y) h2
  | .chn o o2 a b c, ls, h => (evE a ls h).bind fun x h1 => (evE b ls h1).bind fun y h2 => (ofB (cmpD o h2 x y) h2).bind fun r h3 => (truD r h3).bind fun k h4 =>
      if k = true then (evE c ls h4).bind fun z h5 => ofB (cmpD o2 h5 y z) h5 else .ok (.bl false) h4
  | .bop o es, ls, h => evB o es ls h
  | .not a, ls, h => (evE a ls h).bind fun x h1 => (truD x h1).bind fun k h2 => .ok (.bl !k) h2
  | .ife t a b, ls, h => (evE t ls h).bind fun x h1 => (truD x h1).bind fun k h2 => if k = true then evE a ls h2 else evE b ls h2
  | .lst c es, ls, h => (evEs es ls h).bind fun xs h1 => if xs.length ≤ LIM then mkL c xs h1 else .bad
  | .tup es, ls, h => (evEs es ls h).bind fun xs h1 => if xs.length ≤ LIM then .ok (.tup xs) h1 else .bad
  | .idx a i, ls, h => (evE a ls h).bind fun x h1 => (evE i ls h1).bind fun y h2 => idxD x y h2
  | .slU c a hi, ls, h => (evE a ls h).bind fun x h1 => (evE hi ls h1).bind fun y h2 => withI y fun j => slcD c x none (some j) h2
  | .slL c a lo, ls, h => (evE a ls h).bind fun x h1 => (evE lo ls h1).bind fun y h2 => withI y fun i => slcD c x (some i) none h2
  | .slB c a lo hi, ls, h => (evE a ls h).bind fun x h1 => (evE lo ls h1).bind fun y h2 => withI y fun i => (evE hi ls h2).bind fun z h3 => withI z fun j => slcD c x (some i) (some j) h3
  | .call m _ F es, ls, h => (evEs es ls h).bind fun xs h1 => callM m F xs h1
  | .bi b c es, ls, h => (evEs es ls h).bind fun xs h1 => biD b c xs h1
  | .isi a b, ls, h => (evE a ls h).bind fun x h1 => (evE b ls h1).bind fun y h2 => ofB (isiD h2 x y) h2
  | .me m c a es, ls, h => (evE a ls h).bind fun x h1 => if m.okR h1 x = true then (evEs es ls h1).bind fun xs h2 => meD m c x xs h2 else .bad
  | .comp c own tg it tt elt, ls, h => (evI it ls h).bind fun i h1 => (noX (compR i (asgT tg) (evTs tt) (evE elt) (wipeL ls own) h1)).bind fun ds h2 => mkL c ds h2
  | .rvl c a, ls, h => (evE a ls h).bind fun x h1 => revD c x h1
  | .lset a, ls, h => (evE a ls h).bind fun x h1 => lsetD x h1
  | .strx _ a, ls, h => (evE a ls h).bind fun x h1 => strxD x h1
  | .lrg c a b, ls, h => (evE a ls h).bind fun x h1 => (evE b ls h1).bind fun y h2 => lrgD c x y h2
  | .dic ps, ls, h => dicD ls ps h
  | .dnew, _, h => .ok (.cel h.length) (h ++ [.dct []])
  | .dget a k, ls, h => (evE a ls h).bind fun x h1 => (evE k ls h1).bind fun y h2 => dgetD x y h2
  | .dhas n k a, ls, h => (evE k ls h).bind fun y h1 => (evE a ls h1).bind fun x h2 => dhasD n y x h2
  | .dlst c a, ls, h => (evE a ls h).bind fun x h1 => dlstD c x h1
  | .denu a, ls, h => (evE a ls h).bind fun x h1 => denD x h1
def evEs : Es → Ls → Hh → R (List D)
  | .nil, _, h => .ok [] h
  | .cons e es, ls, h => (evE e ls h).bind fun x h1 => (evEs es ls h1).bind fun xs h2 => .ok (x :: xs) h2
/-- and, or -/
def evB (o : BoolOp) : Es → Ls → Hh → R D
  | .nil, _, _ => .bad
  | .cons e .nil, ls, h => evE e ls h
  | .cons e (.cons e2 es), ls, h => (evE e ls h).bind fun x h1 => (truD x h1).bind fun k h2 => match o, k with
    | .And, true => evB o (.cons e2 es) ls h2
    | .And, false => .ok (.bl false) h2
    | .Or, true => .ok (.bl true) h2
    | .Or, false => evB o (.cons e2 es) ls h2
/-- a clause's tests: none or one -/
def evTs : Es → Ls → Hh → R Bool
  | .nil, _, h => .ok true h
  | .cons e .nil, ls, h => (evE e ls h).bind truD
  | .cons _ (.cons _ _), _, _ => .bad
def evI : I → Ls → Hh → R It
  | .seq e, ls, h => (evE e ls h).bind fun x h1 => mkR ((seqOf h1 x).map fun _ => .seq x) h1
  | .rng es, ls, h => (evEs es ls h).bind fun xs h1 => mkR (rngOf xs) h1
  | .enu e, ls, h => (evE e ls h).bind fun x h1 => mkR ((asL h1 x).map fun _ => .enu x) h1
  | .zip a b, ls, h => (evE a ls h).bind fun x h1 => (evE b ls h1).bind fun y h2 => mkR ((asL h2 x).bind fun _ => (asL h2 y).map fun _ => .zip x y) h2
  | .rev e, ls, h => (evE e ls h).bind fun x h1 => mkR ((asL h1 x).map fun xs => .rev x xs.length) h1
end
def evT (e : E) (ls : Ls) (h : Hh) : R Bool := (evE e ls h).bind truD
def ofR {α : Type} (r : R α) (ls : Ls) (k : α → Hh → RS) : RS := match r with
  | .ok d h => k d h
  | .exc c h => .exc c ls h
  | .bad => .bad
def ofL (o : Option Ls) (h : Hh) : RS := match o with
  | some ls => .nx ls h
  | none => .bad
def augD (o : Operator) (a b : D) (h : Hh) : R D := match o, a, b with
  | .Add, .int i, .int j => .ok (.int (i + j)) h
  | .Sub, .int i, .int j => .ok (.int (i - j)) h
  | .Mult, .int i, .int j => if small i = true ∧ small j = true then .ok (.int (i * j)) h else .bad
  | _, _, _ => .bad
/-- by classes: the name of the class, those that stand over it -/
structure Cs where
  sub : Str → Str → Option Bool
mutual
def evS (C : Cs) : S → Ls → Hh → RS
  | .asg t e, ls, h => ofR (evE e ls h) ls fun d h1 => ofL (asgT t d ls) h1
  | .sub a i e, ls, h => ofR (evE e ls h) ls fun d h1 => ofR (evE a ls h1) ls fun x h2 => ofR (evE i ls h2) ls fun y h3 => ofR (setD x y d h3) ls fun _ h4 => .nx ls h4
  | .dput a i e, ls, h => ofR (evE e ls h) ls fun d h1 => ofR (evE a ls h1) ls fun x h2 => ofR (evE i ls h2) ls fun y h3 => ofR (dputD x y d h3) ls fun _ h4 => .nx ls h4
  | .aug i o e, ls, h => match ls[i]? with
    | some (some x) => ofR (evE e ls h) ls fun y h1 => ofR (augD o x y h1) ls fun z h2 => ofL (setN i z ls) h2
    | _ => .bad
  | .ex e, ls, h => ofR (evE e ls h) ls fun _ h1 => .nx ls h1
  | .ret e, ls, h => ofR (evE e ls h) ls fun d h1 => .rt d h1
  | .retN, _, h => .rt .non h
  | .ifs t a b, ls, h => ofR (evT t ls h) ls fun k h1 => if k = true then evSs C a ls h1 else evSs C b ls h1
  | .whl t b, ls, h => whileR (evT t) (evSs C b) FUEL ls h
  | .fr t it b, ls, h => ofR (evI it ls h) ls fun i h1 => forR i (asgT t) (evSs C b) ls h1
  | .pass, ls, h => .nx ls h
  | .brk, ls, h => .bk ls h
  | .cnt, ls, h => .ct ls h
  | .rais c, ls, h => .exc c ls h
  | .nev, _, _ => .bad
  | .tryN b c s, ls, h => match evSs C b ls h with
    | .exc k l1 h1 => match C.sub k c with
      | some true => evSs C s l1 h1
      | some false => .exc k l1 h1
      | none => .bad
    | r => r
  | .tryA b c i j, ls, h => match evSs C b ls h with
    | .exc k l1 h1 => if subX k c = true then (if j < l1.length then .nx ((l1.set j (some (.exc k))).set i none) h1 else .bad) else .exc k l1 h1
    | r => r
  | .tryK b c j v, ls, h => match evSs C b ls h with
    | .exc k l1 h1 => if subX k c = true then (if j < l1.length then .nx (l1.set j (some (.bl v))) h1 else .bad) else .exc k l1 h1
    | r => r
def evSs (C : Cs) : Ss → Ls → Hh → RS
  | .nil, ls, h => .nx ls h
  | .cons s r, ls, h => match evS C s ls h with
    | .nx l1 h1 => evSs C r l1 h1
    | o => o
end
def fnS (C : Cs) (n : Nat) (np : Nat) (b : Ss) : Fn := fun ds h => if ds.length = np then (match evSs C b (ds.map some ++ List.replicate (n - ds.length) none) h with
  | .rt d h1 => .ok d h1
  | .nx _ h1 => .ok .non h1
  | .exc c _ h1 => .exc c h1
  | _ => .bad) else .bad
end Tb
namespace Tb
open PySem PySem.Spec PyProof.Rows L2
/-! ### other cells -/
section
variable {Z : Zn} {W W1 W' : Wd} {H H1 : Hp} {h : Hh}
mutual
/-- more is known to be apart -/
theorem RelD.chg (hf : ∀ a, a ∈ W'.rho ∨ W'.F a → a ∈ W.rho ∨ W.F a) (hc : ∀ (i : Nat) a, W.rho[i]? = some a → W'.rho[i]? = some a) : ∀ (d : D) {v : V}, RelD Z W H d v → RelD Z W' H d v
  | .non, _, h => h
  | .bl _, _, h => h
  | .int _, _, h => h
  | .str _, _, h => h
  | .tup xs, _, ⟨a, vs, e, f, r⟩ => ⟨a, vs, e, f, RelDs.chg hf hc xs r⟩
  | .lst xs, _, ⟨a, vs, e, ⟨f1, f2, f3⟩, r⟩ => ⟨a, vs, e, ⟨f1, fun m => (hf a (.inl m)).elim f2 f3, fun m => (hf a (.inr m)).elim f2 f3⟩, RelDs.chg hf hc xs r⟩
  | .kl xs, _, ⟨a, vs, e, f, r⟩ => ⟨a, vs, e, by
      rcases f with ⟨o, f1, f2, f3⟩ | f
      · exact .inl ⟨o, f1, fun m => (hf a (.inl m)).elim f2 f3, fun m => (hf a (.inr m)).elim f2 f3⟩
      · exact .inr f, RelDs.chg hf hc xs r⟩
  | .dic kvs, _, ⟨a, vs, e, k, f2, f3, r⟩ => ⟨a, vs, e, k, fun m => (hf a (.inl m)).elim f2 f3, fun m => (hf a (.inr m)).elim f2 f3, RelKs.chg hf hc kvs r⟩
  | .cel i, _, ⟨a, e, f⟩ => ⟨a, e, hc i a f⟩
  | .cls _, _, h => h
  | .ty _, _, h => h
  | .exc _, _, h => h
theorem RelDs.chg (hf : ∀ a, a ∈ W'.rho ∨ W'.F a → a ∈ W.rho ∨ W.F a) (hc : ∀ (i : Nat) a, W.rho[i]? = some a → W'.rho[i]? = some a) : ∀ (ds : List D) {vs : List V}, RelDs Z W H ds vs → RelDs Z W' H ds vs
  | [], _, h => h
  | d :: ds, _, ⟨v, r, e, h1, h2⟩ => ⟨v, r, e, RelD.chg hf hc d h1, RelDs.chg hf hc ds h2⟩
theorem RelKs.chg (hf : ∀ a, a ∈ W'.rho ∨ W'.F a → a ∈ W.rho ∨ W.F a) (hc : ∀ (i : Nat) a, W.rho[i]? = some a → W'.rho[i]? = some a) : ∀ (ds : List (Key × D)) {vs : List (Key × V)}, RelKs Z W H ds vs → RelKs Z W' H ds vs
  | [], _, h => h
  | (k, d) :: ds, _, ⟨v, r, e, h1, h2⟩ => ⟨v, r, e, RelD.chg hf hc d h1, RelKs.chg hf hc ds h2⟩
end
mutual
/-- .. of what has the first cells alone -/
theorem RelD.cut {n : Nat} (hf : ∀ a, a ∈ W'.rho ∨ W'.F a → a ∈ W.rho ∨ W.F a) (hc : ∀ (i : Nat) a, i < n → W.rho[i]? = some a → W'.rho[i]? = some a) : ∀ (d : D) {v : V}, d.under n = true → RelD Z W H d v → RelD Z W' H d v
  | .non, _, _, h => h
  | .bl _, _, _, h => h
  | .int _, _, _, h => h
  | .str _, _, _, h => h
  | .tup xs, _, u, ⟨a, vs, e, f, r⟩ => ⟨a, vs, e, f, RelDs.cut hf hc xs (by simpa [D.under] using u) r⟩
  | .lst xs, _, u, ⟨a, vs, e, ⟨f1, f2, f3⟩, r⟩ => ⟨a, vs, e, ⟨f1, fun m => (hf a (.inl m)).elim f2 f3, fun m => (hf a (.inr m)).elim f2 f3⟩, RelDs.cut hf hc xs (by simpa [D.under] using u) r⟩
  | .kl xs, _, u, ⟨a, vs, e, f, r⟩ => ⟨a, vs, e, by
      rcases f with ⟨o, f1, f2, f3⟩ | f
      · exact .inl ⟨o, f1, fun m => (hf a (.inl m)).elim f2 f3, fun m => (hf a (.inr m)).elim f2 f3⟩
      · exact .inr f, RelDs.cut hf hc xs (by simpa [D.under] using u) r⟩
  | .dic kvs, _, u, ⟨a, vs, e, k, f2, f3, r⟩ => ⟨a, vs, e, k, fun m => (hf a (.inl m)).elim f2 f3, fun m => (hf a (.inr m)).elim f2 f3, RelKs.cut hf hc kvs (by simpa [D.under] using u) r⟩
  | .cel i, _, u, ⟨a, e, f⟩ => ⟨a, e, hc i a (by simpa [D.under] using u) f⟩
  | .cls _, _, _, h => h
  | .ty _, _, _, h => h
  | .exc _, _, _, h => h
theorem RelDs.cut {n : Nat} (hf : ∀ a, a ∈ W'.rho ∨ W'.F a → a ∈ W.rho ∨ W.F a) (hc : ∀ (i : Nat) a, i < n → W.rho[i]? = some a → W'.rho[i]? = some a) : ∀ (ds : List D) {vs : List V}, unders n ds = true → RelDs Z W H ds vs → RelDs Z W' H ds vs
  | [], _, _, h => h
  | d :: ds, _, u, ⟨v, r, e, h1, h2⟩ => by
    simp only [unders, Bool.and_eq_true] at u
    exact ⟨v, r, e, RelD.cut hf hc d u.1 h1, RelDs.cut hf hc ds u.2 h2⟩
theorem RelKs.cut {n : Nat} (hf : ∀ a, a ∈ W'.rho ∨ W'.F a → a ∈ W.rho ∨ W.F a) (hc : ∀ (i : Nat) a, i < n → W.rho[i]? = some a → W'.rho[i]? = some a) : ∀ (ds : List (Key × D)) {vs : List (Key × V)}, underK n ds = true → RelKs Z W H ds vs → RelKs Z W' H ds vs
  | [], _, _, h => h
  | (k, d) :: ds, _, u, ⟨v, r, e, h1, h2⟩ => by
    simp only [underK, Bool.and_eq_true] at u
    exact ⟨v, r, e, RelD.cut hf hc d u.1 h1, RelKs.cut hf hc ds u.2 h2⟩
end
mutual
theorem D.pure_under (n : Nat) : ∀ d : D, d.pure = true → d.under n = true
  | .non, _ => rfl
  | .bl _, _ => rfl
  | .int _, _ => rfl
  | .str _, _ => rfl
  | .tup xs, h => by simp only [D.under]; exact pures_under n xs (by simpa [D.pure] using h)
  | .lst xs, h => by simp only [D.under]; exact pures_under n xs (by simpa [D.pure] using h)
  | .kl xs, h => by simp only [D.under]; exact pures_under n xs (by simpa [D.pure] using h)
  | .dic kvs, h => by simp only [D.under]; exact pureK_under n kvs (by simpa [D.pure] using h)
  | .cel _, h => by simp [D.pure] at h
  | .cls _, _ => rfl
  | .ty _, _ => rfl
  | .exc _, _ => rfl
theorem pures_under (n : Nat) : ∀ ds : List D, pures ds = true → unders n ds = true
  | [], _ => rfl
  | d :: ds, h => by
    simp only [pures, Bool.and_eq_true] at h
    simp only [unders, Bool.and_eq_true]
    exact ⟨D.pure_under n d h.1, pures_under n ds h.2⟩
theorem pureK_under (n : Nat) : ∀ ds : List (Key × D), pureK ds = true → underK n ds = true
  | [], _ => rfl
  | (_, d) :: ds, h => by
    simp only [pureK, Bool.and_eq_true] at h
    simp only [underK, Bool.and_eq_true]
    exact ⟨D.pure_under n d h.1, pureK_under n ds h.2⟩
end
mutual
theorem D.nol_rel : ∀ (d : D) {v : V}, d.nol = true → RelD Z W H d v → RelD Z W' H d v
  | .non, _, _, h => h
  | .bl _, _, _, h => h
  | .int _, _, _, h => h
  | .str _, _, _, h => h
  | .tup xs, _, u, ⟨a, vs, e, f, r⟩ => ⟨a, vs, e, f, nols_rel xs (by simpa [D.nol] using u) r⟩
  | .lst xs, _, u, _ => by simp [D.nol] at u
  | .kl xs, _, u, _ => by simp [D.nol] at u
  | .dic kvs, _, u, _ => by simp [D.nol] at u
  | .cel i, _, u, _ => by simp [D.nol] at u
  | .cls _, _, _, h => h
  | .ty _, _, _, h => h
  | .exc _, _, _, h => h
theorem nols_rel : ∀ (ds : List D) {vs : List V}, nols ds = true → RelDs Z W H ds vs → RelDs Z W' H ds vs
  | [], _, _, h => h
  | d :: ds, _, u, ⟨v, r, e, h1, h2⟩ => by
    simp only [nols, Bool.and_eq_true] at u
    exact ⟨v, r, e, D.nol_rel d u.1 h1, nols_rel ds u.2 h2⟩
end
/-- the first n cells -/
def Wd.fst (W : Wd) (n : Nat) : Wd := ⟨W.rho.take n, W.F⟩
theorem fst_mem {n : Nat} (a : Addr) (m : a ∈ (W.fst n).rho ∨ (W.fst n).F a) : a ∈ W.rho ∨ W.F a := by
  rcases m with m | m
  · exact .inl (List.mem_of_mem_take m)
  · exact .inr m
theorem fst_at {n i : Nat} {a : Addr} (hi : i < n) (e : W.rho[i]? = some a) : (W.fst n).rho[i]? = some a := by
  show (W.rho.take n)[i]? = some a
  rw [List.getElem?_take_of_lt hi]; exact e
theorem frzL_rel {n : Nat} {f : D → Option D} (hf : ∀ d e v, f d = some e → RelD Z W H d v → RelD Z (W.fst n) H e v) : ∀ (ds es : List D) {vs : List V}, frzL f ds = some es → RelDs Z W H ds vs → RelDs Z (W.fst n) H es vs
  | [], es, vs, e, r => by cases e; exact r
  | d :: ds, es, vs, e, ⟨v, r, e1, h1, h2⟩ => by
    unfold frzL at e
    cases q : f d with
    | none => rw [q] at e; cases e
    | some d1 =>
      rw [q] at e
      cases q2 : frzL f ds with
      | none => rw [q2] at e; cases e
      | some ds1 =>
        rw [q2] at e
        cases e
        exact ⟨v, r, e1, hf d d1 v q h1, frzL_rel hf ds ds1 q2 h2⟩
theorem frz_rel {n : Nat} (hr : HRel Z W H h) : ∀ (k : Nat) (d e : D) (v : V), frz n h k d = some e → RelD Z W H d v → RelD Z (W.fst n) H e v
  | 0, d, e, v, q, r => by cases q
  | k + 1, d, e, v, q, r => by
    have ih := frz_rel (n := n) hr k
    have scal : (d.pure = true) → e = d → RelD Z (W.fst n) H e v := fun hp he => by
      subst he
      exact RelD.cut (n := n) fst_mem (fun i a hi e => fst_at hi e) e (D.pure_under n e hp) r
    cases d with
    | tup xs =>
      obtain ⟨a, vs, e1, f, r1⟩ := r
      unfold frz at q
      cases q2 : frzL (frz n h k) xs with
      | none => simp [q2] at q
      | some ys =>
        simp only [q2, Option.map_some, Option.some.injEq] at q
        subst q
        exact ⟨a, vs, e1, f, frzL_rel ih xs ys q2 r1⟩
    | lst xs =>
      obtain ⟨a, vs, e1, ⟨f1, f2, f3⟩, r1⟩ := r
      unfold frz at q
      cases q2 : frzL (frz n h k) xs with
      | none => simp [q2] at q
      | some ys =>
        simp only [q2, Option.map_some, Option.some.injEq] at q
        subst q
        exact ⟨a, vs, e1, ⟨f1, fun m => f2 (List.mem_of_mem_take m), f3⟩, frzL_rel ih xs ys q2 r1⟩
    | kl xs =>
      unfold frz at q
      by_cases hp : pures xs = true
      · simp only [hp, if_true, Option.some.injEq] at q
        exact scal (by simpa [D.pure] using hp) q.symm
      · simp [hp] at q
    | dic kvs =>
      unfold frz at q
      by_cases hp : pureK kvs = true
      · simp only [hp, if_true, Option.some.injEq] at q
        exact scal (by simpa [D.pure] using hp) q.symm
      · simp [hp] at q
    | cel i =>
      obtain ⟨a, e1, f⟩ := r
      unfold frz at q
      by_cases hi : i < n
      · simp only [hi, if_true, Option.some.injEq] at q
        subst q
        exact ⟨a, e1, fst_at hi f⟩
      · simp only [hi, if_false] at q
        cases q1 : h[i]? with
        | none => simp [q1, asO] at q
        | some o =>
          cases o with
          | ins c fs => simp [q1, asO] at q
          | dct kvs => simp [q1, asO] at q
          | lst xs =>
            simp only [q1, asO, Option.bind_some] at q
            cases q2 : frzL (frz n h k) xs with
            | none => simp [q2] at q
            | some ys =>
              simp only [q2, Option.map_some, Option.some.injEq] at q
              subst q
              obtain ⟨vs, ea, r1⟩ := hr.obj i a _ f q1
              refine ⟨a, vs, e1, ⟨ea, fun m => ?_, hr.dis a (List.mem_of_getElem? f)⟩, frzL_rel ih xs ys q2 r1⟩
              obtain ⟨j, hj, ej⟩ := List.getElem_of_mem (show a ∈ W.rho.take n from m)
              have hj' : (W.rho.take n)[j]? = some a := by rw [List.getElem?_eq_getElem hj, ej]
              have hjn : j < n := by
                have z : j < (W.rho.take n).length := hj
                rw [List.length_take] at z
                omega
              rw [List.getElem?_take_of_lt hjn] at hj'
              exact hi (nodup_ixA hr.nd hj' f ▸ hjn)
    | _ =>
      unfold frz at q
      simp only [Option.some.injEq] at q
      exact scal rfl q.symm
theorem fz_rel {n : Nat} (hr : HRel Z W H h) (d e : D) (v : V) (q : fz n h d = some e) (r : RelD Z W H d v) : RelD Z (W.fst n) H e v := by
  unfold fz at q
  by_cases hp : d.pure = true
  · simp only [hp, if_true, Option.some.injEq] at q
    subst q
    exact RelD.cut (n := n) fst_mem (fun i a hi e => fst_at hi e) _ (D.pure_under n _ hp) r
  · simp only [hp] at q
    exact frz_rel hr 8 d e v (by simpa using q) r
theorem fz_pures {n : Nat} : ∀ (ds es : List D), pures ds = true → frzL (fz n h) ds = some es → es = ds
  | [], es, _, e => by cases e; rfl
  | d :: ds, es, u, e => by
    simp only [pures, Bool.and_eq_true] at u
    unfold frzL at e
    have q : fz n h d = some d := by unfold fz; simp [u.1]
    rw [q] at e
    cases q2 : frzL (fz n h) ds with
    | none => rw [q2] at e; cases e
    | some ds1 =>
      rw [q2] at e
      cases e
      rw [fz_pures ds ds1 u.2 q2]
/-- every cell is tracked -/
theorem HRel.trkd (hr : HRel Z W H h) {a : Addr} (m : a ∈ W.rho) : H a ≠ none := fun n => hr.notin n m
/-- all that was there stays -/
theorem Gr.stay (keep : ∀ a o, H a = some o → H1 a = some o) (trk : ∀ a, H1 a = none → H a = none) : Gr W H W H1 :=
  ⟨⟨[], by simp, fun _ z => nomatch z⟩, rfl, fun a o e _ => keep a o e, fun a xs _ e => keep a _ e, trk⟩
theorem HRel.stay (hr : HRel Z W H h) (keep : ∀ a o, H a = some o → H1 a = some o) (trk : ∀ a, H1 a = none → H a = none) : HRel Z W H1 h :=
  ⟨hr.len, hr.nd, fun i a ob e1 e2 => ObjR.mono (Gr.stay keep trk) (fun u e => keep a u e) (hr.obj i a ob e1 e2), hr.dis, fun a f e => hr.frn a f (trk a e)⟩
theorem ownL_rel {h' : Hh} {k : Nat} {f : D → Option D} (ih : ∀ d e v, f d = some e → ownD h' k d = true → RelD Z W1 H d v → RelD Z W H e v) : ∀ (ds es : List D) {vs : List V}, frzL f ds = some es → ds.all (ownD h' k) = true → RelDs Z W1 H ds vs → RelDs Z W H es vs
  | [], es, vs, e, _, r => by cases e; exact r
  | d :: ds, es, vs, e, o, ⟨v, r, e1, h1, h2⟩ => by
    simp only [List.all_cons, Bool.and_eq_true] at o
    unfold frzL at e
    cases q : f d with
    | none => rw [q] at e; cases e
    | some d1 =>
      rw [q] at e
      cases q2 : frzL f ds with
      | none => rw [q2] at e; cases e
      | some ds1 =>
        rw [q2] at e
        cases e
        exact ⟨v, r, e1, ih d d1 v q o.1 h1, ownL_rel ih ds ds1 q2 o.2 h2⟩
/-- what the call made itself, frozen -/
theorem own_rel {h' : Hh} (hr : HRel Z W1 H h') (ap : ∀ a, a ∈ W1.rho → a ∉ W.rho ∧ ¬ W.F a) : ∀ (k : Nat) (d e : D) (v : V), frz 0 h' k d = some e → ownD h' k d = true → RelD Z W1 H d v → RelD Z W H e v
  | 0, d, e, v, q, _, _ => by cases q
  | k + 1, d, e, v, q, o, r => by
    have ih := own_rel hr ap k
    cases d with
    | tup xs =>
      obtain ⟨a, vs, e1, f, r1⟩ := r
      unfold frz at q
      cases q2 : frzL (frz 0 h' k) xs with
      | none => simp [q2] at q
      | some ys =>
        simp only [q2, Option.map_some, Option.some.injEq] at q
        subst q
        exact ⟨a, vs, e1, f, ownL_rel ih xs ys q2 (by simpa [ownD] using o) r1⟩
    | lst xs => simp [ownD] at o
    | kl xs => simp [ownD] at o
    | dic kvs => simp [ownD] at o
    | cel i =>
      obtain ⟨a, e1, f⟩ := r
      unfold frz at q
      simp only [Nat.not_lt_zero, if_false] at q
      cases q1 : h'[i]? with
      | none => simp [q1, asO] at q
      | some ob =>
        cases ob with
        | ins c fs => simp [q1, asO] at q
        | dct kvs => simp [q1, asO] at q
        | lst xs =>
          simp only [q1, asO, Option.bind_some] at q
          cases q2 : frzL (frz 0 h' k) xs with
          | none => simp [q2] at q
          | some ys =>
            simp only [q2, Option.map_some, Option.some.injEq] at q
            subst q
            obtain ⟨vs, ea, r1⟩ := hr.obj i a _ f q1
            have := ap a (List.mem_of_getElem? f)
            have o' : xs.all (ownD h' k) = true := by unfold ownD at o; simpa [q1, asO] using o
            exact ⟨a, vs, e1, ⟨ea, this.1, this.2⟩, ownL_rel ih xs ys q2 o' r1⟩
    | non => unfold frz at q; cases q; exact r
    | bl _ => unfold frz at q; cases q; exact r
    | int _ => unfold frz at q; cases q; exact r
    | str _ => unfold frz at q; cases q; exact r
    | cls _ => unfold frz at q; cases q; exact r
    | ty _ => unfold frz at q; cases q; exact r
    | exc _ => unfold frz at q; cases q; exact r
/-- a call by what is only read -/
theorem call_P {F : Fn} {ds : List D} {vs : List V} {E : Str → Hp → Prop} {Q : VK} (hr : HRel Z W H h) (r : RelDs Z W H ds vs) (t : TriD Z E Q W H (callP F ds h)) :
    ∃ W' es, RelDs Z W' H es vs ∧ HRel Z W' H [] ∧ TriD Z E Q W' H (F es []) := by
  unfold callP at t
  cases q : frzL (fz 0 h) ds with
  | none => rw [q] at t; exact t.elim
  | some es =>
    rw [q] at t
    simp only at t
    have kept : ∀ {W' W1 : Wd} {H1 : Hp}, W'.rho = [] → Gr W' H W1 H1 → (∀ a o, H a = some o → H1 a = some o) ∧ ∀ a, H1 a = none → H a = none := fun {W' W1 H1} e0 g =>
      ⟨fun a o e => g.keep a o e (by rw [e0]; simp), g.trk⟩
    by_cases hp : pures ds = true
    · -- what is handed in has no cells
      have he := fz_pures ds es hp q
      subst he
      refine ⟨⟨[], fun a => W.F a ∨ a ∈ W.rho⟩, es, RelDs.cut (n := 0) (fun a m => ?_) (fun i a hi => absurd hi (Nat.not_lt_zero _)) es (pures_under 0 es hp) r, ⟨rfl, List.nodup_nil, fun i a o e => by simp at e, fun a m => by simp at m, fun a m => m.elim (hr.frn a) hr.trkd⟩, ?_⟩
      · rcases m with m | m
        · simp at m
        · exact m.symm
      · cases qf : F es [] with
        | bad => rw [qf] at t; exact t
        | exc c h' =>
          rw [qf] at t
          intro W1 H1 g hr1
          obtain ⟨k1, k2⟩ := kept rfl g
          exact t W H1 (Gr.stay k1 k2) (hr.stay k1 k2)
        | ok d h' =>
          rw [qf] at t
          simp only at t
          intro v W1 H1 g hr1 rl
          obtain ⟨k1, k2⟩ := kept rfl g
          cases qz : fz 0 h' d with
          | none => rw [qz] at t; exact t.elim
          | some e =>
            rw [qz] at t
            simp only [hp, true_or, if_true] at t
            refine t v W H1 (Gr.stay k1 k2) (hr.stay k1 k2) ?_
            have rl0 := fz_rel hr1 d e v qz rl
            refine RelD.chg (W := W1.fst 0) (fun a m => .inr ?_) (fun i a e => by simp [Wd.fst] at e) e rl0
            show W1.F a
            rw [g.frn]
            exact m.symm
    · refine ⟨W.fst 0, es, frzL_rel (n := 0) (fun d e v => fz_rel hr d e v) ds es q r, ⟨by simp [Wd.fst], by simp [Wd.fst], fun i a o e => by simp [Wd.fst] at e, fun a m => by simp [Wd.fst] at m, fun a m => hr.frn a m⟩, ?_⟩
      · cases qf : F es [] with
        | bad => rw [qf] at t; exact t
        | exc c h' =>
          rw [qf] at t
          intro W1 H1 g hr1
          obtain ⟨k1, k2⟩ := kept (by simp [Wd.fst]) g
          exact t W H1 (Gr.stay k1 k2) (hr.stay k1 k2)
        | ok d h' =>
          rw [qf] at t
          simp only at t
          intro v W1 H1 g hr1 rl
          obtain ⟨k1, k2⟩ := kept (by simp [Wd.fst]) g
          cases qz : fz 0 h' d with
          | none => rw [qz] at t; exact t.elim
          | some e =>
            rw [qz] at t
            by_cases hn : e.nol = true
            · simp only [hn, or_true, if_true] at t
              exact t v W H1 (Gr.stay k1 k2) (hr.stay k1 k2) (D.nol_rel e hn (fz_rel hr1 d e v qz rl))
            · by_cases ho : d.pure = false ∧ ownD h' 8 d = true
              · simp only [hp, hn, or_self, if_pos ho] at t
                have qz' : frz 0 h' 8 d = some e := by unfold fz at qz; simpa [ho.1] using qz
                obtain ⟨l, el, nl⟩ := g.pre
                refine t v W H1 (Gr.stay k1 k2) (hr.stay k1 k2) (own_rel hr1 (fun a m => ?_) 8 d e v qz' ho.2 rl)
                have ha : H a = none := nl a (by rw [el] at m; simpa [Wd.fst] using m)
                exact ⟨hr.notin ha, hr.nF ha⟩
              · simp only [hp, hn, or_self, if_neg ho] at t
                exact t.elim
theorem O.under_rel {n : Nat} {a : Addr} : ∀ {o : O}, o.under n = true → ObjR Z W H a o → ObjR Z (W.fst n) H a o
  | .lst xs, u, ⟨vs, e, r⟩ => ⟨vs, e, RelDs.cut (n := n) fst_mem (fun i a hi e => fst_at hi e) xs (by simpa [O.under] using u) r⟩
  | .ins c fs, u, ⟨C, dx, vs, e1, e2, r⟩ => by
    refine ⟨C, dx, vs, e1, e2, ?_⟩
    have go : ∀ (fs : List (Str × D)) (vs : List (Str × V)), (fs.all fun p => p.2.under n) = true → RelFs Z W H fs vs → RelFs Z (W.fst n) H fs vs := by
      intro fs
      induction fs with
      | nil => intro vs _ r; exact r
      | cons p fs ih =>
        obtain ⟨k, d⟩ := p
        intro vs u r
        obtain ⟨v, q, e, h1, h2⟩ := r
        simp only [List.all_cons, Bool.and_eq_true] at u
        exact ⟨v, q, e, RelD.cut (n := n) fst_mem (fun i a hi e => fst_at hi e) d u.1 h1, ih q u.2 h2⟩
    exact go fs vs (by simpa [O.under] using u) r
  | .dct kvs, u, ⟨vs, e, r⟩ => ⟨vs, e, RelKs.cut (n := n) fst_mem (fun i a hi e => fst_at hi e) kvs (by simpa [O.under] using u) r⟩
/-- a call behind which what is new is only read -/
theorem call_F {F : Fn} {ds : List D} {E : Str → Hp → Prop} {Q : VK} (hr : HRel Z W H h) (t : TriD Z E Q W H (callF F ds h)) : TriD Z E Q W H (F ds h) := by
  have back : ∀ {W1 : Wd} {H1 : Hp} {h' : Hh}, Gr W H W1 H1 → HRel Z W1 H1 h' → (h'.take h.length).all (O.under h.length) = true → Gr W H (W1.fst h.length) H1 ∧ HRel Z (W1.fst h.length) H1 (h'.take h.length) := fun {W1 H1 h'} g hr1 al => by
    obtain ⟨l, el, nl⟩ := g.pre
    have er : (W1.fst h.length).rho = W.rho := by
      show W1.rho.take h.length = W.rho
      rw [el, ← hr.len, List.take_left']
      rfl
    refine ⟨⟨⟨[], by rw [er]; simp, fun _ z => nomatch z⟩, g.frn, g.keep, g.tups, g.trk⟩, ⟨?_, ?_, ?_, ?_, ?_⟩⟩
    · show (W1.rho.take h.length).length = _
      rw [List.length_take, List.length_take, hr1.len]
    · rw [er]; exact hr.nd
    · intro i a o e1 e2
      have hi : i < h.length := by
        have z := (List.getElem?_eq_some_iff.mp e2).1
        rw [List.length_take] at z
        omega
      have e1' : W1.rho[i]? = some a := by
        have z : (W1.rho.take h.length)[i]? = some a := e1
        rw [List.getElem?_take_of_lt hi] at z
        exact z
      have e2' : h'[i]? = some o := by rw [List.getElem?_take_of_lt hi] at e2; exact e2
      exact O.under_rel (List.all_eq_true.mp al o (List.mem_of_getElem? e2)) (hr1.obj i a o e1' e2')
    · intro a m
      exact hr1.dis a (List.mem_of_mem_take m)
    · exact hr1.frn
  unfold callF at t
  cases qf : F ds h with
  | bad => rw [qf] at t; exact t
  | exc c h' =>
    rw [qf] at t
    simp only at t
    intro W1 H1 g hr1
    by_cases al : (h'.take h.length).all (O.under h.length) = true
    · rw [if_pos al] at t
      obtain ⟨g', hr'⟩ := back g hr1 al
      exact t _ H1 g' hr'
    · rw [if_neg al] at t
      exact t.elim
  | ok d h' =>
    rw [qf] at t
    simp only at t
    intro v W1 H1 g hr1 rl
    cases qz : fz h.length h' d with
    | none => rw [qz] at t; exact t.elim
    | some e =>
      rw [qz] at t
      simp only at t
      by_cases al : (h'.take h.length).all (O.under h.length) = true ∧ h.length ≤ h'.length
      · rw [if_pos al] at t
        obtain ⟨g', hr'⟩ := back g hr1 al.1
        exact t v _ H1 g' hr' (fz_rel hr1 d e v qz rl)
      · rw [if_neg al] at t
        exact t.elim
/-- a new list of its own comes -/
theorem call_C {F : Fn} {ds : List D} {vs : List V} {E : Str → Hp → Prop} {Q : VK} (hr : HRel Z W H h) (r : RelDs Z W H ds vs) (t : TriD Z E Q W H (callC F ds h)) :
    ∃ W' es, RelDs Z W' H es vs ∧ HRel Z W' H [] ∧ TriD Z E Q W' H (F es []) := by
  unfold callC at t
  cases q : frzL (fz 0 h) ds with
  | none => rw [q] at t; exact t.elim
  | some es =>
    rw [q] at t
    simp only at t
    -- behind the call, whatever was known apart
    have back : ∀ (W' : Wd), W'.rho = [] → (∀ b, W.F b → W'.F b) → (pures ds = true → ∀ b, b ∈ W.rho → W'.F b) → TriD Z E Q W' H (F es []) := by
      intro W' e0 fW rW
      cases qf : F es [] with
      | bad => rw [qf] at t; exact t
      | exc c h' =>
        rw [qf] at t
        intro W1 H1 g hr1
        have k1 : ∀ a o, H a = some o → H1 a = some o := fun a o e => g.keep a o e (by rw [e0]; simp)
        exact t W H1 (Gr.stay k1 g.trk) (hr.stay k1 g.trk)
      | ok d h' =>
        rw [qf] at t
        simp only at t
        intro v W1 H1 g hr1 rl
        have k1 : ∀ a o, H a = some o → H1 a = some o := fun a o e => g.keep a o e (by rw [e0]; simp)
        cases d <;> try exact t.elim
        rename_i i
        obtain ⟨a, ev, ea⟩ := rl
        cases qi : h'[i]? with
        | none => simp only [qi, asO] at t; exact t.elim
        | some ob =>
          cases ob with
          | ins c fs => simp only [qi, asO] at t; exact t.elim
          | dct kvs => simp only [qi, asO] at t; exact t.elim
          | lst xs =>
            simp only [qi, asO] at t
            by_cases hx : pures xs = true ∧ (pures ds = true ∨ nols xs = true)
            · rw [if_pos hx] at t
              obtain ⟨us, ho, rs⟩ := hr1.obj i a _ ea qi
              obtain ⟨l, el, nl⟩ := g.pre
              have ha : H a = none := nl a (by have := List.mem_of_getElem? ea; rw [el, e0] at this; simpa using this)
              have nin : a ∉ W.rho := hr.notin ha
              have mem1 : a ∈ W1.rho := List.mem_of_getElem? ea
              have fin : RelDs Z ⟨W.rho ++ [a], W.F⟩ H1 xs us := by
                rcases hx.2 with hp | hn
                · refine RelDs.cut (W := W1) (n := 0) (fun b m => ?_) (fun i a hi => absurd hi (Nat.not_lt_zero _)) xs (pures_under 0 xs hx.1) rs
                  rcases m with m | m
                  · rcases List.mem_append.mp m with m | m
                    · exact .inr (by rw [g.frn]; exact rW hp b m)
                    · rw [List.mem_singleton.mp m]; exact .inl mem1
                  · exact .inr (by rw [g.frn]; exact fW b m)
                · exact nols_rel xs hn rs
              refine t v ⟨W.rho ++ [a], W.F⟩ H1 ⟨⟨[a], rfl, fun b z => by rw [List.mem_singleton.mp z]; exact ha⟩, rfl, fun b o e _ => k1 b o e, fun b xs _ e => k1 b _ e, g.trk⟩ ⟨by simp [hr.len], ?_, fun j b ob e1 e2 => ?_, fun b m => ?_, fun b z e => hr.frn b z (g.trk b e)⟩ ⟨a, ev, ?_⟩
              · show (W.rho ++ [a]).Nodup
                rw [List.nodup_append]
                exact ⟨hr.nd, by simp, fun x hx y hy => by rw [List.mem_singleton.mp hy]; rintro rfl; exact nin hx⟩
              · have e1 : (W.rho ++ [a])[j]? = some b := e1
                by_cases hj : j < W.rho.length
                · rw [List.getElem?_append_left hj] at e1
                  rw [List.getElem?_append_left (by rw [← hr.len]; exact hj)] at e2
                  exact ObjR.mono (W := W) (W1 := ⟨W.rho ++ [a], W.F⟩) (H := H) ⟨⟨[a], rfl, fun b z => by rw [List.mem_singleton.mp z]; exact ha⟩, rfl, fun b o e _ => k1 b o e, fun b xs _ e => k1 b _ e, g.trk⟩ (fun u e => k1 b u e) (hr.obj j b ob e1 e2)
                · have hl := hr.len
                  have hj2 : j = W.rho.length := by
                    have := (List.getElem?_eq_some_iff.mp e1).1
                    simp at this; omega
                  subst hj2
                  rw [List.getElem?_append_right (Nat.le_refl _)] at e1
                  rw [hl, List.getElem?_append_right (Nat.le_refl _)] at e2
                  simp at e1 e2
                  subst e1 e2
                  exact ⟨us, ho, fin⟩
              · rcases List.mem_append.mp m with z | z
                · exact hr.dis b z
                · rw [List.mem_singleton.mp z]; exact hr.nF ha
              · show (W.rho ++ [a])[h.length]? = some a
                rw [← hr.len, List.getElem?_append_right (Nat.le_refl _)]; simp
            · rw [if_neg hx] at t; exact t.elim
    by_cases hp : pures ds = true
    · have he := fz_pures ds es hp q
      subst he
      refine ⟨⟨[], fun a => W.F a ∨ a ∈ W.rho⟩, es, RelDs.cut (n := 0) (fun a m => ?_) (fun i a hi => absurd hi (Nat.not_lt_zero _)) es (pures_under 0 es hp) r, ⟨rfl, List.nodup_nil, fun i a o e => by simp at e, fun a m => by simp at m, fun a m => m.elim (hr.frn a) hr.trkd⟩, back _ rfl (fun b z => .inl z) fun _ b z => .inr z⟩
      rcases m with m | m
      · simp at m
      · exact m.symm
    · exact ⟨W.fst 0, es, frzL_rel (n := 0) (fun d e v => fz_rel hr d e v) ds es q r, ⟨by simp [Wd.fst], by simp [Wd.fst], fun i a o e => by simp [Wd.fst] at e, fun a m => by simp [Wd.fst] at m, fun a m => hr.frn a m⟩, back _ (by simp [Wd.fst]) (fun b z => z) fun z => absurd z hp⟩
mutual
/-- the cells of a call, behind those that were there -/
theorem RelD.shf {N : List Addr} {G : Addr → Prop} (ap : ∀ a, a ∈ N ∨ G a → a ∉ W1.rho → W1.F a) (fr : ∀ a, a ∈ W1.rho → ¬ G a) : ∀ (d : D) {v : V}, RelD Z W1 H d v → RelD Z ⟨N ++ W1.rho, G⟩ H (d.sh N.length) v
  | .non, _, h => h
  | .bl _, _, h => h
  | .int _, _, h => h
  | .str _, _, h => h
  | .tup xs, _, ⟨a, vs, e, f, r⟩ => ⟨a, vs, e, f, RelDs.shf ap fr xs r⟩
  | .lst xs, _, ⟨a, vs, e, ⟨f1, f2, f3⟩, r⟩ => ⟨a, vs, e, ⟨f1, fun m => (List.mem_append.mp m).elim (fun m => f3 (ap a (.inl m) f2)) f2, fun m => f3 (ap a (.inr m) f2)⟩, RelDs.shf ap fr xs r⟩
  | .kl xs, _, ⟨a, vs, e, f, r⟩ => ⟨a, vs, e, by
      rcases f with ⟨o, f1, f2, f3⟩ | f
      · exact .inl ⟨o, f1, fun m => (List.mem_append.mp m).elim (fun m => f3 (ap a (.inl m) f2)) f2, fun m => f3 (ap a (.inr m) f2)⟩
      · exact .inr f, RelDs.shf ap fr xs r⟩
  | .dic kvs, _, ⟨a, vs, e, k, f2, f3, r⟩ => ⟨a, vs, e, k, fun m => (List.mem_append.mp m).elim (fun m => f3 (ap a (.inl m) f2)) f2, fun m => f3 (ap a (.inr m) f2), RelKs.shf ap fr kvs r⟩
  | .cel i, _, ⟨a, e, f⟩ => ⟨a, e, by show (N ++ W1.rho)[N.length + i]? = some a; rw [List.getElem?_append_right (by omega), show N.length + i - N.length = i by omega]; exact f⟩
  | .cls _, _, h => h
  | .ty _, _, h => h
  | .exc _, _, h => h
theorem RelDs.shf {N : List Addr} {G : Addr → Prop} (ap : ∀ a, a ∈ N ∨ G a → a ∉ W1.rho → W1.F a) (fr : ∀ a, a ∈ W1.rho → ¬ G a) : ∀ (ds : List D) {vs : List V}, RelDs Z W1 H ds vs → RelDs Z ⟨N ++ W1.rho, G⟩ H (shs N.length ds) vs
  | [], _, h => h
  | d :: ds, _, ⟨v, r, e, h1, h2⟩ => ⟨v, r, e, RelD.shf ap fr d h1, RelDs.shf ap fr ds h2⟩
theorem RelKs.shf {N : List Addr} {G : Addr → Prop} (ap : ∀ a, a ∈ N ∨ G a → a ∉ W1.rho → W1.F a) (fr : ∀ a, a ∈ W1.rho → ¬ G a) : ∀ (ds : List (Key × D)) {vs : List (Key × V)}, RelKs Z W1 H ds vs → RelKs Z ⟨N ++ W1.rho, G⟩ H (shK N.length ds) vs
  | [], _, h => h
  | (k, d) :: ds, _, ⟨v, r, e, h1, h2⟩ => ⟨v, r, e, RelD.shf ap fr d h1, RelKs.shf ap fr ds h2⟩
end
mutual
/-- .. where no list but cells stands in it -/
theorem RelD.shn {N : List Addr} {G : Addr → Prop} : ∀ (d : D) {v : V}, d.nlc = true → RelD Z W1 H d v → RelD Z ⟨N ++ W1.rho, G⟩ H (d.sh N.length) v
  | .non, _, _, h => h
  | .bl _, _, _, h => h
  | .int _, _, _, h => h
  | .str _, _, _, h => h
  | .tup xs, _, u, ⟨a, vs, e, f, r⟩ => ⟨a, vs, e, f, RelDs.shn xs (by simpa [D.nlc] using u) r⟩
  | .lst xs, _, u, _ => by simp [D.nlc] at u
  | .kl xs, _, u, _ => by simp [D.nlc] at u
  | .dic kvs, _, u, _ => by simp [D.nlc] at u
  | .cel i, _, _, ⟨a, e, f⟩ => ⟨a, e, by show (N ++ W1.rho)[N.length + i]? = some a; rw [List.getElem?_append_right (by omega), show N.length + i - N.length = i by omega]; exact f⟩
  | .cls _, _, _, h => h
  | .ty _, _, _, h => h
  | .exc _, _, _, h => h
theorem RelDs.shn {N : List Addr} {G : Addr → Prop} : ∀ (ds : List D) {vs : List V}, nlcs ds = true → RelDs Z W1 H ds vs → RelDs Z ⟨N ++ W1.rho, G⟩ H (shs N.length ds) vs
  | [], _, _, h => h
  | d :: ds, _, u, ⟨v, r, e, h1, h2⟩ => by
    simp only [nlcs, Bool.and_eq_true] at u
    exact ⟨v, r, e, RelD.shn d u.1 h1, RelDs.shn ds u.2 h2⟩
theorem RelKs.shn {N : List Addr} {G : Addr → Prop} : ∀ (ds : List (Key × D)) {vs : List (Key × V)}, nlcK ds = true → RelKs Z W1 H ds vs → RelKs Z ⟨N ++ W1.rho, G⟩ H (shK N.length ds) vs
  | [], _, _, h => h
  | (k, d) :: ds, _, u, ⟨v, r, e, h1, h2⟩ => by
    simp only [nlcK, Bool.and_eq_true] at u
    exact ⟨v, r, e, RelD.shn d u.1 h1, RelKs.shn ds u.2 h2⟩
end
/-- new cells of its own come -/
theorem call_L {F : Fn} {ds : List D} {vs : List V} {E : Str → Hp → Prop} {Q : VK} (hr : HRel Z W H h) (r : RelDs Z W H ds vs) (t : TriD Z E Q W H (callL F ds h)) :
    ∃ W' es, RelDs Z W' H es vs ∧ HRel Z W' H [] ∧ TriD Z E Q W' H (F es []) := by
  unfold callL at t
  cases q : frzL (fz 0 h) ds with
  | none => rw [q] at t; exact t.elim
  | some es =>
    rw [q] at t
    simp only at t
    have back : ∀ (W' : Wd), W'.rho = [] → (pures ds = true → ∀ b, b ∈ W.rho ∨ W.F b → W'.F b) → TriD Z E Q W' H (F es []) := by
      intro W' e0 rW
      cases qf : F es [] with
      | bad => rw [qf] at t; exact t
      | exc c h' =>
        rw [qf] at t
        intro W1 H1 g hr1
        have k1 : ∀ a o, H a = some o → H1 a = some o := fun a o e => g.keep a o e (by rw [e0]; simp)
        exact t W H1 (Gr.stay k1 g.trk) (hr.stay k1 g.trk)
      | ok d h' =>
        rw [qf] at t
        simp only at t
        intro v W1 H1 g hr1 rl
        have k1 : ∀ a o, H a = some o → H1 a = some o := fun a o e => g.keep a o e (by rw [e0]; simp)
        by_cases hx : h'.all O.noI = true ∧ (pures ds = true ∨ (d.nlc = true ∧ h'.all O.nlc = true))
        · rw [if_pos hx] at t
          obtain ⟨l, el, nl⟩ := g.pre
          have el : W1.rho = l := by rw [el, e0]; rfl
          have nl : ∀ a, a ∈ W1.rho → H a = none := fun a m => nl a (el ▸ m)
          have gr : Gr W H ⟨W.rho ++ W1.rho, W.F⟩ H1 := ⟨⟨W1.rho, rfl, nl⟩, rfl, fun b o e _ => k1 b o e, fun b xs _ e => k1 b _ e, g.trk⟩
          have rD : ∀ (d : D) (v : V), (pures ds = true ∨ d.nlc = true) → RelD Z W1 H1 d v → RelD Z ⟨W.rho ++ W1.rho, W.F⟩ H1 (d.sh h.length) v := by
            intro d v hc rl
            rw [← hr.len]
            rcases hc with hp | hn
            · exact RelD.shf (fun a m _ => by rw [g.frn]; exact rW hp a m) (fun a m => hr.nF (nl a m)) d rl
            · exact RelD.shn d hn rl
          have rO : ∀ (o : O) (a : Addr), o.noI = true → (pures ds = true ∨ o.nlc = true) → ObjR Z W1 H1 a o → ObjR Z ⟨W.rho ++ W1.rho, W.F⟩ H1 a (o.sh h.length) := by
            intro o a ni hc ob
            rw [← hr.len]
            cases o with
            | ins c fs => cases ni
            | lst xs =>
              obtain ⟨us, e1, r1⟩ := ob
              refine ⟨us, e1, ?_⟩
              rcases hc with hp | hn
              · exact RelDs.shf (fun a m _ => by rw [g.frn]; exact rW hp a m) (fun a m => hr.nF (nl a m)) xs r1
              · exact RelDs.shn xs hn r1
            | dct kvs =>
              obtain ⟨us, e1, r1⟩ := ob
              refine ⟨us, e1, ?_⟩
              rcases hc with hp | hn
              · exact RelKs.shf (fun a m _ => by rw [g.frn]; exact rW hp a m) (fun a m => hr.nF (nl a m)) kvs r1
              · exact RelKs.shn kvs hn r1
          refine t v ⟨W.rho ++ W1.rho, W.F⟩ H1 gr ⟨by simp [hr.len, hr1.len], ?_, fun j b ob e1 e2 => ?_, fun b m => ?_, fun b z e => hr.frn b z (g.trk b e)⟩ (rD d v (hx.2.imp id And.left) rl)
          · show (W.rho ++ W1.rho).Nodup
            rw [List.nodup_append]
            exact ⟨hr.nd, hr1.nd, fun x hx y hy => by rintro rfl; exact hr.notin (nl x hy) hx⟩
          · have e1 : (W.rho ++ W1.rho)[j]? = some b := e1
            by_cases hj : j < W.rho.length
            · rw [List.getElem?_append_left hj] at e1
              rw [List.getElem?_append_left (by rw [← hr.len]; exact hj)] at e2
              exact ObjR.mono gr (fun u e => k1 b u e) (hr.obj j b ob e1 e2)
            · have hl := hr.len
              rw [List.getElem?_append_right (by omega)] at e1 e2
              rw [List.getElem?_map] at e2
              obtain ⟨o, e3, rfl⟩ := Option.map_eq_some_iff.mp e2
              refine rO o b (List.all_eq_true.mp hx.1 o (List.mem_of_getElem? e3)) (hx.2.imp id fun z => List.all_eq_true.mp z.2 o (List.mem_of_getElem? e3)) (hr1.obj _ b o e1 (by rw [hl]; exact e3))
          · rcases List.mem_append.mp m with z | z
            · exact hr.dis b z
            · exact hr.nF (nl b z)
        · rw [if_neg hx] at t; exact t.elim
    by_cases hp : pures ds = true
    · have he := fz_pures ds es hp q
      subst he
      refine ⟨⟨[], fun a => W.F a ∨ a ∈ W.rho⟩, es, RelDs.cut (n := 0) (fun a m => ?_) (fun i a hi => absurd hi (Nat.not_lt_zero _)) es (pures_under 0 es hp) r, ⟨rfl, List.nodup_nil, fun i a o e => by simp at e, fun a m => by simp at m, fun a m => m.elim (hr.frn a) hr.trkd⟩, back _ rfl fun _ b z => z.symm⟩
      rcases m with m | m
      · simp at m
      · exact m.symm
    · exact ⟨W.fst 0, es, frzL_rel (n := 0) (fun d e v => fz_rel hr d e v) ds es q r, ⟨by simp [Wd.fst], by simp [Wd.fst], fun i a o e => by simp [Wd.fst] at e, fun a m => by simp [Wd.fst] at m, fun a m => hr.frn a m⟩, back _ (by simp [Wd.fst]) fun z => absurd z hp⟩
/-- all of them -/
theorem call_M {m : Md} {F : Fn} {ds : List D} {vs : List V} {E : Str → Hp → Prop} {Q : VK} (hr : HRel Z W H h) (r : RelDs Z W H ds vs) (t : TriD Z E Q W H (callM m F ds h)) :
    ∃ W' es h', RelDs Z W' H es vs ∧ HRel Z W' H h' ∧ TriD Z E Q W' H (F es h') := by
  cases m with
  | P =>
    obtain ⟨W', es, a, b, c⟩ := call_P hr r t
    exact ⟨W', es, [], a, b, c⟩
  | S => exact ⟨W, ds, h, r, hr, t⟩
  | F => exact ⟨W, ds, h, r, hr, call_F hr t⟩
  | C =>
    obtain ⟨W', es, a, b, c⟩ := call_C hr r t
    exact ⟨W', es, [], a, b, c⟩
  | L =>
    obtain ⟨W', es, a, b, c⟩ := call_L hr r t
    exact ⟨W', es, [], a, b, c⟩
end
end Tb
namespace Tb
open PySem PySem.Spec PyProof.Rows L2
/-! ### calls where nothing is being shown (repr asks it) -/
def Quiet (A : Around) : Prop := A.guards = some []
structure FnG (P : Program) (w : World) (K : PySem.W.Frag) (mg : Str → Option Value) (base : Heap) (k : Nat) (f : Addr) (fd : FuncData) (ps : List Str) (sp : Sp) : Prop where
  size : ∀ {vs H Q E}, sp vs H Q E → vs.length = ps.length
  runs : ∀ {A : Around} {outer : List Env} {s : Shared} {H : Hp} {args : Args} {us : List Value} {vs : List V} {Q : VK} {E : XK}, Quiet A → Room k A → Env0 P w K mg base A outer s H → BindsTo s fd args (ps.zip us) → Vals vs us → sp vs H Q E →
    codeAny (model P w) A (.call (.ref f) args) (CR (L2.CX P w) outer P w H s Q E) s
theorem FnG.up {P : Program} {w : World} {K : PySem.W.Frag} {mg : Str → Option Value} {base : Heap} {j k : Nat} {f : Addr} {fd : FuncData} {ps : List Str} {sp : Sp} (F : FnG P w K mg base j f fd ps sp) (h : j ≤ k) : FnG P w K mg base k f fd ps sp :=
  ⟨F.size, fun hq hr => F.runs hq (hr.mono h)⟩
/-- a def by its body, as fn_of -/
theorem fnG_of {P : Program} {w : World} {K : PySem.W.Frag} {mg : Str → Option Value} {base : Heap} {k : Nat} {f : Addr} {name qual : Str} {params : Arguments} {body : List Stmt} {scope : Scope} {dV kV doc pm cdv ct oc : Value} {an od : Option Addr} {osl : Array (Option Value)}
    {N ps : List Str} {sp : Sp} (lk : K.lookup f = some ⟨oc, od, .func (PySem.W.fnOf name qual params body scope dV kV doc pm an cdv ct), osl⟩) (hcd : PySem.W.codeIn K cdv qual = true) (S : FnScope N ps scope) (size : ∀ {vs H Q E}, sp vs H Q E → vs.length = ps.length)
    (hbody : ∀ (A : Around) (outer : List Env) (s : Shared) (H : Hp) (vs : List V) (Q : VK) (E : XK), Quiet A → Room k (A.deeper (envOfC qual scope s.heap.objs.size f cdv)) → sp vs H Q E →
      ∃ t, PSs (cxOf (L2.CX P w) P w K mg base N qual scope f cdv A outer s H E) body t ∧ t { nx := fun _ H' => Q .non H', rt := Q } (start N vs) H) :
    FnG P w K mg base (k + 1) f (PySem.W.fnOf name qual params body scope dV kV doc pm an cdv ct) ps sp where
  size := size
  runs := by
    intro A outer s H args us vs Q E hQ hr e0 hb r hsp
    have hl := size hsp
    have old : ∀ b o, base.get? b = some o → s.heap.get? b = some o := fun b o e => (e0.bs b o e).1
    have KX := e0.mod.kin.keeps old
    have lim := e0.mod.nolimit.keeps old
    have kinds : ∀ y ∈ ps.zip us, scope.names.lookup y.1 = some .local ∨ (scope.names.lookup y.1 = some .cell ∧ ((cellsFrom (s.heap.objs.size + 1) scope.names []).lookup y.1).isSome = true) := by
      rintro ⟨n, v⟩ hy
      exact (S.par n (List.of_mem_zip hy).1).imp id fun q => ⟨q, PySem.W.cellsFrom_some _ _ _ (.inl q)⟩
    refine codeAny_call_function hr.depth (KX _ _ lk) rfl S.co S.gen rfl (PySem.W.codeRec_of KX hcd) (hb _ _ _ _ (wpAny_newFunctionEnv_cells S.kind kinds ?_))
    rintro env rfl s1 x
    obtain ⟨t, ht, hq⟩ := hbody A outer s H vs Q E hQ (hr.deeper _) hsp
    have I := inv_start (CX := L2.CX P w) (E := E) S hr.hd e0 hl r x
    refine ⟨lim.keeps x.toInCall.keep, codeAny_func (wpAny_mono (ht.run [] s1 (start N vs) H _ I hq) (fun fl s' hs => ?_) fun _ _ z => z)⟩
    cases fl with
    | ret u =>
      obtain ⟨v, σ', H', J, rv, q⟩ := hs
      exact ⟨v, H', J.os, J.bare, J.base, J.hok, rv, q⟩
    | next =>
      obtain ⟨σ', H', J, q⟩ := hs
      exact ⟨.non, H', J.os, J.bare, J.base, J.hok, rfl, q⟩
    | brk => exact hs.choose_spec.choose_spec.2.elim
    | cont => exact hs.choose_spec.choose_spec.2.elim
section
variable {X : Cx} {k : Nat} {f : Addr} {fd : FuncData} {ps : List Str} {sp : Sp} {E : L2.St → XK} {x : Str} {p pos : Pos} {e : Expr} {es : List Expr} {t : TA}
theorem run_G {pins : List (Addr × Obj)} {σ : L2.St} {H : Hp} {s : Shared} {Q : VK} {us : List Value} {vs : List V} (F : FnG X.prog X.w X.K X.mg X.base k f fd ps sp) (hq : Quiet X.A) (hr : Room k X.A) (hb : Binds X.K fd ps []) (hx : PassesAt (L2.CX X.prog X.w) X σ (E σ))
    (I : Inv X pins σ H s) (r : Vals vs us) (h : sp vs H Q (E σ)) : wpAny (model X.prog X.w) X.A (call (.ref f) us) (EP X pins σ Q) X.xe s := by
  have hl : us.length = ps.length := r.length ▸ F.size h
  have b := hb s us I.kIn (by simpa using hl)
  simp only [List.append_nil] at b
  refine wpAny_call (codeAny_mono (F.runs hq hr I.env0 b r h) fun q s' z => ?_)
  rcases q with e | fl
  · exact hx pins H s e s' I z
  · cases fl <;> first | exact I.after z | exact z.elim
theorem pe_callG (F : FnG X.prog X.w X.K X.mg X.base k f fd ps sp) (hq : Quiet X.A) (hr : Room k X.A) (hg : Gl X x) (hm : X.mg x = some (.ref f)) (hk : PySem.W.keepIn X.K (.ref f) = true) (hb : Binds X.K fd ps []) (hx : ∀ σ, PassesAt (L2.CX X.prog X.w) X σ (E σ)) (ha : PA X (e :: es) t)
    (hdb : (x == ("__debug__" : Str)) = false) (he : starEach (e :: es) X.env = (false, eval e X.env) :: starEach es X.env) (hpl : (backTo pos (starEach es X.env)).any (·.1) = false) : PE X (.Call (.Name x p) (e :: es) [] pos) (tCallS sp E t) where
  run := by
    intro pins s σ H Q I h
    exact wpAny_Call_Name_kw (ld_glob I hg hm (PySem.W.callWith_K (h₀ := X.base) I.ok.mod.kin hk (thn (ha.run pos pins s σ H _ I h) fun us s1 ⟨vs, H1, I1, r, q⟩ => ⟨I1.kIn, run_G F hq hr hb (hx σ) I1 r q⟩) he hpl) hdb)
theorem pe_callG0 (F : FnG X.prog X.w X.K X.mg X.base k f fd ps sp) (hq : Quiet X.A) (hr : Room k X.A) (hg : Gl X x) (hm : X.mg x = some (.ref f)) (hk : PySem.W.keepIn X.K (.ref f) = true) (hb : Binds X.K fd ps []) (hx : ∀ σ, PassesAt (L2.CX X.prog X.w) X σ (E σ))
    (hdb : (x == ("__debug__" : Str)) = false) : PE X (.Call (.Name x p) [] [] pos) (tCallS sp E tNil) where
  run := by
    intro pins s σ H Q I h
    exact wpAny_Call_Name_kw (ld_glob I hg hm (PySem.W.callWith_K0 I.kIn hk (run_G (us := []) F hq hr hb (hx σ) I .nil h)) hdb)
end
/-- the law's def is called with the script -/
theorem law_callG {P : Program} {w : World} {K : PySem.W.Frag} {mg mb : Str → Option Value} {k : Nat} {fa a : Addr} {fd : FuncData} {x : Str} {sp : Sp} {s₁ : Shared} {vs : List Value} {ns : List Int}
    (KX : K.In s₁.heap) (hns : s₁.heap.Ns mainGlobals mg) (hb : s₁.heap.Ns builtinsNs mb) (hbb : ∀ x : Str, x ≠ "__name__" → mb x = bootBuiltins x) (hlim : s₁.heap.NoLimit) (hg : s₁.gens = #[])
    (ha : s₁.heap.get? a = some { cls := .type "list", data := .seq vs.toArray }) (hi : IntsAre vs ns) (hl : ns.length ≤ sizeLine) (hr : Room k callerA)
    (F : ∀ base : Heap, K.In base → base.Ns mainGlobals mg → FnG P w K mg base k fa fd [x] sp) (hbind : ∀ (s : Shared) (u : Value), BindsTo s fd ⟨[u], []⟩ [(x, u)])
    (hsp : ∀ H : Hp, Only H → SqL K H a (ns.map V.int) → sp [.ref a] H (fun v _ => v = .bl true) fun _ _ _ => False) :
    codeAny (model P w) callerA (.call (.ref fa) ⟨[.ref a], []⟩) (fun r s' => r = .ok (.ret (.bool true)) ∧ OldK s₁.heap s'.heap ∧ s'.os = s₁.os ∧ AllBare s'.gens) s₁ := by
  have rv := vals_ints hi
  have lenV := hi.length
  -- whatever is tracked is the script alone, as it lies
  have main : ∀ H : Hp, Only H → SqL K H a (ns.map V.int) → HOk P w H s₁.heap → (∀ b, H b ≠ none → b = a ∧ K.lookup a = none) →
      codeAny (model P w) callerA (.call (.ref fa) ⟨[.ref a], []⟩) (fun r s' => r = .ok (.ret (.bool true)) ∧ OldK s₁.heap s'.heap ∧ s'.os = s₁.os ∧ AllBare s'.gens) s₁ := by
    intro H hO hS hok hA
    have dk : ∀ {b : Addr} {m : Str → Option Value}, s₁.heap.Ns b m → (hidT s₁.heap H).Ns b m := by
      rintro b m ⟨o, es, ep, e, d, r⟩
      refine ⟨o, es, ep, hidT_get e (Classical.byContradiction fun z => ?_), d, r⟩
      obtain ⟨rfl, _⟩ := hA b z
      rw [ha] at e
      cases e
      cases d
    have hKb : K.In (hidT s₁.heap H) := by
      intro b o e
      refine hidT_get (KX b o e) (Classical.byContradiction fun z => ?_)
      obtain ⟨rfl, z2⟩ := hA b z
      rw [z2] at e
      cases e
    obtain ⟨mc, l1, l2⟩ := hlim
    have e0 : Env0 P w K mg (hidT s₁.heap H) callerA [] s₁ H := ⟨rfl, ⟨hKb, dk hns, ⟨mb, dk hb, hbb⟩, ⟨mc, dk l1, l2⟩⟩, fun b o e => of_hidT e, Nat.le_of_eq (hidT_size _ _), trivial, fun b z => by simp [frs] at z, hok, .of_eq hg⟩
    refine codeAny_mono ((F _ hKb (dk hns)).runs (us := [.ref a]) (vs := [.ref a]) (show Quiet callerA from rfl) hr e0 (hbind s₁ (.ref a)) (.cons rfl .nil) (hsp H hO hS)) fun r s' h => ?_
    rcases r with e | fl
    · obtain ⟨_, _, _, _, _, _, _, _, _, _, _, _, z⟩ := h
      exact z.elim
    · cases fl <;> try exact False.elim h
      obtain ⟨v, H', os, bare, un, hok', r', q⟩ := h
      obtain rfl : v = .bl true := q
      cases r'
      refine ⟨rfl, OldK.of_keep fun b o e => ?_, os, bare⟩
      rcases hO b with z | ⟨ob, xs, z⟩
      · exact un.keep b o e z (by simp [frs]) (by simp)
      · have e1 := (hok b _ z).1
        rw [e] at e1
        cases e1
        exact (hok' b _ (un.frzs b _ _ z)).1
  cases hk : K.lookup a with
  | some o =>
    have e := KX a o hk
    rw [ha] at e
    cases e
    exact main (fun _ => none) (fun _ => .inl rfl) (.inr ⟨_, vs.toArray, _, hk, rfl, rfl, rfl, by rw [List.size_toArray, lenV]; exact hl, by simpa using rv⟩) (fun b u z => nomatch z) fun b z => absurd rfl z
  | none =>
    refine main (upd (fun _ => none) a (.frz { cls := .type "list", data := .seq vs.toArray } (.lst (ns.map V.int)))) (fun b => ?_) (.inl (.inr ⟨_, upd_same⟩)) (fun b u z => ?_) fun b z => ⟨Classical.byContradiction fun ne => z (upd_ne ne), hk⟩
    · by_cases q : b = a
      · subst q; exact .inr ⟨_, _, upd_same⟩
      · exact .inl (upd_ne q)
    · by_cases q : b = a
      · subst q
        rw [upd_same] at z
        cases z
        exact ⟨ha, by rw [List.length_map]; exact hl, vs, _, rv, ha⟩
      · rw [upd_ne q] at z; cases z
theorem walk_G {l : PySem.W.OpenLaw} {n k : Nat} {q : Program} {loose : List Str} {XP : (Str → Option Value) → Heap → Prop} {YP : World → Heap → Prop} {d : DefRec} {x : Str}
    (hn : l.most = some n) (hn2 : n ≤ sizeLine) (hdf : d.params.defaults = []) (hr : Room k callerA)
    (F : ∀ (w : World) (mg : Str → Option Value) (fa : Addr) (h : Heap), YP w h → h.Ns mainGlobals mg → mg d.name = some (.ref fa) →
      ∃ (K : PySem.W.Frag) (fd : FuncData) (sp : Sp), K.In h ∧ (∀ (s : Shared) (u : Value), BindsTo s fd ⟨[u], []⟩ [(x, u)]) ∧
        (∀ (H : Hp) (a : Addr) (ns : List Int), ns.length ≤ n → (∀ i ∈ ns, Builtin.Int.intBits i ≤ 1048576) → Only H → SqL K H a (ns.map V.int) → sp [.ref a] H (fun v _ => v = .bl true) fun _ _ _ => False) ∧
        ∀ base : Heap, K.In base → base.Ns mainGlobals mg → FnG l.prog w K mg base k fa fd [x] sp) :
    PySem.W.WalkO q loose XP YP l.row.toRowW d [] (fun f vs => PySem.call f vs) := by
  refine Att.attach_callB hn hdf fun w s₀ s₁ mg mb fa o pm cd doc a vs ns G Y ho hd hcd hmg hobj hints hlen hbits hg => ?_
  obtain ⟨K, fd, sp, KX, hb, hsp, hF⟩ := F w mg fa _ Y G.T.g hmg
  exact law_callG KX G.T.g G.T.b G.T.builtins G.T.nolimit hg hobj hints (Nat.le_trans hlen hn2) hr hF hb fun H hO hS => hsp H a ns hlen hbits hO hS
end Tb
namespace Tb
open PySem PySem.Spec PyProof.Rows L2
/-! ### the checker: own text against the row's text -/
structure Cc where
  N : List Str
  sc : Scope
  fs : Str → Bool
def isK (c : Cc) (x : Str) (k : NameKind) : Bool := decide (c.sc.names.lookup x = some k)
def seenB (c : Cc) (i : Nat) (x : Str) : Bool := decide (c.N[i]? = some x) && (isK c x .local || isK c x .cell || isK c x .free) && !(x == ("__debug__" : Str)) && !(x == ("__classdict__" : Str))
def globB (c : Cc) (x : Str) : Bool := isK c x .globalImplicit && !(x == ("__debug__" : Str))
def putB (c : Cc) (i : Nat) (x : Str) : Bool := decide (c.N[i]? = some x) && (isK c x .local || (isK c x .cell && c.fs x))
def nStar : Expr → Bool
  | .Starred _ _ => false
  | _ => true
def nSlc : Expr → Bool
  | .Slice _ _ _ _ => false
  | _ => true
def nSet : Expr → Bool
  | .Set _ _ _ => false
  | _ => true
def nC0 : Expr → Bool
  | .Call _ [] [] _ => false
  | _ => true
/-- tests of these forms are read by their parts -/
def nTst : Expr → Bool
  | .UnaryOp .Not _ _ => false
  | .BoolOp _ _ _ => false
  | .IfExp _ _ _ _ => false
  | .Compare _ _ _ _ => false
  | _ => true
def Bi.nm : Bi → String
  | .len => "len" | .abs => "abs" | .min => "min" | .max => "max" | .sum => "sum" | .sorted => "sorted" | .int => "int" | .str => "str" | .list => "list" | .tuple => "tuple" | .repr => "repr" | .dict => "dict"
def Bi.isTy : Bi → Bool
  | .int => true | .str => true | .list => true | .tuple => true | .dict => true
  | _ => false
def Me.nm : Me → String
  | .append => "append" | .pop => "pop" | .extend => "extend" | .insert => "insert" | .clear => "clear" | .reverse => "reverse"
  | .count => "count" | .index => "index" | .remove => "remove" | .join => "join" | .split => "split" | .partition => "partition"
def freeN : List Str := ["len", "abs", "min", "max", "sum", "sorted", "int", "str", "list", "tuple", "repr", "isinstance", "range", "enumerate", "zip", "reversed", "bool", "dict", "set", "ValueError"]
def tyB (n : String) : Bool := decide (n ∈ (["int", "bool", "str", "list", "tuple", "dict", "ValueError"] : List String))
def Es.len : Es → Nat
  | .nil => 0
  | .cons _ es => es.len + 1
/-- a call of a built-in name with arguments, none of them starred -/
def callN (n : Str) : Expr → Option (List Expr)
  | .Call (.Name x _) es [] _ => if x = n ∧ es.all nStar = true then some es else none
  | _ => none
def okTg1 (c : Cc) : List Nat → List Expr → Bool
  | [], [] => true
  | i :: is, .Name x _ :: es => putB c i x && okTg1 c is es
  | _, _ => false
def okTg (c : Cc) : Tg → Expr → Bool
  | .nm i, .Name x _ => putB c i x
  | .tp is, .Tuple es _ _ => okTg1 c is es
  | _, _ => false
def Tg.inB (own : List Nat) : Tg → Bool
  | .nm k => own.contains k
  | .tp ks => ks.all fun k => own.contains k
def isTup : Expr → Bool
  | .Tuple _ _ _ => true
  | _ => false
def pairsE : List Expr → Option (Expr × Expr)
  | [a, b] => some (a, b)
  | _ => none
def oneE : List Expr → Option Expr
  | [a] => some a
  | _ => none
def E.isZ : E → Bool
  | .int i => i == 0
  | _ => false
theorem E.isZ_eq {a : E} (h : a.isZ = true) : a = .int 0 := by
  cases a <;> first | (simp [E.isZ] at h; subst h; rfl) | cases h
def okAt (c : Cc) : At → Expr → Bool
  | .v i, .Name n _ => seenB c i n
  | .n i, .Constant (.int j) _ _ => decide (i = j)
  | _, _ => false
def okKV (c : Cc) : List (At × At) → List (Option Expr) → List Expr → Bool
  | [], [], [] => true
  | [(a, b)], [some k], [v] => okAt c a k && okAt c b v
  | _, _, _ => false
mutual
def okE (c : Cc) : E → Expr → Bool
  | .var i, x => match x with
    | .Name n _ => seenB c i n
    | _ => false
  | .int i, x => match x with
    | .Constant (.int j) _ _ => decide (i = j)
    | _ => false
  | .bl b, x => match x with
    | .Constant (.bool d) _ _ => decide (b = d)
    | _ => false
  | .non, x => match x with
    | .Constant .none _ _ => true
    | _ => false
  | .str s, x => match x with
    | .Constant (.str d) _ _ => decide (s = d)
    | _ => false
  | .glo n _, x => match x with
    | .Name m _ => decide (n = m) && globB c m
    | _ => false
  | .bty n, x => match x with
    | .Name m _ => decide ((n : Str) = m) && tyB n && globB c m
    | _ => false
  | .bin _ o a b, x => match x with
    | .BinOp l p r _ => decide (o = p) && okE c a l && okE c b r
    | _ => false
  | .neg a, x => match x with
    | .UnaryOp .USub y _ => okE c a y
    | _ => false
  | .cmp o a b, x => match x with
    | .Compare l [p] [r] _ => decide (o = p) && nSet r && okE c a l && okE c b r
    | _ => false
  | .chn o o2 a b d, x => match x with
    | .Compare l [p, p2] [r, t] _ => decide (o = p) && decide (o2 = p2) && nSet t && okE c a l && okE c b r && okE c d t
    | _ => false
  | .bop o es, x => match x with
    | .BoolOp p xs _ => decide (o = p) && okEs c es xs
    | _ => false
  | .not a, x => match x with
    | .UnaryOp .Not y _ => okE c a y
    | _ => false
  | .ife t a b, x => match x with
    | .IfExp u l r _ => okE c t u && okE c a l && okE c b r
    | _ => false
  | .lst _ es, x => match x with
    | .List xs _ => okEs c es xs
    | _ => false
  | .tup es, x => match x with
    | .Tuple xs _ _ => okEs c es xs
    | _ => false
  | .idx a i, x => match x with
    | .Subscript l r _ => nSlc r && okE c a l && okE c i r
    | _ => false
  | .slU _ a hi, x => match x with
    | .Subscript l (.Slice none (some u) none _) _ => okE c a l && okE c hi u
    | _ => false
  | .slL _ a lo, x => match x with
    | .Subscript l (.Slice (some w) none none _) _ => okE c a l && okE c lo w
    | _ => false
  | .slB _ a lo hi, x => match x with
    | .Subscript l (.Slice (some w) (some u) none _) _ => okE c a l && okE c lo w && okE c hi u
    | _ => false
  | .call _ n _ es, x => match x with
    | .Call (.Name m _) xs [] _ => decide (n = m) && globB c m && okEs c es xs
    | _ => false
  | .bi b _ es, x => match x with
    | .Call (.Name m _) xs [] _ => decide ((b.nm : Str) = m) && !xs.isEmpty && globB c m && okEs c es xs
    | _ => false
  | .isi a b, x => match x with
    | .Call (.Name m _) [l, r] [] _ => decide (("isinstance" : Str) = m) && globB c m && okE c a l && okE c b r && nStar l && nStar r
    | _ => false
  | .me m _ a es, x => match x with
    | .Call (.Attribute o n ap) xs [] cp => decide ((m.nm : Str) = n) && nC0 o && (ap.endLine == cp.line) && decide (xs.length < 4) && okE c a o && okEs c es xs
    | _ => false
  | .comp _ own tg it tt elt, x => match x with
    | .ListComp el [⟨t, i, fs, 0⟩] sc _ => match own.mapM fun j => c.N[j]?.map fun n => (n, j) with
      | some ow => blkC c.N c.sc sc ow && okTg ⟨c.N, relS sc c.sc, fun x => sc.names.lookup x == some .cell⟩ tg t && okI c t it i && okEs ⟨c.N, relS sc c.sc, fun x => sc.names.lookup x == some .cell⟩ tt fs && okE ⟨c.N, relS sc c.sc, fun x => sc.names.lookup x == some .cell⟩ elt el && tg.inB own
      | none => false
    | _ => false
  | .rvl _ a, x => match x with
    | .Subscript l (.Slice none none (some (.UnaryOp .USub (.Constant (.int 1) _ _) _)) _) _ => okE c a l
    | _ => false
  | .lset a, x => match x with
    | .Call (.Name m _) [.Call (.Name m2 _) [y] [] _] [] _ => decide (("len" : Str) = m) && decide (("set" : Str) = m2) && globB c m && globB c m2 && nStar y && okE c a y
    | _ => false
  | .strx n a, x => match x with
    | .Call (.Name m _) [.Call (.Name m2 _) [y] [] _] [] _ => decide (("str" : Str) = m) && decide (n = m2) && globB c m && globB c m2 && nStar y && okE c a y
    | _ => false
  | .dnew, x => match x with
    | .Dict [] [] _ => true
    | _ => false
  | .dget a k, x => match x with
    | .Subscript l r _ => nSlc r && okE c a l && okE c k r
    | _ => false
  | .dhas n k a, x => match x with
    | .Compare l [p] [r] _ => decide (p = if n then .NotIn else .In) && nSet r && okE c k l && okE c a r
    | _ => false
  | .dlst _ a, x => match x with
    | .Call (.Name m _) [y] [] _ => decide (("list" : Str) = m) && globB c m && nStar y && okE c a y
    | _ => false
  | .denu a, x => match x with
    | .Call (.Name m _) [.Call (.Name m2 _) [y] [] _] [] _ => decide (("dict" : Str) = m) && decide (("enumerate" : Str) = m2) && globB c m && globB c m2 && nStar y && okE c a y
    | _ => false
  | .dic ps, x => match x with
    | .Dict ks vs _ => okKV c ps ks vs
    | _ => false
  | .lrg _ a b, x => match x with
    | .Call (.Name m _) [.Call (.Name m2 _) [y, z] [] _] [] _ => decide (("list" : Str) = m) && decide (("range" : Str) = m2) && globB c m && globB c m2 && nStar y && nStar z && okE c a y && okE c b z
    | .Call (.Name m _) [.Call (.Name m2 _) [z] [] _] [] _ => decide (("list" : Str) = m) && decide (("range" : Str) = m2) && globB c m && globB c m2 && nStar z && a.isZ && okE c b z
    | _ => false
def okEs (c : Cc) : Es → List Expr → Bool
  | .nil, xs => xs.isEmpty
  | .cons e es, xs => match xs with
    | y :: ys => nStar y && okE c e y && okEs c es ys
    | [] => false
def okI (c : Cc) (t : Expr) : I → Expr → Bool
  | .seq e, x => nSet x && okE c e x
  | .rng es, x => match callN "range" x with
    | some xs => globB c "range" && okEs c es xs && decide (1 ≤ xs.length) && decide (xs.length ≤ 3)
    | none => false
  | .enu e, x => match callN "enumerate" x with
    | some xs => match oneE xs with
      | some y => globB c "enumerate" && isTup t && okE c e y && nStar y
      | none => false
    | none => false
  | .zip a b, x => match callN "zip" x with
    | some xs => match pairsE xs with
      | some (y, z) => globB c "zip" && isTup t && okE c a y && okE c b z && nStar y && nStar z
      | none => false
    | none => false
  | .rev e, x => match callN "reversed" x with
    | some xs => match oneE xs with
      | some y => globB c "reversed" && okE c e y && nStar y
      | none => false
    | none => false
end
/-! what is asked of the names -/
mutual
def AskE (P : Str → Fn → Nat → Prop) (G : Str → D → Prop) : E → Prop
  | .glo n d => G n d
  | .bin _ _ a b => AskE P G a ∧ AskE P G b
  | .neg a => AskE P G a
  | .cmp _ a b => AskE P G a ∧ AskE P G b
  | .chn _ _ a b d => AskE P G a ∧ AskE P G b ∧ AskE P G d
  | .bop _ es => AskEs P G es
  | .not a => AskE P G a
  | .ife t a b => AskE P G t ∧ AskE P G a ∧ AskE P G b
  | .lst _ es => AskEs P G es
  | .tup es => AskEs P G es
  | .idx a i => AskE P G a ∧ AskE P G i
  | .slU _ a hi => AskE P G a ∧ AskE P G hi
  | .slL _ a lo => AskE P G a ∧ AskE P G lo
  | .slB _ a lo hi => AskE P G a ∧ AskE P G lo ∧ AskE P G hi
  | .call _ n F es => P n F es.len ∧ AskEs P G es
  | .bi _ _ es => AskEs P G es
  | .isi a b => AskE P G a ∧ AskE P G b
  | .me _ _ a es => AskE P G a ∧ AskEs P G es
  | .comp _ _ _ it tt elt => AskI P G it ∧ AskEs P G tt ∧ AskE P G elt
  | .rvl _ a => AskE P G a
  | .lset a => AskE P G a
  | .strx n a => G n (.cls n) ∧ AskE P G a
  | .lrg _ a b => AskE P G a ∧ AskE P G b
  | .dget a k => AskE P G a ∧ AskE P G k
  | .dhas _ k a => AskE P G k ∧ AskE P G a
  | .dlst _ a => AskE P G a
  | .denu a => AskE P G a
  | _ => True
def AskEs (P : Str → Fn → Nat → Prop) (G : Str → D → Prop) : Es → Prop
  | .nil => True
  | .cons e es => AskE P G e ∧ AskEs P G es
def AskI (P : Str → Fn → Nat → Prop) (G : Str → D → Prop) : I → Prop
  | .seq e => AskE P G e
  | .rng es => AskEs P G es
  | .enu e => AskE P G e
  | .zip a b => AskE P G a ∧ AskE P G b
  | .rev e => AskE P G e
end
/-! ### the context -/
def EX (Z : Zn) (Wx : L2.St → Str → Hp → Prop) (σ : L2.St) : XK := fun cls d H => ∃ c C, Z.cl c = some C ∧ c ∈ Z.xs ∧ cls = .ref C ∧ d = none ∧ Wx σ c H
structure Gd (Z : Zn) (Wx : L2.St → Str → Hp → Prop) (k : Nat) (X : Cx) : Prop where
  hK : X.K = Z.K
  calm : X.calm = true
  nd : X.N.Nodup
  room : Room k X.A
  qt : Quiet X.A
  free : ∀ x ∈ freeN, X.mg x = none
  sys : SysOk X.K
  tk : Takes X fun cls d σ H => EX Z Wx σ cls d H
abbrev ccOf (X : Cx) : Cc := ⟨X.N, X.env.scope, X.fn⟩
/-- the promise of a def -/
def spF (Z : Zn) (n : Nat) (F : Fn) : Sp := fun vs H Q E => vs.length = n ∧ ∃ W h ds, RelDs Z W H ds vs ∧ HRel Z W H h ∧ TriD Z (fun c H' => c ∈ Z.xs → ∀ C, Z.cl c = some C → E (.ref C) none H') Q W H (F ds h)
def FnA (Z : Zn) (k : Nat) (X : Cx) (x : Str) (F : Fn) (n : Nat) : Prop := ∃ f fd ps, FnG X.prog X.w X.K X.mg X.base k f fd ps (spF Z n F) ∧ ps.length = n ∧ X.mg x = some (.ref f) ∧ PySem.W.keepIn X.K (.ref f) = true ∧ L2.Binds X.K fd ps []
def GloA (Z : Zn) (X : Cx) (x : Str) (d : D) : Prop := ∃ u v, X.mg x = some u ∧ RelV v u ∧ ∀ W H, RelD Z W H d v
abbrev AE (Z : Zn) (k : Nat) (X : Cx) := AskE (FnA Z k X) (GloA Z X)
abbrev AEs (Z : Zn) (k : Nat) (X : Cx) := AskEs (FnA Z k X) (GloA Z X)
abbrev AI (Z : Zn) (k : Nat) (X : Cx) := AskI (FnA Z k X) (GloA Z X)
/-- what an own text does, as a reading -/
def TV {α β : Type} (Z : Zn) (Wx : L2.St → Str → Hp → Prop) (rel : Wd → Hp → α → β → Prop) (f : Ls → Hh → R α) (σ : L2.St) (H : Hp) (Q : β → Hp → Prop) : Prop :=
  ∃ W ls h, LRel Z W H ls σ ∧ HRel Z W H h ∧ Tri Z rel (Wx σ) Q W H (f ls h)
abbrev TVe (Z : Zn) (Wx : L2.St → Str → Hp → Prop) (f : Ls → Hh → R D) : TE := TV Z Wx (RelD Z) f
abbrev TVt (Z : Zn) (Wx : L2.St → Str → Hp → Prop) (f : Ls → Hh → R Bool) : TT := TV (α := Bool) (β := Bool) Z Wx (fun _ _ a b => a = b) f
abbrev TVa (Z : Zn) (Wx : L2.St → Str → Hp → Prop) (f : Ls → Hh → R (List D)) : TA := TV Z Wx (RelDs Z) f
theorem _root_.L2.PE.imp {X : Cx} {e : Expr} {t t' : TE} (h : PE X e t) (i : ∀ σ H Q, t' σ H Q → t σ H Q) : PE X e t' := ⟨fun pins s σ H Q I q => h.run pins s σ H Q I (i σ H Q q)⟩
theorem _root_.L2.PT.imp {X : Cx} {e : Expr} {t t' : TT} (h : PT X e t) (i : ∀ σ H Q, t' σ H Q → t σ H Q) : PT X e t' := ⟨fun pins s σ H Q I q => h.run pins s σ H Q I (i σ H Q q)⟩
theorem _root_.L2.PW.imp {X : Cx} {e : Expr} {t t' : TT} (h : PW X e t) (i : ∀ σ H Q, t' σ H Q → t σ H Q) : PW X e t' := ⟨fun wh pins s σ H Q I q => h.run wh pins s σ H Q I (i σ H Q q)⟩
theorem _root_.L2.PA.imp {X : Cx} {e : List Expr} {t t' : TA} (h : PA X e t) (i : ∀ σ H Q, t' σ H Q → t σ H Q) : PA X e t' := ⟨fun pos pins s σ H Q I q => h.run pos pins s σ H Q I (i σ H Q q)⟩
section
variable {α β γ δ : Type} {Z : Zn} {Wx : L2.St → Str → Hp → Prop} {rel : Wd → Hp → α → β → Prop} {rel2 : Wd → Hp → γ → δ → Prop} {σ : L2.St} {W : Wd} {H : Hp} {ls : Ls} {h : Hh}
/-- the first step of a bind -/
theorem step {f : Ls → Hh → R γ} {g : γ → Hh → R α} {Q : β → Hp → Prop} (lr : LRel Z W H ls σ) (hr : HRel Z W H h) (t : Tri Z rel (Wx σ) Q W H ((f ls h).bind g)) {Q2 : δ → Hp → Prop}
    (k : ∀ x H1 W1 d h1, Gr W H W1 H1 → LRel Z W1 H1 ls σ → HRel Z W1 H1 h1 → rel2 W1 H1 d x → Tri Z rel (Wx σ) Q W1 H1 (g d h1) → Q2 x H1) : TV Z Wx rel2 f σ H Q2 :=
  ⟨W, ls, h, lr, hr, (Tri.bind (rel2 := rel2) t).imp fun x H1 ⟨W1, d, h1, g1, hr1, rl, t1⟩ => k x H1 W1 d h1 g1 (lr.mono g1) hr1 rl t1⟩
/-- no exception comes -/
def NX {α : Type} (r : R α) : Prop := ∀ c h, r ≠ .exc c h
theorem Tri.noX {E E' : Str → Hp → Prop} {Q : β → Hp → Prop} {r : R α} (n : NX r) (t : Tri Z rel E Q W H r) : Tri Z rel E' Q W H r := by
  cases r with
  | ok d h => exact t
  | exc c h => exact (n c h rfl).elim
  | bad => exact t
end
end Tb
namespace Tb
open PySem PySem.Spec PyProof.Rows L2
/-! ### no exception comes of these -/
theorem mkL_nx {c xs h} : NX (mkL c xs h) := fun k h' => by unfold mkL; split <;> simp
theorem ofB_nx {o h} : NX (ofB o h) := fun k h' => by unfold ofB; cases o <;> simp
theorem optI_nx {o h} : NX (optI o h) := fun k h' => by unfold optI; cases o <;> simp
theorem optD_nx {o h} : NX (optD o h) := fun k h' => by unfold optD; cases o <;> simp
theorem bad_nx {α : Type} : NX (.bad : R α) := fun k h' => by simp
theorem ok_nx {α : Type} {a : α} {h : Hh} : NX (.ok a h : R α) := fun k h' => by simp
theorem nx_ite {α : Type} {p : Prop} [Decidable p] {a b : R α} (x : NX a) (y : NX b) : NX (if p then a else b) := by split <;> assumption
theorem addD_nx {c a b h} : NX (addD c a b h) := by
  unfold addD
  split <;> first | exact ok_nx | exact bad_nx | (apply nx_ite <;> first | exact ok_nx | exact bad_nx | exact mkL_nx) | (unfold addL; split <;> first | exact bad_nx | exact mkL_nx | (apply nx_ite <;> first | exact mkL_nx | exact bad_nx | exact ok_nx))
theorem subD_nx {a b h} : NX (subD a b h) := by
  unfold subD
  split <;> first | exact ok_nx | exact bad_nx
theorem mulD_nx {c a b h} : NX (mulD c a b h) := by
  unfold mulD
  split <;> first | exact ok_nx | exact bad_nx | (apply nx_ite <;> first | exact ok_nx | exact bad_nx) | (unfold mulL; split <;> first | exact bad_nx | exact mkL_nx | (apply nx_ite <;> first | exact mkL_nx | exact bad_nx | exact ok_nx))
theorem fdivD_nx {a b h} : NX (fdivD a b h) := by
  unfold fdivD
  split <;> first | exact ok_nx | exact bad_nx | (apply nx_ite <;> first | exact ok_nx | exact bad_nx)
theorem modD_nx {a b h} : NX (modD a b h) := by
  unfold modD
  split <;> first | exact ok_nx | exact bad_nx | (apply nx_ite <;> first | exact ok_nx | exact bad_nx | (apply nx_ite <;> first | exact ok_nx | exact bad_nx))
theorem powD_nx {a b h} : NX (powD a b h) := by
  unfold powD
  split <;> first | exact ok_nx | exact bad_nx | (apply nx_ite <;> first | exact ok_nx | exact bad_nx)
theorem binD_nx {c o a b h} : NX (binD c o a b h) := by
  cases o <;> unfold binD <;> first | exact addD_nx | exact subD_nx | exact mulD_nx | exact fdivD_nx | exact modD_nx | exact powD_nx | exact bad_nx
theorem idxD_nx {a b h} : NX (idxD a b h) := by
  unfold idxD
  split
  · split <;> first | exact optD_nx | (unfold idxL; split <;> first | exact optD_nx | exact bad_nx) | exact bad_nx
  all_goals first | exact bad_nx | (split <;> first | exact optD_nx | exact bad_nx)
theorem slcD_nx {c a lo hi h} : NX (slcD c a lo hi h) := by
  unfold slcD
  split <;> first | exact ok_nx | exact bad_nx | exact mkL_nx | (apply nx_ite <;> first | exact ok_nx | exact bad_nx) | (unfold slcL; split <;> first | exact bad_nx | exact mkL_nx)
theorem setD_nx {a i v h} : NX (setD a i v h) := by
  unfold setD
  split
  · split
    · split <;> first | exact ok_nx | exact bad_nx
    · exact bad_nx
  all_goals exact bad_nx
theorem negD_nx {a h} : NX (negD a h) := by unfold negD; split <;> first | exact ok_nx | exact bad_nx
theorem truD_nx {a h} : NX (truD a h) := by unfold truD; split <;> first | exact ok_nx | exact bad_nx
theorem mkR_nx {a h} : NX (mkR a h) := by unfold mkR; split <;> first | exact ok_nx | exact bad_nx
theorem revD_nx {c d h} : NX (revD c d h) := by
  unfold revD revL
  split <;> first | exact mkL_nx | exact bad_nx
theorem lsetD_nx {d h} : NX (lsetD d h) := by
  unfold lsetD
  split <;> first | exact bad_nx | (apply nx_ite <;> first | exact ok_nx | exact bad_nx)
theorem strxD_nx {d h} : NX (strxD d h) := by
  unfold strxD
  split <;> first | exact ok_nx | exact bad_nx
theorem dgetD_nx {a b h} : NX (dgetD a b h) := by
  unfold dgetD dgetK
  split <;> first | exact bad_nx | exact optD_nx
theorem dhasD_nx {n a b h} : NX (dhasD n a b h) := by
  unfold dhasD dhasK
  split <;> first | exact bad_nx | exact ok_nx
theorem denD_nx {a h} : NX (denD a h) := by
  unfold denD
  split <;> first | exact ok_nx | exact bad_nx
theorem dlstD_nx {c a h} : NX (dlstD c a h) := by
  unfold dlstD
  split <;> first | exact bad_nx | (apply nx_ite <;> first | exact mkL_nx | exact bad_nx)
theorem dputD_nx {a b v h} : NX (dputD a b v h) := by
  unfold dputD dputK
  split
  · split <;> first | exact bad_nx | (apply nx_ite <;> first | exact ok_nx | exact bad_nx)
  · exact bad_nx
theorem lrgD_nx {c a b h} : NX (lrgD c a b h) := by
  unfold lrgD
  split <;> first | exact bad_nx | (apply nx_ite <;> first | exact mkL_nx | exact bad_nx)
theorem mkList_nx {c d h} : NX (mkList c d h) := by
  unfold mkList
  split
  · exact mkL_nx
  · split <;> first | exact mkL_nx | exact bad_nx
theorem mkTup_nx {d h} : NX (mkTup d h) := by
  unfold mkTup
  split
  · exact ok_nx
  · split <;> first | exact ok_nx | exact bad_nx
theorem mkSorted_nx {c o h} : NX (mkSorted c o h) := by unfold mkSorted; split <;> first | exact mkL_nx | exact bad_nx
theorem mkDict_nx {d h} : NX (mkDict d h) := by
  unfold mkDict
  split <;> first | exact bad_nx | (apply nx_ite <;> first | exact ok_nx | exact bad_nx)
theorem biD_nx {b c ds h} : NX (biD b c ds h) := by
  unfold biD
  split <;> first | exact ok_nx | exact bad_nx | exact optI_nx | exact optD_nx | exact mkSorted_nx | exact mkList_nx | exact mkTup_nx | exact mkDict_nx | exact mkL_nx
theorem setC_nx {o i xs h} : NX (setC o i xs h) := by unfold setC; split <;> first | exact ok_nx | exact bad_nx
theorem meC_nx {m i xs ds h} : NX (meC m i xs ds h) := by
  unfold meC
  split <;> first
    | exact ok_nx | exact bad_nx | exact setC_nx
    | (apply nx_ite <;> first | exact ok_nx | exact bad_nx)
    | (split <;> first | exact setC_nx | exact bad_nx | (apply nx_ite <;> first | exact ok_nx | exact bad_nx) | (split <;> first | exact ok_nx | exact bad_nx))
theorem meD_nx {m c x ds h} : NX (meD m c x ds h) := by
  unfold meD
  split <;> first
    | (split <;> first
        | exact optI_nx | exact bad_nx
        | (apply nx_ite <;> first | exact ok_nx | exact bad_nx | exact mkL_nx)
        | (split <;> first | exact meC_nx | exact bad_nx | (apply nx_ite <;> first | exact ok_nx | exact bad_nx)))
/-! ### facts of the checker -/
section
variable {X : Cx} {Z : Zn} {Wx : L2.St → Str → Hp → Prop} {k : Nat} {x : Str} {i : Nat} {e : Expr} {es : List Expr} {env : Env} {pos : Pos}
theorem star_of (h : nStar e = true) : starEach (e :: es) env = (false, eval e env) :: starEach es env := by
  cases e <;> first | rfl | cases h
theorem star_all : ∀ {es : List Expr}, es.all nStar = true → (backTo pos (starEach es env)).any (·.1) = false
  | [], _ => rfl
  | e :: es, h => by
    simp only [List.all_cons, Bool.and_eq_true] at h
    rw [star_of h.1]
    show (false || (backTo pos (starEach es env)).any (·.1)) = false
    rw [star_all h.2]; rfl
theorem okEs_star {c : Cc} : ∀ {es : Es} {xs : List Expr}, okEs c es xs = true → xs.all nStar = true
  | .nil, xs, h => by
    unfold okEs at h
    rw [List.isEmpty_iff.mp h]; rfl
  | .cons e es, [], h => by simp [okEs] at h
  | .cons e es, y :: ys, h => by
    simp only [okEs, Bool.and_eq_true] at h
    simp only [List.all_cons, Bool.and_eq_true]
    exact ⟨h.1.1, okEs_star h.2⟩
theorem okEs_len {c : Cc} : ∀ {es : Es} {xs : List Expr}, okEs c es xs = true → xs.length = es.len
  | .nil, xs, h => by
    unfold okEs at h
    rw [List.isEmpty_iff.mp h]; rfl
  | .cons e es, [], h => by simp [okEs] at h
  | .cons e es, y :: ys, h => by
    simp only [okEs, Bool.and_eq_true] at h
    simp [Es.len, okEs_len h.2]
theorem marks_of {op : CmpOp} (h : nSet e = true) : behindInMarks op e = false := by
  cases e <;> first | rfl | cases h
theorem fold_of (h : nSet e = true) : ∀ x, foldedSetIterable e env x = pure x := by
  intro x
  cases e <;> first | rfl | cases h
theorem ix_of (h : nSlc e = true) : PlainIx e := by
  intro o i
  cases e <;> first | rfl | cases h
theorem base_of {n : Str} (h : nC0 e = true) : attributeBase e n env (eval e env) = eval e env := by
  cases e <;> try rfl
  rename_i f as ks p
  cases as with
  | nil =>
    cases ks with
    | nil => cases h
    | cons k ks => cases f <;> rfl
  | cons a as => cases f <;> rfl
theorem tst_of (h : nTst e = true) : ∀ whole, isTrue e env whole = (do let v ← whole; standAt e.pos; holding [v] (truthy v)) := by
  intro whole
  cases e <;> first | rfl | cases h | skip
  rename_i op y p
  cases op <;> first | rfl | cases h
theorem gl_of (h : globB (ccOf X) x = true) : Gl X x ∧ (x == ("__debug__" : Str)) = false := by
  simp only [globB, isK, Bool.and_eq_true, decide_eq_true_eq, Bool.not_eq_true'] at h
  exact h
theorem seen_of (h : seenB (ccOf X) i x = true) : X.N[i]? = some x ∧ Vis X.env.scope x ∧ (x == ("__debug__" : Str)) = false ∧ (x == ("__classdict__" : Str)) = false := by
  simp only [seenB, isK, Bool.and_eq_true, Bool.or_eq_true, decide_eq_true_eq, Bool.not_eq_true'] at h
  obtain ⟨⟨⟨h1, h2⟩, h3⟩, h4⟩ := h
  exact ⟨h1, by rcases h2 with (h2 | h2) | h2; exact .inl h2; exact .inr (.inl h2); exact .inr (.inr h2), h3, h4⟩
theorem put_of (h : putB (ccOf X) i x = true) : X.N[i]? = some x ∧ Loc X.env.scope x ∧ (X.fn x = true ∨ X.env.scope.names.lookup x = some .local) := by
  simp only [putB, isK, Bool.and_eq_true, Bool.or_eq_true, decide_eq_true_eq] at h
  obtain ⟨h1, h2⟩ := h
  rcases h2 with h2 | ⟨h2, h3⟩
  · exact ⟨h1, .inl h2, .inr h2⟩
  · exact ⟨h1, .inr h2, .inl h3⟩
theorem bty_of {n : String} (h : tyB n = true) : bootBuiltins (n : Str) = some (.type n) ∧ (n : Str) ∈ freeN ∧ (n : Str) ≠ "__name__" := by
  simp only [tyB, decide_eq_true_eq, List.mem_cons, List.not_mem_nil, or_false] at h
  rcases h with rfl | rfl | rfl | rfl | rfl | rfl | rfl
  all_goals exact ⟨by decide +kernel, by decide +kernel, by decide +kernel⟩
theorem bi_of (b : Bi) : bootBuiltins (b.nm : Str) = some (if b.isTy then .type b.nm else .builtin b.nm) ∧ (b.nm : Str) ∈ freeN ∧ (b.nm : Str) ≠ "__name__" := by
  cases b
  all_goals exact ⟨by decide +kernel, by decide +kernel, by decide +kernel⟩
end
end Tb
namespace Tb
open PySem PySem.Spec PyProof.Rows L2
section
variable {X : Cx} {Z : Zn} {Wx : L2.St → Str → Hp → Prop} {k : Nat}
theorem Gd.units (g : Gd Z Wx k X) : X.A.units + 65 < cLine := by have := g.room.un; omega
theorem Gd.pass (g : Gd Z Wx k X) (σ : L2.St) : PassesAt (L2.CX X.prog X.w) X σ (EX Z Wx σ) := fun _ _ _ e s' I c => g.tk e s' (XE.of_call I (fun _ _ _ h => h) c)
theorem truD_tri {E Q W H h} {d : D} {x : V} (t : TriB Z E Q W H (truD d h)) (hr : HRel Z W H h) (r : RelD Z W H d x) : ∃ b, d = .bl b ∧ x = .bl b ∧ Q b H := by
  cases d with
  | bl b => exact ⟨b, rfl, r, t.now hr rfl⟩
  | _ => exact t.elim
/-- a bool comes, then the rest -/
theorem tru_bind {α β : Type} {rel : Wd → Hp → α → β → Prop} {E : Str → Hp → Prop} {Q : β → Hp → Prop} {W H h} {d : D} {x : V} {g : Bool → Hh → R α} (t : Tri Z rel E Q W H ((truD d h).bind g)) (r : RelD Z W H d x) : ∃ b, d = .bl b ∧ x = .bl b ∧ Tri Z rel E Q W H (g b h) := by
  cases d with
  | bl b => exact ⟨b, rfl, r, t⟩
  | _ => exact t.elim
theorem e_var {i : Nat} {x : Str} {pos : Pos} (o : seenB (ccOf X) i x = true) : PE X (.Name x pos) (TVe Z Wx (evE (.var i))) := by
  obtain ⟨h1, h2, h3, h4⟩ := seen_of o
  refine (pe_var h1 h2 h3 h4).imp fun σ H Q ⟨W, ls, h, lr, hr, t⟩ => ?_
  unfold evE at t
  cases q : ls[i]? with
  | none => rw [q] at t; exact t.elim
  | some od =>
    cases od with
    | none => rw [q] at t; exact t.elim
    | some d =>
      rw [q] at t
      obtain ⟨v, e1, r⟩ := lr.2 i d q
      exact ⟨v, e1, t.now hr r⟩
theorem e_const {e : E} {x : Expr} {d : D} {v : V} (hv : ∀ W H, RelD Z W H d v) (he : ∀ ls h, evE e ls h = .ok d h) (p : PE X x (tC v)) : PE X x (TVe Z Wx (evE e)) :=
  p.imp fun σ H Q ⟨W, ls, h, lr, hr, t⟩ => by
    rw [he] at t
    exact t.now hr (hv W H)
theorem e_bin {c o} {a b : E} {l r : Expr} {pos : Pos} (g : Gd Z Wx k X) (ha : PE X l (TVe Z Wx (evE a))) (hb : PE X r (TVe Z Wx (evE b))) : PE X (.BinOp l o r pos) (TVe Z Wx (evE (.bin c o a b))) :=
  (pe_op (op_binD g.hK c o) ha hb).imp fun σ H Q ⟨W, ls, h, lr, hr, t⟩ =>
    step lr hr t fun x H1 W1 d h1 g1 lr1 hr1 rx t1 => step lr1 hr1 t1 fun y H2 W2 d2 h2 g2 lr2 hr2 ry t2 => ⟨W2, h2, d, d2, rx.mono g2, ry, hr2, t2.noX binD_nx⟩
theorem e_neg {a : E} {l : Expr} {pos : Pos} (ha : PE X l (TVe Z Wx (evE a))) : PE X (.UnaryOp .USub l pos) (TVe Z Wx (evE (.neg a))) :=
  (pe_un un_neg ha).imp fun σ H Q ⟨W, ls, h, lr, hr, t⟩ => step lr hr t fun x H1 W1 d h1 g1 lr1 hr1 rx t1 => by
    cases d with
    | int i => exact ⟨i, rx, t1.now hr1 rfl⟩
    | _ => exact t1.elim
theorem e_cmp {o} {a b : E} {l r : Expr} {pos : Pos} (g : Gd Z Wx k X) (ha : PE X l (TVe Z Wx (evE a))) (hb : PE X r (TVe Z Wx (evE b))) (hm : nSet r = true) : PE X (.Compare l [o] [r] pos) (TVe Z Wx (evE (.cmp o a b))) :=
  (pe_cmpR (op_cmpD g.hK g.units o) ha hb (marks_of hm)).imp fun σ H Q ⟨W, ls, h, lr, hr, t⟩ =>
    step lr hr t fun x H1 W1 d h1 g1 lr1 hr1 rx t1 => step lr1 hr1 t1 fun y H2 W2 d2 h2 g2 lr2 hr2 ry t2 => ⟨W2, h2, d, d2, rx.mono g2, ry, hr2, t2.noX ofB_nx⟩
/-- a test of a comparison: a bool comes -/
theorem tv_test {f : Ls → Hh → R D} {σ : L2.St} {H : Hp} {Q : Bool → Hp → Prop} (t : TVt Z Wx (fun ls h => (f ls h).bind truD) σ H Q) : TVe Z Wx f σ H fun x H1 => ∃ b, x = .bl b ∧ Q b H1 := by
  obtain ⟨W, ls, h, lr, hr, t⟩ := t
  exact step lr hr t fun x H1 W1 d h1 g1 lr1 hr1 rx t1 => by
    obtain ⟨b, _, e2, q⟩ := truD_tri t1 hr1 rx
    exact ⟨b, e2, q⟩
theorem t_cmp {o} {a b : E} {l r : Expr} {pos : Pos} (g : Gd Z Wx k X) (ha : PE X l (TVe Z Wx (evE a))) (hb : PE X r (TVe Z Wx (evE b))) (hm : nSet r = true) : PT X (.Compare l [o] [r] pos) (TVt Z Wx (evT (.cmp o a b))) :=
  (pt_cmpR (op_cmpD g.hK g.units o) ha hb (marks_of hm)).imp fun σ H Q t => by
    obtain ⟨W, ls, h, lr, hr, t⟩ := tv_test t
    exact step lr hr t fun x H1 W1 d h1 g1 lr1 hr1 rx t1 => step lr1 hr1 t1 fun y H2 W2 d2 h2 g2 lr2 hr2 ry t2 => ⟨W2, h2, d, d2, rx.mono g2, ry, hr2, t2.noX ofB_nx⟩
theorem chn_core {o o2} {a b c : E} {σ : L2.St} {H : Hp} {Q : VK} (t : TVe Z Wx (evE (.chn o o2 a b c)) σ H Q) :
    tChain (rD Z fun a b h => ofB (cmpD o h a b) h) (rD Z fun a b h => ofB (cmpD o2 h a b) h) (TVe Z Wx (evE a)) (TVe Z Wx (evE b)) (TVe Z Wx (evE c)) σ H Q := by
  obtain ⟨W, ls, h, lr, hr, t⟩ := t
  refine step lr hr t fun x H1 W1 d h1 g1 lr1 hr1 rx t1 => step lr1 hr1 t1 fun y H2 W2 d2 h2 g2 lr2 hr2 ry t2 => ⟨W2, h2, d, d2, rx.mono g2, ry, hr2, ?_⟩
  refine Tri.imp ((Tri.bind (rel2 := RelD Z) t2).noX ofB_nx) ?_
  rintro z H3 ⟨W3, d3, h3, g3, hr3, rz, t3⟩
  obtain ⟨kk, e1, e2, t4⟩ := tru_bind t3 rz
  subst e1
  refine ⟨kk, e2, ?_⟩
  cases kk with
  | true =>
    simp only [if_true] at t4 ⊢
    exact step (lr2.mono g3) hr3 t4 fun u H5 W5 d5 h5 g5 lr5 hr5 ru t5 => ⟨W5, h5, d2, d5, (ry.mono g3).mono g5, ru, hr5, t5.noX ofB_nx⟩
  | false =>
    simp only [Bool.false_eq_true, if_false] at t4 ⊢
    exact t4.now hr3 rfl
theorem e_chn {o o2} {a b c : E} {l r u : Expr} {pos : Pos} (g : Gd Z Wx k X) (ha : PE X l (TVe Z Wx (evE a))) (hb : PE X r (TVe Z Wx (evE b))) (hc : PE X u (TVe Z Wx (evE c))) (hm : nSet u = true) : PE X (.Compare l [o, o2] [r, u] pos) (TVe Z Wx (evE (.chn o o2 a b c))) :=
  (pe_chain (op_cmpD g.hK g.units o) (op_cmpD g.hK g.units o2) ha hb hc (show behindInMarks o2 u = false from marks_of hm)).imp fun σ H Q t => chn_core t
theorem t_chn {o o2} {a b c : E} {l r u : Expr} {pos : Pos} (g : Gd Z Wx k X) (ha : PE X l (TVe Z Wx (evE a))) (hb : PE X r (TVe Z Wx (evE b))) (hc : PE X u (TVe Z Wx (evE c))) (hm : nSet u = true) : PT X (.Compare l [o, o2] [r, u] pos) (TVt Z Wx (evT (.chn o o2 a b c))) :=
  (pt_chain (op_cmpD g.hK g.units o) (op_cmpD g.hK g.units o2) ha hb hc (show behindInMarks o2 u = false from marks_of hm)).imp fun σ H Q t => chn_core (tv_test t)
theorem t_val {a : E} {e : Expr} (h : PE X e (TVe Z Wx (evE a))) (n : nTst e = true) : PT X e (TVt Z Wx (evT a)) := (pt_val h (tst_of n)).imp fun σ H Q t => tv_test t
theorem R.bind_assoc {α β γ : Type} (r : R α) (f : α → Hh → R β) (g : β → Hh → R γ) : (r.bind f).bind g = r.bind fun a h => (f a h).bind g := by cases r <;> rfl
theorem e_not {a : E} {l : Expr} {pos : Pos} (ha : PE X l (TVe Z Wx (evE a))) : PE X (.UnaryOp .Not l pos) (TVe Z Wx (evE (.not a))) :=
  (pe_not ha).imp fun σ H Q ⟨W, ls, h, lr, hr, t⟩ => step lr hr t fun x H1 W1 d h1 g1 lr1 hr1 rx t1 => by
    obtain ⟨kk, e1, e2, t2⟩ := tru_bind t1 rx
    exact ⟨kk, e2, t2.now hr1 rfl⟩
theorem t_not {a : E} {l : Expr} {pos : Pos} (ha : PT X l (TVt Z Wx (evT a))) : PT X (.UnaryOp .Not l pos) (TVt Z Wx (evT (.not a))) :=
  (pt_not ha).imp fun σ H Q ⟨W, ls, h, lr, hr, t⟩ => by
    have t' : TriB Z (Wx σ) Q W H ((evT a ls h).bind fun kk h2 => .ok (!kk) h2) := by
      have e : evT (.not a) ls h = (evT a ls h).bind fun kk h2 => .ok (!kk) h2 := by
        unfold evT
        rw [show evE (.not a) ls h = (evE a ls h).bind fun x h1 => (truD x h1).bind fun k h2 => .ok (.bl !k) h2 from rfl, R.bind_assoc, R.bind_assoc]
        congr 1; funext x h1
        rw [R.bind_assoc]; rfl
      rw [e] at t; exact t
    exact step lr hr t' fun x H1 W1 d h1 g1 lr1 hr1 rx t1 => by subst rx; exact t1.now hr1 rfl
theorem e_ife {t a b : E} {u l r : Expr} {pos : Pos} (ht : PT X u (TVt Z Wx (evT t))) (ha : PE X l (TVe Z Wx (evE a))) (hb : PE X r (TVe Z Wx (evE b))) : PE X (.IfExp u l r pos) (TVe Z Wx (evE (.ife t a b))) :=
  (pe_ifExp ht ha hb).imp fun σ H Q ⟨W, ls, h, lr, hr, q⟩ => by
    have q' : TriD Z (Wx σ) Q W H ((evT t ls h).bind fun kk h2 => if kk = true then evE a ls h2 else evE b ls h2) := by
      unfold evT; rw [R.bind_assoc]; exact q
    exact step lr hr q' fun x H1 W1 d h1 g1 lr1 hr1 rx t1 => by
      subst rx
      cases d with
      | true => exact ⟨W1, ls, h1, lr1, hr1, t1⟩
      | false => exact ⟨W1, ls, h1, lr1, hr1, t1⟩
/-! and, or -/
theorem e_and {e e2 : E} {es : Es} {y z : Expr} {ys : List Expr} {pos : Pos} (ha : PE X y (TVe Z Wx (evE e))) (hb : PE X (.BoolOp .And (z :: ys) pos) (TVe Z Wx (evB .And (.cons e2 es)))) : PE X (.BoolOp .And (y :: z :: ys) pos) (TVe Z Wx (evB .And (.cons e (.cons e2 es)))) :=
  (pe_and ha hb).imp fun σ H Q ⟨W, ls, h, lr, hr, t⟩ => step lr hr t fun x H1 W1 d h1 g1 lr1 hr1 rx t1 => by
    obtain ⟨kk, e1, e2', t2⟩ := tru_bind t1 rx
    refine ⟨kk, e2', ?_⟩
    cases kk with
    | true => exact ⟨W1, ls, h1, lr1, hr1, t2⟩
    | false => exact t2.now hr1 rfl
theorem e_or {e e2 : E} {es : Es} {y z : Expr} {ys : List Expr} {pos : Pos} (ha : PE X y (TVe Z Wx (evE e))) (hb : PE X (.BoolOp .Or (z :: ys) pos) (TVe Z Wx (evB .Or (.cons e2 es)))) : PE X (.BoolOp .Or (y :: z :: ys) pos) (TVe Z Wx (evB .Or (.cons e (.cons e2 es)))) :=
  (pe_or ha hb).imp fun σ H Q ⟨W, ls, h, lr, hr, t⟩ => step lr hr t fun x H1 W1 d h1 g1 lr1 hr1 rx t1 => by
    obtain ⟨kk, e1, e2', t2⟩ := tru_bind t1 rx
    refine ⟨kk, e2', ?_⟩
    cases kk with
    | false => exact ⟨W1, ls, h1, lr1, hr1, t2⟩
    | true => exact t2.now hr1 rfl
def evBT (o : BoolOp) (es : Es) (ls : Ls) (h : Hh) : R Bool := (evB o es ls h).bind truD
theorem w_one {o : BoolOp} {e : E} {y : Expr} {pos : Pos} (ha : PT X y (TVt Z Wx (evT e))) : PW X (.BoolOp o [y] pos) (TVt Z Wx (evBT o (.cons e .nil))) := by
  cases o with
  | And => exact (pw_and1 ha).imp fun σ H Q t => t
  | Or => exact (pw_or1 ha).imp fun σ H Q t => t
theorem w_and {e e2 : E} {es : Es} {y z : Expr} {ys : List Expr} {pos : Pos} (ha : PT X y (TVt Z Wx (evT e))) (hb : PW X (.BoolOp .And (z :: ys) pos) (TVt Z Wx (evBT .And (.cons e2 es)))) : PW X (.BoolOp .And (y :: z :: ys) pos) (TVt Z Wx (evBT .And (.cons e (.cons e2 es)))) :=
  (pw_and ha hb).imp fun σ H Q ⟨W, ls, h, lr, hr, t⟩ => by
    have t' : TriB Z (Wx σ) Q W H ((evT e ls h).bind fun kk h2 => match kk with | true => evBT .And (.cons e2 es) ls h2 | false => .ok false h2) := by
      refine cast (congrArg _ ?_) t
      unfold evBT evT
      rw [show evB .And (.cons e (.cons e2 es)) ls h = (evE e ls h).bind fun x h1 => (truD x h1).bind fun k h2 => match BoolOp.And, k with | .And, true => evB .And (.cons e2 es) ls h2 | .And, false => .ok (.bl false) h2 | .Or, true => .ok (.bl true) h2 | .Or, false => evB .And (.cons e2 es) ls h2 from rfl, R.bind_assoc, R.bind_assoc]
      congr 1; funext x h1
      rw [R.bind_assoc]
      congr 1; funext b h2
      cases b <;> rfl
    exact step lr hr t' fun x H1 W1 d h1 g1 lr1 hr1 rx t1 => by
      subst rx
      cases d with
      | true => exact ⟨W1, ls, h1, lr1, hr1, t1⟩
      | false => exact t1.now hr1 rfl
theorem w_or {e e2 : E} {es : Es} {y z : Expr} {ys : List Expr} {pos : Pos} (ha : PT X y (TVt Z Wx (evT e))) (hb : PW X (.BoolOp .Or (z :: ys) pos) (TVt Z Wx (evBT .Or (.cons e2 es)))) : PW X (.BoolOp .Or (y :: z :: ys) pos) (TVt Z Wx (evBT .Or (.cons e (.cons e2 es)))) :=
  (pw_or ha hb).imp fun σ H Q ⟨W, ls, h, lr, hr, t⟩ => by
    have t' : TriB Z (Wx σ) Q W H ((evT e ls h).bind fun kk h2 => match kk with | false => evBT .Or (.cons e2 es) ls h2 | true => .ok true h2) := by
      refine cast (congrArg _ ?_) t
      unfold evBT evT
      rw [show evB .Or (.cons e (.cons e2 es)) ls h = (evE e ls h).bind fun x h1 => (truD x h1).bind fun k h2 => match BoolOp.Or, k with | .And, true => evB .Or (.cons e2 es) ls h2 | .And, false => .ok (.bl false) h2 | .Or, true => .ok (.bl true) h2 | .Or, false => evB .Or (.cons e2 es) ls h2 from rfl, R.bind_assoc, R.bind_assoc]
      congr 1; funext x h1
      rw [R.bind_assoc]
      congr 1; funext b h2
      cases b <;> rfl
    exact step lr hr t' fun x H1 W1 d h1 g1 lr1 hr1 rx t1 => by
      subst rx
      cases d with
      | false => exact ⟨W1, ls, h1, lr1, hr1, t1⟩
      | true => exact t1.now hr1 rfl
/-! argument lists, displays -/
theorem a_nil : PA X [] (TVa Z Wx (evEs .nil)) := pa_nil.imp fun σ H Q ⟨W, ls, h, lr, hr, t⟩ => t.now hr rfl
theorem a_cons {e : E} {es : Es} {y : Expr} {ys : List Expr} (ha : PE X y (TVe Z Wx (evE e))) (hb : PA X ys (TVa Z Wx (evEs es))) (n : nStar y = true) : PA X (y :: ys) (TVa Z Wx (evEs (.cons e es))) :=
  (pa_cons ha hb (star_of n)).imp fun σ H Q ⟨W, ls, h, lr, hr, t⟩ => step lr hr t fun x H1 W1 d h1 g1 lr1 hr1 rx t1 => step lr1 hr1 t1 fun xs H2 W2 ds h2 g2 lr2 hr2 rxs t2 => t2.now hr2 ⟨x, xs, rfl, rx.mono g2, rxs⟩
theorem e_lst {c} {es : Es} {xs : List Expr} {pos : Pos} (ha : PA X xs (TVa Z Wx (evEs es))) : PE X (.List xs pos) (TVe Z Wx (evE (.lst c es))) :=
  (pe_lst ha).imp fun σ H Q ⟨W, ls, h, lr, hr, t⟩ => step lr hr t fun xs H1 W1 ds h1 g1 lr1 hr1 rx t1 => by
    by_cases hl : ds.length ≤ LIM
    · rw [if_pos hl] at t1
      exact ⟨by rw [← rx.length]; exact Nat.le_trans hl lim_le, fun p n => t1.newL hr1 rx n⟩
    · rw [if_neg hl] at t1; exact t1.elim
theorem e_tup {es : Es} {xs : List Expr} {j : Nat} {pos : Pos} (ha : PA X xs (TVa Z Wx (evEs es))) : PE X (.Tuple xs j pos) (TVe Z Wx (evE (.tup es))) :=
  (pe_tup ha).imp fun σ H Q ⟨W, ls, h, lr, hr, t⟩ => step lr hr t fun xs H1 W1 ds h1 g1 lr1 hr1 rx t1 => by
    by_cases hl : ds.length ≤ LIM
    · rw [if_pos hl] at t1
      exact ⟨by rw [← rx.length]; exact Nat.le_trans hl lim_le, fun p n => t1.newT hr1 rx n⟩
    · rw [if_neg hl] at t1; exact t1.elim
theorem e_idx {a i : E} {l r : Expr} {pos : Pos} (g : Gd Z Wx k X) (ha : PE X l (TVe Z Wx (evE a))) (hb : PE X r (TVe Z Wx (evE i))) (n : nSlc r = true) : PE X (.Subscript l r pos) (TVe Z Wx (evE (.idx a i))) :=
  (pe_ix (ix_D g.hK) ha hb (ix_of n)).imp fun σ H Q ⟨W, ls, h, lr, hr, t⟩ =>
    step lr hr t fun x H1 W1 d h1 g1 lr1 hr1 rx t1 => step lr1 hr1 t1 fun y H2 W2 d2 h2 g2 lr2 hr2 ry t2 => ⟨W2, h2, d, d2, rx.mono g2, ry, hr2, t2.noX idxD_nx⟩
theorem e_slU {c} {a hi : E} {l u : Expr} {p pos : Pos} (g : Gd Z Wx k X) (ha : PE X l (TVe Z Wx (evE a))) (hb : PE X u (TVe Z Wx (evE hi))) : PE X (.Subscript l (.Slice none (some u) none p) pos) (TVe Z Wx (evE (.slU c a hi))) :=
  (pe_slice (sl_D g.hK c) ha po_none (po_some hb)).imp fun σ H Q ⟨W, ls, h, lr, hr, t⟩ =>
    step lr hr t fun x H1 W1 d h1 g1 lr1 hr1 rx t1 => step lr1 hr1 t1 fun y H2 W2 d2 h2 g2 lr2 hr2 ry t2 => by
      cases d2 with
      | int j => exact ⟨j, ry, W2, h2, d, rx.mono g2, hr2, t2.noX slcD_nx⟩
      | _ => exact t2.elim
theorem e_slL {c} {a lo : E} {l u : Expr} {p pos : Pos} (g : Gd Z Wx k X) (ha : PE X l (TVe Z Wx (evE a))) (hb : PE X u (TVe Z Wx (evE lo))) : PE X (.Subscript l (.Slice (some u) none none p) pos) (TVe Z Wx (evE (.slL c a lo))) :=
  (pe_slice (sl_D g.hK c) ha (po_some hb) po_none).imp fun σ H Q ⟨W, ls, h, lr, hr, t⟩ =>
    step lr hr t fun x H1 W1 d h1 g1 lr1 hr1 rx t1 => step lr1 hr1 t1 fun y H2 W2 d2 h2 g2 lr2 hr2 ry t2 => by
      cases d2 with
      | int j => exact ⟨j, ry, W2, h2, d, rx.mono g2, hr2, t2.noX slcD_nx⟩
      | _ => exact t2.elim
theorem e_slB {c} {a lo hi : E} {l u v : Expr} {p pos : Pos} (g : Gd Z Wx k X) (ha : PE X l (TVe Z Wx (evE a))) (hb : PE X u (TVe Z Wx (evE lo))) (hc : PE X v (TVe Z Wx (evE hi))) : PE X (.Subscript l (.Slice (some u) (some v) none p) pos) (TVe Z Wx (evE (.slB c a lo hi))) :=
  (pe_slice (sl_D g.hK c) ha (po_some hb) (po_some hc)).imp fun σ H Q ⟨W, ls, h, lr, hr, t⟩ =>
    step lr hr t fun x H1 W1 d h1 g1 lr1 hr1 rx t1 => step lr1 hr1 t1 fun y H2 W2 d2 h2 g2 lr2 hr2 ry t2 => by
      cases d2 with
      | int i =>
        refine ⟨i, ry, ?_⟩
        exact step lr2 hr2 t2 fun z H3 W3 d3 h3 g3 lr3 hr3 rz t3 => by
          cases d3 with
          | int j => exact ⟨j, rz, W3, h3, d, (rx.mono g2).mono g3, hr3, t3.noX slcD_nx⟩
          | _ => exact t3.elim
      | _ => exact t2.elim
/-! calls -/
theorem evEs_len : ∀ (es : Es) {ls : Ls} {h : Hh} {ds : List D} {h' : Hh}, evEs es ls h = .ok ds h' → ds.length = es.len
  | .nil, ls, h, ds, h', e => by cases e; rfl
  | .cons e es, ls, h, ds, h', q => by
    have q : ((evE e ls h).bind fun x h1 => (evEs es ls h1).bind fun xs h2 => .ok (x :: xs) h2) = .ok ds h' := q
    cases q1 : evE e ls h with
    | bad => rw [q1] at q; cases q
    | exc c h1 => rw [q1] at q; cases q
    | ok x h1 =>
      rw [q1] at q
      have q : ((evEs es ls h1).bind fun xs h2 => .ok (x :: xs) h2) = .ok ds h' := q
      cases q2 : evEs es ls h1 with
      | bad => rw [q2] at q; cases q
      | exc c h2 => rw [q2] at q; cases q
      | ok ys h2 =>
        rw [q2] at q
        cases q
        simp [Es.len, evEs_len es q2]
theorem e_call {m : Md} {n : Str} {F : Fn} {es : Es} {xs : List Expr} {p pos : Pos} (g : Gd Z Wx k X) (A : FnA Z k X n F es.len) (hg : globB (ccOf X) n = true) (ha : PA X xs (TVa Z Wx (evEs es))) (hs : xs.all nStar = true) (hl : xs.length = es.len) :
    PE X (.Call (.Name n p) xs [] pos) (TVe Z Wx (evE (.call m n F es))) := by
  obtain ⟨f, fd, ps, hF, hn, hm, hk, hb⟩ := A
  obtain ⟨g1, g2⟩ := gl_of hg
  have core : ∀ σ H Q, TVe Z Wx (evE (.call m n F es)) σ H Q → tCallS (spF Z es.len F) (EX Z Wx) (fun σ H Q => TVa Z Wx (evEs es) σ H fun vs H1 => vs.length = es.len → Q vs H1) σ H Q := fun σ H Q ⟨W, ls, h, lr, hr, t⟩ =>
    step lr hr t fun vs H1 W1 ds h1 g1 lr1 hr1 rx t1 hlen => by
      obtain ⟨W2, es2, h2, r2, hr2, t2⟩ := call_M hr1 rx t1
      refine ⟨hlen, W2, h2, es2, r2, hr2, ?_⟩
      cases q : F es2 h2 with
      | ok d h' => rw [q] at t2; exact t2
      | exc c h' => rw [q] at t2; exact fun W' H' g' hr' hm C hC => ⟨c, C, hC, hm, rfl, rfl, t2 W' H' g' hr'⟩
      | bad => rw [q] at t2; exact t2
  -- as many values as there are arguments
  have hlen : PA X xs (fun σ H Q => TVa Z Wx (evEs es) σ H fun vs H1 => vs.length = es.len → Q vs H1) := by
    refine ha.imp fun σ H Q ⟨W, ls, h, lr, hr, t⟩ => ⟨W, ls, h, lr, hr, ?_⟩
    cases q : evEs es ls h with
    | ok ds h' =>
      rw [q] at t
      intro v W' H' g' hr' r'
      exact t v W' H' g' hr' r' (by rw [← r'.length]; exact evEs_len es q)
    | exc c h' => rw [q] at t; exact t
    | bad => rw [q] at t; exact t
  cases xs with
  | nil =>
    refine (pe_callG0 hF g.qt g.room g1 hm hk hb g.pass g2).imp fun σ H Q t => ?_
    obtain ⟨W, ls, h, lr, hr, t⟩ := t
    have hz : es.len = 0 := hl.symm
    cases es with
    | nil =>
      have t1 : TriD Z (Wx σ) Q W H (callM m F [] h) := t
      obtain ⟨W2, es2, h2, r2, hr2, t2⟩ := call_M (ds := []) (vs := []) hr (show RelDs Z W H [] [] from rfl) t1
      refine ⟨rfl, W2, h2, es2, r2, hr2, ?_⟩
      cases q : F es2 h2 with
      | ok d h' => rw [q] at t2; exact t2
      | exc c h' => rw [q] at t2; exact fun W' H' g' hr' hm C hC => ⟨c, C, hC, hm, rfl, rfl, t2 W' H' g' hr'⟩
      | bad => rw [q] at t2; exact t2
    | cons e es => simp [Es.len] at hz
  | cons y ys =>
    simp only [List.all_cons, Bool.and_eq_true] at hs
    exact (pe_callG hF g.qt g.room g1 hm hk hb g.pass hlen g2 (star_of hs.1) (star_all hs.2)).imp core
end
end Tb
namespace Tb
open PySem PySem.Spec PyProof.Rows L2
section
variable {X : Cx} {Z : Zn} {Wx : L2.St → Str → Hp → Prop} {k : Nat}
theorem c_bi (g : Gd Z Wx k X) (b : Bi) (c : Bool) : CallR X (if b.isTy then .type b.nm else .builtin b.nm) (rC Z (biD b c)) := by
  cases b
  · exact c_len g.hK c
  · exact c_abs c
  · exact c_min g.hK g.calm c
  · exact c_max g.hK g.calm (by have := g.units; omega) c
  · exact c_sum g.hK g.calm c
  · exact c_sorted g.hK c
  · exact c_int c
  · exact c_str c
  · exact c_list g.hK c
  · exact c_tuple g.hK c
  · exact c_repr g.hK g.sys g.qt (by have := g.units; omega) c
  · exact c_dict g.hK g.calm c
theorem e_bi {b : Bi} {c : Bool} {es : Es} {xs : List Expr} {p pos : Pos} (g : Gd Z Wx k X) (hg : globB (ccOf X) (b.nm : Str) = true) (he : xs ≠ []) (hs : xs.all nStar = true) (ha : PA X xs (TVa Z Wx (evEs es))) :
    PE X (.Call (.Name (b.nm : Str) p) xs [] pos) (TVe Z Wx (evE (.bi b c es))) := by
  obtain ⟨g1, g2⟩ := gl_of hg
  obtain ⟨b1, b2, b3⟩ := bi_of b
  have core : ∀ σ H Q, TVe Z Wx (evE (.bi b c es)) σ H Q → tCB (rC Z (biD b c)) (TVa Z Wx (evEs es)) σ H Q := fun σ H Q ⟨W, ls, h, lr, hr, t⟩ =>
    step lr hr t fun vs H1 W1 ds h1 g1 lr1 hr1 rx t1 => ⟨W1, h1, ds, rx, hr1, t1.noX biD_nx⟩
  cases xs with
  | nil => exact absurd rfl he
  | cons y ys =>
    simp only [List.all_cons, Bool.and_eq_true] at hs
    have cb := c_bi g b c
    cases hb : b.isTy with
    | true =>
      rw [hb] at cb b1
      exact (pe_callTy cb g1 (g.free _ b2) b1 ha b3 g2 (star_of hs.1) (star_all hs.2)).imp core
    | false =>
      rw [hb] at cb b1
      exact (pe_callB cb g1 (g.free _ b2) b1 ha b3 g2 (star_of hs.1) (star_all hs.2)).imp core
theorem e_isi {a b : E} {l r : Expr} {p pos : Pos} (g : Gd Z Wx k X) (hg : globB (ccOf X) ("isinstance" : Str) = true) (s1 : nStar l = true) (s2 : nStar r = true) (ha : PE X l (TVe Z Wx (evE a))) (hb : PE X r (TVe Z Wx (evE b))) :
    PE X (.Call (.Name ("isinstance" : Str) p) [l, r] [] pos) (TVe Z Wx (evE (.isi a b))) := by
  obtain ⟨g1, g2⟩ := gl_of hg
  refine (pe_callB (c_isi g.hK) g1 (g.free _ (by decide +kernel)) (by decide +kernel) (pa_cons ha (pa_cons hb pa_nil (star_of s2)) (star_of s1)) (by decide +kernel) g2 (star_of s1) (star_all (by simp [s2]))).imp fun σ H Q ⟨W, ls, h, lr, hr, t⟩ => ?_
  exact step lr hr t fun x H1 W1 d h1 g1 lr1 hr1 rx t1 => step lr1 hr1 t1 fun y H2 W2 d2 h2 g2 lr2 hr2 ry t2 => ⟨W2, h2, [d, d2], ⟨x, [y], rfl, rx.mono g2, y, [], rfl, ry, rfl⟩, hr2, t2.noX ofB_nx⟩
/-! methods -/
def Me.ty (m : Me) : String := if m.isStr then "str" else "list"
theorem me_of (m : Me) : PlainAttrs m.ty ∧ Slot m.ty (m.nm : Str) m.id ∧ typeOf (.builtin m.id) = pure (.type "method_descriptor") := by
  cases m
  · exact ⟨PySem.F.plainAttrs_list, PySem.F.slot_list_append, PySem.F.type_list_append⟩
  · exact ⟨PySem.F.plainAttrs_list, PySem.F.slot_list_pop, PySem.F.type_list_pop⟩
  · exact ⟨PySem.F.plainAttrs_list, PySem.F.slot_list_extend, PySem.F.type_list_extend⟩
  · exact ⟨PySem.F.plainAttrs_list, PySem.F.slot_list_insert, PySem.F.type_list_insert⟩
  · exact ⟨PySem.F.plainAttrs_list, PySem.F.slot_list_clear, PySem.F.type_list_clear⟩
  · exact ⟨PySem.F.plainAttrs_list, PySem.F.slot_list_reverse, PySem.F.type_list_reverse⟩
  · exact ⟨PySem.F.plainAttrs_list, PySem.F.slot_list_count, PySem.F.type_list_count⟩
  · exact ⟨PySem.F.plainAttrs_list, PySem.F.slot_list_index, PySem.F.type_list_index⟩
  · exact ⟨PySem.F.plainAttrs_list, PySem.F.slot_list_remove, PySem.F.type_list_remove⟩
  · exact ⟨PySem.F.plainAttrs_str, PySem.F.slot_str_join, PySem.F.type_str_join⟩
  · exact ⟨PySem.F.plainAttrs_str, PySem.F.slot_str_split, PySem.F.type_str_split⟩
  · exact ⟨PySem.F.plainAttrs_str, PySem.F.slot_str_partition, PySem.F.type_str_partition⟩
theorem m_of (g : Gd Z Wx k X) (m : Me) (c : Bool) : MtR X m.id (rM Z (meD m c)) := by
  cases m
  · exact m_append c
  · exact m_pop c
  · exact m_extend c
  · exact m_insert c
  · exact m_clear c
  · exact m_reverse c
  · exact m_count g.hK c
  · exact m_index g.hK g.units c
  · exact m_remove c
  · exact m_join g.hK c
  · exact m_split c
  · exact m_partition c
theorem okR_ty {W H h} {m : Me} {d : D} {x : V} (hK : X.K = Z.K) (hr : HRel Z W H h) (r : RelD Z W H d x) (o : m.okR h d = true) : tyV X.K m.ty x H := by
  unfold Me.okR at o
  unfold Me.ty
  cases hm : m.isStr with
  | true =>
    simp only [hm, if_true] at o ⊢
    cases d with
    | str z => cases r; rfl
    | _ => cases o
  | false =>
    simp only [hm, Bool.false_eq_true, if_false] at o ⊢
    cases q : asL h d with
    | none => rw [q] at o; cases o
    | some xs =>
      obtain ⟨a, vs, e, s, _⟩ := asL_sq hr r q
      subst e
      rw [← hK] at s
      exact .inl ⟨rfl, vs, s⟩
theorem e_me {m : Me} {c : Bool} {a : E} {es : Es} {o : Expr} {xs : List Expr} {ap cp : Pos} (g : Gd Z Wx k X) (hb : nC0 o = true) (hline : (ap.endLine == cp.line) = true) (hl : xs.length < 4) (hs : xs.all nStar = true) (ho : PE X o (TVe Z Wx (evE a))) (hes : xs.length = es.len) (ha : PA X xs (TVa Z Wx (evEs es))) :
    PE X (.Call (.Attribute o (m.nm : Str) ap) xs [] cp) (TVe Z Wx (evE (.me m c a es))) := by
  obtain ⟨p1, p2, p3⟩ := me_of m
  cases xs with
  | nil =>
    refine (pe_bm0 p1 p2 p3 (m_of g m c) ho (base_of hb) hline).imp fun σ H Q ⟨W, ls, h, lr, hr, t⟩ => ?_
    exact step lr hr t fun x H1 W1 d h1 g1 lr1 hr1 rx t1 => by
      by_cases ok : m.okR h1 d = true
      · rw [if_pos ok] at t1
        have he : es = .nil := by cases es with
          | nil => rfl
          | cons e es => simp [Es.len] at hes
        subst he
        exact ⟨okR_ty g.hK hr1 rx ok, W1, h1, d, [], rx, rfl, hr1, Tri.noX meD_nx t1⟩
      · rw [if_neg ok] at t1; exact t1.elim
  | cons y ys =>
    simp only [List.all_cons, Bool.and_eq_true] at hs
    have few : ((backTo cp (starEach (y :: ys) X.env)).all (fun x => !x.1) && (backToKw cp (keywordEach [] X.env)).all (fun x => x.1.isSome) && decide ((y :: ys).length + ([] : List Keyword).length + (if ([] : List Keyword).isEmpty then 0 else 1) < 30)) = true := by
      have z : ((backTo cp (starEach (y :: ys) X.env)).all (fun x => !x.1)) = true := by
        have q := star_all (pos := cp) (env := X.env) (es := y :: ys) (by simp [hs.1]; simpa using hs.2)
        rw [List.all_eq_not_any_not]
        simpa using q
      rw [z]
      have l2 : (y :: ys).length + ([] : List Keyword).length + (if ([] : List Keyword).isEmpty then 0 else 1) < 30 := by
        have : (if ([] : List Keyword).isEmpty then 0 else 1 : Nat) = 0 := rfl
        rw [this]
        simp only [List.length_nil]
        omega
      rw [decide_eq_true l2]
      rfl
    refine (pe_bm p1 p2 p3 (m_of g m c) ho ha (base_of hb) few hline (star_of hs.1) (star_all hs.2)).imp fun σ H Q ⟨W, ls, h, lr, hr, t⟩ => ?_
    exact step lr hr t fun x H1 W1 d h1 g1 lr1 hr1 rx t1 => by
      by_cases ok : m.okR h1 d = true
      · rw [if_pos ok] at t1
        exact ⟨okR_ty g.hK hr1 rx ok, step lr1 hr1 t1 fun vs H2 W2 ds h2 g2 lr2 hr2 rvs t2 => ⟨W2, h2, d, ds, rx.mono g2, rvs, hr2, t2.noX meD_nx⟩⟩
      · rw [if_neg ok] at t1; exact t1.elim
theorem e_rvl {c : Bool} {a : E} {l : Expr} {j : Nat} {p1 p2 p3 pos : Pos} (g : Gd Z Wx k X) (ha : PE X l (TVe Z Wx (evE a))) : PE X (.Subscript l (.Slice none none (some (.UnaryOp .USub (.Constant (.int 1) j p1) p2)) p3) pos) (TVe Z Wx (evE (.rvl c a))) :=
  (pe_revL ha).imp fun σ H Q ⟨W, ls, h, lr, hr, t⟩ => step lr hr t fun x H1 W1 d h1 g1 lr1 hr1 rx t1 => by
    have t1 : TriD Z (Wx σ) Q W1 H1 (revL c (asL h1 d) h1) := t1
    cases q : asL h1 d with
    | none => rw [q] at t1; exact t1.elim
    | some xs =>
      rw [q] at t1
      obtain ⟨a, vs, e, sq, rs⟩ := asL_sq hr1 rx q
      exact ⟨a, vs, e, by rw [g.hK]; exact sq, fun p n => Tri.newL t1 hr1 rs.reverse n⟩
theorem intsL_eq : ∀ {ds : List D} {ns : List Int}, intsL ds = some ns → ds = ns.map .int
  | [], ns, e => by cases e; rfl
  | d :: ds, ns, e => by
    cases d <;> simp only [intsL] at e <;> try (cases e; done)
    cases q : intsL ds with
    | none => rw [q] at e; cases e
    | some r => rw [q] at e; cases e; rw [intsL_eq q]; rfl
theorem first_dst (ns : List Int) : PyProof.Rows.firstMet (fun i => ns.getD i 0) ns.length = dstI ns := by
  have e : (List.range ns.length).map (fun i => ns.getD i 0) = ns := by
    apply List.ext_getElem
    · simp
    · intro i h1 h2
      simp [List.getD_eq_getElem?_getD, List.getElem?_eq_getElem h2]
  unfold PyProof.Rows.firstMet dstI
  rw [e]
def tLS (K : PySem.W.Frag) (ta : TE) : TE := fun σ H Q => ta σ H fun x H1 => ∃ (l : Addr) (ns : List Int), x = .ref l ∧ SqL K H1 l (ns.map V.int) ∧ ns.length ≤ 4000 ∧ Q (.int ((dstI ns).length : Nat)) H1
/-- how many unlike ones -/
theorem pe_ls {a : Expr} {ta : TE} {p p2 q pos : Pos} (hg : Gl X "len") (hm : X.mg "len" = none) (hg2 : Gl X "set") (hm2 : X.mg "set" = none) (ha : PE X a ta) (hc : X.calm = true) (na : starEach [a] X.env = (false, eval a X.env) :: starEach [] X.env) :
    PE X (.Call (.Name "len" p) [.Call (.Name "set" p2) [a] [] q] [] pos) (tLS X.K ta) where
  run := by
    intro pins s σ H Q I h
    refine Call_ (ld_blt I hg hm PySem.boot_len (PyProof.Rows.callWith_builtin1 (PyProof.Rows.args_cons (Call_ (ld_blt I hg2 hm2 PyProof.Rows.boot_set ?_)) rfl) rfl rfl))
    refine PyProof.Rows.callWith_type1 (PyProof.Rows.args_cons (thn (ha.run pins s σ H _ I h) fun v s1 ⟨x, H1, I1, r1, l, ns, ex, hq, hl, q1⟩ => PyProof.Rows.args_nil ?_) na) na rfl
    subst ex
    cases r1
    obtain ⟨its, r, pl, hz⟩ := I1.list hq
    have hlen : its.toArray.size = ns.length := by rw [List.size_toArray, ← r.length, List.length_map]
    refine call_set_list (I1.ok.hd hc) pl.isList (by simpa using intsAre_of r) (by rw [hlen]; unfold scanBound; omega) fun h' tk hS hk => PyProof.Rows.args_nil ?_
    rw [hlen, first_dst] at hS
    obtain ⟨o, es, ep, t, ho, hex, hd, _, _, _, hf, hn⟩ := hS
    have I2 : Inv X pins σ H1 { s1 with heap := h', toks := tk } := I1.kept fun b o e => hk b o (Heap.lt_size e) e
    have hb : (dstI ns).length ≤ ns.length := by rw [← first_dst]; exact PyProof.Rows.firstMet_length_le _ _
    exact call_len_set ho hex hd hf (by rw [hn] <;> omega) ⟨.int ((dstI ns).length : Nat), H1, I2.tok _, ⟨_, by rw [hn]⟩, q1⟩
theorem e_lset {a : E} {y : Expr} {p p2 q pos : Pos} (g : Gd Z Wx k X) (hg : globB (ccOf X) ("len" : Str) = true) (hg2 : globB (ccOf X) ("set" : Str) = true) (n : nStar y = true) (ha : PE X y (TVe Z Wx (evE a))) : PE X (.Call (.Name ("len" : Str) p) [.Call (.Name ("set" : Str) p2) [y] [] q] [] pos) (TVe Z Wx (evE (.lset a))) :=
  (pe_ls (gl_of hg).1 (g.free _ (by decide +kernel)) (gl_of hg2).1 (g.free _ (by decide +kernel)) ha g.calm (star_of n)).imp fun σ H Q ⟨W, ls, h, lr, hr, t⟩ => step lr hr t fun x H1 W1 d h1 g1 lr1 hr1 rx t1 => by
    have t1 : TriD Z (Wx σ) Q W1 H1 (lsetD d h1) := t1
    unfold lsetD at t1
    cases q : asL h1 d with
    | none => rw [q] at t1; exact t1.elim
    | some xs =>
      rw [q] at t1
      cases q2 : intsL xs with
      | none => simp only [Option.bind_some, q2] at t1; exact t1.elim
      | some ns =>
        simp only [Option.bind_some, q2] at t1
        obtain ⟨a, vs, e, sq, rs⟩ := asL_sq hr1 rx q
        rw [intsL_eq q2] at rs
        rw [RelDs.ints.mp rs] at sq
        by_cases hl : ns.length ≤ 4000
        · rw [if_pos hl] at t1
          exact ⟨a, ns, e, by rw [g.hK]; exact sq, hl, t1.now hr1 rfl⟩
        · rw [if_neg hl] at t1; exact t1.elim
theorem mkB_ok {K : PySem.W.Frag} {C : Addr} (h : mkB K C = true) : PySem.W.excIn K C [.type "ValueError", .type "Exception", .type "BaseException", .type "object"] "ValueError.__new__" = true ∧ PySem.W.keepIn K (.ref C) = true ∧ PySem.W.findIn K (.ref C) "__str__" = some (some (.builtin "BaseException.__str__")) ∧ PySem.W.subIn K (.ref C) (.type "BaseException") = some true := by
  unfold mkB at h
  simp only [Bool.and_eq_true, decide_eq_true_eq] at h
  exact ⟨h.1.1.1, h.1.1.2, h.1.2, h.2⟩
/-- the text of an exception that was just made of a text -/
theorem pe_strx {C : Addr} {x : Str} {e : Expr} {ta : TE} {p p2 q pos : Pos} (hg : Gl X "str") (hm : X.mg "str" = none) (mk : mkB X.K C = true) (gC : X.mg x = some (.ref C)) (hgx : Gl X x) (hdb : (x == ("__debug__" : Str)) = false) (he : PE X e ta) (hu : X.A.units + 64 < cLine) (hs : starEach [e] X.env = (false, eval e X.env) :: starEach [] X.env) :
    PE X (.Call (.Name "str" p) [.Call (.Name x p2) [e] [] q] [] pos) (fun σ H Q => ta σ H fun v H1 => ∃ m, v = .str m ∧ Q (.str m) H1) where
  run := by
    intro pins s σ H Q I h
    obtain ⟨qx, kC, fS, sB⟩ := mkB_ok mk
    refine Call_ (ld_blt I hg hm PyProof.Rows.boot_str ?_)
    refine PyProof.Rows.callWith_type1 (PyProof.Rows.args_cons ?_ rfl) rfl rfl
    refine wpAny_Call_Name_kw (ld_glob I hgx gC ?_ hdb)
    refine PySem.W.callWith_K (h₀ := X.base) I.ok.mod.kin kC ?_ hs (by rfl)
    rw [hs]
    show wpAny _ _ (spliced ((false, eval e X.env) :: backTo q (starEach [] X.env))) _ _ s
    refine Calls.spliced_cons (thn (he.run pins s σ H _ I h) fun u s1 ⟨v, H1, I1, r1, m, em, q1⟩ => ?_)
    subst em
    obtain ⟨tk, rfl⟩ := r1
    refine Calls.spliced_nil ⟨I1.kIn, ?_⟩
    show wpAny _ _ (call (.ref C) [.str m tk]) _ _ _
    obtain ⟨bm, N, nm, qn, bs, hdct, sn, sub, ab, col, dd, k0, k1, k2, k3, k5, mN, hC, hN, hni, T⟩ := exc_obj I1.kIn qx
    refine wpAny_call_exc_subT PySem.F.excBase_ValueError T hC hN hni (fun h' a hmd => ?_) (by show 1 ≤ sizeLine; rw [sizeLine_eq]; omega)
    obtain ⟨t, ht, _, ht2⟩ := hmd.there
    have I2 : Inv X pins σ H1 { s1 with heap := h' } := I1.kept fun b o e => hmd.keeps b o e
    refine PyProof.Rows.args_nil ?_
    refine PySem.P.str_of_C_one (K := X.K) (C := C) (e := a) (t0 := t) (by omega) ⟨I2.kIn, _, _, ht, rfl, rfl, rfl⟩ ⟨_, _, ht2, rfl, rfl⟩ fS sB ?_
    exact ⟨.str m, H1, I2, ⟨_, rfl⟩, q1⟩
theorem e_strx {a : E} {n : Str} {y : Expr} {p p2 q pos : Pos} (g : Gd Z Wx k X) (hg : globB (ccOf X) ("str" : Str) = true) (hg2 : globB (ccOf X) n = true) (hn : nStar y = true) (A : GloA Z X n (.cls n)) (ha : PE X y (TVe Z Wx (evE a))) : PE X (.Call (.Name ("str" : Str) p) [.Call (.Name n p2) [y] [] q] [] pos) (TVe Z Wx (evE (.strx n a))) := by
  obtain ⟨u, v, m1, r1, rd⟩ := A
  obtain ⟨C, e1, _, _, mk⟩ := rd ⟨[], fun _ => False⟩ (fun _ => none)
  subst e1
  cases r1
  refine (pe_strx (gl_of hg).1 (g.free _ (by decide +kernel)) (by rw [g.hK]; exact mk) m1 (gl_of hg2).1 (gl_of hg2).2 ha (by have := g.units; omega) (star_of hn)).imp fun σ H Q ⟨W, ls, h, lr, hr, t⟩ => step lr hr t fun x H1 W1 d h1 g1 lr1 hr1 rx t1 => by
    have t1 : TriD Z (Wx σ) Q W1 H1 (strxD d h1) := t1
    cases d with
    | str s => exact ⟨s, rx, t1.now hr1 rfl⟩
    | _ => exact t1.elim
theorem rel_rg {W H} (a b : Int) : RelDs Z W H (rngL a 1 (b - a).toNat) (rgV a b) := by
  have go : ∀ (n : Nat) (a : Int), RelDs Z W H (rngL a 1 n) ((List.range n).map fun (i : Nat) => V.int (a + i)) := by
    intro n
    induction n with
    | zero => intro a; rfl
    | succ n ih =>
      intro a
      rw [List.range_succ_eq_map]
      refine ⟨V.int a, (List.range n).map fun (i : Nat) => V.int (a + 1 + i), ?_, rfl, ih (a + 1)⟩
      rw [List.map_cons, List.map_map]
      congr 1
      · simp
      · apply List.map_congr_left
        intro i _
        show V.int (a + ((i + 1 : Nat) : Int)) = V.int _
        congr 1
        omega
  exact go _ _
theorem e_lrg {c : Bool} {a b : E} {y z : Expr} {p p2 q pos : Pos} (g : Gd Z Wx k X) (hg : globB (ccOf X) ("list" : Str) = true) (hg2 : globB (ccOf X) ("range" : Str) = true) (n : nStar y = true) (n2 : nStar z = true) (ha : PE X y (TVe Z Wx (evE a))) (hb : PE X z (TVe Z Wx (evE b))) :
    PE X (.Call (.Name ("list" : Str) p) [.Call (.Name ("range" : Str) p2) [y, z] [] q] [] pos) (TVe Z Wx (evE (.lrg c a b))) :=
  (pe_listRg g.calm (gl_of hg).1 (g.free _ (by decide +kernel)) (prg_2 (gl_of hg2).1 (g.free _ (by decide +kernel)) ha hb (star_of n) (star_of n2) (star_all (by simp [n2]))) rfl).imp fun σ H Q ⟨W, ls, h, lr, hr, t⟩ => step lr hr t fun x H1 W1 d h1 g1 lr1 hr1 rx t1 => step lr1 hr1 t1 fun y H2 W2 d2 h2 g2 lr2 hr2 ry t2 => by
    have t2 : TriD Z (Wx σ) Q W2 H2 (lrgD c d d2 h2) := t2
    cases d with
    | int i =>
      cases d2 with
      | int j =>
        have t2 : TriD Z (Wx σ) Q W2 H2 (if smallR i = true ∧ smallR j = true ∧ (j - i).toNat ≤ LIM then mkL c (rngL i 1 (j - i).toNat) h2 else .bad) := t2
        by_cases hs : smallR i = true ∧ smallR j = true ∧ (j - i).toNat ≤ LIM
        · rw [if_pos hs] at t2
          have s1 : -1000000000000 ≤ i ∧ i ≤ 1000000000000 := by have := Nat.le_of_ble_eq_true hs.1; omega
          have s2 : -1000000000000 ≤ j ∧ j ≤ 1000000000000 := by have := Nat.le_of_ble_eq_true hs.2.1; omega
          have s3 : (j - i).toNat ≤ 1000000 := hs.2.2
          exact ⟨i, j, rx, ry, ⟨by omega, by omega, by omega, by omega, by omega⟩, fun p n => Tri.newL t2 hr2 (rel_rg i j) n⟩
        · rw [if_neg hs] at t2; exact t2.elim
      | _ => exact t2.elim
    | _ => cases d2 <;> exact t2.elim
theorem e_lrg1 {c : Bool} {b : E} {z : Expr} {p p2 q pos : Pos} (g : Gd Z Wx k X) (hg : globB (ccOf X) ("list" : Str) = true) (hg2 : globB (ccOf X) ("range" : Str) = true) (n2 : nStar z = true) (hb : PE X z (TVe Z Wx (evE b))) :
    PE X (.Call (.Name ("list" : Str) p) [.Call (.Name ("range" : Str) p2) [z] [] q] [] pos) (TVe Z Wx (evE (.lrg c (.int 0) b))) :=
  (pe_listRg g.calm (gl_of hg).1 (g.free _ (by decide +kernel)) (prg_1 (gl_of hg2).1 (g.free _ (by decide +kernel)) hb (star_of n2)) rfl).imp fun σ H Q ⟨W, ls, h, lr, hr, t⟩ => step (f := evE b) (g := fun y h2 => lrgD c (.int 0) y h2) lr hr t fun y H2 W2 d2 h2 g2 lr2 hr2 ry t2 => by
    have t2 : TriD Z (Wx σ) Q W2 H2 (lrgD c (.int 0) d2 h2) := t2
    cases d2 with
    | int j =>
      have t2 : TriD Z (Wx σ) Q W2 H2 (if smallR 0 = true ∧ smallR j = true ∧ (j - 0).toNat ≤ LIM then mkL c (rngL 0 1 (j - 0).toNat) h2 else .bad) := t2
      by_cases hs : smallR 0 = true ∧ smallR j = true ∧ (j - 0).toNat ≤ LIM
      · rw [if_pos hs] at t2
        have s2 : -1000000000000 ≤ j ∧ j ≤ 1000000000000 := by have := Nat.le_of_ble_eq_true hs.2.1; omega
        have s3 : (j - 0).toNat ≤ 1000000 := hs.2.2
        exact ⟨j, ry, ⟨by omega, by omega, by omega, by omega, by omega⟩, fun p n => Tri.newL t2 hr2 (rel_rg 0 j) n⟩
      · rw [if_neg hs] at t2; exact t2.elim
    | _ => exact t2.elim
/-! ### targets -/
theorem LRel.put {W H} {ls : Ls} {σ : L2.St} {i : Nat} {d : D} {v : V} (lr : LRel Z W H ls σ) (r : RelD Z W H d v) : LRel Z W H (ls.set i (some d)) (σ.set i (some v)) := by
  refine ⟨by simp [lr.1], fun j e q => ?_⟩
  by_cases hj : i = j
  · subst hj
    have hi : i < ls.length := by
      have := (List.getElem?_eq_some_iff.mp q).1
      simpa using this
    rw [List.getElem?_set_self hi] at q
    cases q
    exact ⟨v, by rw [List.getElem?_set_self (by rw [← lr.1]; exact hi)], r⟩
  · rw [List.getElem?_set_ne hj] at q
    obtain ⟨w, e1, r1⟩ := lr.2 j e q
    exact ⟨w, by rw [List.getElem?_set_ne hj]; exact e1, r1⟩
/-- a target stores -/
def TGv (Z : Zn) (tg : Tg) : TG := fun v σ H Q => ∃ W d ls l2, LRel Z W H ls σ ∧ RelD Z W H d v ∧ asgT tg d ls = some l2 ∧ ∀ σ2, LRel Z W H l2 σ2 → (∀ own : List Nat, tg.inB own = true → wipe σ2 own = wipe σ own) → Q σ2 H
theorem wipe_set {σ : L2.St} {i : Nat} {v : Option V} : ∀ {own : List Nat}, own.contains i = true → wipe (σ.set i v) own = wipe σ own
  | [], h => by simp at h
  | j :: own, h => by
    unfold wipe
    by_cases hj : i = j
    · subst hj
      by_cases ho : own.contains i = true
      · rw [wipe_set ho]
      · have : ∀ own : List Nat, (wipe (σ.set i v) own).set i none = (wipe σ own).set i none := by
          intro own
          induction own with
          | nil => simp [wipe]
          | cons j own ih =>
            unfold wipe
            by_cases hj : j = i
            · subst hj; simp only [List.set_set]; exact ih
            · rw [List.set_comm _ _ hj, ih, List.set_comm _ _ (Ne.symm hj)]
        exact this own
    · have ho : own.contains i = true := by
        simp only [List.contains_cons, Bool.or_eq_true, beq_iff_eq] at h
        rcases h with h | h
        · exact absurd h hj
        · exact h
      rw [wipe_set ho]
theorem PG_imp {e : Expr} {t t' : TG} (h : PG X e t) (i : ∀ v σ H Q, t' v σ H Q → t v σ H Q) : PG X e t' := ⟨fun pins s σ H v u Q I r q => h.run pins s σ H v u Q I r (i v σ H Q q)⟩
theorem PGs_imp {e : List Expr} {t t' : TGs} (h : PGs X e t) (i : ∀ v σ H Q, t' v σ H Q → t v σ H Q) : PGs X e t' := ⟨fun pins s σ H v u Q I r q => h.run pins s σ H v u Q I r (i v σ H Q q)⟩
def TGsv (Z : Zn) (is : List Nat) : TGs := fun vs σ H Q => ∃ W ds ls l2, LRel Z W H ls σ ∧ RelDs Z W H ds vs ∧ setNs is ds ls = some l2 ∧ ∀ σ2, LRel Z W H l2 σ2 → (∀ own : List Nat, (is.all fun k => own.contains k) = true → wipe σ2 own = wipe σ own) → Q σ2 H
theorem g_list (hN : X.N.Nodup) : ∀ {is : List Nat} {es : List Expr}, okTg1 (ccOf X) is es = true → PGs X es (TGsv Z is) ∧ es.length = is.length ∧ (es.all fun e => match e with | .Name _ _ => true | _ => false) = true
  | [], [], _ => by
    refine ⟨PGs_imp pgs_nil fun vs σ H Q ⟨W, ds, ls, l2, lr, r, e, k⟩ => ?_, rfl, rfl⟩
    cases ds with
    | nil =>
      have r : vs = [] := r
      cases e
      exact ⟨r, k σ lr fun _ _ => rfl⟩
    | cons d ds => cases e
  | [], _ :: _, h => by simp [okTg1] at h
  | i :: is, [], h => by simp [okTg1] at h
  | i :: is, e :: es, h => by
    cases e <;> simp only [okTg1, Bool.false_eq_true, Bool.and_eq_true] at h
    obtain ⟨h1, h2⟩ := h
    obtain ⟨p1, p2, p3⟩ := put_of h1
    obtain ⟨q1, q2, q3⟩ := g_list hN h2
    refine ⟨PGs_imp (pgs_cons (pg_name hN p1 p2 p3) q1) fun vs σ H Q ⟨W, ds, ls, l2, lr, r, e, k⟩ => ?_, by simp [q2], by simp [q3]⟩
    cases ds with
    | nil => cases e
    | cons d ds =>
      obtain ⟨v, rest, e1, rv, rr⟩ := r
      refine ⟨v, rest, e1, ?_⟩
      unfold setNs setN at e
      by_cases hi : i < ls.length
      · simp only [hi, if_true, Option.bind_some] at e
        refine ⟨W, ds, ls.set i (some d), l2, lr.put rv, rr, e, fun σ2 l kk => k σ2 l fun own ho => ?_⟩
        simp only [List.all_cons, Bool.and_eq_true] at ho
        rw [kk own ho.2, wipe_set ho.1]
      · simp only [hi, if_false] at e
        cases e
theorem names_each {env : Env} : ∀ {es : List Expr}, (es.all fun e => match e with | .Name _ _ => true | _ => false) = true → (assignEach es env).length = es.length ∧ (assignEach es env).findIdx? (·.1) = none
  | [], _ => ⟨rfl, rfl⟩
  | e :: es, h => by
    cases e <;> simp only [List.all_cons, Bool.false_and, Bool.true_and, Bool.false_eq_true] at h
    obtain ⟨h1, h2⟩ := names_each (env := env) h
    rename_i x p
    have q : assignEach (.Name x p :: es) env = (false, assign (.Name x p) env) :: assignEach es env := rfl
    refine ⟨by rw [q, List.length_cons, List.length_cons, h1], ?_⟩
    rw [q, List.findIdx?_cons, h2]
    rfl
theorem g_tg (hK : X.K = Z.K) (hc : X.calm = true) (hN : X.N.Nodup) {tg : Tg} {e : Expr} (h : okTg (ccOf X) tg e = true) : PG X e (TGv Z tg) := by
  cases tg with
  | nm i =>
    cases e <;> simp only [okTg, Bool.false_eq_true] at h
    obtain ⟨p1, p2, p3⟩ := put_of h
    refine PG_imp (pg_name hN p1 p2 p3) fun v σ H Q ⟨W, d, ls, l2, lr, r, e, k⟩ => ?_
    unfold asgT setN at e
    by_cases hi : i < ls.length
    · simp only [hi, if_true, Option.some.injEq] at e
      subst e
      exact k _ (lr.put r) fun own ho => wipe_set ho
    · simp [hi] at e
  | tp is =>
    cases e <;> simp only [okTg, Bool.false_eq_true] at h
    rename_i es kk pos
    obtain ⟨q1, q2, q3⟩ := g_list (Z := Z) hN h
    obtain ⟨n1, n2⟩ := names_each (env := X.env) q3
    have both : PG X (.Tuple es kk pos) (fun v σ H Q => gTup X.K es.length (TGsv Z is) v σ H Q ∨ gLst X.K es.length (TGsv Z is) v σ H Q) := ⟨fun pins s σ H v u Q I r hw => by
      rcases hw with h | h
      · exact (pg_tup hc q1 n1 n2).run pins s σ H v u Q I r h
      · exact (pg_lst hc q1 n1 n2).run pins s σ H v u Q I r h⟩
    refine PG_imp both fun v σ H Q ⟨W, d, ls, l2, lr, r, e, k⟩ => ?_
    unfold asgT at e
    have go : ∀ (is : List Nat) (ds : List D) (ls l2 : Ls), setNs is ds ls = some l2 → ds.length = is.length := by
      intro is
      induction is with
      | nil => intro ds ls l2 e; cases ds with
        | nil => rfl
        | cons d ds => cases e
      | cons i is ih => intro ds ls l2 e; cases ds with
        | nil => cases e
        | cons d ds =>
          unfold setNs at e
          cases q : setN i d ls with
          | none => rw [q] at e; cases e
          | some l1 => rw [q] at e; simp [ih ds l1 l2 e]
    cases d with
    | tup ds =>
      obtain ⟨a, vs, e1, f, rr⟩ := r
      have hl := go is ds ls l2 e
      exact .inl ⟨a, vs, e1, hK ▸ f.sq, by rw [← rr.length, hl, q2], W, ds, ls, l2, lr, rr, e, k⟩
    | lst ds =>
      obtain ⟨a, vs, e1, f, rr⟩ := r
      have hl := go is ds ls l2 e
      exact .inr ⟨a, vs, e1, f.sq, by rw [← rr.length, hl, q2], W, ds, ls, l2, lr, rr, e, k⟩
    | _ => cases e
/-! dicts that change -/
theorem keyD_rel {d : D} {k : Key} {v : V} {W H} (e : keyD d = some k) (r : RelD Z W H d v) : v = kV k := by
  cases d with
  | int i => cases e; exact r
  | str x => cases e; exact r
  | _ => cases e
theorem keyV_rel {k : Key} {W H} : RelD Z W H (keyV k) (kV k) := by cases k <;> rfl
theorem valD_rel {W H} {kd : Key} : ∀ {kvs : List (Key × D)} {vs : List (Key × V)}, RelKs Z W H kvs vs → (∀ d, valD kvs kd = some d → ∃ v, valV vs kd = some v ∧ RelD Z W H d v) ∧ (valV vs kd).isSome = (valD kvs kd).isSome
  | [], _, r => by rw [show _ = [] from r]; exact ⟨fun d e => (by cases e), rfl⟩
  | (a, d) :: ds, _, ⟨v, q, e, h1, h2⟩ => by
    subst e
    obtain ⟨i1, i2⟩ := valD_rel (kd := kd) h2
    by_cases z : a = kd
    · subst z
      have e1 : valD ((a, d) :: ds) a = some d := by simp [valD]
      have e2 : valV ((a, v) :: q) a = some v := by simp [valV]
      rw [e1, e2]
      exact ⟨fun x e => by cases e; exact ⟨v, rfl, h1⟩, rfl⟩
    · have e1 : valD ((a, d) :: ds) kd = valD ds kd := by simp [valD, z]
      have e2 : valV ((a, v) :: q) kd = valV q kd := by simp [valV, z]
      rw [e1, e2]
      exact ⟨i1, i2⟩
theorem relK_map {W H} {kd : Key} {d : D} {v : V} (rd : RelD Z W H d v) : ∀ {kvs : List (Key × D)} {vs : List (Key × V)}, RelKs Z W H kvs vs → RelKs Z W H (kvs.map fun p => if p.1 = kd then (p.1, d) else p) (vs.map fun p => if p.1 = kd then (p.1, v) else p)
  | [], _, r => by rw [show _ = [] from r]; rfl
  | (a, e) :: ds, _, ⟨u, q, e1, h1, h2⟩ => by
    subst e1
    rw [List.map_cons, List.map_cons]
    by_cases z : a = kd
    · simp only [z, if_true]; exact ⟨_, _, rfl, rd, relK_map rd h2⟩
    · simp only [z, if_false]; exact ⟨_, _, rfl, h1, relK_map rd h2⟩
theorem relK_snoc {W H} {kd : Key} {d : D} {v : V} (rd : RelD Z W H d v) : ∀ {kvs : List (Key × D)} {vs : List (Key × V)}, RelKs Z W H kvs vs → RelKs Z W H (kvs ++ [(kd, d)]) (vs ++ [(kd, v)])
  | [], _, r => by rw [show _ = [] from r]; exact ⟨_, _, rfl, rd, rfl⟩
  | (a, e) :: ds, _, ⟨u, q, e1, h1, h2⟩ => by
    subst e1
    exact ⟨_, _, rfl, h1, relK_snoc rd h2⟩
theorem relK_an {W H} {kd : Key} : ∀ {kvs : List (Key × D)} {vs : List (Key × V)}, RelKs Z W H kvs vs → (vs.any fun p => decide (p.1 = kd)) = (kvs.any fun p => decide (p.1 = kd))
  | [], _, r => by rw [show _ = [] from r]; rfl
  | (a, e) :: ds, _, ⟨u, q, e1, h1, h2⟩ => by
    subst e1
    rw [List.any_cons, List.any_cons, relK_an h2]
theorem relK_len {W H} : ∀ {kvs : List (Key × D)} {vs : List (Key × V)}, RelKs Z W H kvs vs → kvs.length = vs.length
  | [], _, r => by rw [show _ = [] from r]; rfl
  | (a, e) :: ds, _, ⟨u, q, e1, h1, h2⟩ => by subst e1; simp [relK_len h2]
theorem relK_keys {W H} : ∀ {kvs : List (Key × D)} {vs : List (Key × V)}, RelKs Z W H kvs vs → RelDs Z W H (kvs.map fun p => keyV p.1) (vs.map fun p => kV p.1)
  | [], _, r => by rw [show _ = [] from r]; rfl
  | (a, e) :: ds, _, ⟨u, q, e1, h1, h2⟩ => by subst e1; exact ⟨_, _, rfl, keyV_rel, relK_keys h2⟩
theorem putD_rel {W H} {kd : Key} {d : D} {v : V} {kvs : List (Key × D)} {vs : List (Key × V)} (rd : RelD Z W H d v) (r : RelKs Z W H kvs vs) : RelKs Z W H (putD kvs kd d) (putK vs kd v) := by
  unfold putD putK
  rw [relK_an r]
  by_cases z : (kvs.any fun p => decide (p.1 = kd)) = true
  · rw [if_pos z, if_pos z]; exact relK_map rd r
  · rw [if_neg z, if_neg z]; exact relK_snoc rd r
theorem dictO_rel {W H} {h : Hh} {d : D} {v : V} {kvs : List (Key × D)} (hr : HRel Z W H h) (r : RelD Z W H d v) (e : dictO h d = some kvs) : ∃ a vs, v = .ref a ∧ H a = some (.dK vs) ∧ RelKs Z W H kvs vs := by
  cases d with
  | dic x =>
    cases e
    obtain ⟨a, vs, e1, f, _, _, r1⟩ := r
    exact ⟨a, vs, e1, f, r1⟩
  | cel i =>
    obtain ⟨a, e1, f⟩ := r
    have e : dctO h[i]? = some kvs := e
    cases q : h[i]? with
    | none => rw [q] at e; cases e
    | some o =>
      rw [q] at e
      cases o with
      | dct x =>
        cases e
        obtain ⟨vs, e2, r2⟩ := hr.obj i a _ f q
        exact ⟨a, vs, e1, e2, r2⟩
      | lst x => cases e
      | ins c x => cases e
  | _ => cases e
theorem e_dnew {pos : Pos} : PE X (.Dict [] [] pos) (TVe Z Wx (evE .dnew)) :=
  pe_dnewK.imp fun σ H Q ⟨W, ls, h, lr, hr, t⟩ p n => t (.ref p) (W.add p) (upd H p (.dK [])) (Gr.cell hr n) (hr.cell n ⟨[], upd_same, rfl⟩) ⟨p, rfl, by
    show (W.rho ++ [p])[h.length]? = some p
    rw [← hr.len, List.getElem?_append_right (Nat.le_refl _)]; simp⟩
theorem e_dget {a i : E} {l r : Expr} {pos : Pos} (g : Gd Z Wx k X) (ha : PE X l (TVe Z Wx (evE a))) (hb : PE X r (TVe Z Wx (evE i))) (n : nSlc r = true) : PE X (.Subscript l r pos) (TVe Z Wx (evE (.dget a i))) :=
  (pe_dget (by have := g.units; omega) ha hb (fun _ _ => by cases r <;> first | rfl | cases n)).imp fun σ H Q ⟨W, ls, h, lr, hr, t⟩ =>
    step lr hr t fun x H1 W1 d h1 g1 lr1 hr1 rx t1 => step lr1 hr1 t1 fun y H2 W2 d2 h2 g2 lr2 hr2 ry t2 => by
      have t2 : TriD Z (Wx σ) Q W2 H2 (dgetK (dictO h2 d) (keyD d2) h2) := t2
      cases q1 : dictO h2 d with
      | none => rw [q1] at t2; exact t2.elim
      | some kvs =>
        cases q2 : keyD d2 with
        | none => rw [q1, q2] at t2; exact t2.elim
        | some kd =>
          rw [q1, q2] at t2
          have t2 : TriD Z (Wx σ) Q W2 H2 (optD (valD kvs kd) h2) := t2
          cases q3 : valD kvs kd with
          | none => rw [q3] at t2; exact t2.elim
          | some dv =>
            rw [q3] at t2
            obtain ⟨a, vs, e1, f, r1⟩ := dictO_rel hr2 (rx.mono g2) q1
            obtain ⟨v, e2, rv⟩ := (valD_rel (kd := kd) r1).1 dv q3
            have ek := keyD_rel q2 ry
            subst ek
            refine ⟨a, v, e1, ?_, t2.now hr2 rv⟩
            rw [← e2]
            exact DGet.k f
theorem dhas_core {n : Bool} {Q : VK} {σ : L2.St} {W2 H2 h2} {d d2 : D} {x y : V} (hr2 : HRel Z W2 H2 h2) (rx : RelD Z W2 H2 d x) (ry : RelD Z W2 H2 d2 y) (t2 : TriD Z (Wx σ) Q W2 H2 (dhasD n d2 d h2)) : ∃ a o, x = .ref a ∧ DGet H2 a y o ∧ Q (.bl (if n then !o.isSome else o.isSome)) H2 := by
  have t2 : TriD Z (Wx σ) Q W2 H2 (dhasK n (dictO h2 d) (keyD d2) h2) := t2
  cases q1 : dictO h2 d with
  | none => rw [q1] at t2; exact t2.elim
  | some kvs =>
    cases q2 : keyD d2 with
    | none => rw [q1, q2] at t2; exact t2.elim
    | some kd =>
      rw [q1, q2] at t2
      have t2 : TriD Z (Wx σ) Q W2 H2 (.ok (.bl (if n then !(valD kvs kd).isSome else (valD kvs kd).isSome)) h2) := t2
      obtain ⟨a, vs, e1, f, r1⟩ := dictO_rel hr2 rx q1
      have ek := keyD_rel q2 ry
      subst ek
      refine ⟨a, _, e1, DGet.k f, ?_⟩
      rw [(valD_rel (kd := kd) r1).2]
      exact t2.now hr2 rfl
theorem e_dhas {n : Bool} {a i : E} {l r : Expr} {pos : Pos} (g : Gd Z Wx k X) (hb : PE X l (TVe Z Wx (evE i))) (ha : PE X r (TVe Z Wx (evE a))) (hm : nSet r = true) : PE X (.Compare l [if n then .NotIn else .In] [r] pos) (TVe Z Wx (evE (.dhas n i a))) := by
  cases n with
  | false =>
    exact (pe_cmp (pc_din (by have := g.units; omega) hb ha) (marks_of hm)).imp fun σ H Q ⟨W, ls, h, lr, hr, t⟩ =>
      step lr hr t fun y H1 W1 d2 h1 g1 lr1 hr1 ry t1 => step lr1 hr1 t1 fun x H2 W2 d h2 g2 lr2 hr2 rx t2 => dhas_core (n := false) hr2 rx (ry.mono g2) t2
  | true =>
    exact (pe_cmp (pc_dnotin (by have := g.units; omega) hb ha) (marks_of hm)).imp fun σ H Q ⟨W, ls, h, lr, hr, t⟩ =>
      step lr hr t fun y H1 W1 d2 h1 g1 lr1 hr1 ry t1 => step lr1 hr1 t1 fun x H2 W2 d h2 g2 lr2 hr2 rx t2 => dhas_core (n := true) hr2 rx (ry.mono g2) t2
theorem t_dhas {n : Bool} {a i : E} {l r : Expr} {pos : Pos} (g : Gd Z Wx k X) (hb : PE X l (TVe Z Wx (evE i))) (ha : PE X r (TVe Z Wx (evE a))) (hm : nSet r = true) : PT X (.Compare l [if n then .NotIn else .In] [r] pos) (TVt Z Wx (evT (.dhas n i a))) := by
  cases n with
  | false =>
    refine (pt_cmp (pc_din (by have := g.units; omega) hb ha) (marks_of hm)).imp fun σ H Q t => ?_
    obtain ⟨W, ls, h, lr, hr, t⟩ := tv_test t
    exact step lr hr t fun y H1 W1 d2 h1 g1 lr1 hr1 ry t1 => step lr1 hr1 t1 fun x H2 W2 d h2 g2 lr2 hr2 rx t2 => dhas_core (n := false) hr2 rx (ry.mono g2) t2
  | true =>
    refine (pt_cmp (pc_dnotin (by have := g.units; omega) hb ha) (marks_of hm)).imp fun σ H Q t => ?_
    obtain ⟨W, ls, h, lr, hr, t⟩ := tv_test t
    exact step lr hr t fun y H1 W1 d2 h1 g1 lr1 hr1 ry t1 => step lr1 hr1 t1 fun x H2 W2 d h2 g2 lr2 hr2 rx t2 => dhas_core (n := true) hr2 rx (ry.mono g2) t2
/-! dict(enumerate(xs)) -/
theorem enuKs_len {α : Type} : ∀ (n : Nat) (xs : List α), (enuKs n xs).length = xs.length
  | _, [] => rfl
  | n, x :: r => by show _ + 1 = _ + 1; rw [enuKs_len (n + 1) r]
theorem enuKs_get {α : Type} : ∀ (n : Nat) (xs : List α) (i : Nat) (x : α), xs[i]? = some x → (enuKs n xs)[i]? = some (.inl ((n + i : Nat) : Int), x)
  | _, [], i, x, e => by simp at e
  | n, y :: r, 0, x, e => by
    have e : y = x := by simpa using e
    subst e; rfl
  | n, y :: r, i + 1, x, e => by
    have e : r[i]? = some x := by simpa using e
    have h := enuKs_get (n + 1) r i x e
    show (enuKs (n + 1) r)[i]? = _
    rw [h, show n + 1 + i = n + (i + 1) by omega]
theorem enuKs_keys {α : Type} : ∀ (n : Nat) (xs : List α), ∀ k ∈ (enuKs n xs).map (·.1), ∃ m : Nat, n ≤ m ∧ k = (.inl (m : Int) : Key)
  | _, [], k, h => by simp [enuKs] at h
  | n, x :: r, k, h => by
    rcases List.mem_cons.mp (show k ∈ (Sum.inl (n : Int) : Key) :: (enuKs (n + 1) r).map (·.1) from h) with q | q
    · exact ⟨n, Nat.le_refl _, q⟩
    · obtain ⟨m, h1, h2⟩ := enuKs_keys (n + 1) r k q
      exact ⟨m, by omega, h2⟩
theorem enuKs_nodup {α : Type} : ∀ (n : Nat) (xs : List α), ((enuKs n xs).map (·.1)).Nodup
  | _, [] => List.nodup_nil
  | n, x :: r => by
    refine List.nodup_cons.mpr ⟨fun h => ?_, enuKs_nodup (n + 1) r⟩
    obtain ⟨m, h1, h2⟩ := enuKs_keys (n + 1) r _ h
    injection h2 with h2
    omega
theorem enuKs_kv : ∀ (n : Nat) {xs : List V} {us : List Value}, Vals xs us → KV (enuKs n xs) (enuKs n us)
  | _, [], _, .nil => .nil
  | n, x :: r, _, .cons h t => .cons ⟨rfl, h⟩ (enuKs_kv (n + 1) t)
def tDEn (K : PySem.W.Frag) (ta : TE) : TE := fun σ H Q => ta σ H fun v H1 => ∃ a xs, v = .ref a ∧ SqL K H1 a xs ∧ ∀ p, H1 p = none → Q (.ref p) (upd H1 p (.dK (enuKs 0 xs)))
theorem pe_den {X : Cx} {a : Expr} {ta : TE} {p p2 q pos : Pos} (hg : Gl X "dict") (hm : X.mg "dict" = none) (hg2 : Gl X "enumerate") (hm2 : X.mg "enumerate" = none) (ha : PE X a ta) (hc : X.calm = true) (na : starEach [a] X.env = (false, eval a X.env) :: starEach [] X.env) :
    PE X (.Call (.Name "dict" p) [.Call (.Name "enumerate" p2) [a] [] q] [] pos) (tDEn X.K ta) where
  run := by
    intro pins s σ H Q I h
    refine Call_ (ld_blt I hg hm boot_dict (PyProof.Rows.callWith_type1 (PyProof.Rows.args_cons (Call_ (ld_blt I hg2 hm2 boot_enumerate ?_)) rfl) rfl rfl))
    refine PyProof.Rows.callWith_type1 (PyProof.Rows.args_cons (thn (ha.run pins s σ H _ I h) fun v s1 ⟨x, H1, I1, r1, l, xs, ex, hq, q1⟩ => PyProof.Rows.args_nil ?_) na) na rfl
    subst ex
    cases r1
    obtain ⟨its, rv, pl, hz⟩ := I1.list hq
    have hsz : its.toArray.size = its.length := List.size_toArray
    have hli : l < s1.heap.objs.size := by obtain ⟨_, e, _⟩ := pl.isList; exact Heap.lt_size e
    refine call_enumerate_list pl.isList fun h' he hit hs2 hk => PyProof.Rows.args_nil ?_
    have I2 : Inv X pins σ H1 { s1 with heap := h' } := I1.kept (t' := s1.toks) hk
    have hlen := rv.length
    refine PySem.call_dict_pairs (s := { s1 with heap := h' }) (knd := mixKind X.prog X.w) (kvs := enuKs 0 its) (PairArg.enumerate (s1.heap.objs.size + 1) s1.heap.objs.size l (Nat.succ_ne_self _) (Nat.ne_of_lt (Nat.lt_succ_of_lt hli)) (Nat.ne_of_lt hli) its.toArray)
      (I1.ok.hd hc) ⟨⟨.none, he⟩, hit, pl.isList.at fun o e => hk _ o e⟩ ⟨by rw [enuKs_len, hsz], fun i key v hr => ?_⟩ (by rw [hsz, ← hlen]; exact hz) fun h2 tk hd hk2 => ?_
    · obtain ⟨⟨t, rfl⟩, hv⟩ := hr
      refine ⟨_, enuKs_get 0 its i v (by simpa using hv), ?_⟩
      rw [Nat.zero_add]
      exact mixKind_int X.prog X.w i t
    · have hsm : ((h' : Heap).objs.size == sysModules) = false := beq_eq_false_iff_ne.mpr (Nat.ne_of_gt I2.big)
      have fp : ∀ b ∈ [s1.heap.objs.size + 1, s1.heap.objs.size], FpOk X pins H1 b := fun b hb => by
        have e' : b = s1.heap.objs.size + 1 ∨ b = s1.heap.objs.size := by simpa using hb
        have hle : s1.heap.objs.size ≤ b := by
          rcases e' with z | z
          · rw [z]; exact Nat.le_add_right _ _
          · rw [z]; exact Nat.le_refl _
        exact I1.fpOk hle (I1.hok.fresh hle)
      have rel : KV (enuKs 0 xs) (merged [] (enuKs 0 its)) := by
        have r := KV.merge (enuKs_kv 0 rv) (show KV ([] : List (Key × V)) [] from .nil)
        rw [mergeK_nodup (enuKs 0 xs) [] (by rw [List.nil_append]; exact enuKs_nodup 0 xs), List.nil_append] at r
        exact r
      have new : ObjOk X.prog X.w (upd H1 h'.objs.size (.dK (enuKs 0 xs))) h2 h'.objs.size (.dK (enuKs 0 xs)) :=
        dk_new (by rw [enuKs_len]; exact hz) hsm rel hd
      exact ⟨.ref h'.objs.size, _, I2.turnedNew (t' := tk) hk2 fp (Nat.le_refl _) new, rfl, q1 _ (I2.hok.fresh (Nat.le_refl _))⟩
theorem relK_enu {Z : Zn} {W : Wd} {H : Hp} : ∀ (n : Nat) {ds : List D} {vs : List V}, RelDs Z W H ds vs → RelKs Z W H (enuKs n ds) (enuKs n vs)
  | _, [], _, e => by cases (show _ = [] from e); rfl
  | n, d :: ds, _, ⟨v, r, e, r1, r2⟩ => by
    cases e
    exact ⟨v, enuKs (n + 1) r, rfl, r1, relK_enu (n + 1) r2⟩
theorem e_denu {a : E} {y : Expr} {p p2 q pos : Pos} (g : Gd Z Wx k X) (hg : globB (ccOf X) ("dict" : Str) = true) (hg2 : globB (ccOf X) ("enumerate" : Str) = true) (n : nStar y = true) (ha : PE X y (TVe Z Wx (evE a))) : PE X (.Call (.Name ("dict" : Str) p) [.Call (.Name ("enumerate" : Str) p2) [y] [] q] [] pos) (TVe Z Wx (evE (.denu a))) :=
  (pe_den (gl_of hg).1 (g.free _ (by decide +kernel)) (gl_of hg2).1 (g.free _ (by decide +kernel)) ha g.calm (star_of n)).imp fun σ H Q ⟨W, ls, h, lr, hr, t⟩ => step lr hr t fun x H1 W1 d h1 g1 lr1 hr1 rx t1 => by
    have t1 : TriD Z (Wx σ) Q W1 H1 (denD d h1) := t1
    unfold denD at t1
    cases q : asL h1 d with
    | none => rw [q] at t1; exact t1.elim
    | some xs =>
      rw [q] at t1
      obtain ⟨a, vs, rfl, hp, r1⟩ := asL_sq hr1 rx q
      refine ⟨a, vs, rfl, g.hK ▸ hp, fun p np => ?_⟩
      exact t1 (.ref p) W1 (upd H1 p (.dK (enuKs 0 vs))) (Gr.fresh hr1 np) (hr1.fresh np) ⟨p, enuKs 0 vs, rfl, upd_same, hr1.notin np, hr1.nF np, RelKs.mono (Gr.fresh hr1 np) _ (relK_enu 0 r1)⟩
theorem e_dlst {c : Bool} {a : E} {y : Expr} {p pos : Pos} (g : Gd Z Wx k X) (hg : globB (ccOf X) ("list" : Str) = true) (n : nStar y = true) (ha : PE X y (TVe Z Wx (evE a))) : PE X (.Call (.Name ("list" : Str) p) [y] [] pos) (TVe Z Wx (evE (.dlst c a))) := by
  obtain ⟨g1, g2⟩ := gl_of hg
  refine (pe_callTy (call_listD g.calm) g1 (g.free _ (by decide +kernel)) (by decide +kernel) (pa_cons ha pa_nil (star_of n)) (by decide +kernel) g2 (star_of n) (star_all rfl)).imp fun σ H Q ⟨W, ls, h, lr, hr, t⟩ => ?_
  exact step lr hr t fun x H1 W1 d h1 g1 lr1 hr1 rx t1 => by
    have t1 : TriD Z (Wx σ) Q W1 H1 (match dictO h1 d with | some kvs => if kvs.length ≤ LIM then mkL c (kvs.map fun p => keyV p.1) h1 else .bad | none => .bad) := t1
    cases q : dictO h1 d with
    | none => rw [q] at t1; exact t1.elim
    | some kvs =>
      rw [q] at t1
      simp only at t1
      by_cases hl : kvs.length ≤ LIM
      · rw [if_pos hl] at t1
        obtain ⟨a, vs, rfl, f, r1⟩ := dictO_rel hr1 rx q
        exact ⟨a, vs, rfl, .inl f, fun p np => t1.newL hr1 (relK_keys r1) np⟩
      · rw [if_neg hl] at t1; exact t1.elim
/-! displays of dicts -/
def tAt : At → TE
  | .v i => tVar i
  | .n i => tC (.int i)
theorem pe_at {a : At} {e : Expr} (h : okAt (ccOf X) a e = true) : PE X e (tAt a) := by
  cases a with
  | v i =>
    cases e <;> try (cases h; done)
    obtain ⟨h1, h2, h3, h4⟩ := seen_of h
    exact pe_var h1 h2 h3 h4
  | n i =>
    cases e <;> try (cases h; done)
    rename_i c t p
    cases c <;> try (cases h; done)
    have e : i = _ := of_decide_eq_true h
    subst e
    exact pe_int
theorem at_tri {a : At} {W : Wd} {H : Hp} {ls : Ls} {σ : L2.St} {d : D} {Q : VK} {H1 : Hp} (lr : LRel Z W H ls σ) (e : evAt ls a = some d) (q : ∀ v, RelD Z W H d v → Q v H1) : tAt a σ H1 Q := by
  cases a with
  | v i =>
    have e : (match ls[i]? with | some (some d) => some d | _ => none) = some d := e
    cases q1 : ls[i]? with
    | none => rw [q1] at e; cases e
    | some od =>
      cases od with
      | none => rw [q1] at e; cases e
      | some d' =>
        rw [q1] at e
        cases e
        obtain ⟨v, ev, rv⟩ := lr.2 i d q1
        exact ⟨v, ev, q v rv⟩
  | n i =>
    cases e
    exact q _ rfl
theorem e_dic {ps : List (At × At)} {ks : List (Option Expr)} {vs : List Expr} {pos : Pos} (h : okKV (ccOf X) ps ks vs = true) : PE X (.Dict ks vs pos) (TVe Z Wx (evE (.dic ps))) := by
  unfold okKV at h
  split at h
  · refine pe_dnewK.imp fun σ H Q ⟨W, ls, h, lr, hr, t⟩ p n => ?_
    exact t (.ref p) W (upd H p (.dK [])) (Gr.fresh hr n) (hr.fresh n) ⟨p, [], rfl, upd_same, hr.notin n, hr.nF n, rfl⟩
  · rename_i a b k v
    simp only [Bool.and_eq_true] at h
    refine (pe_disp (pps_cons (pe_at h.1) (pe_at h.2) pps_nil) rfl rfl (by simp) (by simp)).imp fun σ H Q ⟨W, ls, h, lr, hr, t⟩ p n => ?_
    have t : TriD Z (Wx σ) Q W H (match evKV ls (a, b) with | some kv => .ok (.dic [kv]) h | none => .bad) := t
    unfold evKV at t
    cases e1 : evAt ls a with
    | none => simp only [e1] at t; exact t.elim
    | some d1 =>
      cases e2 : evAt ls b with
      | none => simp only [e1, e2] at t; cases d1 <;> exact t.elim
      | some d2 =>
        simp only [e1, e2] at t
        have fin : ∀ (key : Key) (v2 : V), RelD Z W H d2 v2 → TriD Z (Wx σ) Q W H (.ok (.dic [(key, d2)]) h) → Q (.ref p) (upd (upd H p (.dK [])) p (.dK (mergeK [] [(key, v2)]))) := fun key v2 r2 t => by
          rw [upd_upd]
          exact t (.ref p) W (upd H p (.dK [(key, v2)])) (Gr.fresh hr n) (hr.fresh n) ⟨p, [(key, v2)], rfl, upd_same, hr.notin n, hr.nF n, v2, [], rfl, r2.mono (Gr.fresh hr n), rfl⟩
        refine at_tri lr e1 fun v1 r1 => at_tri lr e2 fun v2 r2 => ?_
        cases d1 with
        | int i => exact ⟨upd_same, [(.inl i, v2)], by rw [show v1 = V.int i from r1]; rfl, by simp, fin _ _ r2 t⟩
        | str x => exact ⟨upd_same, [(.inr x, v2)], by rw [show v1 = V.str x from r1]; rfl, by simp, fin _ _ r2 t⟩
        | _ => exact t.elim
  · cases h
end
end Tb
namespace Tb
open PySem PySem.Spec PyProof.Rows L2
/-! ### what is walked -/
def D.isTup : D → Bool
  | .tup _ => true
  | _ => false
def ItR (Z : Zn) (W : Wd) (H : Hp) : Tb.It → L2.It → Prop
  | .seq d, J => ∃ a, RelD Z W H d (.ref a) ∧ J = (if d.isTup = true then Itt Z.K a else Itl Z.K a)
  | .enu d, J => ∃ a, RelD Z W H d (.ref a) ∧ J = Ite Z.K a
  | .zip d e, J => ∃ a b, RelD Z W H d (.ref a) ∧ RelD Z W H e (.ref b) ∧ J = Itz Z.K a b
  | .rev d n, J => ∃ a, RelD Z W H d (.ref a) ∧ J = Itv Z.K a n
  | .rng lo n st, J => (st = 1 ∧ J = Itr lo n) ∨ (st = -1 ∧ J = Itc lo (-1) n)
section
variable {Z : Zn} {W W1 : Wd} {H H1 : Hp} {h : Hh} {it : Tb.It} {J : L2.It}
theorem ItR.mono (g : Gr W H W1 H1) (r : ItR Z W H it J) : ItR Z W1 H1 it J := by
  cases it with
  | seq d => obtain ⟨a, r, e⟩ := r; exact ⟨a, r.mono g, e⟩
  | enu d => obtain ⟨a, r, e⟩ := r; exact ⟨a, r.mono g, e⟩
  | zip d e => obtain ⟨a, b, r, r2, e⟩ := r; exact ⟨a, b, r.mono g, r2.mono g, e⟩
  | rev d n => obtain ⟨a, r, e⟩ := r; exact ⟨a, r.mono g, e⟩
  | rng lo n st => exact r
theorem sq_one {K : PySem.W.Frag} {a : Addr} {xs ys : List V} (h1 : SqL K H a xs) (h2 : SqL K H a ys) (hK : ∀ o, K.lookup a = some o → H a = none) : xs = ys ∨ True := .inr trivial
theorem seqOf_list {d : D} {xs : List D} (e : seqOf h d = some xs) (n : d.isTup = false) : asL h d = some xs := by
  cases d <;> first | exact e | cases n
theorem enumL_get : ∀ (xs : List D) (n i : Nat), (enumL n xs)[i]? = xs[i]?.map fun d => .tup [.int ((n + i : Nat) : Int), d]
  | [], n, i => by simp [enumL]
  | x :: xs, n, 0 => by simp [enumL]
  | x :: xs, n, i + 1 => by simp [enumL, enumL_get xs (n + 1) i, Nat.add_right_comm, Nat.add_assoc, Nat.add_comm 1 i]
theorem enumL_len : ∀ (xs : List D) (n : Nat), (enumL n xs).length = xs.length
  | [], n => rfl
  | x :: xs, n => by simp [enumL, enumL_len xs (n + 1)]
theorem zipL_get : ∀ (xs ys : List D) (i : Nat) (d : D), (zipL xs ys)[i]? = some d → ∃ a b, xs[i]? = some a ∧ ys[i]? = some b ∧ d = .tup [a, b]
  | [], ys, i, d, e => by simp [zipL] at e
  | x :: xs, [], i, d, e => by simp [zipL] at e
  | x :: xs, y :: ys, 0, d, e => by simp [zipL] at e; exact ⟨x, y, rfl, rfl, e.symm⟩
  | x :: xs, y :: ys, i + 1, d, e => by
    obtain ⟨a, b, h1, h2, h3⟩ := zipL_get xs ys i d (by simpa [zipL] using e)
    exact ⟨a, b, by simpa using h1, by simpa using h2, h3⟩
theorem zipL_len : ∀ (xs ys : List D), (zipL xs ys).length = min xs.length ys.length
  | [], ys => by simp [zipL]
  | x :: xs, [] => by simp [zipL]
  | x :: xs, y :: ys => by simp [zipL, zipL_len xs ys]
theorem rngL_get (st : Int) : ∀ (n i : Nat) (lo : Int), i < n → (rngL lo st n)[i]? = some (.int (lo + (i : Int) * st))
  | 0, i, lo, h => absurd h (Nat.not_lt_zero _)
  | n + 1, 0, lo, h => by simp [rngL]
  | n + 1, i + 1, lo, h => by
    have := rngL_get st n i (lo + st) (by omega)
    simp only [rngL, List.getElem?_cons_succ, this]
    congr 2
    rw [Int.natCast_succ, Int.add_mul]
    omega
theorem rngL_len (st : Int) : ∀ (n : Nat) (lo : Int), (rngL lo st n).length = n
  | 0, _ => rfl
  | n + 1, lo => by simp [rngL, rngL_len st n]
theorem ItR.stop (hr : HRel Z W H h) (r : ItR Z W H it J) {xs : List D} (e : it.items h = some xs) {i : Nat} (hi : xs.length ≤ i) : J.stop i H := by
  cases it with
  | seq d =>
    obtain ⟨a, r, eJ⟩ := r
    have e : seqOf h d = some xs := e
    cases ht : d.isTup with
    | true =>
      cases d <;> first | (cases ht; done) | skip
      rw [ht] at eJ
      subst eJ
      obtain ⟨a', vs, e1, f, rs⟩ := r
      cases e1
      cases e
      exact ⟨vs, f.sq, by rw [← rs.length]; exact hi⟩
    | false =>
      rw [ht] at eJ
      subst eJ
      obtain ⟨a', vs, e1, s, rs⟩ := asL_sq hr r (seqOf_list e ht)
      cases e1
      exact ⟨vs, s, by rw [← rs.length]; exact hi⟩
  | enu d =>
    obtain ⟨a, r, eJ⟩ := r
    subst eJ
    have e : (asL h d).map (enumL 0) = some xs := e
    cases q : asL h d with
    | none => rw [q] at e; cases e
    | some ys =>
      rw [q] at e
      cases e
      obtain ⟨a', vs, e1, s, rs⟩ := asL_sq hr r q
      cases e1
      rw [enumL_len] at hi
      exact ⟨vs, s, by rw [← rs.length]; exact hi⟩
  | zip d e' =>
    obtain ⟨a, b, r, r2, eJ⟩ := r
    subst eJ
    have e : ((asL h d).bind fun xs => (asL h e').map fun ys => zipL xs ys) = some xs := e
    cases q : asL h d with
    | none => rw [q] at e; cases e
    | some us =>
      rw [q] at e
      cases q2 : asL h e' with
      | none => rw [q2] at e; cases e
      | some ws =>
        rw [q2] at e
        cases e
        obtain ⟨a', vs, e1, s, rs⟩ := asL_sq hr r q
        obtain ⟨b', vs2, e2, s2, rs2⟩ := asL_sq hr r2 q2
        cases e1
        cases e2
        rw [zipL_len] at hi
        refine ⟨vs, vs2, s, s2, ?_⟩
        rw [← rs.length, ← rs2.length]
        omega
  | rev d n =>
    obtain ⟨a, r, eJ⟩ := r
    subst eJ
    have e : ((asL h d).bind fun xs => if xs.length = n then some xs.reverse else none) = some xs := e
    cases q : asL h d with
    | none => rw [q] at e; cases e
    | some ys =>
      rw [q] at e
      simp only [Option.bind_some] at e
      by_cases hl : ys.length = n
      · rw [if_pos hl] at e
        cases e
        show n ≤ i
        rw [List.length_reverse] at hi
        omega
      · rw [if_neg hl] at e; cases e
  | rng lo n st =>
    have e : some (rngL lo st n) = some xs := e
    cases e
    rw [rngL_len] at hi
    rcases r with ⟨_, eJ⟩ | ⟨_, eJ⟩ <;> (subst eJ; exact hi)
theorem ItR.go (hr : HRel Z W H h) (r : ItR Z W H it J) {xs : List D} (e : it.items h = some xs) {i : Nat} {d : D} (hi : xs[i]? = some d) : J.go i H ∧ ∀ x H', J.yld i H x H' → Gr W H W H' ∧ HRel Z W H' h ∧ RelD Z W H' d x := by
  have same : ∀ {x : V} {H' : Hp}, H' = H → RelD Z W H d x → Gr W H W H' ∧ HRel Z W H' h ∧ RelD Z W H' d x := fun e r => by subst e; exact ⟨Gr.refl, hr, r⟩
  cases it with
  | seq d' =>
    obtain ⟨a, r, eJ⟩ := r
    have e : seqOf h d' = some xs := e
    cases ht : d'.isTup with
    | true =>
      cases d' <;> first | (cases ht; done) | skip
      rw [ht] at eJ
      subst eJ
      obtain ⟨a', vs, e1, f, rs⟩ := r
      cases e1
      cases e
      obtain ⟨v, ev, rv⟩ := rs.get hi
      refine ⟨⟨vs, v, f.sq, ev⟩, fun x H' ⟨eH, y⟩ => same eH ?_⟩
      have z := y vs f.sq
      rw [ev] at z; cases z
      exact rv
    | false =>
      rw [ht] at eJ
      subst eJ
      obtain ⟨a', vs, e1, s, rs⟩ := asL_sq hr r (seqOf_list e ht)
      cases e1
      obtain ⟨v, ev, rv⟩ := rs.get hi
      refine ⟨⟨vs, v, s, ev⟩, fun x H' ⟨eH, y⟩ => same eH ?_⟩
      have z := y vs s
      rw [ev] at z; cases z
      exact rv
  | enu d' =>
    obtain ⟨a, r, eJ⟩ := r
    subst eJ
    have e : (asL h d').map (enumL 0) = some xs := e
    cases q : asL h d' with
    | none => rw [q] at e; cases e
    | some ys =>
      rw [q] at e
      cases e
      obtain ⟨a', vs, e1, s, rs⟩ := asL_sq hr r q
      cases e1
      rw [enumL_get] at hi
      cases q2 : ys[i]? with
      | none => rw [q2] at hi; cases hi
      | some dd =>
        rw [q2] at hi
        simp only [Option.map_some, Nat.zero_add, Option.some.injEq] at hi
        subst hi
        obtain ⟨v, ev, rv⟩ := rs.get q2
        refine ⟨⟨vs, v, s, ev⟩, fun x H' ⟨T, w, eT, nT, eH, y⟩ => ?_⟩
        have z := y vs s
        rw [ev] at z; cases z
        subst eH
        exact ⟨Gr.fresh hr nT, hr.fresh nT, T, [.int (i : Int), v], eT, .inl upd_same, _, _, rfl, rfl, _, _, rfl, rv.mono (Gr.fresh hr nT), rfl⟩
  | zip d' e' =>
    obtain ⟨a, b, r, r2, eJ⟩ := r
    subst eJ
    have e : ((asL h d').bind fun xs => (asL h e').map fun ys => zipL xs ys) = some xs := e
    cases q : asL h d' with
    | none => rw [q] at e; cases e
    | some us =>
      rw [q] at e
      cases q2 : asL h e' with
      | none => rw [q2] at e; cases e
      | some ws =>
        rw [q2] at e
        cases e
        obtain ⟨a', vs, e1, s, rs⟩ := asL_sq hr r q
        obtain ⟨b', vs2, e2, s2, rs2⟩ := asL_sq hr r2 q2
        cases e1
        cases e2
        obtain ⟨d1, d2, q3, q4, q5⟩ := zipL_get us ws i d hi
        subst q5
        obtain ⟨v, ev, rv⟩ := rs.get q3
        obtain ⟨v2, ev2, rv2⟩ := rs2.get q4
        refine ⟨⟨vs, vs2, v, v2, s, s2, ev, ev2⟩, fun x H' ⟨T, w, w2, eT, nT, eH, y, y2⟩ => ?_⟩
        have z := y vs s
        rw [ev] at z; cases z
        have z2 := y2 vs2 s2
        rw [ev2] at z2; cases z2
        subst eH
        exact ⟨Gr.fresh hr nT, hr.fresh nT, T, [v, v2], eT, .inl upd_same, _, _, rfl, rv.mono (Gr.fresh hr nT), _, _, rfl, rv2.mono (Gr.fresh hr nT), rfl⟩
  | rev d' n =>
    obtain ⟨a, r, eJ⟩ := r
    subst eJ
    have e : ((asL h d').bind fun xs => if xs.length = n then some xs.reverse else none) = some xs := e
    cases q : asL h d' with
    | none => rw [q] at e; cases e
    | some ys =>
      rw [q] at e
      simp only [Option.bind_some] at e
      by_cases hl : ys.length = n
      · rw [if_pos hl] at e
        cases e
        obtain ⟨a', vs, e1, s, rs⟩ := asL_sq hr r q
        cases e1
        have hlt : i < ys.length := by
          have := (List.getElem?_eq_some_iff.mp hi).1
          rw [List.length_reverse] at this
          exact this
        rw [List.getElem?_reverse hlt] at hi
        obtain ⟨v, ev, rv⟩ := rs.get hi
        rw [hl] at ev
        refine ⟨⟨by omega, vs, v, s, ev⟩, fun x H' ⟨eH, y⟩ => same eH ?_⟩
        have z := y vs s
        rw [ev] at z; cases z
        exact rv
      · rw [if_neg hl] at e; cases e
  | rng lo n st =>
    have e : some (rngL lo st n) = some xs := e
    cases e
    have hlt : i < n := by
      have := (List.getElem?_eq_some_iff.mp hi).1
      rw [rngL_len] at this
      exact this
    rw [rngL_get st n i lo hlt] at hi
    cases hi
    rcases r with ⟨es, eJ⟩ | ⟨es, eJ⟩
    · subst eJ; subst es
      exact ⟨hlt, fun x H' ⟨eH, y⟩ => same eH (by rw [y]; show V.int _ = V.int _; congr 1; omega)⟩
    · subst eJ; subst es
      exact ⟨hlt, fun x H' ⟨eH, y⟩ => same eH (by rw [y]; rfl)⟩
theorem cst_items {h h' : Hh} : ∀ {it : Tb.It}, it.cst = true → it.items h = it.items h'
  | .seq d, c => by cases d <;> first | rfl | cases c
  | .enu d, c => by cases d <;> first | rfl | cases c
  | .zip d e, c => by
    simp only [It.cst, Bool.and_eq_true] at c
    have h1 : asL h d = asL h' d := by cases d <;> first | rfl | cases c.1
    have h2 : asL h e = asL h' e := by cases e <;> first | rfl | cases c.2
    show ((asL h d).bind fun xs => (asL h e).map fun ys => zipL xs ys) = _
    rw [h1, h2]; rfl
  | .rev d n, c => by cases d <;> first | rfl | cases c
  | .rng _ _ _, _ => rfl
end
section
variable {X : Cx} {Z : Zn} {Wx : L2.St → Str → Hp → Prop} {k : Nat} {tg : Expr}
abbrev TVi (Z : Zn) (Wx : L2.St → Str → Hp → Prop) (f : Ls → Hh → R Tb.It) : TI := TV Z Wx (ItR Z) f
theorem PI_imp {e : Expr} {t t' : TI} (h : PI X tg e t) (i : ∀ σ H Q, t' σ H Q → t σ H Q) : PI X tg e t' := ⟨fun pins s σ H Q I q => h.run pins s σ H Q I (i σ H Q q)⟩
/-- a list or a tuple, whichever comes -/
def iSeq (K : PySem.W.Frag) (tl : TE) : TI := fun σ H R => tl σ H fun x H1 => ∃ a, x = .ref a ∧ (((∃ xs, SqL K H1 a xs) ∧ R (Itl K a) H1) ∨ ((∃ xs, SqT K H1 a xs) ∧ R (Itt K a) H1))
theorem pi_seq {l : Expr} {tl : TE} (hl : PE X l tl) : PI X tg l (iSeq X.K tl) where
  run := by
    intro pins s σ H R I h
    refine thn (hl.run pins s σ H _ I h) fun v s1 ⟨x, H1, I1, r1, a, e, q1⟩ => ?_
    subst e
    cases r1
    have fp : ∀ b ∈ [s1.heap.objs.size], FpOk X pins H1 b := fun b hb => by
      rw [List.mem_singleton.mp hb]
      exact I1.fpOk (Nat.le_refl _) (I1.hok.fresh (Nat.le_refl _))
    rcases q1 with ⟨⟨xs, hq⟩, q⟩ | ⟨⟨xs, hq⟩, q⟩
    · obtain ⟨its, rv, p, hz⟩ := I1.list hq
      exact wpAny_pyIter_list p.isList ⟨_, _, _, _, H1, rfl, I1.kept (t' := s1.toks) fun b o e => Heap.get?_push_of_some _ e, turn_list a _, ⟨_, Heap.get?_push_size _ rfl, rfl, rfl⟩, fp, q⟩
    · obtain ⟨its, rv, p, hz⟩ := I1.tuple hq
      exact wpAny_pyIter_tuple (show s1.heap.IsTuple a its.toArray from p) ⟨_, _, _, _, H1, rfl, I1.kept (t' := s1.toks) fun b o e => Heap.get?_push_of_some _ e, turn_tuple a _, ⟨_, Heap.get?_push_size _ rfl, rfl, rfl⟩, fp, q⟩
theorem mkR_tri {E Q W H h} {o : Option Tb.It} (t : Tri Z (ItR Z) E Q W H (mkR o h)) : ∃ i, o = some i ∧ Tri Z (ItR Z) E Q W H (.ok i h) := by
  cases o with
  | none => exact t.elim
  | some i => exact ⟨i, rfl, t⟩
theorem i_seq {e : E} {x : Expr} (g : Gd Z Wx k X) (he : PE X x (TVe Z Wx (evE e))) : PI X tg x (TVi Z Wx (evI (.seq e))) :=
  PI_imp (pi_seq he) fun σ H Q ⟨W, ls, h, lr, hr, t⟩ => step lr hr t fun v H1 W1 d h1 g1 lr1 hr1 rx t1 => by
    obtain ⟨i, ei, t2⟩ := mkR_tri t1
    cases q : seqOf h1 d with
    | none => rw [q] at ei; cases ei
    | some xs =>
      rw [q] at ei
      cases ei
      cases ht : d.isTup with
      | true =>
        cases d <;> first | (cases ht; done) | skip
        obtain ⟨a, vs, e1, f, rs⟩ := rx
        subst e1
        exact ⟨a, rfl, .inr ⟨⟨vs, by rw [g.hK]; exact f.sq⟩, t2.now hr1 ⟨a, ⟨a, vs, rfl, f, rs⟩, by rw [g.hK]; rfl⟩⟩⟩
      | false =>
        obtain ⟨a, vs, e1, s, rs⟩ := asL_sq hr1 rx (seqOf_list q ht)
        subst e1
        exact ⟨a, rfl, .inl ⟨⟨vs, by rw [g.hK]; exact s⟩, t2.now hr1 ⟨a, rx, by rw [g.hK, ht]; rfl⟩⟩⟩
theorem i_enu {e : E} {y : Expr} {p pos tp : Pos} {elts : List Expr} {kk : Nat} (g : Gd Z Wx k X) (hg : globB (ccOf X) ("enumerate" : Str) = true) (n : nStar y = true) (he : PE X y (TVe Z Wx (evE e))) :
    PI X (.Tuple elts kk tp) (.Call (.Name ("enumerate" : Str) p) [y] [] pos) (TVi Z Wx (evI (.enu e))) :=
  PI_imp (pi_enum (gl_of hg).1 (g.free _ (by decide +kernel)) (pa_cons he pa_nil (star_of n)) (star_of n)) fun σ H Q ⟨W, ls, h, lr, hr, t⟩ => step lr hr t fun v H1 W1 d h1 g1 lr1 hr1 rx t1 => by
    obtain ⟨i, ei, t2⟩ := mkR_tri t1
    cases q : asL h1 d with
    | none => rw [q] at ei; cases ei
    | some xs =>
      rw [q] at ei
      cases ei
      obtain ⟨a, vs, e1, s, rs⟩ := asL_sq hr1 rx q
      subst e1
      exact ⟨a, vs, rfl, by rw [g.hK]; exact s, t2.now hr1 ⟨a, rx, by rw [g.hK]⟩⟩
theorem i_rev {e : E} {y : Expr} {p pos : Pos} (g : Gd Z Wx k X) (hg : globB (ccOf X) ("reversed" : Str) = true) (n : nStar y = true) (he : PE X y (TVe Z Wx (evE e))) :
    PI X tg (.Call (.Name ("reversed" : Str) p) [y] [] pos) (TVi Z Wx (evI (.rev e))) :=
  PI_imp (pi_reversed (gl_of hg).1 (g.free _ (by decide +kernel)) (pa_cons he pa_nil (star_of n)) (star_of n)) fun σ H Q ⟨W, ls, h, lr, hr, t⟩ => step lr hr t fun v H1 W1 d h1 g1 lr1 hr1 rx t1 => by
    obtain ⟨i, ei, t2⟩ := mkR_tri t1
    cases q : asL h1 d with
    | none => rw [q] at ei; cases ei
    | some xs =>
      rw [q] at ei
      cases ei
      obtain ⟨a, vs, e1, s, rs⟩ := asL_sq hr1 rx q
      subst e1
      exact ⟨a, vs, rfl, by rw [g.hK]; exact s, t2.now hr1 ⟨a, rx, by rw [g.hK, rs.length]⟩⟩
theorem i_zip {e f : E} {y z : Expr} {p pos tp : Pos} {elts : List Expr} {kk : Nat} (g : Gd Z Wx k X) (hg : globB (ccOf X) ("zip" : Str) = true) (n : nStar y = true) (n2 : nStar z = true) (he : PE X y (TVe Z Wx (evE e))) (hf : PE X z (TVe Z Wx (evE f))) :
    PI X (.Tuple elts kk tp) (.Call (.Name ("zip" : Str) p) [y, z] [] pos) (TVi Z Wx (evI (.zip e f))) :=
  PI_imp (pi_zip (gl_of hg).1 (g.free _ (by decide +kernel)) (pa_cons he (pa_cons hf pa_nil (star_of n2)) (star_of n)) (star_of n) (star_all (by simp [n2]))) fun σ H Q ⟨W, ls, h, lr, hr, t⟩ =>
    step lr hr t fun v H1 W1 d h1 g1 lr1 hr1 rx t1 => step lr1 hr1 t1 fun u H2 W2 d2 h2 g2 lr2 hr2 ry t2 => by
      obtain ⟨i, ei, t3⟩ := mkR_tri t2
      cases q : asL h2 d with
      | none => rw [q] at ei; cases ei
      | some xs =>
        rw [q] at ei
        cases q2 : asL h2 d2 with
        | none => rw [q2] at ei; cases ei
        | some ys =>
          rw [q2] at ei
          cases ei
          obtain ⟨a, vs, e1, s, rs⟩ := asL_sq hr2 (rx.mono g2) q
          obtain ⟨b, us, e2, s2, rs2⟩ := asL_sq hr2 ry q2
          subst e1 e2
          exact ⟨a, b, vs, us, rfl, by rw [g.hK]; exact s, by rw [g.hK]; exact s2, t3.now hr2 ⟨a, b, rx.mono g2, ry, by rw [g.hK]⟩⟩
theorem smallR_of {i : Int} (h : smallR i = true) : -(2 ^ 62) ≤ i ∧ i < 2 ^ 62 := by
  have := Nat.le_of_ble_eq_true h
  omega
theorem i_rng {es : Es} {xs : List Expr} {p pos : Pos} (g : Gd Z Wx k X) (hg : globB (ccOf X) ("range" : Str) = true) (hs : xs.all nStar = true) (h1 : 1 ≤ xs.length) (h3 : xs.length ≤ 3) (hl : xs.length = es.len) (ha : PA X xs (TVa Z Wx (evEs es))) :
    PI X tg (.Call (.Name ("range" : Str) p) xs [] pos) (TVi Z Wx (evI (.rng es))) := by
  have gl := (gl_of hg).1
  have fr := g.free "range" (by decide +kernel)
  have ln : PA X xs (fun σ H Q => TVa Z Wx (evEs es) σ H fun vs H1 => vs.length = es.len → Q vs H1) := ha.imp fun σ H Q ⟨W, ls, h, lr, hr, t⟩ => by
    refine ⟨W, ls, h, lr, hr, ?_⟩
    cases q : evEs es ls h with
    | ok ds h' =>
      rw [q] at t
      intro v W' H' g' hr' r'
      exact t v W' H' g' hr' r' (by rw [← r'.length]; exact evEs_len es q)
    | exc c h' => rw [q] at t; exact t
    | bad => rw [q] at t; exact t
  have shape : ∀ {W H h} {ds : List D} {vs : List V} {Q : L2.It → Hp → Prop} {E}, RelDs Z W H ds vs → HRel Z W H h → Tri Z (ItR Z) E Q W H (mkR (rngOf ds) h) →
      (∃ j : Int, vs = [.int j] ∧ smallR j = true ∧ Q (Itr 0 j.toNat) H) ∨ (∃ i j : Int, vs = [.int i, .int j] ∧ smallR i = true ∧ smallR j = true ∧ Q (Itr i (j - i).toNat) H) ∨ ∃ i j : Int, vs = [.int i, .int j, .int (-1)] ∧ smallR i = true ∧ smallR j = true ∧ Q (Itc i (-1) (i - j).toNat) H := by
    intro W H h ds vs Q E r hr t
    obtain ⟨it, ei, t2⟩ := mkR_tri t
    unfold rngOf at ei
    split at ei
    · rename_i j
      split at ei
      · rename_i hj
        cases ei
        obtain ⟨v, q, rfl, r1, rfl⟩ := r
        cases r1
        exact .inl ⟨j, rfl, hj, t2.now hr (.inl ⟨rfl, rfl⟩)⟩
      · cases ei
    · rename_i i j
      split at ei
      · rename_i hj
        cases ei
        obtain ⟨v, q, rfl, r1, v2, q2, rfl, r2, rfl⟩ := r
        cases r1; cases r2
        exact .inr (.inl ⟨i, j, rfl, hj.1, hj.2, t2.now hr (.inl ⟨rfl, rfl⟩)⟩)
      · cases ei
    · rename_i i j
      split at ei
      · rename_i hj
        cases ei
        obtain ⟨v, q, rfl, r1, v2, q2, rfl, r2, v3, q3, rfl, r3, rfl⟩ := r
        cases r1; cases r2; cases r3
        exact .inr (.inr ⟨i, j, rfl, hj.1, hj.2, t2.now hr (.inr ⟨rfl, rfl⟩)⟩)
      · cases ei
    · cases ei
  match xs, h1, h3, hs, hl, ln with
  | [], h1, _, _, _, _ => exact absurd h1 (by simp)
  | [a], _, _, hs, hl, ln =>
    simp only [List.all_cons, Bool.and_eq_true] at hs
    refine PI_imp (pi_range1 gl fr ln (star_of hs.1)) fun σ H Q ⟨W, ls, h, lr, hr, t⟩ => step lr hr t fun vs H1 W1 ds h1 g1 lr1 hr1 rx t1 hv => ?_
    rw [← hl] at hv
    rcases shape rx hr1 t1 with ⟨j, rfl, sj, q⟩ | ⟨i, j, rfl, _⟩ | ⟨i, j, rfl, _⟩
    · exact ⟨j, rfl, (smallR_of sj).1, (smallR_of sj).2, q⟩
    · simp at hv
    · simp at hv
  | [a, b], _, _, hs, hl, ln =>
    simp only [List.all_cons, Bool.and_eq_true] at hs
    refine PI_imp (pi_range2 gl fr ln (by rw [star_of hs.1, star_of hs.2.1]; rfl) (star_of hs.2.1)) fun σ H Q ⟨W, ls, h, lr, hr, t⟩ => step lr hr t fun vs H1 W1 ds h1 g1 lr1 hr1 rx t1 hv => ?_
    rw [← hl] at hv
    rcases shape rx hr1 t1 with ⟨j, rfl, sj, q⟩ | ⟨i, j, rfl, si, sj, q⟩ | ⟨i, j, rfl, _⟩
    · simp at hv
    · exact ⟨i, j, rfl, ⟨(smallR_of si).1, (smallR_of si).2, (smallR_of sj).1, (smallR_of sj).2⟩, q⟩
    · simp at hv
  | [a, b, c], _, _, hs, hl, ln =>
    simp only [List.all_cons, Bool.and_eq_true] at hs
    refine PI_imp (pi_range3 gl fr ln (star_of hs.1) (star_all (by simp [hs.2.1, hs.2.2.1]))) fun σ H Q ⟨W, ls, h, lr, hr, t⟩ => step lr hr t fun vs H1 W1 ds h1 g1 lr1 hr1 rx t1 hv => ?_
    rw [← hl] at hv
    rcases shape rx hr1 t1 with ⟨j, rfl, sj, q⟩ | ⟨i, j, rfl, si, sj, q⟩ | ⟨i, j, rfl, si, sj, q⟩
    · simp at hv
    · simp at hv
    · exact ⟨i, j, -1, _, rfl, RgC.neg (smallR_of si).1 (smallR_of si).2 (smallR_of sj).1 (smallR_of sj).2, q⟩
  | _ :: _ :: _ :: _ :: _, _, h3, _, _, _ => exact absurd h3 (by simp)
end
end Tb
namespace Tb
open PySem PySem.Spec PyProof.Rows L2
/-! ### comprehensions -/
/-- D is not ours -/
def Wd.forg (W : Wd) (D : Addr) : Wd := ⟨W.rho, fun a => W.F a ∨ a = D⟩
section
variable {Z : Zn} {W W1 W' : Wd} {H H1 : Hp} {h : Hh} {Da : Addr}
mutual
theorem RelD.forg (n : H Da = none) : ∀ (d : D) {v : V}, RelD Z W H d v → RelD Z (W.forg Da) H d v
  | .non, _, h => h
  | .bl _, _, h => h
  | .int _, _, h => h
  | .str _, _, h => h
  | .tup xs, _, ⟨a, vs, e, f, r⟩ => ⟨a, vs, e, f, RelDs.forg n xs r⟩
  | .lst xs, _, ⟨a, vs, e, ⟨f1, f2, f3⟩, r⟩ => ⟨a, vs, e, ⟨f1, f2, fun m => m.elim f3 fun q => by rw [q, n] at f1; cases f1⟩, RelDs.forg n xs r⟩
  | .kl xs, _, ⟨a, vs, e, f, r⟩ => ⟨a, vs, e, by
      rcases f with ⟨o, f1, f2, f3⟩ | f
      · exact .inl ⟨o, f1, f2, fun m => m.elim f3 fun q => by rw [q, n] at f1; cases f1⟩
      · exact .inr f, RelDs.forg n xs r⟩
  | .dic kvs, _, ⟨a, vs, e, f1, f2, f3, r⟩ => ⟨a, vs, e, f1, f2, fun m => m.elim f3 (fun q => (by rw [q, n] at f1; cases f1)), RelKs.forg n kvs r⟩
  | .cel i, _, h => h
  | .cls _, _, h => h
  | .ty _, _, h => h
  | .exc _, _, h => h
theorem RelDs.forg (n : H Da = none) : ∀ (ds : List D) {vs : List V}, RelDs Z W H ds vs → RelDs Z (W.forg Da) H ds vs
  | [], _, h => h
  | d :: ds, _, ⟨v, r, e, h1, h2⟩ => ⟨v, r, e, RelD.forg n d h1, RelDs.forg n ds h2⟩
theorem RelKs.forg (n : H Da = none) : ∀ (ds : List (Key × D)) {vs : List (Key × V)}, RelKs Z W H ds vs → RelKs Z (W.forg Da) H ds vs
  | [], _, h => h
  | (k, d) :: ds, _, ⟨v, r, e, h1, h2⟩ => ⟨v, r, e, RelD.forg n d h1, RelKs.forg n ds h2⟩
end
mutual
/-- a list that is not ours changes -/
theorem RelD.oth {o : HO} {us : List V} (f : W.F Da) (e0 : H Da = some (.lst us)) : ∀ (d : D) {v : V}, RelD Z W H d v → RelD Z W (upd H Da o) d v
  | .non, _, h => h
  | .bl _, _, h => h
  | .int _, _, h => h
  | .str _, _, h => h
  | .tup xs, _, ⟨a, vs, e, g, r⟩ => ⟨a, vs, e, by
      rcases g with g | g
      · exact .inl (by rw [upd_ne (show a ≠ Da from fun q => by rw [q, e0] at g; cases g)]; exact g)
      · exact .inr g, RelDs.oth f e0 xs r⟩
  | .lst xs, _, ⟨a, vs, e, ⟨f1, f2, f3⟩, r⟩ => ⟨a, vs, e, ⟨by rw [upd_ne (show a ≠ Da from fun q => f3 (q ▸ f))]; exact f1, f2, f3⟩, RelDs.oth f e0 xs r⟩
  | .kl xs, _, ⟨a, vs, e, g, r⟩ => ⟨a, vs, e, by
      rcases g with ⟨o, f1, f2, f3⟩ | g
      · exact .inl ⟨o, by rw [upd_ne (show a ≠ Da from fun q => f3 (q ▸ f))]; exact f1, f2, f3⟩
      · exact .inr g, RelDs.oth f e0 xs r⟩
  | .dic kvs, _, ⟨a, vs, e, f1, f2, f3, r⟩ => ⟨a, vs, e, by rw [upd_ne (show a ≠ Da from fun q => f3 (q ▸ f))]; exact f1, f2, f3, RelKs.oth f e0 kvs r⟩
  | .cel i, _, h => h
  | .cls _, _, h => h
  | .ty _, _, h => h
  | .exc _, _, ⟨a, C, e1, e2, e3, e4, e5⟩ => ⟨a, C, e1, e2, e3, e4, by rw [upd_ne (show a ≠ Da from fun q => by rw [q, e0] at e5; cases e5)]; exact e5⟩
theorem RelDs.oth {o : HO} {us : List V} (f : W.F Da) (e0 : H Da = some (.lst us)) : ∀ (ds : List D) {vs : List V}, RelDs Z W H ds vs → RelDs Z W (upd H Da o) ds vs
  | [], _, h => h
  | d :: ds, _, ⟨v, r, e, h1, h2⟩ => ⟨v, r, e, RelD.oth f e0 d h1, RelDs.oth f e0 ds h2⟩
theorem RelKs.oth {o : HO} {us : List V} (f : W.F Da) (e0 : H Da = some (.lst us)) : ∀ (ds : List (Key × D)) {vs : List (Key × V)}, RelKs Z W H ds vs → RelKs Z W (upd H Da o) ds vs
  | [], _, h => h
  | (k, d) :: ds, _, ⟨v, r, e, h1, h2⟩ => ⟨v, r, e, RelD.oth f e0 d h1, RelKs.oth f e0 ds h2⟩
end
/-- what the items of an object are, by any way of reading data anew -/
theorem ObjR.map {a : Addr} {H' : Hp} (hk : ∀ o, H a = some o → H' a = some o) (hd : ∀ (d : D) v, RelD Z W H d v → RelD Z W' H' d v) : ∀ {o : O}, ObjR Z W H a o → ObjR Z W' H' a o
  | .lst xs, ⟨vs, e, r⟩ => by
    have go : ∀ (xs : List D) (vs : List V), RelDs Z W H xs vs → RelDs Z W' H' xs vs := by
      intro xs
      induction xs with
      | nil => intro vs r; exact r
      | cons x xs ih => intro vs r; obtain ⟨v, q, e, h1, h2⟩ := r; exact ⟨v, q, e, hd x v h1, ih q h2⟩
    exact ⟨vs, hk _ e, go xs vs r⟩
  | .ins c fs, ⟨C, dx, vs, e1, e2, r⟩ => by
    have go : ∀ (fs : List (Str × D)) (vs : List (Str × V)), RelFs Z W H fs vs → RelFs Z W' H' fs vs := by
      intro fs
      induction fs with
      | nil => intro vs r; exact r
      | cons p fs ih => obtain ⟨k, d⟩ := p; intro vs r; obtain ⟨v, q, e, h1, h2⟩ := r; exact ⟨v, q, e, hd d v h1, ih q h2⟩
    exact ⟨C, dx, vs, e1, hk _ e2, go fs vs r⟩
  | .dct kvs, ⟨vs, e, r⟩ => by
    have go : ∀ (fs : List (Key × D)) (vs : List (Key × V)), RelKs Z W H fs vs → RelKs Z W' H' fs vs := by
      intro fs
      induction fs with
      | nil => intro vs r; exact r
      | cons p fs ih => obtain ⟨k, d⟩ := p; intro vs r; obtain ⟨v, q, e, h1, h2⟩ := r; exact ⟨v, q, e, hd d v h1, ih q h2⟩
    exact ⟨vs, hk _ e, go kvs vs r⟩
theorem HRel.forg (hr : HRel Z W H h) (n : H Da = none) {o : HO} : HRel Z (W.forg Da) (upd H Da o) h := by
  have g := Gr.fresh (o := o) hr n
  refine ⟨hr.len, hr.nd, fun i a ob e1 e2 => ?_, fun a m => ?_, fun a m => ?_⟩
  · have q := hr.obj i a ob e1 e2
    refine ObjR.map (fun u e => by rw [upd_ne (ne_of_none e n)]; exact e) (fun d v r => ?_) q
    exact RelD.mono (W := W.forg Da) (W1 := W.forg Da) ⟨⟨[], by simp, fun _ z => nomatch z⟩, rfl, fun a u e _ => by rw [upd_ne (ne_of_none e n)]; exact e, fun a xs _ e => by rw [upd_ne (ne_of_none e n)]; exact e, g.trk⟩ d (RelD.forg n d r)
  · rintro (f | f)
    · exact hr.dis a m f
    · subst f; exact hr.notin n m
  · rcases m with m | m
    · exact fun e => hr.frn a m (g.trk a e)
    · subst m; rw [upd_same]; simp
theorem HRel.oth (hr : HRel Z W H h) {o : HO} {us : List V} (f : W.F Da) (e0 : H Da = some (.lst us)) : HRel Z W (upd H Da o) h :=
  ⟨hr.len, hr.nd, fun i a ob e1 e2 => ObjR.map (fun u e => by rw [upd_ne (show a ≠ Da from fun q => hr.dis a (List.mem_of_getElem? e1) (q ▸ f))]; exact e) (fun d v r => RelD.oth f e0 d r) (hr.obj i a ob e1 e2), hr.dis, fun a m e => by
    by_cases q : a = Da
    · subst q; rw [upd_same] at e; cases e
    · rw [upd_ne q] at e; exact hr.frn a m e⟩
/-- from a start where Da was not there -/
theorem Gr.oth (g : Gr W H W1 H1) (n : H Da = none) {o : HO} : Gr W H W1 (upd H1 Da o) :=
  ⟨g.pre, g.frn, fun a u e m => by rw [upd_ne (ne_of_none e n)]; exact g.keep a u e m, fun a xs f e => by rw [upd_ne (ne_of_none e n)]; exact g.tups a xs f e, fun a e => by
    by_cases q : a = Da
    · subst q; exact n
    · rw [upd_ne q] at e; exact g.trk a e⟩
end
/-- what is left of a comprehension, by the turn -/
structure Rst (it : Tb.It) (g : D → Ls → Option Ls) (t : Ls → Hh → R Bool) (f : Ls → Hh → R D) (ls : Ls) (rest : Nat → Nat → Hh → R (List D)) (Iv : Nat → Nat → Prop) : Prop where
  un : ∀ m i h, Iv m i → rest m i h = .bad ∨ ∃ xs, it.items h = some xs ∧ ((xs.length ≤ i ∧ rest m i h = .ok [] h) ∨ ∃ d l1 m', xs[i]? = some d ∧ g d ls = some l1 ∧ m' < m ∧ Iv m' (i + 1) ∧ i < LIM ∧
    rest m i h = (t l1 h).bind fun b h1 => if b = true then (f l1 h1).bind fun d h2 => (rest m' (i + 1) h2).bind fun ds h3 => .ok (d :: ds) h3 else rest m' (i + 1) h1)
theorem rst_L {it : Tb.It} {g t f ls} {h0 : Hh} {xs : List D} (c : it.cst = true) (e : it.items h0 = some xs) (hl : xs.length ≤ LIM) : Rst it g t f ls (fun _ i h => compL g t f ls (xs.drop i) h) (fun m i => m = xs.length - i) := by
  refine ⟨fun m i h hm => ?_⟩
  have e' : it.items h = some xs := by rw [cst_items c (h' := h0)]; exact e
  by_cases hi : i < xs.length
  · have un : compL g t f ls (xs.drop i) h = match g xs[i] ls with
        | none => .bad
        | some l1 => (t l1 h).bind fun b h1 => if b = true then (f l1 h1).bind fun d h2 => (compL g t f ls (xs.drop (i + 1)) h2).bind fun ds h3 => .ok (d :: ds) h3 else compL g t f ls (xs.drop (i + 1)) h1 := by
      rw [List.drop_eq_getElem_cons hi]; rfl
    cases q : g xs[i] ls with
    | none => rw [q] at un; exact .inl un
    | some l1 => rw [q] at un; exact .inr ⟨xs, e', .inr ⟨xs[i], l1, xs.length - (i + 1), by simp [hi], q, by omega, rfl, by omega, un⟩⟩
  · refine .inr ⟨xs, e', .inl ⟨by omega, ?_⟩⟩
    show compL g t f ls (xs.drop i) h = _
    rw [List.drop_eq_nil_of_le (by omega)]
    rfl
theorem rst_I {it : Tb.It} {g t f ls} : Rst it g t f ls (fun m i h => compI it g t f ls m i h) (fun m i => m + i ≤ FUEL) := by
  refine ⟨fun m i h hm => ?_⟩
  cases m with
  | zero => exact .inl rfl
  | succ m =>
    have un : compI it g t f ls (m + 1) i h = match it.items h with
        | none => .bad
        | some xs => match xs[i]? with
          | none => .ok [] h
          | some x => match g x ls with
            | none => .bad
            | some l1 => (t l1 h).bind fun b h1 => if b = true then (f l1 h1).bind fun d h2 => (compI it g t f ls m (i + 1) h2).bind fun ds h3 => .ok (d :: ds) h3 else compI it g t f ls m (i + 1) h1 := rfl
    cases q : it.items h with
    | none => rw [q] at un; exact .inl un
    | some xs =>
      rw [q] at un
      simp only at un
      cases q2 : xs[i]? with
      | none => rw [q2] at un; exact .inr ⟨xs, rfl, .inl ⟨by simpa using q2, un⟩⟩
      | some d =>
        rw [q2] at un
        simp only at un
        cases q3 : g d ls with
        | none => rw [q3] at un; exact .inl un
        | some l1 => rw [q3] at un; exact .inr ⟨xs, rfl, .inr ⟨d, l1, m, q2, q3, by omega, by omega, by unfold FUEL at hm; unfold LIM; omega, un⟩⟩
abbrev noW : L2.St → Str → Hp → Prop := fun _ _ _ => False
theorem wipeL_rel {Z : Zn} {W H} {ls : Ls} {σ : L2.St} (lr : LRel Z W H ls σ) : ∀ own : List Nat, LRel Z W H (wipeL ls own) (wipe σ own)
  | [] => lr
  | v :: vs => by
    have ih := wipeL_rel lr vs
    refine ⟨by simp [wipeL, wipe, ih.1], fun i d e => ?_⟩
    unfold wipeL at e
    by_cases hi : v = i
    · subst hi
      by_cases hv : v < (wipeL ls vs).length
      · rw [List.getElem?_set_self hv] at e; cases e
      · rw [List.getElem?_eq_none (by simpa using hv)] at e; cases e
    · rw [List.getElem?_set_ne hi] at e
      obtain ⟨w, e1, r⟩ := ih.2 i d e
      refine ⟨w, ?_, r⟩
      unfold wipe
      rw [List.getElem?_set_ne hi]; exact e1
theorem wipe_idem {σ : L2.St} : ∀ own : List Nat, wipe (wipe σ own) own = wipe σ own := by
  have comm : ∀ (own : List Nat) (τ : L2.St) (v : Nat), wipe (τ.set v none) own = (wipe τ own).set v none := by
    intro own
    induction own with
    | nil => intro τ v; rfl
    | cons j own ih =>
      intro τ v
      unfold wipe
      rw [ih]
      by_cases hj : v = j
      · subst hj; rfl
      · rw [List.set_comm _ _ hj]
  intro own
  induction own with
  | nil => rfl
  | cons j own ih =>
    show (wipe ((wipe σ own).set j none) own).set j none = (wipe σ own).set j none
    rw [comm, ih, List.set_set]
section
variable {X : Cx} {Z : Zn} {Wx : L2.St → Str → Hp → Prop} {k : Nat}
theorem comp_core {it : Tb.It} {J : L2.It} {W1 : Wd} {H1 : Hp} {h1 : Hh} {ls : Ls} {σ : L2.St} {own : List Nat} {tgt : Tg} {t : Ls → Hh → R Bool} {f : Ls → Hh → R D} {rest : Nat → Nat → Hh → R (List D)} {Iv : Nat → Nat → Prop} {Q : VK} {c : Bool} {m0 : Nat} {E : Str → Hp → Prop}
    (hR : Rst it (asgT tgt) t f (wipeL ls own) rest Iv) (lr : LRel Z W1 H1 ls σ) (hr : HRel Z W1 H1 h1) (ir : ItR Z W1 H1 it J) (iv : Iv m0 0)
    (hown : tgt.inB own = true)
    (q : TriD Z E Q W1 H1 ((noX (rest m0 0 h1)).bind fun ds h2 => mkL c ds h2)) (Da : Addr) (nD : H1 Da = none) :
    ∃ Wm : Nat → Nat → Hp → Prop, (∃ m, Wm 0 m (upd H1 Da (.lst []))) ∧ ∀ i m H, Wm i m H →
      (J.stop i H ∧ Q (.ref Da) H) ∨ (J.go i H ∧ ∃ Nx : Hp → Prop, (∀ H', Nx H' → ∃ m', m' < m ∧ Wm (i + 1) m' H') ∧ ∀ x H', J.yld i H x H' → TGv Z tgt x (wipe σ own) H' fun σ2 H2 => wipe σ2 own = wipe σ own ∧ TVt Z noW t σ2 H2 fun b H3 =>
        if b = true then TVe Z noW f σ2 H3 fun y H4 => ∃ acc, H4 Da = some (.lst acc) ∧ acc.length < sizeLine ∧ Nx (upd H4 Da (.lst (acc ++ [y]))) else Nx H3) := by
  -- what is wanted of the end, by the items so far
  let Fin : R (List D) → List D → Prop := fun r acc => match r with
    | .ok ds hf => ∀ Wf Hf vs, Gr (W1.forg Da) H1 Wf Hf → Hf Da = some (.lst vs) → RelDs Z Wf Hf (acc ++ ds) vs → HRel Z Wf Hf hf → Q (.ref Da) Hf
    | _ => False
  have fin0 : Fin (rest m0 0 h1) [] := by
    cases e : rest m0 0 h1 with
    | bad => rw [e] at q; exact q
    | exc c' h' => rw [e] at q; exact q
    | ok ds hf =>
      rw [e] at q
      have q : TriD Z E Q W1 H1 (mkL c ds hf) := q
      intro Wf Hf vs g eD rs hrf
      rw [List.nil_append] at rs
      have fD : Wf.F Da := by rw [g.frn]; exact .inr rfl
      have nin : Da ∉ Wf.rho := fun m => hrf.dis Da m fD
      have nF1 : ¬ W1.F Da := hr.nF nD
      have subF : ∀ a, W1.F a → Wf.F a := fun a z => by rw [g.frn]; exact .inl z
      cases c with
      | false =>
        refine q (.ref Da) ⟨Wf.rho, W1.F⟩ Hf ⟨g.pre, rfl, g.keep, g.tups, g.trk⟩ ⟨hrf.len, hrf.nd, fun i a o e1 e2 => ObjR.map (W := Wf) (W' := ⟨Wf.rho, W1.F⟩) (fun _ z => z) (fun d v r => RelD.chg (W := Wf) (W' := ⟨Wf.rho, W1.F⟩) (fun a m => m.imp id (subF a)) (fun _ _ z => z) d r) (hrf.obj i a o e1 e2), fun a m z => hrf.dis a m (subF a z), fun a z => hrf.frn a (subF a z)⟩ ?_
        exact ⟨Da, vs, rfl, ⟨eD, nin, nF1⟩, RelDs.chg (W := Wf) (W' := ⟨Wf.rho, W1.F⟩) (fun a m => m.imp id (subF a)) (fun _ _ z => z) ds rs⟩
      | true =>
        obtain ⟨l, el, nl⟩ := g.pre
        have toD : ∀ (d : D) v, RelD Z Wf Hf d v → RelD Z ⟨Wf.rho ++ [Da], W1.F⟩ Hf d v := fun d v r => RelD.chg (W := Wf) (W' := ⟨Wf.rho ++ [Da], W1.F⟩) (fun a m => by
          rcases m with m | m
          · rcases List.mem_append.mp m with m | m
            · exact .inl m
            · rw [List.mem_singleton.mp m]; exact .inr fD
          · exact .inr (subF a m)) (fun i a z => by
            show (Wf.rho ++ [Da])[i]? = some a
            rw [List.getElem?_append_left (List.getElem?_eq_some_iff.mp z).1]; exact z) d r
        refine q (.ref Da) ⟨Wf.rho ++ [Da], W1.F⟩ Hf ⟨⟨l ++ [Da], by show Wf.rho ++ [Da] = _; rw [el, List.append_assoc]; rfl, fun a m => ?_⟩, rfl, g.keep, g.tups, g.trk⟩ ⟨by simp [hrf.len], ?_, fun i a o e1 e2 => ?_, fun a m z => ?_, fun a z => hrf.frn a (subF a z)⟩ ⟨Da, rfl, ?_⟩
        · rcases List.mem_append.mp m with m | m
          · exact nl a m
          · rw [List.mem_singleton.mp m]; exact nD
        · show (Wf.rho ++ [Da]).Nodup
          rw [List.nodup_append]
          exact ⟨hrf.nd, by simp, fun a ha b hb => by rw [List.mem_singleton.mp hb]; rintro rfl; exact nin ha⟩
        · have e1 : (Wf.rho ++ [Da])[i]? = some a := e1
          by_cases hi : i < Wf.rho.length
          · rw [List.getElem?_append_left hi] at e1
            rw [List.getElem?_append_left (by rw [← hrf.len]; exact hi)] at e2
            exact ObjR.map (fun _ z => z) toD (hrf.obj i a o e1 e2)
          · have hl := hrf.len
            have hi2 : i = Wf.rho.length := by
              have := (List.getElem?_eq_some_iff.mp e1).1
              simp at this; omega
            subst hi2
            rw [List.getElem?_append_right (Nat.le_refl _)] at e1
            rw [hl, List.getElem?_append_right (Nat.le_refl _)] at e2
            simp at e1 e2
            subst e1 e2
            have go : ∀ (xs : List D) (vs : List V), RelDs Z Wf Hf xs vs → RelDs Z ⟨Wf.rho ++ [Da], W1.F⟩ Hf xs vs := by
              intro xs
              induction xs with
              | nil => intro vs r; exact r
              | cons x xs ih => intro vs r; obtain ⟨v, q, e, h1, h2⟩ := r; exact ⟨v, q, e, toD x v h1, ih q h2⟩
            exact ⟨vs, eD, go ds vs rs⟩
        · rcases List.mem_append.mp m with m | m
          · exact hrf.dis a m (subF a z)
          · rw [List.mem_singleton.mp m] at z; exact nF1 z
        · show (Wf.rho ++ [Da])[hf.length]? = some Da
          rw [← hrf.len, List.getElem?_append_right (Nat.le_refl _)]; simp
  refine ⟨fun i m H => ∃ Wk hk accD accV, H Da = some (.lst accV) ∧ RelDs Z Wk H accD accV ∧ HRel Z Wk H hk ∧ Gr (W1.forg Da) H1 Wk H ∧ accD.length ≤ i ∧ Iv m i ∧ Fin (rest m i hk) accD, ⟨m0, W1.forg Da, h1, [], [], upd_same, rfl, hr.forg nD, Gr.oth Gr.refl nD, Nat.le_refl _, iv, fin0⟩, ?_⟩
  rintro i m H ⟨Wk, hk, accD, accV, eD, rs, hrk, gk, hlen, ivk, fk⟩
  have lrk : LRel Z Wk H (wipeL ls own) (wipe σ own) := by
    have l0 : LRel Z (W1.forg Da) H1 ls σ := ⟨lr.1, fun i d e => let ⟨v, e1, r⟩ := lr.2 i d e; ⟨v, e1, RelD.forg nD d r⟩⟩
    exact wipeL_rel (l0.mono gk) own
  have irk : ItR Z Wk H it J := by
    have i0 : ItR Z (W1.forg Da) H1 it J := by
      cases it with
      | seq d => obtain ⟨a, r, e⟩ := ir; exact ⟨a, RelD.forg nD d r, e⟩
      | enu d => obtain ⟨a, r, e⟩ := ir; exact ⟨a, RelD.forg nD d r, e⟩
      | zip d e => obtain ⟨a, b, r, r2, e'⟩ := ir; exact ⟨a, b, RelD.forg nD d r, RelD.forg nD e r2, e'⟩
      | rev d n => obtain ⟨a, r, e⟩ := ir; exact ⟨a, RelD.forg nD d r, e⟩
      | rng lo n st => exact ir
    exact i0.mono gk
  have fD : ∀ {Wf Hf}, Gr (W1.forg Da) H1 Wf Hf → Wf.F Da := fun g => by rw [g.frn]; exact .inr rfl
  have nin : ∀ {Wf Hf hf}, Gr (W1.forg Da) H1 Wf Hf → HRel Z Wf Hf hf → Da ∉ Wf.rho := fun g hrf m => hrf.dis Da m (fD g)
  rcases hR.un m i hk ivk with bad | ⟨xs, ex, ⟨hi, er⟩ | ⟨d, l1, m', ed, eg, hm, iv', hL, er⟩⟩
  · rw [bad] at fk; exact fk.elim
  · rw [er] at fk
    exact .inl ⟨irk.stop hrk ex hi, fk Wk H accV gk eD (by simpa using rs) hrk⟩
  · rw [er] at fk
    obtain ⟨go, yl⟩ := irk.go hrk ex ed
    refine .inr ⟨go, fun H' => ∃ m', m' < m ∧ ∃ Wk hk accD accV, H' Da = some (.lst accV) ∧ RelDs Z Wk H' accD accV ∧ HRel Z Wk H' hk ∧ Gr (W1.forg Da) H1 Wk H' ∧ accD.length ≤ i + 1 ∧ Iv m' (i + 1) ∧ Fin (rest m' (i + 1) hk) accD, fun H' z => z, fun x H' y => ?_⟩
    obtain ⟨g2, hr2, rx⟩ := yl x H' y
    refine ⟨Wk, d, wipeL ls own, l1, lrk.mono g2, rx, eg, fun σ2 lr2 hw => ⟨by rw [hw own hown, wipe_idem], Wk, l1, hk, lr2, hr2, ?_⟩⟩
    have eD2 : H' Da = some (.lst accV) := g2.keep Da _ eD (nin gk hrk)
    cases et : t l1 hk with
    | bad => rw [et] at fk; exact fk
    | exc c' h' => rw [et] at fk; exact False.elim fk
    | ok b h3 =>
      rw [et] at fk
      intro b' W3 H3 g3 hr3 eb
      subst eb
      have gk3 := (gk.trans g2).trans g3
      have eD3 : H3 Da = some (.lst accV) := g3.keep Da _ eD2 (nin (gk.trans g2) hr2)
      cases b with
      | false =>
        simp only [Bool.false_eq_true, if_false]
        exact ⟨m', hm, W3, h3, accD, accV, eD3, RelDs.mono g3 _ (RelDs.mono g2 _ rs), hr3, gk3, by omega, iv', fk⟩
      | true =>
        simp only [if_true]
        refine ⟨W3, l1, h3, lr2.mono g3, hr3, ?_⟩
        have fk : Fin ((f l1 h3).bind fun d h2 => (rest m' (i + 1) h2).bind fun ds h3 => .ok (d :: ds) h3) accD := fk
        cases ef : f l1 h3 with
        | bad => rw [ef] at fk; exact fk
        | exc c' h' => rw [ef] at fk; exact False.elim fk
        | ok dv h4 =>
          rw [ef] at fk
          intro yv W4 H4 g4 hr4 ry
          have gk4 := gk3.trans g4
          have eD4 : H4 Da = some (.lst accV) := g4.keep Da _ eD3 (nin gk3 hr3)
          have f4 := fD gk4
          have rs4 : RelDs Z W4 H4 accD accV := RelDs.mono g4 _ (RelDs.mono g3 _ (RelDs.mono g2 _ rs))
          refine ⟨accV, eD4, ?_, m', hm, W4, h4, accD ++ [dv], accV ++ [yv], upd_same, RelDs.oth f4 eD4 _ (RelDs.append rs4 (RelDs.one ry)), hr4.oth f4 eD4, gk4.oth nD, by simp; omega, iv', ?_⟩
          · rw [← rs4.length]
            exact lim_lt (Nat.le_of_lt (Nat.lt_of_le_of_lt hlen hL))
          · have fk : Fin ((rest m' (i + 1) h4).bind fun ds h3 => .ok (dv :: ds) h3) accD := fk
            cases er2 : rest m' (i + 1) h4 with
            | bad => rw [er2] at fk; exact fk
            | exc c' h' => rw [er2] at fk; exact fk
            | ok ds hf =>
              rw [er2] at fk
              intro Wf Hf vs g' e' r' hr'
              exact fk Wf Hf vs g' e' (by simpa using r') hr'
theorem comp_run {it : Tb.It} {J : L2.It} {W1 : Wd} {H1 : Hp} {h1 : Hh} {ls : Ls} {σ : L2.St} {own : List Nat} {tgt : Tg} {t : Ls → Hh → R Bool} {f : Ls → Hh → R D} {Q : VK} {c : Bool} {E : Str → Hp → Prop}
    (lr : LRel Z W1 H1 ls σ) (hr : HRel Z W1 H1 h1) (ir : ItR Z W1 H1 it J) (hown : tgt.inB own = true)
    (q : TriD Z E Q W1 H1 ((noX (compR it (asgT tgt) t f (wipeL ls own) h1)).bind fun ds h2 => mkL c ds h2)) (Da : Addr) (nD : H1 Da = none) :
    ∃ Wm : Nat → Nat → Hp → Prop, (∃ m, Wm 0 m (upd H1 Da (.lst []))) ∧ ∀ i m H, Wm i m H →
      (J.stop i H ∧ Q (.ref Da) H) ∨ (J.go i H ∧ ∃ Nx : Hp → Prop, (∀ H', Nx H' → ∃ m', m' < m ∧ Wm (i + 1) m' H') ∧ ∀ x H', J.yld i H x H' → TGv Z tgt x (wipe σ own) H' fun σ2 H2 => wipe σ2 own = wipe σ own ∧ TVt Z noW t σ2 H2 fun b H3 =>
        if b = true then TVe Z noW f σ2 H3 fun y H4 => ∃ acc, H4 Da = some (.lst acc) ∧ acc.length < sizeLine ∧ Nx (upd H4 Da (.lst (acc ++ [y]))) else Nx H3) := by
  unfold compR at q
  by_cases hc : it.cst = true
  · rw [if_pos hc] at q
    cases e : it.items h1 with
    | none => rw [e] at q; exact q.elim
    | some xs =>
      rw [e] at q
      simp only at q
      by_cases hl : xs.length ≤ LIM
      · rw [if_pos hl] at q
        exact comp_core (rst_L hc e hl) lr hr ir (m0 := xs.length) rfl hown (by simpa using q) Da nD
      · rw [if_neg hl] at q; exact q.elim
  · rw [if_neg hc] at q
    exact comp_core rst_I lr hr ir (m0 := FUEL) (by omega) hown q Da nD
theorem Gd.blk (g : Gd Z Wx k X) (s : Shared) (H : Hp) (scope : Scope) (ce : Env) (fp : List Addr) : Gd Z noW k (X.blk s H scope ce fp) :=
  ⟨g.hK, g.calm, g.nd, g.room, g.qt, g.free, g.sys, fun u s' ⟨_, _, _, _, _, _, _, _, _, _, _, _, _, _, _, _, z⟩ => by
    obtain ⟨_, _, _, _, _, _, z⟩ := z
    exact z.elim⟩
theorem cc_blk {s : Shared} {H : Hp} {scope : Scope} {cl : List (Str × Addr)} {C : Addr} {fp : List Addr} : ccOf (X.blk s H scope (compEnvC scope cl C X.env) fp) = ⟨X.N, relS scope X.env.scope, fun x => scope.names.lookup x == some .cell⟩ := rfl
theorem e_comp {c : Bool} {own : List Nat} {tgt : Tg} {it : I} {tt : Es} {elt : E} {el t i : Expr} {fs : List Expr} {sc : Scope} {pos : Pos} {ow : List (Str × Nat)} (g : Gd Z Wx k X) (ok : blkC X.N X.env.scope sc ow = true) (ho : ow.map (·.2) = own)
    (hi : PI X t i (TVi Z Wx (evI it))) (hs : nSet i = true) (ht : okTg ⟨X.N, relS sc X.env.scope, fun x => sc.names.lookup x == some .cell⟩ tgt t = true)
    (hown : tgt.inB own = true)
    (hf : ∀ (s : Shared) (H : Hp) (C : Addr) (cl : List (Str × Addr)) (fp : List Addr), PTs (X.blk s H sc (compEnvC sc cl C X.env) fp) fs (TVt Z noW (evTs tt)))
    (he : ∀ (s : Shared) (H : Hp) (C : Addr) (cl : List (Str × Addr)) (fp : List Addr), PE (X.blk s H sc (compEnvC sc cl C X.env) fp) el (TVe Z noW (evE elt))) :
    PE X (.ListComp el [⟨t, i, fs, 0⟩] sc pos) (TVe Z Wx (evE (.comp c own tgt it tt elt))) := by
  subst ho
  refine (pe_lc g.calm g.nd hi (blkOk_by ok) (fun s H C cl fp => g_tg (X := X.blk s H sc (compEnvC sc cl C X.env) fp) g.hK g.calm g.nd ht) hf he (fold_of hs)).imp fun σ H Q ⟨W, ls, h, lr, hr, q⟩ => ?_
  exact step lr hr q fun J H1 W1 iv h1 g1 lr1 hr1 ir t1 Da nD => comp_run lr1 hr1 ir hown t1 Da nD
/-- name = [..] on one line -/
theorem s_comp {c : Bool} {own : List Nat} {tgt : Tg} {it : I} {tt : Es} {elt : E} {el t i : Expr} {fs : List Expr} {sc : Scope} {pos spos py : Pos} {ow : List (Str × Nat)} {j : Nat} {y : Str} (g : Gd Z Wx k X) (kind : X.env.scope.kind = .function) (ok : blkC X.N X.env.scope sc ow = true) (ho : ow.map (·.2) = own)
    (hj : X.N[j]? = some y) (hy : X.env.scope.names.lookup y = some .local) (hl : (py.line == pos.line) = true) (hn : (sc.names.any fun (n, k) => n == y && (k == .local || k == .cell)) = false)
    (hi : PI X t i (TVi Z Wx (evI it))) (hs : nSet i = true) (ht : okTg ⟨X.N, relS sc X.env.scope, fun x => sc.names.lookup x == some .cell⟩ tgt t = true)
    (hown : tgt.inB own = true)
    (hf : ∀ (s : Shared) (H : Hp) (C : Addr) (cl : List (Str × Addr)) (fp : List Addr), PTs (X.blk s H sc (compEnvC sc cl C X.env) fp) fs (TVt Z noW (evTs tt)))
    (he : ∀ (s : Shared) (H : Hp) (C : Addr) (cl : List (Str × Addr)) (fp : List Addr), PE (X.blk s H sc (compEnvC sc cl C X.env) fp) el (TVe Z noW (evE elt))) :
    ∃ te : TE, PS X (.Assign [.Name y py] (.ListComp el [⟨t, i, fs, 0⟩] sc pos) spos) (tAsg te (gName j)) ∧ ∀ σ H Q, TVe Z Wx (evE (.comp c own tgt it tt elt)) σ H Q → te σ H Q := by
  subst ho
  refine ⟨_, ps_setLc g.calm g.nd hj hy (sw_true kind hy hl hn) hi (blkOk_by ok) (fun s H C cl fp => g_tg (X := X.blk s H sc (compEnvC sc cl C X.env) fp) g.hK g.calm g.nd ht) hf he (fold_of hs), fun σ H Q ⟨W, ls, h, lr, hr, q⟩ => ?_⟩
  exact step lr hr q fun J H1 W1 iv h1 g1 lr1 hr1 ir t1 Da nD => comp_run lr1 hr1 ir hown t1 Da nD
end
end Tb
namespace Tb
open PySem PySem.Spec PyProof.Rows L2
theorem mapM_own {N : List Str} : ∀ {own : List Nat} {ow : List (Str × Nat)}, own.mapM (fun j => N[j]?.map fun n => (n, j)) = some ow → ow.map (·.2) = own
  | [], ow, e => by simp at e; subst e; rfl
  | j :: own, ow, e => by
    simp only [List.mapM_cons, Option.bind_eq_bind] at e
    cases q : N[j]? with
    | none => simp [q] at e
    | some n =>
      cases q2 : own.mapM fun j => N[j]?.map fun n => (n, j) with
      | none => simp [q, q2] at e
      | some r =>
        simp only [q, q2, Option.map_some, Option.bind_some, pure, Option.some.injEq] at e
        subst e
        simp [mapM_own q2]
theorem callN_of {n : Str} {x : Expr} {xs : List Expr} (h : callN n x = some xs) : ∃ p pos, x = .Call (.Name n p) xs [] pos ∧ xs.all nStar = true := by
  unfold callN at h
  split at h
  · split at h
    · rename_i h2
      cases h
      obtain ⟨rfl, h3⟩ := h2
      exact ⟨_, _, rfl, h3⟩
    · cases h
  · cases h
theorem okI_set {c : Cc} {t : Expr} {i : I} {x : Expr} (h : okI c t i x = true) : nSet x = true := by
  have go : ∀ {n : Str} {xs : List Expr}, callN n x = some xs → nSet x = true := fun q => by
    obtain ⟨_, _, rfl, _⟩ := callN_of q
    rfl
  cases i with
  | seq e => simp only [okI, Bool.and_eq_true] at h; exact h.1
  | rng es =>
    unfold okI at h
    split at h
    · exact go (by assumption)
    · cases h
  | enu e =>
    unfold okI at h
    split at h
    · exact go (by assumption)
    · cases h
  | zip a b =>
    unfold okI at h
    split at h
    · exact go (by assumption)
    · cases h
  | rev e =>
    unfold okI at h
    split at h
    · exact go (by assumption)
    · cases h
theorem isTup_of {t : Expr} (h : isTup t = true) : ∃ es k p, t = .Tuple es k p := by
  cases t <;> first | (cases h; done) | exact ⟨_, _, _, rfl⟩
theorem oneE_of {xs : List Expr} {y : Expr} (h : oneE xs = some y) : xs = [y] := by
  unfold oneE at h
  split at h
  · cases h; rfl
  · cases h
theorem pairsE_of {xs : List Expr} {y z : Expr} (h : pairsE xs = some (y, z)) : xs = [y, z] := by
  unfold pairsE at h
  split at h
  · cases h; rfl
  · cases h
theorem t_ife {X : Cx} {Z : Zn} {Wx : L2.St → Str → Hp → Prop} {t a b : E} {u l r : Expr} {pos : Pos} (ht : PT X u (TVt Z Wx (evT t))) (ha : PT X l (TVt Z Wx (evT a))) (hb : PT X r (TVt Z Wx (evT b))) : PT X (.IfExp u l r pos) (TVt Z Wx (evT (.ife t a b))) where
  run := by
    rintro pins s σ H Q I ⟨W, ls, h, lr, hr, q⟩
    have q' : TriB Z (Wx σ) Q W H ((evT t ls h).bind fun kk h2 => if kk = true then evT a ls h2 else evT b ls h2) := by
      refine cast (congrArg _ ?_) q
      unfold evT
      rw [show evE (.ife t a b) ls h = (evE t ls h).bind fun x h1 => (truD x h1).bind fun k h2 => if k = true then evE a ls h2 else evE b ls h2 from rfl, R.bind_assoc, R.bind_assoc]
      congr 1; funext x h1
      rw [R.bind_assoc]
      congr 1; funext c h2
      cases c <;> rfl
    refine isTrue_IfExp (thn (ht.run pins s σ H _ I (step (rel2 := fun _ _ a b => a = b) (Q2 := fun c H1 => if c = true then TVt Z Wx (evT a) σ H1 Q else TVt Z Wx (evT b) σ H1 Q) lr hr q' fun x H1 W1 d h1 g1 lr1 hr1 rx t1 => ?_)) fun c s1 ⟨H1, I1, z⟩ => ?_)
    · subst rx
      cases d with
      | true => exact ⟨W1, ls, h1, lr1, hr1, t1⟩
      | false => exact ⟨W1, ls, h1, lr1, hr1, t1⟩
    · cases c with
      | true => exact ha.run pins s1 σ H1 Q I1 z
      | false => exact hb.run pins s1 σ H1 Q I1 z
def DnE (Z : Zn) (k : Nat) (e : E) : Prop := ∀ ⦃X : Cx⦄ ⦃Wx : L2.St → Str → Hp → Prop⦄ ⦃x : Expr⦄, Gd Z Wx k X → okE (ccOf X) e x = true → AE Z k X e → PE X x (TVe Z Wx (evE e)) ∧ PT X x (TVt Z Wx (evT e))
def DnEs (Z : Zn) (k : Nat) (es : Es) : Prop := ∀ ⦃X : Cx⦄ ⦃Wx : L2.St → Str → Hp → Prop⦄ ⦃xs : List Expr⦄, Gd Z Wx k X → okEs (ccOf X) es xs = true → AEs Z k X es →
  PA X xs (TVa Z Wx (evEs es)) ∧ (∀ o pos, es ≠ .nil → PE X (.BoolOp o xs pos) (TVe Z Wx (evB o es)) ∧ PW X (.BoolOp o xs pos) (TVt Z Wx (evBT o es))) ∧ PTs X xs (TVt Z Wx (evTs es))
def DnI (Z : Zn) (k : Nat) (i : I) : Prop := ∀ ⦃X : Cx⦄ ⦃Wx : L2.St → Str → Hp → Prop⦄ ⦃tg x : Expr⦄, Gd Z Wx k X → okI (ccOf X) tg i x = true → AI Z k X i → PI X tg x (TVi Z Wx (evI i))
theorem both {X : Cx} {Z : Zn} {Wx : L2.St → Str → Hp → Prop} {e : E} {x : Expr} (n : nTst x = true) (p : PE X x (TVe Z Wx (evE e))) : PE X x (TVe Z Wx (evE e)) ∧ PT X x (TVt Z Wx (evT e)) := ⟨p, t_val p n⟩
mutual
theorem sdE {Z : Zn} {k : Nat} : ∀ e : E, DnE Z k e
  | .var i => by
    intro X Wx x g h A
    unfold okE at h
    split at h
    · exact both rfl (e_var h)
    · cases h
  | .int i => by
    intro X Wx x g h A
    unfold okE at h
    split at h
    · cases of_decide_eq_true h
      exact both rfl (e_const (d := .int _) (v := .int _) (fun _ _ => rfl) (fun _ _ => rfl) pe_int)
    · cases h
  | .bl b => by
    intro X Wx x g h A
    unfold okE at h
    split at h
    · cases of_decide_eq_true h
      exact both rfl (e_const (d := .bl _) (v := .bl _) (fun _ _ => rfl) (fun _ _ => rfl) pe_bl)
    · cases h
  | .non => by
    intro X Wx x g h A
    unfold okE at h
    split at h
    · exact both rfl (e_const (d := .non) (v := .non) (fun _ _ => rfl) (fun _ _ => rfl) pe_non)
    · cases h
  | .str s => by
    intro X Wx x g h A
    unfold okE at h
    split at h
    · cases of_decide_eq_true h
      exact both rfl (e_const (d := .str _) (v := .str _) (fun _ _ => rfl) (fun _ _ => rfl) pe_str)
    · cases h
  | .glo n d => by
    intro X Wx x g h A
    unfold okE at h
    split at h
    · simp only [Bool.and_eq_true, decide_eq_true_eq] at h
      obtain ⟨rfl, h2⟩ := h
      have A : GloA Z X n d := A
      obtain ⟨u, v, m, r, rd⟩ := A
      exact both rfl (e_const rd (fun _ _ => rfl) (pe_glob (gl_of h2).1 m r (gl_of h2).2))
    · cases h
  | .bty n => by
    intro X Wx x g h A
    unfold okE at h
    split at h
    · simp only [Bool.and_eq_true, decide_eq_true_eq] at h
      obtain ⟨⟨rfl, h1⟩, h2⟩ := h
      obtain ⟨b1, b2, b3⟩ := bty_of h1
      exact both rfl (e_const (d := .ty n) (v := .ty n) (fun _ _ => rfl) (fun _ _ => rfl) (pe_bltn (gl_of h2).1 (g.free _ b2) b1 rfl b3 (gl_of h2).2))
    · cases h
  | .bin c o a b => by
    intro X Wx x g h A
    unfold okE at h
    split at h
    · simp only [Bool.and_eq_true, decide_eq_true_eq] at h
      obtain ⟨⟨rfl, h1⟩, h2⟩ := h
      have A : AE Z k X a ∧ AE Z k X b := A
      exact both rfl (e_bin g (sdE a g h1 A.1).1 (sdE b g h2 A.2).1)
    · cases h
  | .neg a => by
    intro X Wx x g h A
    unfold okE at h
    split at h
    · have A : AE Z k X a := A
      exact both rfl (e_neg (sdE a g h A).1)
    · cases h
  | .cmp o a b => by
    intro X Wx x g h A
    unfold okE at h
    split at h
    · simp only [Bool.and_eq_true, decide_eq_true_eq] at h
      obtain ⟨⟨⟨rfl, h0⟩, h1⟩, h2⟩ := h
      have A : AE Z k X a ∧ AE Z k X b := A
      exact ⟨e_cmp g (sdE a g h1 A.1).1 (sdE b g h2 A.2).1 h0, t_cmp g (sdE a g h1 A.1).1 (sdE b g h2 A.2).1 h0⟩
    · cases h
  | .chn o o2 a b c => by
    intro X Wx x g h A
    unfold okE at h
    split at h
    · simp only [Bool.and_eq_true, decide_eq_true_eq] at h
      obtain ⟨⟨⟨⟨⟨rfl, rfl⟩, h0⟩, h1⟩, h2⟩, h3⟩ := h
      have A : AE Z k X a ∧ AE Z k X b ∧ AE Z k X c := A
      exact ⟨e_chn g (sdE a g h1 A.1).1 (sdE b g h2 A.2.1).1 (sdE c g h3 A.2.2).1 h0, t_chn g (sdE a g h1 A.1).1 (sdE b g h2 A.2.1).1 (sdE c g h3 A.2.2).1 h0⟩
    · cases h
  | .bop o es => by
    intro X Wx x g h A
    unfold okE at h
    split at h
    · simp only [Bool.and_eq_true, decide_eq_true_eq] at h
      obtain ⟨rfl, h1⟩ := h
      have A : AEs Z k X es := A
      by_cases hn : es = .nil
      · subst hn
        exact ⟨⟨fun pins s σ H Q I ⟨W, ls, h, lr, hr, t⟩ => t.elim⟩, ⟨fun pins s σ H Q I ⟨W, ls, h, lr, hr, t⟩ => t.elim⟩⟩
      · obtain ⟨p1, p2⟩ := (sdEs es g h1 A).2.1 o _ hn
        exact ⟨p1, p2.pt⟩
    · cases h
  | .not a => by
    intro X Wx x g h A
    unfold okE at h
    split at h
    · have A : AE Z k X a := A
      exact ⟨e_not (sdE a g h A).1, t_not (sdE a g h A).2⟩
    · cases h
  | .ife t a b => by
    intro X Wx x g h A
    unfold okE at h
    split at h
    · simp only [Bool.and_eq_true, decide_eq_true_eq] at h
      obtain ⟨⟨h1, h2⟩, h3⟩ := h
      have A : AE Z k X t ∧ AE Z k X a ∧ AE Z k X b := A
      exact ⟨e_ife (sdE t g h1 A.1).2 (sdE a g h2 A.2.1).1 (sdE b g h3 A.2.2).1, t_ife (sdE t g h1 A.1).2 (sdE a g h2 A.2.1).2 (sdE b g h3 A.2.2).2⟩
    · cases h
  | .lst c es => by
    intro X Wx x g h A
    unfold okE at h
    split at h
    · have A : AEs Z k X es := A
      exact both rfl (e_lst (sdEs es g h A).1)
    · cases h
  | .tup es => by
    intro X Wx x g h A
    unfold okE at h
    split at h
    · have A : AEs Z k X es := A
      exact both rfl (e_tup (sdEs es g h A).1)
    · cases h
  | .idx a i => by
    intro X Wx x g h A
    unfold okE at h
    split at h
    · simp only [Bool.and_eq_true] at h
      obtain ⟨⟨h0, h1⟩, h2⟩ := h
      have A : AE Z k X a ∧ AE Z k X i := A
      exact both rfl (e_idx g (sdE a g h1 A.1).1 (sdE i g h2 A.2).1 h0)
    · cases h
  | .slU c a hi => by
    intro X Wx x g h A
    unfold okE at h
    split at h
    · simp only [Bool.and_eq_true] at h
      have A : AE Z k X a ∧ AE Z k X hi := A
      exact both rfl (e_slU g (sdE a g h.1 A.1).1 (sdE hi g h.2 A.2).1)
    · cases h
  | .slL c a lo => by
    intro X Wx x g h A
    unfold okE at h
    split at h
    · simp only [Bool.and_eq_true] at h
      have A : AE Z k X a ∧ AE Z k X lo := A
      exact both rfl (e_slL g (sdE a g h.1 A.1).1 (sdE lo g h.2 A.2).1)
    · cases h
  | .slB c a lo hi => by
    intro X Wx x g h A
    unfold okE at h
    split at h
    · simp only [Bool.and_eq_true] at h
      have A : AE Z k X a ∧ AE Z k X lo ∧ AE Z k X hi := A
      exact both rfl (e_slB g (sdE a g h.1.1 A.1).1 (sdE lo g h.1.2 A.2.1).1 (sdE hi g h.2 A.2.2).1)
    · cases h
  | .call m n F es => by
    intro X Wx x g h A
    unfold okE at h
    split at h
    · simp only [Bool.and_eq_true, decide_eq_true_eq] at h
      obtain ⟨⟨rfl, h1⟩, h2⟩ := h
      have A : FnA Z k X n F es.len ∧ AEs Z k X es := A
      exact both rfl (e_call g A.1 h1 (sdEs es g h2 A.2).1 (okEs_star h2) (okEs_len h2))
    · cases h
  | .bi b c es => by
    intro X Wx x g h A
    unfold okE at h
    split at h
    · simp only [Bool.and_eq_true, decide_eq_true_eq] at h
      obtain ⟨⟨⟨rfl, h0⟩, h1⟩, h2⟩ := h
      have A : AEs Z k X es := A
      exact both rfl (e_bi g h1 (fun q => by rw [q] at h0; cases h0) (okEs_star h2) (sdEs es g h2 A).1)
    · cases h
  | .isi a b => by
    intro X Wx x g h A
    unfold okE at h
    split at h
    · simp only [Bool.and_eq_true, decide_eq_true_eq] at h
      obtain ⟨⟨⟨⟨⟨rfl, h1⟩, h2⟩, h3⟩, h4⟩, h5⟩ := h
      have A : AE Z k X a ∧ AE Z k X b := A
      exact both rfl (e_isi g h1 h4 h5 (sdE a g h2 A.1).1 (sdE b g h3 A.2).1)
    · cases h
  | .me m c a es => by
    intro X Wx x g h A
    unfold okE at h
    split at h
    · simp only [Bool.and_eq_true, decide_eq_true_eq] at h
      obtain ⟨⟨⟨⟨⟨rfl, h1⟩, h2⟩, h3⟩, h4⟩, h5⟩ := h
      have A : AE Z k X a ∧ AEs Z k X es := A
      exact both rfl (e_me g h1 h2 h3 (okEs_star h5) (sdE a g h4 A.1).1 (okEs_len h5) (sdEs es g h5 A.2).1)
    · cases h
  | .comp c own tg it tt elt => by
    intro X Wx x g h A
    unfold okE at h
    split at h
    · split at h
      · rename_i ow hm
        simp only [Bool.and_eq_true] at h
        obtain ⟨⟨⟨⟨⟨h1, h2⟩, h3⟩, h4⟩, h5⟩, h6⟩ := h
        have A : AI Z k X it ∧ AEs Z k X tt ∧ AE Z k X elt := A
        exact both rfl (e_comp g h1 (mapM_own hm) (sdI it g h3 A.1) (okI_set h3) h2 h6 (fun s H C cl fp => (sdEs tt (g.blk s H _ _ fp) h4 A.2.1).2.2) (fun s H C cl fp => (sdE elt (g.blk s H _ _ fp) h5 A.2.2).1))
      · cases h
    · cases h
  | .rvl c a => by
    intro X Wx x g h A
    unfold okE at h
    split at h
    · have A : AE Z k X a := A
      exact both rfl (e_rvl g (sdE a g h A).1)
    · cases h
  | .strx n a => by
    intro X Wx x g h A
    unfold okE at h
    split at h
    · simp only [Bool.and_eq_true, decide_eq_true_eq] at h
      obtain ⟨⟨⟨⟨⟨rfl, rfl⟩, h1⟩, h2⟩, h3⟩, h4⟩ := h
      have A : GloA Z X n (.cls n) ∧ AE Z k X a := A
      exact both rfl (e_strx g h1 h2 h3 A.1 (sdE a g h4 A.2).1)
    · cases h
  | .lset a => by
    intro X Wx x g h A
    unfold okE at h
    split at h
    · simp only [Bool.and_eq_true, decide_eq_true_eq] at h
      obtain ⟨⟨⟨⟨⟨rfl, rfl⟩, h1⟩, h2⟩, h3⟩, h4⟩ := h
      have A : AE Z k X a := A
      exact both rfl (e_lset g h1 h2 h3 (sdE a g h4 A).1)
    · cases h
  | .lrg c a b => by
    intro X Wx x g h A
    unfold okE at h
    split at h
    · simp only [Bool.and_eq_true, decide_eq_true_eq] at h
      obtain ⟨⟨⟨⟨⟨⟨⟨rfl, rfl⟩, h1⟩, h2⟩, h3⟩, h4⟩, h5⟩, h6⟩ := h
      have A : AE Z k X a ∧ AE Z k X b := A
      exact both rfl (e_lrg g h1 h2 h3 h4 (sdE a g h5 A.1).1 (sdE b g h6 A.2).1)
    · simp only [Bool.and_eq_true, decide_eq_true_eq] at h
      obtain ⟨⟨⟨⟨⟨⟨rfl, rfl⟩, h1⟩, h2⟩, h3⟩, h4⟩, h5⟩ := h
      have A : AE Z k X a ∧ AE Z k X b := A
      have hb := (sdE b g h5 A.2).1
      have hz := E.isZ_eq h4
      subst hz
      exact both rfl (e_lrg1 g h1 h2 h3 hb)
    · cases h
  | .dnew => by
    intro X Wx x g h A
    unfold okE at h
    split at h
    · exact both rfl e_dnew
    · cases h
  | .dget a i => by
    intro X Wx x g h A
    unfold okE at h
    split at h
    · simp only [Bool.and_eq_true] at h
      obtain ⟨⟨h0, h1⟩, h2⟩ := h
      have A : AE Z k X a ∧ AE Z k X i := A
      exact both rfl (e_dget g (sdE a g h1 A.1).1 (sdE i g h2 A.2).1 h0)
    · cases h
  | .dhas n i a => by
    intro X Wx x g h A
    unfold okE at h
    split at h
    · simp only [Bool.and_eq_true, decide_eq_true_eq] at h
      obtain ⟨⟨⟨rfl, h0⟩, h1⟩, h2⟩ := h
      have A : AE Z k X i ∧ AE Z k X a := A
      exact ⟨e_dhas g (sdE i g h1 A.1).1 (sdE a g h2 A.2).1 h0, t_dhas g (sdE i g h1 A.1).1 (sdE a g h2 A.2).1 h0⟩
    · cases h
  | .dlst c a => by
    intro X Wx x g h A
    unfold okE at h
    split at h
    · simp only [Bool.and_eq_true, decide_eq_true_eq] at h
      obtain ⟨⟨⟨rfl, h1⟩, h2⟩, h3⟩ := h
      have A : AE Z k X a := A
      exact both rfl (e_dlst g h1 h2 (sdE a g h3 A).1)
    · cases h
  | .denu a => by
    intro X Wx x g h A
    unfold okE at h
    split at h
    · simp only [Bool.and_eq_true, decide_eq_true_eq] at h
      obtain ⟨⟨⟨⟨⟨rfl, rfl⟩, h1⟩, h2⟩, h3⟩, h4⟩ := h
      have A : AE Z k X a := A
      exact both rfl (e_denu g h1 h2 h3 (sdE a g h4 A).1)
    · cases h
  | .dic ps => by
    intro X Wx x g h A
    unfold okE at h
    split at h
    · exact both rfl (e_dic h)
    · cases h
theorem sdEs {Z : Zn} {k : Nat} : ∀ es : Es, DnEs Z k es
  | .nil => by
    intro X Wx xs g h A
    have e : xs = [] := by unfold okEs at h; exact List.isEmpty_iff.mp h
    subst e
    exact ⟨a_nil, fun _ _ n => absurd rfl n, ⟨fun pins s σ H Q I ⟨W, ls, hh, lr, hr, t⟩ => (pts_nil (X := X)).run pins s σ H Q I (t.now hr rfl)⟩⟩
  | .cons e es => by
    intro X Wx xs g h A
    unfold okEs at h
    split at h
    · rename_i y ys
      simp only [Bool.and_eq_true] at h
      obtain ⟨⟨h1, h2⟩, h3⟩ := h
      have A : AE Z k X e ∧ AEs Z k X es := A
      obtain ⟨p1, p2⟩ := sdE e g h2 A.1
      obtain ⟨q1, q2, q3⟩ := sdEs es g h3 A.2
      refine ⟨a_cons p1 q1 h1, fun o pos _ => ?_, ?_⟩
      · cases es with
        | nil =>
          have e : ys = [] := by unfold okEs at h3; exact List.isEmpty_iff.mp h3
          subst e
          exact ⟨pe_one p1, w_one p2⟩
        | cons e2 es =>
          obtain ⟨r1, r2⟩ := q2 o pos (by simp)
          cases ys with
          | nil => simp [okEs] at h3
          | cons z ys =>
            cases o with
            | And => exact ⟨e_and p1 r1, w_and p2 r2⟩
            | Or => exact ⟨e_or p1 r1, w_or p2 r2⟩
      · cases es with
        | nil =>
          have e : ys = [] := by unfold okEs at h3; exact List.isEmpty_iff.mp h3
          subst e
          exact pts_one p2
        | cons e2 es => exact ⟨fun pins s σ H Q I ⟨W, ls, hh, lr, hr, t⟩ => t.elim⟩
    · cases h
theorem sdI {Z : Zn} {k : Nat} : ∀ i : I, DnI Z k i
  | .seq e => by
    intro X Wx tg x g h A
    simp only [okI, Bool.and_eq_true] at h
    have A : AE Z k X e := A
    exact i_seq g (sdE e g h.2 A).1
  | .rng es => by
    intro X Wx tg x g h A
    unfold okI at h
    split at h
    · rename_i xs hc
      obtain ⟨p, pos, rfl, hs⟩ := callN_of hc
      simp only [Bool.and_eq_true, decide_eq_true_eq] at h
      obtain ⟨⟨⟨h1, h2⟩, h3⟩, h4⟩ := h
      have A : AEs Z k X es := A
      exact i_rng g h1 hs h3 h4 (okEs_len h2) (sdEs es g h2 A).1
    · cases h
  | .enu e => by
    intro X Wx tg x g h A
    unfold okI at h
    split at h
    · rename_i xs hc
      obtain ⟨p, pos, rfl, hs⟩ := callN_of hc
      split at h
      · rename_i y ho
        cases oneE_of ho
        simp only [Bool.and_eq_true] at h
        obtain ⟨⟨⟨h1, h2⟩, h3⟩, h4⟩ := h
        obtain ⟨es, kk, tp, rfl⟩ := isTup_of h2
        have A : AE Z k X e := A
        exact i_enu g h1 h4 (sdE e g h3 A).1
      · cases h
    · cases h
  | .zip a b => by
    intro X Wx tg x g h A
    unfold okI at h
    split at h
    · rename_i xs hc
      obtain ⟨p, pos, rfl, hs⟩ := callN_of hc
      split at h
      · rename_i y z ho
        cases pairsE_of ho
        simp only [Bool.and_eq_true] at h
        obtain ⟨⟨⟨⟨⟨h1, h2⟩, h3⟩, h4⟩, h5⟩, h6⟩ := h
        obtain ⟨es, kk, tp, rfl⟩ := isTup_of h2
        have A : AE Z k X a ∧ AE Z k X b := A
        exact i_zip g h1 h5 h6 (sdE a g h3 A.1).1 (sdE b g h4 A.2).1
      · cases h
    · cases h
  | .rev e => by
    intro X Wx tg x g h A
    unfold okI at h
    split at h
    · rename_i xs hc
      obtain ⟨p, pos, rfl, hs⟩ := callN_of hc
      split at h
      · rename_i y ho
        cases oneE_of ho
        simp only [Bool.and_eq_true] at h
        obtain ⟨⟨h1, h3⟩, h4⟩ := h
        have A : AE Z k X e := A
        exact i_rev g h1 h4 (sdE e g h3 A).1
      · cases h
    · cases h
end
end Tb
namespace Tb
open PySem PySem.Spec PyProof.Rows L2
/-! ### statements -/
def TriS (Z : Zn) (D : Ends) (Wx : L2.St → Str → Hp → Prop) (W : Wd) (H : Hp) : RS → Prop
  | .nx ls h => ∀ W' σ' H', Gr W H W' H' → HRel Z W' H' h → LRel Z W' H' ls σ' → D.nx σ' H'
  | .rt d h => ∀ W' v H', Gr W H W' H' → HRel Z W' H' h → RelD Z W' H' d v → D.rt v H'
  | .bk ls h => ∀ W' σ' H', Gr W H W' H' → HRel Z W' H' h → LRel Z W' H' ls σ' → D.bk σ' H'
  | .ct ls h => ∀ W' σ' H', Gr W H W' H' → HRel Z W' H' h → LRel Z W' H' ls σ' → D.ct σ' H'
  | .exc c ls h => ∀ W' σ' H', Gr W H W' H' → HRel Z W' H' h → LRel Z W' H' ls σ' → Wx σ' c H'
  | .bad => False
def TSv (Z : Zn) (Wx : L2.St → Str → Hp → Prop) (f : Ls → Hh → RS) : TS := fun D σ H => ∃ W ls h, LRel Z W H ls σ ∧ HRel Z W H h ∧ TriS Z D Wx W H (f ls h)
theorem PS_imp {X : Cx} {e : Stmt} {t t' : TS} (h : PS X e t) (i : ∀ D σ H, t' D σ H → t D σ H) : PS X e t' := ⟨fun pins s σ H D I q => h.run pins s σ H D I (i D σ H q)⟩
theorem PSs_imp {X : Cx} {e : List Stmt} {t t' : TS} (h : PSs X e t) (i : ∀ D σ H, t' D σ H → t D σ H) : PSs X e t' := ⟨fun pins s σ H D I q => h.run pins s σ H D I (i D σ H q)⟩
section
variable {Z : Zn} {Wx : L2.St → Str → Hp → Prop} {D : Ends} {W W1 : Wd} {H H1 : Hp} {σ : L2.St} {ls : Ls} {h : Hh}
theorem TriS.grow {r : RS} (g : Gr W H W1 H1) (t : TriS Z D Wx W H r) : TriS Z D Wx W1 H1 r := by
  cases r with
  | nx l h => exact fun W' σ' H' g' => t W' σ' H' (g.trans g')
  | rt d h => exact fun W' v H' g' => t W' v H' (g.trans g')
  | bk l h => exact fun W' σ' H' g' => t W' σ' H' (g.trans g')
  | ct l h => exact fun W' σ' H' g' => t W' σ' H' (g.trans g')
  | exc c l h => exact fun W' σ' H' g' => t W' σ' H' (g.trans g')
  | bad => exact t
theorem stepS {γ δ : Type} {rel2 : Wd → Hp → γ → δ → Prop} {f : Ls → Hh → R γ} {g : γ → Hh → RS} (lr : LRel Z W H ls σ) (hr : HRel Z W H h) (t : TriS Z D Wx W H (ofR (f ls h) ls g)) {Q2 : δ → Hp → Prop}
    (k : ∀ x H1 W1 d h1, Gr W H W1 H1 → LRel Z W1 H1 ls σ → HRel Z W1 H1 h1 → rel2 W1 H1 d x → TriS Z D Wx W1 H1 (g d h1) → Q2 x H1) : TV Z Wx rel2 f σ H Q2 := by
  refine ⟨W, ls, h, lr, hr, ?_⟩
  cases q : f ls h with
  | ok d h1 =>
    rw [q] at t
    exact fun x W1 H1 g1 hr1 rx => k x H1 W1 d h1 g1 (lr.mono g1) hr1 rx (TriS.grow g1 t)
  | exc c h1 =>
    rw [q] at t
    exact fun W1 H1 g1 hr1 => t W1 σ H1 g1 hr1 (lr.mono g1)
  | bad => rw [q] at t; exact t
/-- now -/
theorem TriS.next (t : TriS Z D Wx W H (.nx ls h)) (hr : HRel Z W H h) (lr : LRel Z W H ls σ) : D.nx σ H := t W σ H Gr.refl hr lr
/-- behind a statement the others -/
theorem TriS.seq {r : RS} {k : Ls → Hh → RS} (t : TriS Z D Wx W H (match r with | .nx l1 h1 => k l1 h1 | o => o)) : TriS Z { D with nx := fun σ' H' => TSv Z Wx k D σ' H' } Wx W H r := by
  cases r with
  | nx l1 h1 => exact fun W' σ' H' g hr lr => ⟨W', l1, h1, lr, hr, TriS.grow g t⟩
  | rt d h => exact t
  | bk l h => exact t
  | ct l h => exact t
  | exc c l h => exact t
  | bad => exact t
end
section
variable {X : Cx} {Z : Zn} {Wx : L2.St → Str → Hp → Prop} {k : Nat} {C : Cs}
theorem s_nil : PSs X [] (TSv Z Wx (evSs C .nil)) := PSs_imp pss_nil fun D σ H ⟨W, ls, h, lr, hr, t⟩ => t.next hr lr
theorem s_cons {s : S} {r : Ss} {st : Stmt} {sts : List Stmt} (h1 : PS X st (TSv Z Wx (evS C s))) (h2 : PSs X sts (TSv Z Wx (evSs C r))) : PSs X (st :: sts) (TSv Z Wx (evSs C (.cons s r))) :=
  PSs_imp (pss_cons h1 h2) fun D σ H ⟨W, ls, h, lr, hr, t⟩ => ⟨W, ls, h, lr, hr, TriS.seq t⟩
theorem s_pass {pos : Pos} : PS X (.Pass pos) (TSv Z Wx (evS C .pass)) := PS_imp ps_pass fun D σ H ⟨W, ls, h, lr, hr, t⟩ => t.next hr lr
theorem s_brk {pos : Pos} : PS X (.Break pos) (TSv Z Wx (evS C .brk)) := PS_imp ps_break fun D σ H ⟨W, ls, h, lr, hr, t⟩ => t W σ H Gr.refl hr lr
theorem s_cnt {pos : Pos} : PS X (.Continue pos) (TSv Z Wx (evS C .cnt)) := PS_imp ps_continue fun D σ H ⟨W, ls, h, lr, hr, t⟩ => t W σ H Gr.refl hr lr
theorem s_nev {st : Stmt} : PS X st (TSv Z Wx (evS C .nev)) := PS_imp ps_never fun D σ H ⟨W, ls, h, lr, hr, t⟩ => t
theorem s_retN {pos : Pos} : PS X (.Return none pos) (TSv Z Wx (evS C .retN)) := PS_imp ps_retN fun D σ H ⟨W, ls, h, lr, hr, t⟩ => t W .non H Gr.refl hr rfl
theorem s_ret {e : E} {x : Expr} {pos : Pos} (he : PE X x (TVe Z Wx (evE e))) : PS X (.Return (some x) pos) (TSv Z Wx (evS C (.ret e))) :=
  PS_imp (ps_ret he) fun D σ H ⟨W, ls, h, lr, hr, t⟩ => stepS lr hr t fun x H1 W1 d h1 g1 lr1 hr1 rx t1 => t1 W1 x H1 Gr.refl hr1 rx
theorem s_ex {e : E} {x : Expr} {pos : Pos} (he : PE X x (TVe Z Wx (evE e))) (hs : swapsWith x none pos.line X.env = pure false) : PS X (.Expr x pos) (TSv Z Wx (evS C (.ex e))) :=
  PS_imp (ps_expr he hs) fun D σ H ⟨W, ls, h, lr, hr, t⟩ => stepS lr hr t fun x H1 W1 d h1 g1 lr1 hr1 rx t1 => t1.next hr1 lr1
theorem s_ifs {e : E} {a b : Ss} {x : Expr} {as bs : List Stmt} {pos : Pos} (he : PT X x (TVt Z Wx (evT e))) (ha : PSs X as (TSv Z Wx (evSs C a))) (hb : PSs X bs (TSv Z Wx (evSs C b))) : PS X (.If x as bs pos) (TSv Z Wx (evS C (.ifs e a b))) :=
  PS_imp (ps_if he ha hb) fun D σ H ⟨W, ls, h, lr, hr, t⟩ => stepS lr hr t fun x H1 W1 d h1 g1 lr1 hr1 rx t1 => by
    subst rx
    cases d with
    | true => exact ⟨W1, ls, h1, lr1, hr1, t1⟩
    | false => exact ⟨W1, ls, h1, lr1, hr1, t1⟩
theorem ofL_tri {D : Ends} {W : Wd} {H : Hp} {h : Hh} {o : Option Ls} (t : TriS Z D Wx W H (ofL o h)) : ∃ l, o = some l ∧ TriS Z D Wx W H (.nx l h) := by
  cases o with
  | none => exact t.elim
  | some l => exact ⟨l, rfl, t⟩
theorem s_asg {t : Tg} {e : E} {tg x : Expr} {pos : Pos} (g : Gd Z Wx k X) (ht : okTg (ccOf X) t tg = true) (he : PE X x (TVe Z Wx (evE e))) (hs : swapsWithSole [tg] x pos.line X.env = pure false) (hw : swappedStores [tg] x X.env = pure none) :
    PS X (.Assign [tg] x pos) (TSv Z Wx (evS C (.asg t e))) := by
  have h1 : (assignEach [tg] X.env).map (·.2) = [assign tg X.env] := by
    cases tg <;> first | rfl | (cases t <;> cases ht)
  refine PS_imp (ps_asg he (g_tg (Z := Z) g.hK g.calm g.nd ht) hs hw h1) fun D σ H ⟨W, ls, h, lr, hr, t⟩ => stepS lr hr t fun x H1 W1 d h1 g1 lr1 hr1 rx t1 => ?_
  obtain ⟨l2, e2, t2⟩ := ofL_tri t1
  exact ⟨W1, d, ls, l2, lr1, rx, e2, fun σ2 lr2 _ => t2.next hr1 lr2⟩
theorem s_asgC {i : Nat} {e : E} {y : Str} {x : Expr} {py pos : Pos} (g : Gd Z Wx k X) (hi : putB (ccOf X) i y = true) {te : TE} (p : PS X (.Assign [.Name y py] x pos) (tAsg te (gName i))) (imp : ∀ σ H Q, TVe Z Wx (evE e) σ H Q → te σ H Q) :
    PS X (.Assign [.Name y py] x pos) (TSv Z Wx (evS C (.asg (.nm i) e))) := by
  refine PS_imp p fun D σ H ⟨W, ls, h, lr, hr, t⟩ => imp σ H _ (stepS lr hr t fun x H1 W1 d h1 g1 lr1 hr1 rx t1 => ?_)
  obtain ⟨l2, e2, t2⟩ := ofL_tri t1
  unfold asgT setN at e2
  by_cases hl : i < ls.length
  · simp only [hl, if_true, Option.some.injEq] at e2
    subst e2
    exact t2.next hr1 (lr1.put rx)
  · simp [hl] at e2
theorem s_par {i j : Nat} {a b : E} {x y : Str} {l r : Expr} {px py pt pos : Pos} {kt k2 pt2} (g : Gd Z Wx k X) (hi : X.N[i]? = some x) (hj : X.N[j]? = some y) (hij : i ≠ j) (hx : X.env.scope.names.lookup x = some .local) (hy : X.env.scope.names.lookup y = some .local)
    (ha : PA X [l, r] (TVa Z Wx (evEs (.cons a (.cons b .nil))))) (hw : swappedStores [.Tuple [.Name x px, .Name y py] kt pt] (.Tuple [l, r] k2 pt2) X.env = pure (some [x, y])) (hs : swapsWithSole [.Tuple [.Name x px, .Name y py] kt pt] (.Tuple [l, r] k2 pt2) pos.line X.env = pure false) :
    PS X (.Assign [.Tuple [.Name x px, .Name y py] kt pt] (.Tuple [l, r] k2 pt2) pos) (TSv Z Wx (evS C (.asg (.tp [i, j]) (.tup (.cons a (.cons b .nil)))))) := by
  refine PS_imp (ps_par g.calm g.nd hi hj hij hx hy ha hw hs) fun D σ H ⟨W, ls, h, lr, hr, t⟩ => ?_
  have t' : TriS Z D Wx W H (ofR (evEs (.cons a (.cons b .nil)) ls h) ls fun xs h1 => ofL (asgT (.tp [i, j]) (.tup xs) ls) h1) := by
    have e : evS C (.asg (.tp [i, j]) (.tup (.cons a (.cons b .nil)))) ls h = ofR ((evEs (.cons a (.cons b .nil)) ls h).bind fun xs h1 => if xs.length ≤ LIM then .ok (.tup xs) h1 else .bad) ls fun d h1 => ofL (asgT (.tp [i, j]) d ls) h1 := rfl
    rw [e] at t
    cases q : evEs (.cons a (.cons b .nil)) ls h with
    | ok xs h1 =>
      rw [q] at t
      have hl := evEs_len _ q
      have hl2 : xs.length ≤ LIM := by rw [hl]; show 2 ≤ LIM; decide
      have t : TriS Z D Wx W H (ofR (if xs.length ≤ LIM then .ok (.tup xs) h1 else .bad) ls fun d h1 => ofL (asgT (.tp [i, j]) d ls) h1) := t
      rw [if_pos hl2] at t
      exact t
    | exc c h1 => rw [q] at t; exact t
    | bad => rw [q] at t; exact t
  exact stepS lr hr t' fun vs H1 W1 ds h1 g1 lr1 hr1 rx t1 => by
    obtain ⟨l2, e2, t2⟩ := ofL_tri t1
    have e2 : setNs [i, j] ds ls = some l2 := e2
    cases ds with
    | nil => cases e2
    | cons d1 ds =>
      cases ds with
      | nil =>
        unfold setNs at e2
        cases q : setN i d1 ls with
        | none => rw [q] at e2; cases e2
        | some l => rw [q] at e2; cases e2
      | cons d2 ds =>
        cases ds with
        | cons d3 ds =>
          unfold setNs at e2
          cases q : setN i d1 ls with
          | none => rw [q] at e2; cases e2
          | some l =>
            rw [q] at e2
            simp only [Option.bind_some] at e2
            unfold setNs at e2
            cases q2 : setN j d2 l with
            | none => rw [q2] at e2; cases e2
            | some l' => rw [q2] at e2; cases e2
        | nil =>
          obtain ⟨v, r1, e3, rv, w, r2, e4, rw', e5⟩ := rx
          have e5 : r2 = [] := e5
          subst e5 e4
          refine ⟨v, w, e3, ?_⟩
          unfold setNs setN at e2
          by_cases h1' : i < ls.length
          · simp only [h1', if_true, Option.bind_some] at e2
            unfold setNs setN at e2
            by_cases h2' : j < (ls.set i (some d1)).length
            · simp only [h2', if_true, Option.bind_some] at e2
              unfold setNs at e2
              cases e2
              exact t2.next hr1 ((lr1.put rv).put rw')
            · simp only [h2', if_false] at e2; cases e2
          · simp only [h1', if_false] at e2; cases e2
theorem s_sub {a i e : E} {o ix v : Expr} {pos tp : Pos} (ha : PE X o (TVe Z Wx (evE a))) (hi : PE X ix (TVe Z Wx (evE i))) (he : PE X v (TVe Z Wx (evE e))) (n : nSlc ix = true)
    (hs : swapsWithSole [.Subscript o ix tp] v pos.line X.env = pure false) (hw : swappedStores [.Subscript o ix tp] v X.env = pure none) :
    PS X (.Assign [.Subscript o ix tp] v pos) (TSv Z Wx (evS C (.sub a i e))) := by
  have has : ∀ w, assign (.Subscript o ix tp) X.env w = (do
      let ov ← holding [w] (eval o X.env)
      let iv ← holding [w, ov] (eval ix X.env)
      standAt tp
      holding [w, ov, iv] (setItem ov iv w)
      release [w, ov, iv] []) := by
    intro w
    cases ix <;> first | rfl | cases n
  refine PS_imp (ps_asg he (pg_sub ha hi (set_D (Z := Z)) has) hs hw rfl) fun D σ H ⟨W, ls, h, lr, hr, t⟩ => stepS lr hr t fun x H1 W1 d h1 g1 lr1 hr1 rx t1 => ?_
  exact stepS lr1 hr1 t1 fun y H2 W2 d2 h2 g2 lr2 hr2 ry t2 => stepS lr2 hr2 t2 fun z H3 W3 d3 h3 g3 lr3 hr3 rz t3 => by
    refine ⟨W3, h3, d2, d3, d, ry.mono g3, rz, (rx.mono g2).mono g3, hr3, ?_⟩
    unfold wSt
    cases q : setD d2 d3 d h3 with
    | ok u h4 =>
      rw [q] at t3
      exact fun _ W4 H4 g4 hr4 _ => t3 W4 σ H4 g4 hr4 (lr3.mono g4)
    | exc c h4 => exact (setD_nx c h4 q).elim
    | bad => rw [q] at t3; exact t3
theorem s_dput {a i e : E} {o ix v : Expr} {pos tp : Pos} (g : Gd Z Wx k X) (ha : PE X o (TVe Z Wx (evE a))) (hi : PE X ix (TVe Z Wx (evE i))) (he : PE X v (TVe Z Wx (evE e)))
    (hs : swapsWith v (some (.Subscript o ix tp)) pos.line X.env = pure false) :
    PS X (.Assign [.Subscript o ix tp] v pos) (TSv Z Wx (evS C (.dput a i e))) := by
  refine PS_imp (ps_dput (by have := g.units; omega) ha hi he hs) fun D σ H ⟨W, ls, h, lr, hr, t⟩ => stepS lr hr t fun x H1 W1 d h1 g1 lr1 hr1 rx t1 => ?_
  exact stepS lr1 hr1 t1 fun y H2 W2 d2 h2 g2 lr2 hr2 ry t2 => stepS lr2 hr2 t2 fun z H3 W3 d3 h3 g3 lr3 hr3 rz t3 => by
    cases d2 with
    | cel j =>
      obtain ⟨ad, e1, f⟩ := ry.mono g3
      have t3 : TriS Z D Wx W3 H3 (ofR (dputK j (dctO h3[j]?) (keyD d3) d h3) ls fun _ h4 => .nx ls h4) := t3
      cases q1 : h3[j]? with
      | none => rw [q1] at t3; exact t3.elim
      | some ob =>
        rw [q1] at t3
        cases ob with
        | lst xs => exact t3.elim
        | ins c xs => exact t3.elim
        | dct kvs =>
          cases q2 : keyD d3 with
          | none => rw [q2] at t3; exact t3.elim
          | some kd =>
            rw [q2] at t3
            have t3 : TriS Z D Wx W3 H3 (ofR (if kvs.length < LIM then .ok () (h3.set j (.dct (putD kvs kd d))) else .bad) ls fun _ h4 => .nx ls h4) := t3
            by_cases hl : kvs.length < LIM
            · rw [if_pos hl] at t3
              obtain ⟨vs, e2, r2⟩ := hr3.obj j ad _ f q1
              have ek := keyD_rel q2 rz
              subst ek
              have nt : ∀ o, H3 ad = some o → fixO o = false := fun o z => by rw [e2] at z; cases z; rfl
              have gw := Gr.write (o := .dK (putK vs kd x)) hr3 f q1 nt
              have rx3 := (rx.mono g2).mono g3
              refine ⟨ad, _, e1, DPut.k e2 (by rw [← relK_len r2]; exact Nat.lt_of_lt_of_le hl lim_le), t3 W3 σ _ gw (hr3.write f q1 nt ⟨_, upd_same, RelKs.mono gw _ (putD_rel rx3 r2)⟩) (lr3.mono gw)⟩
            · rw [if_neg hl] at t3; exact t3.elim
    | _ => exact t3.elim
end
end Tb
namespace Tb
open PySem PySem.Spec PyProof.Rows L2
section
variable {X : Cx} {Z : Zn} {Wx : L2.St → Str → Hp → Prop} {k : Nat} {C : Cs}
def rAug (Z : Zn) (o : Operator) : TIp := fun x y H Q => ∃ W h a b, RelD Z W H a x ∧ RelD Z W H b y ∧ HRel Z W H h ∧ TriD Z (fun _ _ => False) Q W H (augD o a b h)
theorem augD_nx {o a b h} : NX (augD o a b h) := by
  unfold augD
  split <;> first | exact ok_nx | exact bad_nx | (apply nx_ite <;> first | exact ok_nx | exact bad_nx)
theorem aug_D (o : Operator) : PIp X o (rAug Z o) := by
  intro pins s σ H x y v u Q I rx ry ⟨W, h, a, b, ra, rb, hr, t⟩
  unfold augD at t
  split at t
  · exact iop_add pins s σ H x y v u Q I rx ry ⟨_, _, ra, rb, t.now hr rfl⟩
  · exact iop_sub pins s σ H x y v u Q I rx ry ⟨_, _, ra, rb, t.now hr rfl⟩
  · rename_i i j
    by_cases hz : small i = true ∧ small j = true
    · rw [if_pos hz] at t
      have h1 := small_log hz.1
      have h2 := small_log hz.2
      cases ra
      cases rb
      obtain ⟨tv, rfl⟩ := rx
      obtain ⟨tu, rfl⟩ := ry
      exact imul_int ⟨.int (i * j), H, I.tok _, ⟨_, rfl⟩, t.now hr rfl⟩ (show CMulW i j by unfold CMulW; omega).ok
    · rw [if_neg hz] at t; exact t.elim
  · exact t.elim
theorem s_aug {i : Nat} {o : Operator} {e : E} {y : Str} {x : Expr} {pos pos' : Pos} (g : Gd Z Wx k X) (hi : putB (ccOf X) i y = true) (he : PE X x (TVe Z Wx (evE e))) : PS X (.AugAssign (.Name y pos') o x pos) (TSv Z Wx (evS C (.aug i o e))) := by
  obtain ⟨p1, p2, p3⟩ := put_of hi
  refine PS_imp (ps_aug g.nd p1 p2 he (aug_D (Z := Z) o) p3) fun D σ H ⟨W, ls, h, lr, hr, t⟩ => ?_
  unfold evS at t
  split at t
  · rename_i d q
    obtain ⟨v, ev, rv⟩ := lr.2 i d q
    refine ⟨v, ev, stepS lr hr t fun y H1 W1 d1 h1 g1 lr1 hr1 ry t1 => ⟨W1, h1, d, d1, rv.mono g1, ry, hr1, ?_⟩⟩
    cases q2 : augD o d d1 h1 with
    | ok z h2 =>
      rw [q2] at t1
      obtain ⟨l2, e2, t2⟩ := ofL_tri t1
      intro w W2 H2 g2 hr2 rw'
      unfold setN at e2
      by_cases hl : i < ls.length
      · rw [if_pos hl] at e2
        cases e2
        exact (TriS.grow g2 t2).next hr2 ((lr1.mono g2).put rw')
      · rw [if_neg hl] at e2; cases e2
    | exc c h2 => exact (augD_nx c h2 q2).elim
    | bad => rw [q2] at t1; exact t1
  · exact t.elim
theorem s_whl {e : E} {b : Ss} {x : Expr} {bs : List Stmt} {pos : Pos} (hp : PassesOwn (model X.prog X.w) X.A X.env X.xe) (he : PT X x (TVt Z Wx (evT e))) (hb : PSs X bs (TSv Z Wx (evSs C b))) : PS X (.While x bs [] pos) (TSv Z Wx (evS C (.whl e b))) := by
  refine PS_imp (ps_while hp he hb) fun D σ H ⟨W, ls, h, lr, hr, t⟩ => ?_
  refine ⟨fun m σ H => ∃ W ls h, LRel Z W H ls σ ∧ HRel Z W H h ∧ TriS Z D Wx W H (whileR (evT e) (evSs C b) m ls h), ⟨FUEL, W, ls, h, lr, hr, t⟩, ?_⟩
  rintro m σ H ⟨W, ls, h, lr, hr, t⟩
  cases m with
  | zero => exact t.elim
  | succ m =>
    have un : whileR (evT e) (evSs C b) (m + 1) ls h = ofR (evT e ls h) ls fun kk h1 => match kk with
        | false => .nx ls h1
        | true => match evSs C b ls h1 with
          | .nx l2 h2 => whileR (evT e) (evSs C b) m l2 h2
          | .ct l2 h2 => whileR (evT e) (evSs C b) m l2 h2
          | .bk l2 h2 => .nx l2 h2
          | r => r := by
      show (match evT e ls h with | .bad => _ | .exc c h1 => _ | .ok false h1 => _ | .ok true h1 => _) = _
      cases evT e ls h with
      | ok kk h1 => cases kk <;> rfl
      | exc c h1 => rfl
      | bad => rfl
    rw [un] at t
    exact stepS lr hr t fun kk H1 W1 d h1 g1 lr1 hr1 rx t1 => by
      subst rx
      cases d with
      | false => exact t1.next hr1 lr1
      | true =>
        simp only [if_true]
        refine ⟨fun σ' H' => ∃ m', m' < m + 1 ∧ ∃ W ls h, LRel Z W H' ls σ' ∧ HRel Z W H' h ∧ TriS Z D Wx W H' (whileR (evT e) (evSs C b) m' ls h), fun σ' H' z => z, W1, ls, h1, lr1, hr1, ?_⟩
        have t1 : TriS Z D Wx W1 H1 (match evSs C b ls h1 with
          | .nx l2 h2 => whileR (evT e) (evSs C b) m l2 h2
          | .ct l2 h2 => whileR (evT e) (evSs C b) m l2 h2
          | .bk l2 h2 => .nx l2 h2
          | r => r) := t1
        cases q : evSs C b ls h1 with
        | nx l2 h2 => rw [q] at t1; exact fun W' σ' H' g hr lr => ⟨m, Nat.lt_succ_self _, W', l2, h2, lr, hr, TriS.grow g t1⟩
        | ct l2 h2 => rw [q] at t1; exact fun W' σ' H' g hr lr => ⟨m, Nat.lt_succ_self _, W', l2, h2, lr, hr, TriS.grow g t1⟩
        | bk l2 h2 => rw [q] at t1; exact fun W' σ' H' g hr lr => t1 W' σ' H' g hr lr
        | rt d h2 => rw [q] at t1; exact t1
        | exc c l2 h2 => rw [q] at t1; exact t1
        | bad => rw [q] at t1; exact t1
/-- what is left of a loop, by the turn -/
structure RstS (it : Tb.It) (g : D → Ls → Option Ls) (b : Ls → Hh → RS) (rest : Nat → Nat → Ls → Hh → RS) (Iv : Nat → Nat → Prop) : Prop where
  un : ∀ m i ls h, Iv m i → rest m i ls h = .bad ∨ ∃ xs, it.items h = some xs ∧ ((xs.length ≤ i ∧ rest m i ls h = .nx ls h) ∨ ∃ d l1 m', xs[i]? = some d ∧ g d ls = some l1 ∧ m' < m ∧ Iv m' (i + 1) ∧
    rest m i ls h = match b l1 h with
      | .nx l2 h2 => rest m' (i + 1) l2 h2
      | .ct l2 h2 => rest m' (i + 1) l2 h2
      | .bk l2 h2 => .nx l2 h2
      | r => r)
theorem rstS_L {it : Tb.It} {g b} {h0 : Hh} {xs : List D} (c : it.cst = true) (e : it.items h0 = some xs) : RstS it g b (fun _ i ls h => loopL g b (xs.drop i) ls h) (fun m i => m = xs.length - i) := by
  refine ⟨fun m i ls h hm => ?_⟩
  have e' : it.items h = some xs := by rw [cst_items c (h' := h0)]; exact e
  by_cases hi : i < xs.length
  · have un : loopL g b (xs.drop i) ls h = match g xs[i] ls with
        | none => .bad
        | some l1 => match b l1 h with
          | .nx l2 h2 => loopL g b (xs.drop (i + 1)) l2 h2
          | .ct l2 h2 => loopL g b (xs.drop (i + 1)) l2 h2
          | .bk l2 h2 => .nx l2 h2
          | r => r := by
      rw [List.drop_eq_getElem_cons hi]; rfl
    cases q : g xs[i] ls with
    | none => rw [q] at un; exact .inl un
    | some l1 => rw [q] at un; exact .inr ⟨xs, e', .inr ⟨xs[i], l1, xs.length - (i + 1), by simp [hi], q, by omega, rfl, un⟩⟩
  · refine .inr ⟨xs, e', .inl ⟨by omega, ?_⟩⟩
    show loopL g b (xs.drop i) ls h = _
    rw [List.drop_eq_nil_of_le (by omega)]
    rfl
theorem rstS_I {it : Tb.It} {g b} : RstS it g b (fun m i ls h => loopI it g b m i ls h) (fun _ _ => True) := by
  refine ⟨fun m i ls h hm => ?_⟩
  cases m with
  | zero => exact .inl rfl
  | succ m =>
    have un : loopI it g b (m + 1) i ls h = match it.items h with
        | none => .bad
        | some xs => match xs[i]? with
          | none => .nx ls h
          | some x => match g x ls with
            | none => .bad
            | some l1 => match b l1 h with
              | .nx l2 h2 => loopI it g b m (i + 1) l2 h2
              | .ct l2 h2 => loopI it g b m (i + 1) l2 h2
              | .bk l2 h2 => .nx l2 h2
              | r => r := rfl
    cases q : it.items h with
    | none => rw [q] at un; exact .inl un
    | some xs =>
      rw [q] at un
      simp only at un
      cases q2 : xs[i]? with
      | none => rw [q2] at un; exact .inr ⟨xs, rfl, .inl ⟨by simpa using q2, un⟩⟩
      | some d =>
        rw [q2] at un
        simp only at un
        cases q3 : g d ls with
        | none => rw [q3] at un; exact .inl un
        | some l1 => rw [q3] at un; exact .inr ⟨xs, rfl, .inr ⟨d, l1, m, q2, q3, by omega, trivial, un⟩⟩
theorem for_core {it : Tb.It} {J : L2.It} {tgt : Tg} {b : Ls → Hh → RS} {rest : Nat → Nat → Ls → Hh → RS} {Iv : Nat → Nat → Prop} {D : Ends} {W1 : Wd} {H1 : Hp} {ls : Ls} {h1 : Hh} {σ : L2.St} {m0 : Nat}
    (hR : RstS it (asgT tgt) b rest Iv) (lr : LRel Z W1 H1 ls σ) (hr : HRel Z W1 H1 h1) (ir : ItR Z W1 H1 it J) (iv : Iv m0 0) (t : TriS Z D Wx W1 H1 (rest m0 0 ls h1)) :
    ∃ Wm : Nat → Nat → L2.St → Hp → Prop, (∃ m, Wm 0 m σ H1) ∧ ∀ i m σ H, Wm i m σ H →
      (J.stop i H ∧ D.nx σ H) ∨ (J.go i H ∧ ∃ N : L2.St → Hp → Prop, (∀ σ' H', N σ' H' → ∃ m', m' < m ∧ Wm (i + 1) m' σ' H') ∧ ∀ x H', J.yld i H x H' → TGv Z tgt x σ H' fun σ2 H2 => TSv Z Wx b { D with nx := N, ct := N, bk := D.nx } σ2 H2) := by
  refine ⟨fun i m σ H => ∃ W ls h, LRel Z W H ls σ ∧ HRel Z W H h ∧ ItR Z W H it J ∧ Iv m i ∧ TriS Z D Wx W H (rest m i ls h), ⟨m0, W1, ls, h1, lr, hr, ir, iv, t⟩, ?_⟩
  rintro i m σ H ⟨W, ls, h, lr, hr, ir, iv, t⟩
  rcases hR.un m i ls h iv with bad | ⟨xs, ex, ⟨hi, er⟩ | ⟨d, l1, m', ed, eg, hm, iv', er⟩⟩
  · rw [bad] at t; exact t.elim
  · rw [er] at t
    exact .inl ⟨ir.stop hr ex hi, t.next hr lr⟩
  · rw [er] at t
    obtain ⟨go, yl⟩ := ir.go hr ex ed
    refine .inr ⟨go, fun σ' H' => ∃ m', m' < m ∧ ∃ W ls h, LRel Z W H' ls σ' ∧ HRel Z W H' h ∧ ItR Z W H' it J ∧ Iv m' (i + 1) ∧ TriS Z D Wx W H' (rest m' (i + 1) ls h), fun σ' H' z => z, fun x H' y => ?_⟩
    obtain ⟨g2, hr2, rx⟩ := yl x H' y
    refine ⟨W, d, ls, l1, lr.mono g2, rx, eg, fun σ2 lr2 _ => ⟨W, l1, h, lr2, hr2, ?_⟩⟩
    have t2 := TriS.grow g2 t
    cases q : b l1 h with
    | nx l2 h2 => rw [q] at t2; exact fun W' σ' H' g hr lr => ⟨m', hm, W', l2, h2, lr, hr, (ir.mono g2).mono g, iv', TriS.grow g t2⟩
    | ct l2 h2 => rw [q] at t2; exact fun W' σ' H' g hr lr => ⟨m', hm, W', l2, h2, lr, hr, (ir.mono g2).mono g, iv', TriS.grow g t2⟩
    | bk l2 h2 => rw [q] at t2; exact fun W' σ' H' g hr lr => t2 W' σ' H' g hr lr
    | rt d h2 => rw [q] at t2; exact t2
    | exc c l2 h2 => rw [q] at t2; exact t2
    | bad => rw [q] at t2; exact t2
theorem s_for {tgt : Tg} {it : I} {b : Ss} {tg x : Expr} {bs : List Stmt} {pos : Pos} (g : Gd Z Wx k X) (hp : PassesOwn (model X.prog X.w) X.A X.env X.xe) (hi : PI X tg x (TVi Z Wx (evI it))) (hs : nSet x = true) (ht : okTg (ccOf X) tgt tg = true) (hb : PSs X bs (TSv Z Wx (evSs C b))) :
    PS X (.For tg x bs [] pos) (TSv Z Wx (evS C (.fr tgt it b))) := by
  refine PS_imp (ps_for hp g.calm hi (g_tg (Z := Z) g.hK g.calm g.nd ht) hb (fold_of hs)) fun D σ H ⟨W, ls, h, lr, hr, t⟩ => stepS lr hr t fun J H1 W1 i h1 g1 lr1 hr1 ir t1 => ?_
  unfold forR at t1
  by_cases hc : i.cst = true
  · rw [if_pos hc] at t1
    cases e : i.items h1 with
    | none => rw [e] at t1; exact t1.elim
    | some xs =>
      rw [e] at t1
      exact for_core (rstS_L hc e) lr1 hr1 ir (m0 := xs.length) rfl (by simpa using t1)
  · rw [if_neg hc] at t1
    exact for_core rstS_I lr1 hr1 ir (m0 := FUEL) trivial t1
/-- a class of the module that may be raised -/
def RaiA (Z : Zn) (X : Cx) (c : Str) : Prop := ∃ (Ca : Addr) (B newId initId : String) (bmB : List Value), ExcBaseFacts B newId initId bmB ∧ PySem.W.excIn X.K Ca bmB newId = true ∧ X.mg c = some (.ref Ca) ∧ PySem.W.keepIn X.K (.ref Ca) = true ∧
  (∀ (M : Model) (h : Heap), X.K.In h → PySem.W.Looks M h (isSubtype (.ref Ca) (.type "BaseException")) true ∧ PySem.W.Looks M h (typeOf (.ref Ca)) (.type "type")) ∧ Z.cl c = some Ca ∧ c ∈ Z.xs
/-- what an except clause's class must say -/
def ExcA (Z : Zn) (X : Cx) (c : Str) : Prop := ∃ Cc, X.mg c = some (.ref Cc) ∧ ∀ n ∈ Z.xs, ∀ C, Z.cl n = some C → PySem.W.exmOne X.K (.ref C) (.ref Cc) = some (subX n c) ∧ XFa Z C
def RxA (Z : Zn) (X : Cx) : Bool → Str → Prop
  | false, c => RaiA Z X c
  | true, c => ExcA Z X c
theorem s_rais {c m : Str} {j : Nat} {p p2 cp pos : Pos} (g : Gd Z Wx k X) (A : RaiA Z X c) (hg : globB (ccOf X) c = true) : PS X (.Raise (some (.Call (.Name c p) [.Constant (.str m) j p2] [] cp)) none pos) (TSv Z Wx (evS C (.rais c))) := by
  obtain ⟨Ca, B, n, i, bm, F, q, m1, kp, rs, cl, mx⟩ := A
  refine PS_imp (ps_raise g.calm g.tk (pmk_own F q m1 kp rs (gl_of hg).1 (gl_of hg).2)) fun D σ H ⟨W, ls, h, lr, hr, t⟩ => ?_
  exact ⟨c, Ca, cl, mx, rfl, rfl, t W σ H Gr.refl hr lr⟩
/-- what a statement's own frame must say -/
structure Pk (X : Cx) : Prop where
  po : PassesOwn (model X.prog X.w) X.A X.env X.xe
  st : X.stack = X.env :: X.outer
  fr : X.env.frame = some X.env.locals
  ex : X.ex = []
/-- what is wished inside a try -/
abbrev WxT (Z : Zn) (W : WX) : L2.St → Str → Hp → Prop := fun σ c H => c ∈ Z.xs → ∀ C, Z.cl c = some C → W (.ref C) none σ H
theorem Gd.try_ (g : Gd Z Wx k X) {W : WX} {pn : List (Addr × Obj)} {xe : Value → Shared → Prop} (tk : Takes (X.tr pn xe) W) : Gd Z (WxT Z W) k (X.tr pn xe) :=
  ⟨g.hK, g.calm, g.nd, g.room, g.qt, g.free, g.sys, Takes.imp tk fun cls d σ H ⟨c, Ca, e1, e2, e3, e4, z⟩ => by
    subst e3 e4
    exact z e2 Ca e1⟩
theorem Pk.try_ (p : Pk X) {pn : List (Addr × Obj)} {xe : Value → Shared → Prop} (h : PassesOwn (model X.prog X.w) X.A X.env xe) : Pk (X.tr pn xe) := ⟨h, p.st, p.fr, p.ex⟩
/-- the body's answer, where an exception is looked at -/
theorem tri_try {D : Ends} {W : Wd} {H : Hp} {W' : WX} {c : Str} {r : RS} {f : Str → Ls → Hh → RS}
    (t : TriS Z D Wx W H (match r with | .exc k l1 h1 => if subX k c = true then f k l1 h1 else .exc k l1 h1 | r => r))
    (hx : ∀ k l1 h1 σ1 H1 W1 C, r = .exc k l1 h1 → Gr W H W1 H1 → HRel Z W1 H1 h1 → LRel Z W1 H1 l1 σ1 → k ∈ Z.xs → Z.cl k = some C → TriS Z D Wx W1 H1 (if subX k c = true then f k l1 h1 else .exc k l1 h1) → W' (.ref C) none σ1 H1) : TriS Z D (WxT Z W') W H r := by
  cases r with
  | exc k l1 h1 => exact fun W1 σ1 H1 g hr lr hm C hC => hx k l1 h1 σ1 H1 W1 C rfl g hr lr hm hC (TriS.grow g t)
  | nx l h => exact t
  | rt d h => exact t
  | bk l h => exact t
  | ct l h => exact t
  | bad => exact t
theorem s_tryA {b : Ss} {c n y : Str} {i j : Nat} {body : List Stmt} {np pv pa py pos pos' : Pos} (g : Gd Z Wx k X) (hp : Pk X) (A : ExcA Z X c) (hg : globB (ccOf X) c = true) (hi : X.N[i]? = some n) (hln : X.env.kindOf n = some .local) (hj : X.N[j]? = some y) (hly : X.env.kindOf y = some .local) (hnn : (n == ("__debug__" : Str)) = false ∧ (n == ("__classdict__" : Str)) = false)
    (hb : ∀ (W : WX) (pn : List (Addr × Obj)) (xe : Value → Shared → Prop), Gd Z (WxT Z W) k (X.tr pn xe) → Pk (X.tr pn xe) → PSs (X.tr pn xe) body (TSv Z (WxT Z W) (evSs C b))) :
    PS X (.Try body [.ExceptHandler (some (.Name c np)) (some n) [.Assign [.Name y py] (.Name n pv) pa] pos'] [] [] pos) (TSv Z Wx (evS C (.tryA b c i j))) := by
  obtain ⟨Cc, mc, fa⟩ := A
  refine PS_imp (ps_try_keep (i := i) (j := j) hp.st hp.fr hp.ex g.nd hi hln hj hly hnn ⟨(gl_of hg).1, (gl_of hg).2, .inl mc⟩ g.tk (fun W pn xe tk ho => hb W pn xe (g.try_ tk) (hp.try_ ho))) fun D σ H ⟨W, ls, h, lr, hr, t⟩ => ⟨W, ls, h, lr, hr, tri_try (c := c) (f := fun k l1 h1 => if j < l1.length then .nx ((l1.set j (some (.exc k))).set i none) h1 else .bad) t fun k l1 h1 σ1 H1 W1 C e g1 hr1 lr1 hm hC t1 => ?_⟩
  obtain ⟨ex, xf⟩ := fa k hm C hC
  refine ⟨subX k c, ex, fun yes => ⟨rfl, fun a na => ?_⟩, fun no => ?_⟩
  · rw [if_pos yes] at t1
    by_cases hl : j < l1.length
    · rw [if_pos hl] at t1
      refine t1 W1 _ _ (Gr.fresh hr1 na) (hr1.fresh na) ⟨by simp [lr1.1], fun m d e => ?_⟩
      have lr2 := lr1.mono (Gr.fresh (o := ExK (.ref C) a) hr1 na)
      by_cases mi : m = i
      · subst mi
        by_cases hl2 : m < l1.length
        · rw [List.getElem?_set_self (by simpa using hl2)] at e; cases e
        · rw [List.getElem?_eq_none (by simpa using hl2)] at e; cases e
      · rw [List.getElem?_set_ne (Ne.symm mi)] at e ⊢
        by_cases mj : m = j
        · subst mj
          rw [List.getElem?_set_self hl] at e
          cases e
          refine ⟨.ref a, List.getElem?_set_self (by simp [← lr1.1]; exact hl), a, C, rfl, hC, hm, xf, upd_same⟩
        · rw [List.getElem?_set_ne (Ne.symm mj)] at e ⊢
          rw [List.getElem?_set_ne (Ne.symm mi)]
          exact lr2.2 m d e
    · rw [if_neg hl] at t1; exact t1.elim
  · rw [no, if_neg Bool.false_ne_true] at t1
    exact ⟨k, C, hC, hm, rfl, rfl, t1 W1 σ1 H1 Gr.refl hr1 lr1⟩
theorem s_tryK {b : Ss} {c y : Str} {j : Nat} {v : Bool} {kd : Nat} {body : List Stmt} {np pv pa py pos pos' : Pos} (g : Gd Z Wx k X) (hp : Pk X) (A : ExcA Z X c) (hg : globB (ccOf X) c = true) (hj : X.N[j]? = some y) (hly : X.env.kindOf y = some .local)
    (hb : ∀ (W : WX) (pn : List (Addr × Obj)) (xe : Value → Shared → Prop), Gd Z (WxT Z W) k (X.tr pn xe) → Pk (X.tr pn xe) → PSs (X.tr pn xe) body (TSv Z (WxT Z W) (evSs C b))) :
    PS X (.Try body [.ExceptHandler (some (.Name c np)) none [.Assign [.Name y py] (.Constant (.bool v) kd pv) pa] pos'] [] [] pos) (TSv Z Wx (evS C (.tryK b c j v))) := by
  obtain ⟨Cc, mc, fa⟩ := A
  have suite : ∀ (a : Addr) (oe : Obj) (cls : Value) (d : Option Addr) (pn : List (Addr × Obj)), Zc cls d oe → (∃ vs, oe.data = .fields vs) → PSs (X.suite a ((a, oe) :: pn)) [.Assign [.Name y py] (.Constant (.bool v) kd pv) pa] (fun D σ H => D.nx (σ.set j (some (.bl v))) H) := fun a oe cls d pn hz hf =>
    PSs_imp (pss_cons (ps_asg (te := tC (.bl v)) pe_bl (pg_name (i := j) g.nd hj (.inl hly) (.inr hly))) pss_nil) fun D σ H q => q
  refine PS_imp (ps_try_only hp.st hp.fr ⟨(gl_of hg).1, (gl_of hg).2, .inl mc⟩ g.tk (fun W pn xe tk ho => hb W pn xe (g.try_ tk) (hp.try_ ho)) suite) fun D σ H ⟨W, ls, h, lr, hr, t⟩ => ⟨W, ls, h, lr, hr, tri_try (c := c) (f := fun k l1 h1 => if j < l1.length then .nx (l1.set j (some (.bl v))) h1 else .bad) t fun k l1 h1 σ1 H1 W1 C e g1 hr1 lr1 hm hC t1 => ?_⟩
  obtain ⟨ex, xf⟩ := fa k hm C hC
  refine ⟨subX k c, ex, fun yes a na => ?_, fun no => ?_⟩
  · rw [if_pos yes] at t1
    by_cases hl : j < l1.length
    · rw [if_pos hl] at t1
      refine t1 W1 _ _ Gr.refl hr1 ⟨by simp [lr1.1], fun m d e => ?_⟩
      by_cases mj : m = j
      · subst mj
        rw [List.getElem?_set_self hl] at e
        cases e
        exact ⟨.bl v, List.getElem?_set_self (by rw [← lr1.1]; exact hl), rfl⟩
      · rw [List.getElem?_set_ne (Ne.symm mj)] at e ⊢
        exact lr1.2 m d e
    · rw [if_neg hl] at t1; exact t1.elim
  · rw [no, if_neg Bool.false_ne_true] at t1
    exact ⟨k, C, hC, hm, rfl, rfl, t1 W1 σ1 H1 Gr.refl hr1 lr1⟩
end
end Tb
namespace Tb
open PySem PySem.Spec PyProof.Rows L2
/-! ### the checker of statements -/
def nCmp : Expr → Bool
  | .ListComp _ _ _ _ => false
  | .SetComp _ _ _ _ => false
  | .DictComp _ _ _ _ _ => false
  | _ => true
def isTupE : E → Bool
  | .tup (.cons _ (.cons _ .nil)) => true
  | _ => false
/-- both names stored from the right -/
def swB (c : Cc) (ts vs : List Expr) : Bool := match ts, vs with
  | [.Name x px, .Name y py], [a, b] => isK c x .local && isK c y .local && (py.line == px.line) && decide (x ≠ y) && nStar a && nStar b && !(foldedForSure 8 a && foldedForSure 8 b) && !(constantsAlone 8 a && constantsAlone 8 b)
  | _, _ => false
/-- not so: two names, one of them a cell, or constants alone -/
def nsB (c : Cc) (ts vs : List Expr) : Bool := match ts, vs with
  | [.Name x _, .Name y _], [a, b] => nStar a && nStar b && (!(isK c x .local) || !(isK c y .local) || (foldedForSure 8 a && foldedForSure 8 b))
  | _, _ => false
/-- a comprehension that is stored ahead of its names' going -/
def cpB (c : Cc) (y : Str) (py : Pos) : Expr → Bool
  | .ListComp _ _ sc p => isK c y .local && (py.line == p.line) && !(sc.names.any fun (n, k) => n == y && (k == .local || k == .cell))
  | _ => false
def ncB (c : Cc) (y : Str) (py : Pos) : Expr → Bool
  | .ListComp _ _ sc p => !(isK c y .local && (py.line == p.line) && !(sc.names.any fun (n, k) => n == y && (k == .local || k == .cell)))
  | x => nCmp x
def okAsg (c : Cc) (t : Tg) (e : E) (tg v : Expr) : Bool := okTg c t tg && okE c e v && (match tg with
  | .Name y py => ncB c y py v || (cpB c y py v && (match e with | .comp _ _ _ _ _ _ => true | _ => false))
  | .Tuple ts _ _ => (match v with
    | .Tuple vs _ _ => nsB c ts vs || (swB c ts vs && isTupE e)
    | _ => nCmp v)
  | _ => false)
mutual
def okS (c : Cc) : S → Stmt → Bool
  | .asg t e, x => match x with
    | .Assign [tg] v _ => okAsg c t e tg v
    | _ => false
  | .sub a i e, x => match x with
    | .Assign [.Subscript o ix _] v _ => nSlc ix && okE c a o && okE c i ix && okE c e v && nCmp v
    | _ => false
  | .dput a i e, x => match x with
    | .Assign [.Subscript o ix _] v _ => nSlc ix && okE c a o && okE c i ix && okE c e v && nCmp v
    | _ => false
  | .aug i o e, x => match x with
    | .AugAssign (.Name y _) p v _ => decide (o = p) && putB c i y && okE c e v
    | _ => false
  | .ex e, x => match x with
    | .Expr v _ => nCmp v && okE c e v
    | _ => false
  | .ret e, x => match x with
    | .Return (some v) _ => okE c e v
    | _ => false
  | .retN, x => match x with
    | .Return none _ => true
    | _ => false
  | .ifs t a b, x => match x with
    | .If v as bs _ => okE c t v && okSs c a as && okSs c b bs
    | _ => false
  | .whl t b, x => match x with
    | .While v bs [] _ => okE c t v && okSs c b bs
    | _ => false
  | .fr t it b, x => match x with
    | .For tg v bs [] _ => okTg c t tg && okI c tg it v && okSs c b bs
    | _ => false
  | .pass, x => match x with
    | .Pass _ => true
    | _ => false
  | .brk, x => match x with
    | .Break _ => true
    | _ => false
  | .cnt, x => match x with
    | .Continue _ => true
    | _ => false
  | .rais n, x => match x with
    | .Raise (some (.Call (.Name m _) [.Constant (.str _) _ _] [] _)) none _ => decide (n = m) && globB c m
    | _ => false
  | .nev, _ => true
  | .tryN _ _ _, _ => false
  | .tryA b m i j, x => match x with
    | .Try body [.ExceptHandler (some (.Name m2 _)) (some n) [.Assign [.Name y _] (.Name n2 _) _] _] [] [] _ =>
      decide (m = m2) && decide (n = n2) && globB c m && decide (c.N[i]? = some n) && isK c n .local && decide (c.N[j]? = some y) && isK c y .local && !(n == ("__debug__" : Str)) && !(n == ("__classdict__" : Str)) && okSs c b body
    | _ => false
  | .tryK b m j v, x => match x with
    | .Try body [.ExceptHandler (some (.Name m2 _)) none [.Assign [.Name y _] (.Constant (.bool u) _ _) _] _] [] [] _ =>
      decide (m = m2) && decide (u = v) && globB c m && decide (c.N[j]? = some y) && isK c y .local && okSs c b body
    | _ => false
def okSs (c : Cc) : Ss → List Stmt → Bool
  | .nil, xs => xs.isEmpty
  | .cons s r, xs => match xs with
    | y :: ys => okS c s y && okSs c r ys
    | [] => false
end
mutual
def AskS (P : Str → Fn → Nat → Prop) (G : Str → D → Prop) (K : Bool → Str → Prop) : S → Prop
  | .asg _ e => AskE P G e
  | .sub a i e => AskE P G a ∧ AskE P G i ∧ AskE P G e
  | .dput a i e => AskE P G a ∧ AskE P G i ∧ AskE P G e
  | .aug _ _ e => AskE P G e
  | .ex e => AskE P G e
  | .ret e => AskE P G e
  | .ifs t a b => AskE P G t ∧ AskSs P G K a ∧ AskSs P G K b
  | .whl t b => AskE P G t ∧ AskSs P G K b
  | .fr _ it b => AskI P G it ∧ AskSs P G K b
  | .rais n => K false n
  | .tryN b _ s => AskSs P G K b ∧ AskSs P G K s
  | .tryA b c _ _ => AskSs P G K b ∧ K true c
  | .tryK b c _ _ => AskSs P G K b ∧ K true c
  | _ => True
def AskSs (P : Str → Fn → Nat → Prop) (G : Str → D → Prop) (K : Bool → Str → Prop) : Ss → Prop
  | .nil => True
  | .cons s r => AskS P G K s ∧ AskSs P G K r
end
section
variable {X : Cx} {Z : Zn} {Wx : L2.St → Str → Hp → Prop} {k : Nat} {C : Cs}
theorem sw_no {tg v : Expr} {l : Nat} {env : Env} (h : nCmp v = true) : swapsWithSole [tg] v l env = pure false := by
  show swapsWith v (some tg) l env = pure false
  cases v <;> first | rfl | cases h
theorem sw_no2 {tg v : Expr} {l : Nat} {env : Env} (h : nCmp v = true) : swapsWith v (some tg) l env = pure false := by
  cases v <;> first | rfl | cases h
theorem sw_none {v : Expr} {l : Nat} {env : Env} (h : nCmp v = true) : swapsWith v none l env = pure false := by
  cases v <;> first | rfl | cases h
theorem st_name {y : Str} {p : Pos} {v : Expr} {env : Env} : swappedStores [.Name y p] v env = pure none := by
  cases v <;> rfl
theorem st_sub {o i : Expr} {p : Pos} {v : Expr} {env : Env} : swappedStores [.Subscript o i p] v env = pure none := by
  cases v <;> rfl
theorem bk_of {env : Env} (h : env.scope.kind = .function) : env.blockKind = .function := by unfold Env.blockKind; rw [h]; rfl
theorem sw_nc {y : Str} {py : Pos} {v : Expr} {l : Nat} (hk : X.env.scope.kind = .function) (h : ncB (ccOf X) y py v = true) : swapsWithSole [.Name y py] v l X.env = pure false := by
  by_cases hc : nCmp v = true
  · exact sw_no hc
  · cases v <;> first | exact absurd rfl hc | skip
    · rename_i el gs sc p
      show swapsWith (.ListComp el gs sc p) (some (.Name y py)) l X.env = pure false
      simp only [ncB, isK, Bool.not_eq_true'] at h
      unfold swapsWith
      simp only [bk_of hk, Expr.pos]
      congr 1
      have e : (X.env.kindOf y == some NameKind.local) = decide (X.env.scope.names.lookup y = some .local) := by
        show (X.env.scope.names.lookup y == some NameKind.local) = _
        cases q : decide (X.env.scope.names.lookup y = some .local) with
        | true => rw [of_decide_eq_true q]; rfl
        | false => exact beq_eq_false_iff_ne.mpr (of_decide_eq_false q)
      rw [e]
      simpa using h
    · cases h
    · cases h
theorem st_tup {ts : List Expr} {kt : Nat} {p : Pos} {v : Expr} {env : Env} (h : isTup v = false) : swappedStores [.Tuple ts kt p] v env = pure none := by
  cases v <;> first | rfl | cases h
theorem loc_beq {sc : Scope} {x : Str} : (sc.names.lookup x == some NameKind.local) = decide (sc.names.lookup x = some .local) := by
  cases q : decide (sc.names.lookup x = some .local) with
  | true => rw [of_decide_eq_true q]; rfl
  | false => exact beq_eq_false_iff_ne.mpr (of_decide_eq_false q)
theorem st_sw {ts vs : List Expr} {kt kv : Nat} {pt pv : Pos} (hk : X.env.scope.kind = .function) (h : swB (ccOf X) ts vs = true) :
    ∃ x px y py a b, ts = [.Name x px, .Name y py] ∧ vs = [a, b] ∧ nStar a = true ∧ nStar b = true ∧ x ≠ y ∧ X.env.scope.names.lookup x = some .local ∧ X.env.scope.names.lookup y = some .local ∧ swappedStores [.Tuple ts kt pt] (.Tuple vs kv pv) X.env = pure (some [x, y]) := by
  unfold swB at h
  split at h
  · rename_i x px y py a b
    simp only [isK, Bool.and_eq_true, decide_eq_true_eq, Bool.not_eq_true'] at h
    obtain ⟨⟨⟨⟨⟨⟨⟨h1, h2⟩, h3⟩, h4⟩, h5⟩, h6⟩, h7⟩, h8⟩ := h
    refine ⟨x, px, y, py, a, b, rfl, rfl, h5, h6, h4, h1, h2, ?_⟩
    have k1 : X.env.kindOf x = some .local := h1
    have k2 : X.env.kindOf y = some .local := h2
    have h3' : py.line = px.line := beq_iff_eq.mp h3
    have e1 : (y == x) = false := by simpa using fun e => h4 e.symm
    have ed : ([x, y] : List Str).eraseDups = [x, y] := by
      simp [List.eraseDups_cons, e1]
    unfold swappedStores
    simp only [bk_of hk]
    have sa : ¬ ((!(2 == 2 || 2 == 3) || 2 != 2 || ScopeKind.function != ScopeKind.function) = true) := by decide
    refine (if_neg sa).trans ((if_neg (fun z => ?_)).trans ?_)
    rotate_left
    · have fm : ∀ f : Expr → Option Str, f (.Name x px) = some x → f (.Name y py) = some y → List.filterMap f [.Name x px, .Name y py] = [x, y] := fun f p q => by simp [List.filterMap_cons, p, q]
      have fe := fm (fun | .Name id pos => if X.env.kindOf id == some .local && pos.line == px.line then some id else none | _ => none) (by simp [k1]) (by simp [k2, h3'])
      refine (if_neg (fun z => ?_)).trans ((if_neg (fun z => ?_)).trans ((if_neg (fun z => ?_)).trans ?_))
      · have z : ((List.filterMap (fun | .Name id pos => if X.env.kindOf id == some .local && pos.line == px.line then some id else none | _ => none) [Expr.Name x px, .Name y py]).length != 2 || (List.filterMap (fun | .Name id pos => if X.env.kindOf id == some .local && pos.line == px.line then some id else none | _ => none) [Expr.Name x px, .Name y py]).eraseDups.length != (List.filterMap (fun | .Name id pos => if X.env.kindOf id == some .local && pos.line == px.line then some id else none | _ => none) [Expr.Name x px, .Name y py]).length) = true := z
        rw [fe, ed] at z
        cases z
      · have z : (foldedForSure 8 a && (foldedForSure 8 b && true)) = true := z
        rw [Bool.and_true, h7] at z
        cases z
      · have z : (constantsAlone 8 a && (constantsAlone 8 b && true)) = true := z
        rw [Bool.and_true, h8] at z
        cases z
      · exact congrArg (fun l => pure (some l)) fe
    · simp only [List.any_cons, List.any_nil, Bool.or_eq_true, Bool.or_false] at z
      rcases z with z | z
      · cases a <;> first | (cases h5; done) | (cases z; done)
      · cases b <;> first | (cases h6; done) | (cases z; done)
  · cases h
theorem st_ns {ts vs : List Expr} {kt kv : Nat} {pt pv : Pos} (hk : X.env.scope.kind = .function) (h : nsB (ccOf X) ts vs = true) : swappedStores [.Tuple ts kt pt] (.Tuple vs kv pv) X.env = pure none := by
  unfold nsB at h
  split at h
  · rename_i x px y py a b
    simp only [isK, Bool.and_eq_true, Bool.or_eq_true, Bool.not_eq_true'] at h
    obtain ⟨⟨h5, h6⟩, h7⟩ := h
    unfold swappedStores
    simp only [bk_of hk]
    have sa : ¬ ((!(2 == 2 || 2 == 3) || 2 != 2 || ScopeKind.function != ScopeKind.function) = true) := by decide
    refine (if_neg sa).trans ((if_neg (fun z => ?_)).trans ?_)
    rotate_left
    · have fm : ∀ f : Expr → Option Str, (f (.Name x px) = none ∨ f (.Name y py) = none) → ((List.filterMap f [.Name x px, .Name y py]).length != 2) = true := fun f p => by
        rcases p with p | p
        · cases q : f (.Name y py) <;> simp [List.filterMap_cons, p, q]
        · cases q : f (.Name x px) <;> simp [List.filterMap_cons, p, q]
      rcases h7 with (h7 | h7) | ⟨h7, h8⟩
      · have k1 : ¬ X.env.kindOf x = some .local := of_decide_eq_false h7
        have z := fm (fun | .Name id pos => if X.env.kindOf id == some .local && pos.line == px.line then some id else none | _ => none) (.inl (by simp [k1]))
        exact if_pos (by simp only [Bool.or_eq_true]; exact .inl z)
      · have k1 : ¬ X.env.kindOf y = some .local := of_decide_eq_false h7
        have z := fm (fun | .Name id pos => if X.env.kindOf id == some .local && pos.line == px.line then some id else none | _ => none) (.inr (by simp [k1]))
        exact if_pos (by simp only [Bool.or_eq_true]; exact .inl z)
      · split
        · rfl
        · exact if_pos (show (foldedForSure 8 a && (foldedForSure 8 b && true)) = true by rw [h7, h8]; rfl)
    · simp only [List.any_cons, List.any_nil, Bool.or_eq_true, Bool.or_false] at z
      rcases z with z | z
      · cases a <;> first | (cases h5; done) | (cases z; done)
      · cases b <;> first | (cases h6; done) | (cases z; done)
  · cases h
abbrev ASs (Z : Zn) (k : Nat) (X : Cx) := AskSs (FnA Z k X) (GloA Z X) (RxA Z X)
theorem sd_asg {t : Tg} {e : E} {tg v : Expr} {pos : Pos} (g : Gd Z Wx k X) (hk : X.env.scope.kind = .function) (h : okAsg (ccOf X) t e tg v = true) (A : AE Z k X e) : PS X (.Assign [tg] v pos) (TSv Z Wx (evS C (.asg t e))) := by
  unfold okAsg at h
  simp only [Bool.and_eq_true] at h
  obtain ⟨⟨h1, h2⟩, h3⟩ := h
  have he := (sdE e g h2 A).1
  cases tg <;> try (cases h3; done)
  · -- a tuple of names
    rename_i y py
    simp only [Bool.or_eq_true, Bool.and_eq_true] at h3
    rcases h3 with h3 | ⟨h3, h4⟩
    · exact s_asg g h1 he (sw_nc hk h3) st_name
    · cases t with
      | tp is => cases h1
      | nm i =>
        cases v <;> try (cases h3; done)
        cases e <;> try (cases h4; done)
        rename_i el gs sc p c own tgt it tt elt
        simp only [cpB, isK, Bool.and_eq_true, decide_eq_true_eq, Bool.not_eq_true'] at h3
        unfold okE at h2
        split at h2
        · rename_i el' t' i' fs' sc' p' heq
          cases heq
          split at h2
          · rename_i ow hm
            simp only [Bool.and_eq_true] at h2
            obtain ⟨⟨⟨⟨⟨b1, b2⟩, b3⟩, b4⟩, b5⟩, b6⟩ := h2
            have A : AI Z k X it ∧ AEs Z k X tt ∧ AE Z k X elt := A
            have hput : putB (ccOf X) i y = true := h1
            obtain ⟨te, ps, imp⟩ := s_comp (c := c) (spos := pos) g hk b1 (mapM_own hm) (put_of hput).1 h3.1.1 h3.1.2 h3.2 (sdI it g b3 A.1) (okI_set b3) b2 b6 (fun s H C cl fp => (sdEs tt (g.blk s H _ _ fp) b4 A.2.1).2.2) (fun s H C cl fp => (sdE elt (g.blk s H _ _ fp) b5 A.2.2).1)
            exact s_asgC g hput ps imp
          · cases h2
        · cases h2
  · rename_i ts kt pt
    by_cases hv : isTup v = true
    · obtain ⟨vs, kv, pv, rfl⟩ := isTup_of hv
      simp only [Bool.or_eq_true, Bool.and_eq_true] at h3
      rcases h3 with h3 | ⟨h3, h4⟩
      · exact s_asg g h1 he (sw_no rfl) (st_ns hk h3)
      · obtain ⟨x, px, y, py, a, b, rfl, rfl, n1, n2, hne, hx, hy, hw⟩ := st_sw (kt := kt) (kv := kv) (pt := pt) (pv := pv) hk h3
        cases t with
        | nm i => cases h1
        | tp is =>
          have h1 : okTg1 (ccOf X) is [.Name x px, .Name y py] = true := h1
          match is, h1 with
          | [i, j], h1 =>
            simp only [okTg1, Bool.and_eq_true] at h1
            obtain ⟨p1, _, _⟩ := put_of h1.1
            obtain ⟨p2, _, _⟩ := put_of h1.2.1
            match e, h4, h2, A with
            | .tup (.cons ea (.cons eb .nil)), _, h2, A =>
              have h2 : okEs (ccOf X) (.cons ea (.cons eb .nil)) [a, b] = true := h2
              exact s_par g p1 p2 (fun q => hne (by rw [q] at p1; rw [p1] at p2; exact Option.some.inj p2)) hx hy (sdEs (.cons ea (.cons eb .nil)) g h2 A).1 hw (sw_no rfl)
          | [], h1 => simp [okTg1] at h1
          | [i], h1 => simp [okTg1] at h1
          | i :: j :: l :: r, h1 => simp [okTg1] at h1
    · have hv' : isTup v = false := by simpa using hv
      have h3 : nCmp v = true := by cases v <;> first | exact h3 | cases hv'
      exact s_asg g h1 he (sw_no h3) (st_tup hv')
def DnS (Z : Zn) (k : Nat) (C : Cs) (s : S) : Prop := ∀ ⦃X : Cx⦄ ⦃Wx : L2.St → Str → Hp → Prop⦄ ⦃x : Stmt⦄, Gd Z Wx k X → X.env.scope.kind = .function → Pk X → okS (ccOf X) s x = true → AskS (FnA Z k X) (GloA Z X) (RxA Z X) s → PS X x (TSv Z Wx (evS C s))
def DnSs (Z : Zn) (k : Nat) (C : Cs) (s : Ss) : Prop := ∀ ⦃X : Cx⦄ ⦃Wx : L2.St → Str → Hp → Prop⦄ ⦃xs : List Stmt⦄, Gd Z Wx k X → X.env.scope.kind = .function → Pk X → okSs (ccOf X) s xs = true → ASs Z k X s → PSs X xs (TSv Z Wx (evSs C s))
mutual
theorem sdS {Z : Zn} {k : Nat} {C : Cs} : ∀ s : S, DnS Z k C s
  | .asg t e => by
    intro X Wx x g hk hp h A
    unfold okS at h
    split at h
    · exact sd_asg g hk h A
    · cases h
  | .sub a i e => by
    intro X Wx x g hk hp h A
    unfold okS at h
    split at h
    · simp only [Bool.and_eq_true] at h
      obtain ⟨⟨⟨⟨h1, h2⟩, h3⟩, h4⟩, h5⟩ := h
      have A : AE Z k X a ∧ AE Z k X i ∧ AE Z k X e := A
      exact s_sub (sdE a g h2 A.1).1 (sdE i g h3 A.2.1).1 (sdE e g h4 A.2.2).1 h1 (sw_no h5) st_sub
    · cases h
  | .dput a i e => by
    intro X Wx x g hk hp h A
    unfold okS at h
    split at h
    · simp only [Bool.and_eq_true] at h
      obtain ⟨⟨⟨⟨h1, h2⟩, h3⟩, h4⟩, h5⟩ := h
      have A : AE Z k X a ∧ AE Z k X i ∧ AE Z k X e := A
      exact s_dput g (sdE a g h2 A.1).1 (sdE i g h3 A.2.1).1 (sdE e g h4 A.2.2).1 (sw_no2 h5)
    · cases h
  | .aug i o e => by
    intro X Wx x g hk hp h A
    unfold okS at h
    split at h
    · simp only [Bool.and_eq_true, decide_eq_true_eq] at h
      obtain ⟨⟨rfl, h1⟩, h2⟩ := h
      exact s_aug g h1 (sdE e g h2 A).1
    · cases h
  | .ex e => by
    intro X Wx x g hk hp h A
    unfold okS at h
    split at h
    · simp only [Bool.and_eq_true] at h
      exact s_ex (sdE e g h.2 A).1 (sw_none h.1)
    · cases h
  | .ret e => by
    intro X Wx x g hk hp h A
    unfold okS at h
    split at h
    · exact s_ret (sdE e g h A).1
    · cases h
  | .retN => by
    intro X Wx x g hk hp h A
    unfold okS at h
    split at h
    · exact s_retN
    · cases h
  | .ifs t a b => by
    intro X Wx x g hk hp h A
    unfold okS at h
    split at h
    · simp only [Bool.and_eq_true] at h
      have A : AE Z k X t ∧ ASs Z k X a ∧ ASs Z k X b := A
      exact s_ifs (sdE t g h.1.1 A.1).2 (sdSs a g hk hp h.1.2 A.2.1) (sdSs b g hk hp h.2 A.2.2)
    · cases h
  | .whl t b => by
    intro X Wx x g hk hp h A
    unfold okS at h
    split at h
    · simp only [Bool.and_eq_true] at h
      have A : AE Z k X t ∧ ASs Z k X b := A
      exact s_whl hp.po (sdE t g h.1 A.1).2 (sdSs b g hk hp h.2 A.2)
    · cases h
  | .fr t it b => by
    intro X Wx x g hk hp h A
    unfold okS at h
    split at h
    · simp only [Bool.and_eq_true] at h
      have A : AI Z k X it ∧ ASs Z k X b := A
      exact s_for g hp.po (sdI it g h.1.2 A.1) (okI_set h.1.2) h.1.1 (sdSs b g hk hp h.2 A.2)
    · cases h
  | .pass => by
    intro X Wx x g hk hp h A
    unfold okS at h
    split at h
    · exact s_pass
    · cases h
  | .brk => by
    intro X Wx x g hk hp h A
    unfold okS at h
    split at h
    · exact s_brk
    · cases h
  | .cnt => by
    intro X Wx x g hk hp h A
    unfold okS at h
    split at h
    · exact s_cnt
    · cases h
  | .rais n => by
    intro X Wx x g hk hp h A
    unfold okS at h
    split at h
    · simp only [Bool.and_eq_true, decide_eq_true_eq] at h
      obtain ⟨rfl, h1⟩ := h
      exact s_rais g A h1
    · cases h
  | .nev => by
    intro X Wx x g hk hp h A
    exact s_nev
  | .tryN b c s => by
    intro X Wx x g hk hp h A
    simp [okS] at h
  | .tryA b c i j => by
    intro X Wx x g hk hp h A
    unfold okS at h
    split at h
    · simp only [Bool.and_eq_true, decide_eq_true_eq, Bool.not_eq_true'] at h
      obtain ⟨⟨⟨⟨⟨⟨⟨⟨⟨rfl, rfl⟩, h1⟩, h2⟩, h3⟩, h4⟩, h5⟩, h6⟩, h7⟩, h8⟩ := h
      have A : ASs Z k X b ∧ ExcA Z X c := A
      exact s_tryA g hp A.2 h1 h2 (of_decide_eq_true h3) h4 (of_decide_eq_true h5) ⟨h6, h7⟩ fun W pn xe g' hp' => sdSs b g' hk hp' h8 A.1
    · cases h
  | .tryK b c j v => by
    intro X Wx x g hk hp h A
    unfold okS at h
    split at h
    · simp only [Bool.and_eq_true, decide_eq_true_eq, Bool.not_eq_true'] at h
      obtain ⟨⟨⟨⟨⟨rfl, rfl⟩, h1⟩, h4⟩, h5⟩, h8⟩ := h
      have A : ASs Z k X b ∧ ExcA Z X c := A
      exact s_tryK g hp A.2 h1 h4 (of_decide_eq_true h5) fun W pn xe g' hp' => sdSs b g' hk hp' h8 A.1
    · cases h
theorem sdSs {Z : Zn} {k : Nat} {C : Cs} : ∀ s : Ss, DnSs Z k C s
  | .nil => by
    intro X Wx xs g hk hp h A
    have e : xs = [] := by unfold okSs at h; exact List.isEmpty_iff.mp h
    subst e
    exact s_nil
  | .cons s r => by
    intro X Wx xs g hk hp h A
    unfold okSs at h
    split at h
    · simp only [Bool.and_eq_true] at h
      have A : AskS (FnA Z k X) (GloA Z X) (RxA Z X) s ∧ ASs Z k X r := A
      exact s_cons (sdS s g hk hp h.1 A.1) (sdSs r g hk hp h.2 A.2)
    · cases h
end
end
end Tb
namespace Tb
open PySem PySem.Spec PyProof.Rows L2
/-! ### defs, by the module's own facts -/
structure Mz where
  P : Program
  w : World
  K : PySem.W.Frag
  mg : Str → Option Value
  base : Heap
def FnM (Z : Zn) (k : Nat) (M : Mz) (x : Str) (F : Fn) (n : Nat) : Prop := ∃ f fd ps, FnG M.P M.w M.K M.mg M.base k f fd ps (spF Z n F) ∧ ps.length = n ∧ M.mg x = some (.ref f) ∧ PySem.W.keepIn M.K (.ref f) = true ∧ L2.Binds M.K fd ps []
def GloM (Z : Zn) (M : Mz) (x : Str) (d : D) : Prop := ∃ u v, M.mg x = some u ∧ RelV v u ∧ ∀ W H, RelD Z W H d v
def RaiM (Z : Zn) (M : Mz) (c : Str) : Prop := ∃ (Ca : Addr) (B newId initId : String) (bmB : List Value), ExcBaseFacts B newId initId bmB ∧ PySem.W.excIn M.K Ca bmB newId = true ∧ M.mg c = some (.ref Ca) ∧ PySem.W.keepIn M.K (.ref Ca) = true ∧
  (∀ (Mo : Model) (h : Heap), M.K.In h → PySem.W.Looks Mo h (isSubtype (.ref Ca) (.type "BaseException")) true ∧ PySem.W.Looks Mo h (typeOf (.ref Ca)) (.type "type")) ∧ Z.cl c = some Ca ∧ c ∈ Z.xs
def ExcM (Z : Zn) (M : Mz) (c : Str) : Prop := ∃ Cc, M.mg c = some (.ref Cc) ∧ ∀ n ∈ Z.xs, ∀ C, Z.cl n = some C → PySem.W.exmOne M.K (.ref C) (.ref Cc) = some (subX n c) ∧ XFa Z C
def RxM (Z : Zn) (M : Mz) : Bool → Str → Prop
  | false, c => RaiM Z M c
  | true, c => ExcM Z M c
theorem FnM.up {Z : Zn} {j k : Nat} {M : Mz} {x : Str} {F : Fn} {n : Nat} (h : FnM Z j M x F n) (le : j ≤ k) : FnM Z k M x F n := by
  obtain ⟨f, fd, ps, a, b⟩ := h
  exact ⟨f, fd, ps, a.up le, b⟩
structure Base (Z : Zn) (M : Mz) : Prop where
  hK : M.K = Z.K
  free : ∀ x ∈ freeN, M.mg x = none
  sys : SysOk M.K
theorem start_rel {Z : Zn} {W : Wd} {H : Hp} {ds : List D} {vs : List V} {N : List Str} (r : RelDs Z W H ds vs) : LRel Z W H (ds.map some ++ List.replicate (N.length - ds.length) none) (L2.start N vs) := by
  have hl := r.length
  unfold L2.start
  refine ⟨by simp [hl], fun i d e => ?_⟩
  by_cases hi : i < ds.length
  · rw [List.getElem?_append_left (by simpa using hi), List.getElem?_map] at e
    cases q : ds[i]? with
    | none => rw [q] at e; cases e
    | some d' =>
      rw [q] at e
      cases e
      obtain ⟨v, ev, rv⟩ := r.get q
      refine ⟨v, ?_, rv⟩
      rw [List.getElem?_append_left (by simpa using (by omega : i < vs.length)), List.getElem?_map, ev]
      rfl
  · rw [List.getElem?_append_right (by simpa using hi), List.getElem?_replicate] at e
    split at e <;> cases e
theorem ask_x {Z : Zn} {k : Nat} {M : Mz} {b : Ss} (h : AskSs (FnM Z k M) (GloM Z M) (RxM Z M) b) {X : Cx} (h1 : X.prog = M.P := by rfl) (h2 : X.w = M.w := by rfl) (h3 : X.K = M.K := by rfl) (h4 : X.mg = M.mg := by rfl) (h5 : X.base = M.base := by rfl) : ASs Z k X b := by
  obtain ⟨P, w, K, mg, base⟩ := M
  dsimp only at h1 h2 h3 h4 h5
  subst h1 h2 h3 h4 h5
  have e : RxM Z ⟨X.prog, X.w, X.K, X.mg, X.base⟩ = RxA Z X := by funext b c; cases b <;> rfl
  rw [e] at h
  exact h
theorem fn_defG {Z : Zn} {M : Mz} {C : Cs} {k : Nat} {x : Str} {params : Arguments} {body : List Stmt} {scope : Scope} {f : Addr} {fd : FuncData} {N ps : List Str} {b : Ss} (B : Base Z M) (F : FunD M.K x x params body scope [] [] f fd) (S : FnScope N ps scope)
    (ok : okSs ⟨N, scope, fun _ => true⟩ b body = true) (ask : AskSs (FnM Z k M) (GloM Z M) (RxM Z M) b) : FnG M.P M.w M.K M.mg M.base (k + 1) f fd ps (spF Z ps.length (fnS C N.length ps.length b)) := by
  obtain ⟨oc, od, dV, kV, doc, pm, an, cdv, ct, osl, rfl, lk, hcd, _, _⟩ := F.ex
  refine fnG_of lk hcd S (fun h => h.1) fun A outer s H vs Q E hq hr hsp => ?_
  obtain ⟨hl, W, h, ds, rd, hrel, t⟩ := hsp
  have hl2 : ds.length = ps.length := by rw [rd.length]; exact hl
  let Wx : L2.St → Str → Hp → Prop := fun _ c H' => c ∈ Z.xs → ∀ Ca, Z.cl c = some Ca → E (.ref Ca) none H'
  let X := cxOf (L2.CX M.P M.w) M.P M.w M.K M.mg M.base N x scope f cdv A outer s H E
  have tk : Takes X fun cls d σ H => EX Z Wx σ cls d H := Takes.imp (takes_of (X := X) (E := E) rfl rfl rfl rfl) fun cls d σ H' ⟨c, Ca, e1, e0, e2, e3, z⟩ => by
    subst e2 e3
    exact z e0 Ca e1
  have g : Gd Z Wx k X := ⟨B.hK, rfl, S.nd, hr, hq, B.free, B.sys, tk⟩
  refine ⟨TSv Z Wx (evSs C b), sdSs b g S.kind ⟨passes_of rfl, rfl, rfl, rfl⟩ ok (ask_x ask), W, _, h, start_rel rd, hrel, ?_⟩
  unfold fnS at t
  rw [if_pos hl2] at t
  cases q : evSs C b (ds.map some ++ List.replicate (N.length - ds.length) none) h with
  | rt d h1 => rw [q] at t; exact fun W' v H' g' hr' r' => t v W' H' g' hr' r'
  | nx ls h1 => rw [q] at t; exact fun W' σ' H' g' hr' lr' => t .non W' H' g' hr' rfl
  | exc c ls h1 => rw [q] at t; exact fun W' σ' H' g' hr' lr' => t W' H' g' hr'
  | bk ls h1 => rw [q] at t; exact t.elim
  | ct ls h1 => rw [q] at t; exact t.elim
  | bad => rw [q] at t; exact t.elim
theorem fn_def {Z : Zn} {M : Mz} {C : Cs} {k : Nat} {x : Str} {params : Arguments} {body : List Stmt} {scope : Scope} {f : Addr} {fd : FuncData} {N ps : List Str} {b : Ss} (B : Base Z M) (F : FunD M.K x x params body scope [] [] f fd) (S : FnScope N ps scope)
    (ok : okSs ⟨N, scope, fun _ => true⟩ b body = true) (ask : AskSs (FnM Z k M) (GloM Z M) (RxM Z M) b) (hm : M.mg x = some (.ref f)) (hb : L2.Binds M.K fd ps []) : FnM Z (k + 1) M x (fnS C N.length ps.length b) ps.length :=
  ⟨f, fd, ps, fn_defG B F S ok ask, rfl, hm, F.kp, hb⟩
theorem fn_bad {Z : Zn} {M : Mz} {k : Nat} {x : Str} {params : Arguments} {body : List Stmt} {scope : Scope} {f : Addr} {fd : FuncData} {ps : List Str} (F : FunD M.K x x params body scope [] [] f fd) (hm : M.mg x = some (.ref f)) (hb : L2.Binds M.K fd ps []) : FnM Z k M x (fun _ _ => .bad) ps.length :=
  ⟨f, fd, ps, ⟨fun h => h.1, fun _ _ _ _ _ ⟨_, _, _, _, _, _, t⟩ => t.elim⟩, rfl, hm, F.kp, hb⟩
def cs0 : Cs := ⟨fun _ _ => none⟩
/-! ### the head's Hook: as hookD, with sys.modules -/
def sysB (K : PySem.W.Frag) : Bool := match K.lookup sysModules with
  | some o => decide (o.cls = .type "dict")
  | none => false
theorem sysB_ok {K : PySem.W.Frag} (h : sysB K = true) : SysOk K := by
  unfold sysB at h
  cases q : K.lookup sysModules with
  | none => rw [q] at h; cases h
  | some o => rw [q] at h; exact ⟨o, q, of_decide_eq_true h⟩
/-! the exception classes: those that are raised, those that are asked for, those of the except clauses -/
structure Xl where
  xs : List Str
  ms : List Str
  cs : List Str
def xcB (K : PySem.W.Frag) (C : Addr) : Bool :=
  decide (PySem.W.findIn K (.ref C) "__getattribute__" = some (some (.builtin "BaseException.__getattribute__"))) && decide (PySem.W.findIn K (.ref C) "__getattr__" = some none) && decide (PySem.W.subIn K (.ref C) (.type "BaseException") = some true) && PySem.W.hasDictIn K C &&
  decide (PySem.W.findIn K (.ref C) "__class__" = some (some (.builtin "object.__class__"))) && decide (PySem.W.specialIn K (.builtin "object.__class__") "__get__" = some (some (.builtin "getset_descriptor.__get__"))) && decide (PySem.W.takesIn K (.builtin "object.__class__") = some true) && decide (PySem.W.mroIn K C (.type "object") = some true) &&
  decide (PySem.W.kitOne K (.ref C) (.type "ValueError") = some true)
def excB (K : PySem.W.Frag) (e : Xl) : Bool := ((e.cs.isEmpty && e.ms.isEmpty) || e.xs.all fun n => xcB K (He.ga K n) && e.ms.all (fun m => decide (PySem.W.kitOne K (.ref (He.ga K n)) (.ref (He.ga K m)) = some (subX n m))) && e.cs.all (fun c => decide (PySem.W.exmOne K (.ref (He.ga K n)) (.ref (He.ga K c)) = some (subX n c)))) && e.ms.all (fun m => mkB K (He.ga K m))
theorem xcB_ok {K : PySem.W.Frag} {xs : List Str} {f : Str → Option Addr} {C : Addr} (h : xcB K C = true) : XFa ⟨K, f, xs⟩ C := by
  unfold xcB at h
  simp only [Bool.and_eq_true, decide_eq_true_eq] at h
  obtain ⟨⟨⟨⟨⟨⟨⟨⟨h1, h2⟩, h3⟩, h4⟩, h5⟩, h6⟩, h7⟩, h8⟩, h9⟩ := h
  exact ⟨⟨h1, h2, h3, h4, h5, h6, h7, h8⟩, h9⟩
abbrev AlT : Type := Bool × He.AlD
def obsT (n : Nat) (fa : List He.Fa) (fn : List He.DefD) (e : Xl) (g : Addr → Option Obj) : AlT := (sysB (He.frG g (sysModules :: He.asD g n)) && excB (He.frG g (sysModules :: He.asD g n)) e, He.obsD fa fn (He.frG g (sysModules :: He.asD g n)))
def hookT (n : Nat) (fa : List He.Fa) (fn : List He.DefD) (e : Xl) : PySem.W.Hook where
  α := AlT
  obs := fun s => obsT n fa fn e s.heap.get?
  val := fun _ => (true, He.valD fn)
  says := fun _ h => ∃ K : PySem.W.Frag, K.In h ∧ (sysB K && excB K e) = true ∧ He.SaysD fa fn K
  of := fun _ _ e => ⟨_, He.frG_in, congrArg Prod.fst e, congrArg Prod.snd e⟩
  keeps := fun _ _ _ ⟨K, hK, c⟩ k => ⟨K, PySem.W.Frag.In.keeps hK k, c⟩
theorem obsT_eq {n : Nat} {fa : List He.Fa} {fn : List He.DefD} {e : Xl} {g : Addr → Option Obj} {s : Shared} (h : ∀ a, g a = s.heap.get? a) : obsT n fa fn e g = (hookT n fa fn e).obs s := by
  have q : g = s.heap.get? := funext h
  rw [q] <;> rfl
def znOf (K : PySem.W.Frag) (xs : List Str) : Zn := ⟨K, fun c => some (He.ga K c), xs⟩
/-- the free names first, in the facts -/
def faFree : List He.Fa := freeN.map He.Fa.free
theorem free_of {fa : List He.Fa} {fn : List He.DefD} {K : PySem.W.Frag} {h : Heap} {mg : Str → Option Value} (X : K.In h) (G : h.Ns mainGlobals mg) (c : He.SaysD (faFree ++ fa) fn K) : ∀ x ∈ freeN, mg x = none := fun x hx => by
  obtain ⟨i, hi, e⟩ := List.getElem_of_mem hx
  refine He.free_ok X G (c.fact i (f := .free x) ?_)
  have hi2 : i < faFree.length := by simpa [faFree] using hi
  rw [List.getElem?_append_left hi2]
  simp [faFree, List.getElem?_map, List.getElem?_eq_getElem hi, e]
theorem fact_of {fa : List He.Fa} {fn : List He.DefD} {K : PySem.W.Frag} (c : He.SaysD (faFree ++ fa) fn K) (i : Nat) {f : He.Fa} (h : fa[i]? = some f) : f.ok K = true := by
  have z : (faFree ++ fa)[faFree.length + i]? = some f := by rw [List.getElem?_append_right (by omega)]; simpa using h
  exact c.fact _ z
theorem glo_int {K : PySem.W.Frag} {h : Heap} {M : Mz} (X : K.In h) (G : h.Ns mainGlobals M.mg) {x : Str} {i : Int} {xs : List Str} (c : (He.Fa.int x i).ok K = true) : GloM (znOf K xs) M x (.int i) := by
  obtain ⟨t, e⟩ := He.int_ok X G c
  exact ⟨_, .int i, e, ⟨t, rfl⟩, fun _ _ => rfl⟩
theorem glo_str {K : PySem.W.Frag} {h : Heap} {M : Mz} (X : K.In h) (G : h.Ns mainGlobals M.mg) {x z : Str} {xs : List Str} (c : (He.Fa.str x z).ok K = true) : GloM (znOf K xs) M x (.str z) := by
  obtain ⟨t, e⟩ := He.str_ok X G c
  exact ⟨_, .str z, e, ⟨t, rfl⟩, fun _ _ => rfl⟩
theorem rai_of {K : PySem.W.Frag} {h : Heap} {P : Program} {w : World} {mg : Str → Option Value} {base : Heap} (X : K.In h) (G : h.Ns mainGlobals mg) {x : Str} {xs : List Str} (c1 : (He.Fa.glo x).ok K = true) (c2 : (He.Fa.exc x).ok K = true) (mx : x ∈ xs) : RaiM (znOf K xs) ⟨P, w, K, mg, base⟩ x := by
  obtain ⟨e1, e2, e3, e4⟩ := He.exc_ok c2
  exact ⟨He.ga K x, _, _, _, _, PySem.F.excBase_ValueError, e1, He.glo_ok X G c1, e2, fun _ _ k => ⟨PySem.W.looks_subIn k e3, PySem.W.looks_typeIn k e4⟩, rfl, mx⟩
theorem exB_at {K : PySem.W.Frag} {e : Xl} (h : excB K e = true) (ne : (e.cs.isEmpty && e.ms.isEmpty) = false) {n : Str} (hn : n ∈ e.xs) : xcB K (He.ga K n) = true ∧ (∀ m ∈ e.ms, PySem.W.kitOne K (.ref (He.ga K n)) (.ref (He.ga K m)) = some (subX n m)) ∧ ∀ c ∈ e.cs, PySem.W.exmOne K (.ref (He.ga K n)) (.ref (He.ga K c)) = some (subX n c) := by
  unfold excB at h
  rw [Bool.and_eq_true] at h
  have h := h.1
  rw [ne, Bool.false_or] at h
  have z := List.all_eq_true.mp h n hn
  simp only [Bool.and_eq_true] at z
  exact ⟨z.1.1, fun m hm => of_decide_eq_true (List.all_eq_true.mp z.1.2 m hm), fun c hc => of_decide_eq_true (List.all_eq_true.mp z.2 c hc)⟩
theorem glo_cls {K : PySem.W.Frag} {h : Heap} {M : Mz} (X : K.In h) (G : h.Ns mainGlobals M.mg) {x : Str} {e : Xl} (c : (He.Fa.glo x).ok K = true) (eb : excB K e = true) (hm : x ∈ e.ms) : GloM (znOf K e.xs) M x (.cls x) := by
  have ne : (e.cs.isEmpty && e.ms.isEmpty) = false := by
    cases q : e.ms with
    | nil => rw [q] at hm; cases hm
    | cons _ _ => simp
  refine ⟨_, .ref (He.ga K x), He.glo_ok X G c, rfl, fun _ _ => ⟨_, rfl, rfl, fun m hm2 C hC => ?_, ?_⟩⟩
  rotate_left
  · unfold excB at eb
    rw [Bool.and_eq_true] at eb
    exact List.all_eq_true.mp eb.2 x hm
  cases hC
  exact (exB_at eb ne hm2).2.1 x hm
theorem exc_of {K : PySem.W.Frag} {h : Heap} {P : Program} {w : World} {mg : Str → Option Value} {base : Heap} (X : K.In h) (G : h.Ns mainGlobals mg) {x : Str} {e : Xl} (c : (He.Fa.glo x).ok K = true) (eb : excB K e = true) (hm : x ∈ e.cs) : ExcM (znOf K e.xs) ⟨P, w, K, mg, base⟩ x := by
  have ne : (e.cs.isEmpty && e.ms.isEmpty) = false := by
    cases q : e.cs with
    | nil => rw [q] at hm; cases hm
    | cons _ _ => simp
  refine ⟨He.ga K x, He.glo_ok X G c, fun n hn C hC => ?_⟩
  cases hC
  exact ⟨(exB_at eb ne hn).2.2 x hm, xcB_ok (exB_at eb ne hn).1⟩
/-- the law's promise at the script -/
theorem law_sp {K : PySem.W.Frag} {xs : List Str} {F : Fn} {H : Hp} {a : Addr} {ns : List Int} (hO : Only H) (hS : SqL K H a (ns.map V.int)) (h : ∃ h', F [.kl (ns.map .int)] [] = .ok (.bl true) h') : spF (znOf K xs) 1 F [.ref a] H (fun v _ => v = .bl true) fun _ _ _ => False := by
  obtain ⟨h', e⟩ := h
  refine ⟨rfl, ⟨[], fun _ => False⟩, [], [.kl (ns.map .int)], ⟨_, [], rfl, ⟨a, ns.map V.int, rfl, ?_, RelDs.ints.mpr rfl⟩, rfl⟩, ⟨rfl, List.nodup_nil, fun i a o e => by simp at e, fun a m => by simp at m, fun a m => m.elim⟩, ?_⟩
  · rcases hS with (q | ⟨o, q⟩) | q
    · rcases hO a with z | ⟨o, xs, z⟩
      · rw [z] at q; cases q
      · rw [z] at q; cases q
    · exact .inl ⟨o, q, by simp, fun z => z⟩
    · exact .inr q
  · rw [e]
    exact fun v W' H' g hr r => r
end Tb
namespace Tb
open PySem PySem.Spec PyProof.Rows L2
/-! ### reckoning with the own texts -/
section
variable {α β : Type} {ls : Ls} {h h1 : Hh} {c : Bool} {C : Cs} {a b : E} {es : Es} {i : Nat} {x y : D}
@[simp] theorem bind_ok {d : α} {f : α → Hh → R β} : (R.ok d h).bind f = f d h := rfl
@[simp] theorem bind_exc {k : Str} {f : α → Hh → R β} : (R.exc k h : R α).bind f = .exc k h := rfl
@[simp] theorem bind_bad {f : α → Hh → R β} : (R.bad : R α).bind f = .bad := rfl
@[simp] theorem ev_int {n : Int} : evE (.int n) ls h = .ok (.int n) h := rfl
@[simp] theorem ev_bl {n : Bool} : evE (.bl n) ls h = .ok (.bl n) h := rfl
@[simp] theorem ev_non : evE .non ls h = .ok .non h := rfl
@[simp] theorem ev_str {n : Str} : evE (.str n) ls h = .ok (.str n) h := rfl
@[simp] theorem ev_glo {n : Str} {d : D} : evE (.glo n d) ls h = .ok d h := rfl
@[simp] theorem ev_bty {n : String} : evE (.bty n) ls h = .ok (.ty n) h := rfl
def varR (o : Option (Option D)) (h : Hh) : R D := match o with
  | some (some d) => .ok d h
  | _ => .bad
@[simp] theorem varR_some {d : D} : varR (some (some d)) h = .ok d h := rfl
@[simp] theorem ev_var : evE (.var i) ls h = varR ls[i]? h := rfl
@[simp] theorem ev_bin {o : Operator} : evE (.bin c o a b) ls h = (evE a ls h).bind fun x h1 => (evE b ls h1).bind fun y h2 => binD c o x y h2 := rfl
@[simp] theorem ev_neg : evE (.neg a) ls h = (evE a ls h).bind fun x h1 => negD x h1 := rfl
@[simp] theorem ev_cmp {o : CmpOp} : evE (.cmp o a b) ls h = (evE a ls h).bind fun x h1 => (evE b ls h1).bind fun y h2 => ofB (cmpD o h2 x y) h2 := rfl
@[simp] theorem ev_chn {o o2 : CmpOp} {d : E} : evE (.chn o o2 a b d) ls h = (evE a ls h).bind fun x h1 => (evE b ls h1).bind fun y h2 => (ofB (cmpD o h2 x y) h2).bind fun r h3 => (truD r h3).bind fun k h4 =>
  if k = true then (evE d ls h4).bind fun z h5 => ofB (cmpD o2 h5 y z) h5 else .ok (.bl false) h4 := rfl
@[simp] theorem ev_bop {o : BoolOp} : evE (.bop o es) ls h = evB o es ls h := rfl
@[simp] theorem ev_not : evE (.not a) ls h = (evE a ls h).bind fun x h1 => (truD x h1).bind fun k h2 => .ok (.bl !k) h2 := rfl
@[simp] theorem ev_ife {t : E} : evE (.ife t a b) ls h = (evE t ls h).bind fun x h1 => (truD x h1).bind fun k h2 => if k = true then evE a ls h2 else evE b ls h2 := rfl
@[simp] theorem ev_lst : evE (.lst c es) ls h = (evEs es ls h).bind fun xs h1 => if xs.length ≤ LIM then mkL c xs h1 else .bad := rfl
@[simp] theorem ev_tup : evE (.tup es) ls h = (evEs es ls h).bind fun xs h1 => if xs.length ≤ LIM then .ok (.tup xs) h1 else .bad := rfl
@[simp] theorem ev_idx : evE (.idx a b) ls h = (evE a ls h).bind fun x h1 => (evE b ls h1).bind fun y h2 => idxD x y h2 := rfl
@[simp] theorem ev_slU : evE (.slU c a b) ls h = (evE a ls h).bind fun x h1 => (evE b ls h1).bind fun y h2 => withI y fun j => slcD c x none (some j) h2 := rfl
@[simp] theorem ev_slL : evE (.slL c a b) ls h = (evE a ls h).bind fun x h1 => (evE b ls h1).bind fun y h2 => withI y fun i => slcD c x (some i) none h2 := rfl
@[simp] theorem ev_slB {d : E} : evE (.slB c a b d) ls h = (evE a ls h).bind fun x h1 => (evE b ls h1).bind fun y h2 => withI y fun i => (evE d ls h2).bind fun z h3 => withI z fun j => slcD c x (some i) (some j) h3 := rfl
@[simp] theorem ev_call {m : Md} {n : Str} {F : Fn} : evE (.call m n F es) ls h = (evEs es ls h).bind fun xs h1 => callM m F xs h1 := rfl
@[simp] theorem ev_bi {k : Bi} : evE (.bi k c es) ls h = (evEs es ls h).bind fun xs h1 => biD k c xs h1 := rfl
@[simp] theorem ev_isi : evE (.isi a b) ls h = (evE a ls h).bind fun x h1 => (evE b ls h1).bind fun y h2 => ofB (isiD h2 x y) h2 := rfl
@[simp] theorem ev_me {m : Me} : evE (.me m c a es) ls h = (evE a ls h).bind fun x h1 => if m.okR h1 x = true then (evEs es ls h1).bind fun xs h2 => meD m c x xs h2 else .bad := rfl
@[simp] theorem ev_comp {own : List Nat} {tg : Tg} {it : I} {tt : Es} {elt : E} : evE (.comp c own tg it tt elt) ls h = (evI it ls h).bind fun i h1 => (noX (compR i (asgT tg) (evTs tt) (evE elt) (wipeL ls own) h1)).bind fun ds h2 => mkL c ds h2 := rfl
@[simp] theorem ev_rvl : evE (.rvl c a) ls h = (evE a ls h).bind fun x h1 => revD c x h1 := rfl
@[simp] theorem ev_dnew : evE .dnew ls h = .ok (.cel h.length) (h ++ [.dct []]) := rfl
@[simp] theorem ev_dget : evE (.dget a b) ls h = (evE a ls h).bind fun x h1 => (evE b ls h1).bind fun y h2 => dgetK (dictO h2 x) (keyD y) h2 := rfl
@[simp] theorem ev_dhas {n : Bool} : evE (.dhas n a b) ls h = (evE a ls h).bind fun y h1 => (evE b ls h1).bind fun x h2 => dhasK n (dictO h2 x) (keyD y) h2 := rfl
@[simp] theorem ev_dlst {c : Bool} : evE (.dlst c a) ls h = (evE a ls h).bind fun x h1 => dlstD c x h1 := rfl
@[simp] theorem ev_strx {n : Str} : evE (.strx n a) ls h = (evE a ls h).bind fun x h1 => strxD x h1 := rfl
@[simp] theorem strxD_s {m : Str} {h : Hh} : strxD (.str m) h = .ok (.str m) h := rfl
@[simp] theorem ev_denu {a : E} : evE (.denu a) ls h = (evE a ls h).bind fun x h1 => denD x h1 := rfl
@[simp] theorem ev_lset : evE (.lset a) ls h = (evE a ls h).bind fun x h1 => lsetD x h1 := rfl
@[simp] theorem ev_lrg : evE (.lrg c a b) ls h = (evE a ls h).bind fun x h1 => (evE b ls h1).bind fun y h2 => lrgD c x y h2 := rfl
@[simp] theorem ev_enil : evEs .nil ls h = .ok [] h := rfl
@[simp] theorem ev_econs : evEs (.cons a es) ls h = (evE a ls h).bind fun x h1 => (evEs es ls h1).bind fun xs h2 => .ok (x :: xs) h2 := rfl
@[simp] theorem ev_b1 {o : BoolOp} : evB o (.cons a .nil) ls h = evE a ls h := rfl
@[simp] theorem ev_and : evB .And (.cons a (.cons b es)) ls h = (evE a ls h).bind fun x h1 => (truD x h1).bind fun k h2 => if k = true then evB .And (.cons b es) ls h2 else .ok (.bl false) h2 := by
  show ((evE a ls h).bind fun x h1 => (truD x h1).bind fun k h2 => match BoolOp.And, k with | .And, true => evB .And (.cons b es) ls h2 | .And, false => .ok (.bl false) h2 | .Or, true => .ok (.bl true) h2 | .Or, false => evB .And (.cons b es) ls h2) = _
  congr 1; funext x h1; congr 1; funext k h2; cases k <;> rfl
@[simp] theorem ev_or : evB .Or (.cons a (.cons b es)) ls h = (evE a ls h).bind fun x h1 => (truD x h1).bind fun k h2 => if k = true then .ok (.bl true) h2 else evB .Or (.cons b es) ls h2 := by
  show ((evE a ls h).bind fun x h1 => (truD x h1).bind fun k h2 => match BoolOp.Or, k with | .And, true => evB .Or (.cons b es) ls h2 | .And, false => .ok (.bl false) h2 | .Or, true => .ok (.bl true) h2 | .Or, false => evB .Or (.cons b es) ls h2) = _
  congr 1; funext x h1; congr 1; funext k h2; cases k <;> rfl
@[simp] theorem ev_t0 : evTs .nil ls h = .ok true h := rfl
@[simp] theorem ev_t1 : evTs (.cons a .nil) ls h = (evE a ls h).bind truD := rfl
@[simp] theorem ev_iseq : evI (.seq a) ls h = (evE a ls h).bind fun x h1 => mkR ((seqOf h1 x).map fun _ => .seq x) h1 := rfl
@[simp] theorem ev_irng : evI (.rng es) ls h = (evEs es ls h).bind fun xs h1 => mkR (rngOf xs) h1 := rfl
@[simp] theorem ev_ienu : evI (.enu a) ls h = (evE a ls h).bind fun x h1 => mkR ((asL h1 x).map fun _ => .enu x) h1 := rfl
@[simp] theorem ev_izip : evI (.zip a b) ls h = (evE a ls h).bind fun x h1 => (evE b ls h1).bind fun y h2 => mkR ((asL h2 x).bind fun _ => (asL h2 y).map fun _ => .zip x y) h2 := rfl
@[simp] theorem ev_irev : evI (.rev a) ls h = (evE a ls h).bind fun x h1 => mkR ((asL h1 x).map fun xs => .rev x xs.length) h1 := rfl
@[simp] theorem ev_T : evT a ls h = (evE a ls h).bind truD := rfl
@[simp] theorem ofR_ok {d : α} {k : α → Hh → RS} : ofR (.ok d h) ls k = k d h := rfl
@[simp] theorem ofR_exc {n : Str} {k : α → Hh → RS} : ofR (.exc n h) ls k = .exc n ls h := rfl
@[simp] theorem ofR_bad {k : α → Hh → RS} : ofR .bad ls k = .bad := rfl
@[simp] theorem ofL_some {l : Ls} : ofL (some l) h = .nx l h := rfl
@[simp] theorem ofL_none : ofL none h = .bad := rfl
@[simp] theorem truD_bl {k : Bool} : truD (.bl k) h = .ok k h := rfl
@[simp] theorem negD_int {n : Int} : negD (.int n) h = .ok (.int (-n)) h := rfl
@[simp] theorem ofB_some {k : Bool} : ofB (some k) h = .ok (.bl k) h := rfl
@[simp] theorem mkL_f {xs : List D} : mkL false xs h = .ok (.lst xs) h := rfl
@[simp] theorem mkL_t {xs : List D} : mkL true xs h = .ok (.cel h.length) (h ++ [.lst xs]) := rfl
@[simp] theorem mkR_s {j : Tb.It} : mkR (some j) h = .ok j h := rfl
@[simp] theorem noX_ok {d : α} : noX (.ok d h) = .ok d h := rfl
@[simp] theorem ev_asg {t : Tg} : evS C (.asg t a) ls h = ofR (evE a ls h) ls fun d h1 => ofL (asgT t d ls) h1 := rfl
@[simp] theorem ev_dput {d : E} : evS C (.dput a b d) ls h = ofR (evE d ls h) ls fun d h1 => ofR (evE a ls h1) ls fun x h2 => ofR (evE b ls h2) ls fun y h3 => ofR (dputD x y d h3) ls fun _ h4 => .nx ls h4 := rfl
@[simp] theorem ev_sub {d : E} : evS C (.sub a b d) ls h = ofR (evE d ls h) ls fun d h1 => ofR (evE a ls h1) ls fun x h2 => ofR (evE b ls h2) ls fun y h3 => ofR (setD x y d h3) ls fun _ h4 => .nx ls h4 := rfl
def augR2 (o : Option (Option D)) (k : D → RS) : RS := match o with
  | some (some x) => k x
  | _ => .bad
@[simp] theorem augR2_some {d : D} {k : D → RS} : augR2 (some (some d)) k = k d := rfl
@[simp] theorem ev_aug {o : Operator} : evS C (.aug i o a) ls h = augR2 ls[i]? fun x => ofR (evE a ls h) ls fun y h1 => ofR (augD o x y h1) ls fun z h2 => ofL (setN i z ls) h2 := rfl
@[simp] theorem ev_ex : evS C (.ex a) ls h = ofR (evE a ls h) ls fun _ h1 => .nx ls h1 := rfl
@[simp] theorem ev_ret : evS C (.ret a) ls h = ofR (evE a ls h) ls fun d h1 => .rt d h1 := rfl
@[simp] theorem ev_retN : evS C .retN ls h = .rt .non h := rfl
@[simp] theorem ev_ifs {t : E} {p q : Ss} : evS C (.ifs t p q) ls h = ofR (evT t ls h) ls fun k h1 => if k = true then evSs C p ls h1 else evSs C q ls h1 := rfl
@[simp] theorem ev_whl {t : E} {p : Ss} : evS C (.whl t p) ls h = whileR (evT t) (evSs C p) FUEL ls h := rfl
@[simp] theorem ev_fr {t : Tg} {it : I} {p : Ss} : evS C (.fr t it p) ls h = ofR (evI it ls h) ls fun i h1 => forR i (asgT t) (evSs C p) ls h1 := rfl
@[simp] theorem ev_pass : evS C .pass ls h = .nx ls h := rfl
@[simp] theorem ev_brk : evS C .brk ls h = .bk ls h := rfl
@[simp] theorem ev_cnt : evS C .cnt ls h = .ct ls h := rfl
@[simp] theorem ev_dic0 : evE (.dic []) ls h = .ok (.dic []) h := rfl
@[simp] theorem ev_dic1 {p : At × At} : evE (.dic [p]) ls h = match evKV ls p with | some kv => .ok (.dic [kv]) h | none => .bad := rfl
@[simp] theorem ev_rais {n : Str} : evS C (.rais n) ls h = .exc n ls h := rfl
def seqR (r : RS) (k : Ls → Hh → RS) : RS := match r with
  | .nx l1 h1 => k l1 h1
  | o => o
@[simp] theorem seqR_nx {k : Ls → Hh → RS} : seqR (.nx ls h) k = k ls h := rfl
@[simp] theorem seqR_rt {d : D} {k : Ls → Hh → RS} : seqR (.rt d h) k = .rt d h := rfl
@[simp] theorem seqR_exc {n : Str} {k : Ls → Hh → RS} : seqR (.exc n ls h) k = .exc n ls h := rfl
@[simp] theorem seqR_bk {k : Ls → Hh → RS} : seqR (.bk ls h) k = .bk ls h := rfl
@[simp] theorem seqR_ct {k : Ls → Hh → RS} : seqR (.ct ls h) k = .ct ls h := rfl
@[simp] theorem ev_snil : evSs C .nil ls h = .nx ls h := rfl
@[simp] theorem ev_scons {s : S} {r : Ss} : evSs C (.cons s r) ls h = seqR (evS C s ls h) fun l1 h1 => evSs C r l1 h1 := by
  show (match evS C s ls h with | .nx l1 h1 => evSs C r l1 h1 | o => o) = _
  cases evS C s ls h <;> rfl
def endR : RS → R D
  | .rt d h1 => .ok d h1
  | .nx _ h1 => .ok .non h1
  | .exc c _ h1 => .exc c h1
  | _ => .bad
@[simp] theorem endR_rt {d : D} : endR (.rt d h) = .ok d h := rfl
@[simp] theorem endR_nx : endR (.nx ls h) = .ok .non h := rfl
@[simp] theorem endR_exc {n : Str} : endR (.exc n ls h) = .exc n h := rfl
theorem fnS_run {n np : Nat} {p : Ss} {ds : List D} (hl : ds.length = np) : fnS C n np p ds h = endR (evSs C p (ds.map some ++ List.replicate (n - ds.length) none) h) := by
  unfold fnS
  rw [if_pos hl]
  cases evSs C p (ds.map some ++ List.replicate (n - ds.length) none) h <;> rfl
theorem fn1 {n : Nat} {p : Ss} {a : D} : fnS C n 1 p [a] h = endR (evSs C p ([some a] ++ List.replicate (n - 1) none) h) := fnS_run (ds := [a]) rfl
theorem fn2 {n : Nat} {p : Ss} {a b : D} : fnS C n 2 p [a, b] h = endR (evSs C p ([some a, some b] ++ List.replicate (n - 2) none) h) := fnS_run (ds := [a, b]) rfl
theorem fn3 {n : Nat} {p : Ss} {a b d : D} : fnS C n 3 p [a, b, d] h = endR (evSs C p ([some a, some b, some d] ++ List.replicate (n - 3) none) h) := fnS_run (ds := [a, b, d]) rfl
theorem fn4 {n : Nat} {p : Ss} {a b d e : D} : fnS C n 4 p [a, b, d, e] h = endR (evSs C p ([some a, some b, some d, some e] ++ List.replicate (n - 4) none) h) := fnS_run (ds := [a, b, d, e]) rfl
@[simp] theorem callS_eq {F : Fn} {ds : List D} : callM .S F ds h = F ds h := rfl
theorem callP_eq {F : Fn} {ds : List D} {d : D} {h' : Hh} (hp : pures ds = true) (e : F ds [] = .ok d h') {d' : D} (hz : fz 0 h' d = some d') : callM .P F ds h = .ok d' h := by
  have q : ∀ ds : List D, pures ds = true → frzL (fz 0 h) ds = some ds := by
    intro ds
    induction ds with
    | nil => intro _; rfl
    | cons d ds ih =>
      intro u
      simp only [pures, Bool.and_eq_true] at u
      have q : fz 0 h d = some d := by unfold fz; simp [u.1]
      simp [frzL, q, ih u.2]
  show callP F ds h = _
  unfold callP
  rw [q ds hp]
  simp only [e, hz, hp, true_or, if_true]
theorem fz_pure {n : Nat} {d : D} (hp : d.pure = true) : fz n h d = some d := by unfold fz; simp [hp]
/-- .. a new list of its own -/
theorem callCE {F : Fn} {ds es : List D} {i : Nat} {xs : List D} {h' : Hh} (hf : frzL (fz 0 h) ds = some es) (e : F es [] = .ok (.cel i) h') (ei : h'[i]? = some (.lst xs)) (hx : pures xs = true ∧ (pures ds = true ∨ nols xs = true)) : callM .C F ds h = .ok (.cel h.length) (h ++ [.lst xs]) := by
  show callC F ds h = _
  unfold callC
  rw [hf]
  simp only [e, ei, asO]
  rw [if_pos hx]
theorem frz_pures : ∀ {ds : List D}, pures ds = true → frzL (fz 0 h) ds = some ds
  | [], _ => rfl
  | d :: ds, u => by
    simp only [pures, Bool.and_eq_true] at u
    have q : fz 0 h d = some d := by unfold fz; simp [u.1]
    simp [frzL, q, frz_pures u.2]
theorem callCC {F : Fn} {ds : List D} {i : Nat} {xs : List D} {h' : Hh} (hp : pures ds = true) (e : F ds [] = .ok (.cel i) h') (ei : h'[i]? = some (.lst xs)) (hx : pures xs = true) : callM .C F ds h = .ok (.cel h.length) (h ++ [.lst xs]) := callCE (frz_pures hp) e ei ⟨hx, .inl hp⟩
theorem fz_cel {i : Nat} {xs : List D} {h' : Hh} (ei : h'[i]? = some (.lst xs)) (hx : ∀ d ∈ xs, frz 0 h' 7 d = some d) : fz 0 h' (.cel i) = some (.lst xs) := by
  show frz 0 h' 8 (.cel i) = _
  show (if i < 0 then some (D.cel i) else (asO h'[i]?).bind fun xs => (frzL (frz 0 h' 7) xs).map .lst) = _
  rw [if_neg (Nat.not_lt_zero _), ei]
  show (frzL (frz 0 h' 7) xs).map D.lst = _
  have go : ∀ l : List D, (∀ d ∈ l, frz 0 h' 7 d = some d) → frzL (frz 0 h' 7) l = some l := by
    intro l
    induction l with
    | nil => intro _; rfl
    | cons d r ih => intro z; simp only [frzL, z d List.mem_cons_self, Option.bind_some, ih fun e he => z e (List.mem_cons_of_mem _ he), Option.map_some]
  rw [go xs hx]; rfl
/-- a pure call of which a new list of numbers comes -/
theorem callPN {F : Fn} {ds : List D} {i : Nat} {ns : List Int} {h' : Hh} (hp : pures ds = true) (e : F ds [] = .ok (.cel i) h') (ei : h'[i]? = some (.lst (ns.map .int))) : callM .P F ds h = .ok (.lst (ns.map .int)) h :=
  callP_eq hp e (fz_cel ei fun d hd => by obtain ⟨n, _, rfl⟩ := List.mem_map.mp hd; rfl)
/-- a pure call, what comes is pure -/
theorem callPP {F : Fn} {ds : List D} {d : D} {h' : Hh} (hp : pures ds = true) (e : F ds [] = .ok d h') (hd : d.pure = true) : callM .P F ds h = .ok d h := callP_eq hp e (fz_pure hd)
@[simp] theorem bin_add {n m : Int} : binD c .Add (.int n) (.int m) h = .ok (.int (n + m)) h := rfl
@[simp] theorem bin_sub {n m : Int} : binD c .Sub (.int n) (.int m) h = .ok (.int (n - m)) h := rfl
theorem bin_mul {n m : Int} (h1 : small n = true) (h2 : small m = true) : binD c .Mult (.int n) (.int m) h = .ok (.int (n * m)) h := by
  show (if small n = true ∧ small m = true then (R.ok (D.int (n * m)) h : R D) else .bad) = _
  rw [if_pos ⟨h1, h2⟩]
theorem small_of {n : Int} (a : -1000000000000000000000000000000000000000000000000000000000000 ≤ n) (b : n ≤ 1000000000000000000000000000000000000000000000000000000000000) : small n = true := by
  unfold small
  refine decide_eq_true (Nat.lt_of_le_of_lt (m := 1000000000000000000000000000000000000000000000000000000000000) (by omega) ?_)
  decide
end
/-! loops -/
section
variable {g : D → Ls → Option Ls} {b : Ls → Hh → RS}
/-- a for that goes through -/
theorem loopL_inv (P : Nat → Ls → Hh → Prop) : ∀ (xs : List D) (i : Nat) (ls : Ls) (h : Hh), (∀ j x ls h, xs[j]? = some x → P (i + j) ls h → ∃ l1 l2 h2, g x ls = some l1 ∧ (b l1 h = .nx l2 h2 ∨ b l1 h = .ct l2 h2) ∧ P (i + j + 1) l2 h2) → P i ls h → ∃ l2 h2, loopL g b xs ls h = .nx l2 h2 ∧ P (i + xs.length) l2 h2
  | [], i, ls, h, _, p => ⟨ls, h, rfl, p⟩
  | x :: xs, i, ls, h, st, p => by
    obtain ⟨l1, l2, h2, e1, e2, p2⟩ := st 0 x ls h rfl p
    obtain ⟨l3, h3, e3, p3⟩ := loopL_inv P xs (i + 1) l2 h2 (fun j y ls h e q => by
      obtain ⟨a1, a2, a3, a4, a5, a6⟩ := st (j + 1) y ls h (by simpa using e) (by rw [Nat.add_assoc, Nat.add_comm 1 j] at q; exact q)
      exact ⟨a1, a2, a3, a4, a5, by rw [Nat.add_assoc i 1 j, Nat.add_comm 1 j]; exact a6⟩) p2
    refine ⟨l3, h3, ?_, by rw [List.length_cons, Nat.add_comm xs.length 1, ← Nat.add_assoc]; exact p3⟩
    have un : loopL g b (x :: xs) ls h = match g x ls with
      | none => .bad
      | some l1 => match b l1 h with
        | .nx l2 h2 => loopL g b xs l2 h2
        | .ct l2 h2 => loopL g b xs l2 h2
        | .bk l2 h2 => .nx l2 h2
        | r => r := rfl
    rw [un, e1]
    rcases e2 with e2 | e2 <;> (simp only [e2]; exact e3)
theorem forR_rng {lo : Int} {n : Nat} {st : Int} {ls : Ls} {h : Hh} : forR (.rng lo n st) g b ls h = loopL g b (rngL lo st n) ls h := rfl
theorem forR_lst {xs : List D} {ls : Ls} {h : Hh} : forR (.seq (.lst xs)) g b ls h = loopL g b xs ls h := rfl
theorem forR_tup {xs : List D} {ls : Ls} {h : Hh} : forR (.seq (.tup xs)) g b ls h = loopL g b xs ls h := rfl
theorem rngL_mem {lo : Int} {n j : Nat} {x : D} (e : (rngL lo 1 n)[j]? = some x) : j < n ∧ x = .int (lo + j) := by
  have hj : j < n := by
    have := (List.getElem?_eq_some_iff.mp e).1
    rw [rngL_len] at this
    exact this
  rw [rngL_get 1 n j lo hj] at e
  cases e
  exact ⟨hj, by rw [Int.mul_one]⟩
end
end Tb
namespace Tb
open PySem PySem.Spec PyProof.Rows L2
@[simp] theorem isi_non_int {h : Hh}  : isiD h .non (.ty "int") = some false := by cases h <;> rfl
@[simp] theorem isi_non_bool {h : Hh}  : isiD h .non (.ty "bool") = some false := by cases h <;> rfl
@[simp] theorem isi_non_str {h : Hh}  : isiD h .non (.ty "str") = some false := by cases h <;> rfl
@[simp] theorem isi_non_list {h : Hh}  : isiD h .non (.ty "list") = some false := by cases h <;> rfl
@[simp] theorem isi_non_tuple {h : Hh}  : isiD h .non (.ty "tuple") = some false := by cases h <;> rfl
@[simp] theorem isi_non_dict {h : Hh}  : isiD h .non (.ty "dict") = some false := by cases h <;> rfl
@[simp] theorem isi_bl_int {h : Hh} {v : Bool} : isiD h (.bl v) (.ty "int") = some true := by cases h <;> rfl
@[simp] theorem isi_bl_bool {h : Hh} {v : Bool} : isiD h (.bl v) (.ty "bool") = some true := by cases h <;> rfl
@[simp] theorem isi_bl_str {h : Hh} {v : Bool} : isiD h (.bl v) (.ty "str") = some false := by cases h <;> rfl
@[simp] theorem isi_bl_list {h : Hh} {v : Bool} : isiD h (.bl v) (.ty "list") = some false := by cases h <;> rfl
@[simp] theorem isi_bl_tuple {h : Hh} {v : Bool} : isiD h (.bl v) (.ty "tuple") = some false := by cases h <;> rfl
@[simp] theorem isi_bl_dict {h : Hh} {v : Bool} : isiD h (.bl v) (.ty "dict") = some false := by cases h <;> rfl
@[simp] theorem isi_int_int {h : Hh} {v : Int} : isiD h (.int v) (.ty "int") = some true := by cases h <;> rfl
@[simp] theorem isi_int_bool {h : Hh} {v : Int} : isiD h (.int v) (.ty "bool") = some false := by cases h <;> rfl
@[simp] theorem isi_int_str {h : Hh} {v : Int} : isiD h (.int v) (.ty "str") = some false := by cases h <;> rfl
@[simp] theorem isi_int_list {h : Hh} {v : Int} : isiD h (.int v) (.ty "list") = some false := by cases h <;> rfl
@[simp] theorem isi_int_tuple {h : Hh} {v : Int} : isiD h (.int v) (.ty "tuple") = some false := by cases h <;> rfl
@[simp] theorem isi_int_dict {h : Hh} {v : Int} : isiD h (.int v) (.ty "dict") = some false := by cases h <;> rfl
@[simp] theorem isi_str_int {h : Hh} {v : Str} : isiD h (.str v) (.ty "int") = some false := by cases h <;> rfl
@[simp] theorem isi_str_bool {h : Hh} {v : Str} : isiD h (.str v) (.ty "bool") = some false := by cases h <;> rfl
@[simp] theorem isi_str_str {h : Hh} {v : Str} : isiD h (.str v) (.ty "str") = some true := by cases h <;> rfl
@[simp] theorem isi_str_list {h : Hh} {v : Str} : isiD h (.str v) (.ty "list") = some false := by cases h <;> rfl
@[simp] theorem isi_str_tuple {h : Hh} {v : Str} : isiD h (.str v) (.ty "tuple") = some false := by cases h <;> rfl
@[simp] theorem isi_str_dict {h : Hh} {v : Str} : isiD h (.str v) (.ty "dict") = some false := by cases h <;> rfl
@[simp] theorem isi_tup_int {h : Hh} {v : List D} : isiD h (.tup v) (.ty "int") = some false := by cases h <;> rfl
@[simp] theorem isi_tup_bool {h : Hh} {v : List D} : isiD h (.tup v) (.ty "bool") = some false := by cases h <;> rfl
@[simp] theorem isi_tup_str {h : Hh} {v : List D} : isiD h (.tup v) (.ty "str") = some false := by cases h <;> rfl
@[simp] theorem isi_tup_list {h : Hh} {v : List D} : isiD h (.tup v) (.ty "list") = some false := by cases h <;> rfl
@[simp] theorem isi_tup_tuple {h : Hh} {v : List D} : isiD h (.tup v) (.ty "tuple") = some true := by cases h <;> rfl
@[simp] theorem isi_tup_dict {h : Hh} {v : List D} : isiD h (.tup v) (.ty "dict") = some false := by cases h <;> rfl
@[simp] theorem isi_lst_int {h : Hh} {v : List D} : isiD h (.lst v) (.ty "int") = some false := by cases h <;> rfl
@[simp] theorem isi_lst_bool {h : Hh} {v : List D} : isiD h (.lst v) (.ty "bool") = some false := by cases h <;> rfl
@[simp] theorem isi_lst_str {h : Hh} {v : List D} : isiD h (.lst v) (.ty "str") = some false := by cases h <;> rfl
@[simp] theorem isi_lst_list {h : Hh} {v : List D} : isiD h (.lst v) (.ty "list") = some true := by cases h <;> rfl
@[simp] theorem isi_lst_tuple {h : Hh} {v : List D} : isiD h (.lst v) (.ty "tuple") = some false := by cases h <;> rfl
@[simp] theorem isi_lst_dict {h : Hh} {v : List D} : isiD h (.lst v) (.ty "dict") = some false := by cases h <;> rfl
@[simp] theorem isi_kl_int {h : Hh} {v : List D} : isiD h (.kl v) (.ty "int") = some false := by cases h <;> rfl
@[simp] theorem isi_kl_bool {h : Hh} {v : List D} : isiD h (.kl v) (.ty "bool") = some false := by cases h <;> rfl
@[simp] theorem isi_kl_str {h : Hh} {v : List D} : isiD h (.kl v) (.ty "str") = some false := by cases h <;> rfl
@[simp] theorem isi_kl_list {h : Hh} {v : List D} : isiD h (.kl v) (.ty "list") = some true := by cases h <;> rfl
@[simp] theorem isi_kl_tuple {h : Hh} {v : List D} : isiD h (.kl v) (.ty "tuple") = some false := by cases h <;> rfl
@[simp] theorem isi_kl_dict {h : Hh} {v : List D} : isiD h (.kl v) (.ty "dict") = some false := by cases h <;> rfl
@[simp] theorem isi_dic_int {h : Hh} {v : List (Key × D)} : isiD h (.dic v) (.ty "int") = some false := by cases h <;> rfl
@[simp] theorem isi_dic_bool {h : Hh} {v : List (Key × D)} : isiD h (.dic v) (.ty "bool") = some false := by cases h <;> rfl
@[simp] theorem isi_dic_str {h : Hh} {v : List (Key × D)} : isiD h (.dic v) (.ty "str") = some false := by cases h <;> rfl
@[simp] theorem isi_dic_list {h : Hh} {v : List (Key × D)} : isiD h (.dic v) (.ty "list") = some false := by cases h <;> rfl
@[simp] theorem isi_dic_tuple {h : Hh} {v : List (Key × D)} : isiD h (.dic v) (.ty "tuple") = some false := by cases h <;> rfl
@[simp] theorem isi_dic_dict {h : Hh} {v : List (Key × D)} : isiD h (.dic v) (.ty "dict") = some true := by cases h <;> rfl
section
variable {ls : Ls} {h : Hh} {c : Bool} {n m : Int} {i j : Nat} {xs : List D} {d v : D}
theorem isi_cel_list (e : h[i]? = some (.lst xs)) : isiD h (.cel i) (.ty "list") = some true := by
  show (if tyAsk.contains "list" then ((asO h[i]?).map fun _ => "list").map fun t => isiB t "list" else none) = _
  rw [e]; rfl
@[simp] theorem small_lit {n : Nat} (q : Nat.ble n 1000000000000000000000000000000000000000000000000000000000000 = true) : small (no_index (OfNat.ofNat n : Int)) = true := by
  have q := Nat.le_of_ble_eq_true q
  have e : (OfNat.ofNat n : Int) = ((n : Nat) : Int) := rfl
  rw [e]
  exact small_of (by omega) (by omega)
@[simp] theorem bin_mod (q : 0 < m) : binD c .Mod (.int n) (.int m) h = .ok (.int (n % m)) h := by
  show (if 0 < m then (R.ok (D.int (n % m)) h : R D) else _) = _
  rw [if_pos q]
@[simp] theorem bin_fdiv (q : 0 < m) (s : small m = true) : binD c .FloorDiv (.int n) (.int m) h = .ok (.int (n / m)) h := by
  show (if 0 < m ∧ small m = true then (R.ok (D.int (n / m)) h : R D) else .bad) = _
  rw [if_pos ⟨q, s⟩]
theorem bin_pow (q : 0 ≤ m) (q2 : m ≤ 10000) (q3 : n.natAbs < 18446744073709551616) : binD c .Pow (.int n) (.int m) h = .ok (.int (n ^ m.toNat)) h := by
  show (if 0 ≤ m ∧ m ≤ 10000 ∧ n.natAbs < 18446744073709551616 then (R.ok (D.int (n ^ m.toNat)) h : R D) else .bad) = _
  rw [if_pos ⟨q, q2, q3⟩]
@[simp] theorem pow18 : binD c .Pow (.int 10) (.int 18) h = .ok (.int 1000000000000000000) h := rfl
@[simp] theorem cmp_eq : cmpD .Eq h (.int n) (.int m) = some (decide (n = m)) := by
  show some (n == m) = _
  congr 1
@[simp] theorem cmp_ne : cmpD .NotEq h (.int n) (.int m) = some (!decide (n = m)) := by
  show some (!(n == m)) = _
  congr 1
@[simp] theorem cmp_lt : cmpD .Lt h (.int n) (.int m) = some (decide (n < m)) := rfl
@[simp] theorem cmp_le : cmpD .LtE h (.int n) (.int m) = some (decide (n ≤ m)) := rfl
@[simp] theorem cmp_gt : cmpD .Gt h (.int n) (.int m) = some (decide (m < n)) := rfl
@[simp] theorem cmp_ge : cmpD .GtE h (.int n) (.int m) = some (decide (m ≤ n)) := rfl
@[simp] theorem is_non : cmpD .Is h .non .non = some true := rfl
@[simp] theorem is_int : cmpD .Is h (.int n) .non = some false := rfl
@[simp] theorem isN_non : cmpD .IsNot h .non .non = some false := rfl
@[simp] theorem isN_int : cmpD .IsNot h (.int n) .non = some true := rfl
@[simp] theorem optD_s : optD (some d) h = .ok d h := rfl
@[simp] theorem optI_s : optI (some n) h = .ok (.int n) h := rfl
@[simp] theorem idx_tup : idxD (.tup xs) (.int n) h = optD (atI xs n) h := rfl
@[simp] theorem idx_lst : idxD (.lst xs) (.int n) h = optD (atI xs n) h := rfl
@[simp] theorem idx_kl : idxD (.kl xs) (.int n) h = optD (atI xs n) h := rfl
theorem idx_cel (e : h[i]? = some (.lst xs)) : idxD (.cel i) (.int n) h = optD (atI xs n) h := by
  show idxL (asO h[i]?) n h = _
  rw [e]; rfl
@[simp] theorem atI_lit {α : Type} {xs : List α} {k : Nat} : atI xs (no_index (OfNat.ofNat k : Int)) = xs[k]? := by
  show atI xs ((k : Nat) : Int) = _
  unfold atI ixN
  rw [if_pos (by omega)]
  by_cases q : ((k : Nat) : Int) < xs.length
  · rw [if_pos q]; simp
  · rw [if_neg q]
    simp
    omega
theorem atI_at {α : Type} {xs : List α} {k : Nat} : atI xs ((k : Nat) : Int) = xs[k]? := by
  unfold atI ixN
  rw [if_pos (by omega)]
  by_cases q : ((k : Nat) : Int) < xs.length
  · rw [if_pos q]; simp
  · rw [if_neg q]
    simp
    omega
theorem atI_pos {α : Type} {xs : List α} {k : Int} (q : 0 ≤ k) : atI xs k = xs[k.toNat]? := by
  obtain ⟨j, rfl⟩ : ∃ j : Nat, k = j := ⟨k.toNat, by omega⟩
  rw [atI_at]; rfl
@[simp] theorem atI_last {α : Type} {xs : List α} : atI xs (-1) = xs[xs.length - 1]? := by
  unfold atI ixN
  rw [if_neg (by omega)]
  by_cases q : -(xs.length : Int) ≤ -1
  · rw [if_pos q]
    show xs[(-1 + (xs.length : Int)).toNat]? = _
    congr 1
    omega
  · rw [if_neg q]
    have : xs = [] := by cases xs with
      | nil => rfl
      | cons a r => simp at q; omega
    subst this; rfl
theorem set_cel {k : Nat} (e : h[i]? = some (.lst xs)) (q : k < xs.length) : setD (.cel i) (.int (k : Nat)) v h = .ok () (h.set i (.lst (xs.set k v))) := by
  show (match h[i]? with | some (.lst xs) => (match ixN xs.length ((k : Nat) : Int) with | some j => R.ok () (h.set i (.lst (xs.set j v))) | none => .bad) | _ => .bad) = _
  rw [e]
  have z : ixN xs.length ((k : Nat) : Int) = some k := by
    unfold ixN
    rw [if_pos (by omega), if_pos (by omega)]; simp
  simp only [z]
theorem set_lit {k : Nat} (e : h[i]? = some (.lst xs)) (q : k < xs.length) : setD (.cel i) (.int (no_index (OfNat.ofNat k : Int))) v h = .ok () (h.set i (.lst (xs.set k v))) := set_cel (k := k) e q
@[simp] theorem ne_nil0 : cmpD .NotEq h (.lst []) (.lst []) = some false := by cases h <;> rfl
@[simp] theorem eq_nil0 : cmpD .Eq h (.lst []) (.lst []) = some true := by cases h <;> rfl
@[simp] theorem len_kl : biD .len c [.kl xs] h = .ok (.int xs.length) h := rfl
@[simp] theorem len_lst : biD .len c [.lst xs] h = .ok (.int xs.length) h := rfl
@[simp] theorem len_tup : biD .len c [.tup xs] h = .ok (.int xs.length) h := rfl
theorem len_cel (e : h[i]? = some (.lst xs)) : biD .len c [.cel i] h = .ok (.int xs.length) h := by
  show optI ((asO h[i]?).map fun xs => (xs.length : Int)) h = _
  rw [e]; rfl
@[simp] theorem min_ii : biD .min c [.int n, .int m] h = .ok (.int (if m < n then m else n)) h := rfl
@[simp] theorem max_ii : biD .max c [.int n, .int m] h = .ok (.int (if n < m then m else n)) h := rfl
@[simp] theorem max_t2 : biD .max c [.tup [.int n, .int m]] h = .ok (.int (if n < m then m else n)) h := rfl
@[simp] theorem abs_i : biD .abs c [.int n] h = .ok (.int (if n < 0 then -n else n)) h := rfl
@[simp] theorem list_lst : biD .list c [.lst xs] h = mkL c xs h := rfl
@[simp] theorem list_tup : biD .list c [.tup xs] h = mkL c xs h := rfl
@[simp] theorem int_bl {b : Bool} : biD .int c [.bl b] h = .ok (.int (if b then 1 else 0)) h := rfl
@[simp] theorem asg_nm : asgT (.nm i) d ls = if i < ls.length then some (ls.set i (some d)) else none := rfl
@[simp] theorem asg_tp {is : List Nat} {ds : List D} : asgT (.tp is) (.tup ds) ls = setNs is ds ls := rfl
@[simp] theorem asg_tpL {is : List Nat} {ds : List D} : asgT (.tp is) (.lst ds) ls = setNs is ds ls := rfl
@[simp] theorem setNs_nil : setNs [] [] ls = some ls := rfl
@[simp] theorem setNs_cons {is : List Nat} {ds : List D} : setNs (i :: is) (d :: ds) ls = if i < ls.length then setNs is ds (ls.set i (some d)) else none := by
  show (setN i d ls).bind _ = _
  unfold setN
  split <;> rfl
@[simp] theorem setN_eq : setN i d ls = if i < ls.length then some (ls.set i (some d)) else none := rfl
@[simp] theorem rng1 (q : smallR n = true) : rngOf [.int n] = some (.rng 0 n.toNat 1) := by
  show (if smallR n = true then _ else _) = _
  rw [if_pos q]
@[simp] theorem rng2 (q : smallR n = true) (q2 : smallR m = true) : rngOf [.int n, .int m] = some (.rng n (m - n).toNat 1) := by
  show (if smallR n = true ∧ smallR m = true then _ else _) = _
  rw [if_pos ⟨q, q2⟩]
theorem smallR_i (a : -1000000000000 ≤ n) (b : n ≤ 1000000000000) : smallR n = true := by
  exact Nat.ble_eq_true_of_le (by omega)
@[simp] theorem smallR_lit {k : Nat} (q : Nat.ble k 1000000000000 = true) : smallR (no_index (OfNat.ofNat k : Int)) = true := by
  have q := Nat.le_of_ble_eq_true q
  have e : (OfNat.ofNat k : Int) = ((k : Nat) : Int) := rfl
  rw [e]
  exact smallR_i (by omega) (by omega)
@[simp] theorem seqOf_tup : seqOf h (.tup xs) = some xs := rfl
@[simp] theorem seqOf_lst : seqOf h (.lst xs) = some xs := rfl
@[simp] theorem seqOf_kl : seqOf h (.kl xs) = some xs := rfl
@[simp] theorem lim3 {k : Nat} (q : Nat.ble k 1000000 = true) : (no_index (OfNat.ofNat k : Nat)) ≤ LIM := Nat.le_of_ble_eq_true q
end
end Tb
namespace Tb
open PySem PySem.Spec PyProof.Rows L2
mutual
theorem D.under_le {n m : Nat} (le : n ≤ m) : ∀ d : D, d.under n = true → d.under m = true
  | .non, _ => rfl
  | .bl _, _ => rfl
  | .int _, _ => rfl
  | .str _, _ => rfl
  | .tup xs, h => by simp only [D.under] at h ⊢; exact unders_le le xs h
  | .lst xs, h => by simp only [D.under] at h ⊢; exact unders_le le xs h
  | .kl xs, h => by simp only [D.under] at h ⊢; exact unders_le le xs h
  | .dic kvs, h => by simp only [D.under] at h ⊢; exact underK_le le kvs h
  | .cel i, h => by simp only [D.under, decide_eq_true_eq] at h ⊢; omega
  | .cls _, _ => rfl
  | .ty _, _ => rfl
  | .exc _, _ => rfl
theorem unders_le {n m : Nat} (le : n ≤ m) : ∀ ds : List D, unders n ds = true → unders m ds = true
  | [], _ => rfl
  | d :: ds, h => by
    simp only [unders, Bool.and_eq_true] at h ⊢
    exact ⟨D.under_le le d h.1, unders_le le ds h.2⟩
theorem underK_le {n m : Nat} (le : n ≤ m) : ∀ ds : List (Key × D), underK n ds = true → underK m ds = true
  | [], _ => rfl
  | (_, d) :: ds, h => by
    simp only [underK, Bool.and_eq_true] at h ⊢
    exact ⟨D.under_le le d h.1, underK_le le ds h.2⟩
end
theorem O.under_le {n m : Nat} (le : n ≤ m) : ∀ o : O, o.under n = true → o.under m = true
  | .lst xs, h => by simp only [O.under] at h ⊢; exact unders_le le xs h
  | .ins c fs, h => by
    simp only [O.under, List.all_eq_true] at h ⊢
    exact fun p hp => D.under_le le p.2 (h p hp)
  | .dct kvs, h => by simp only [O.under] at h ⊢; exact underK_le le kvs h
theorem pures_ints (ns : List Int) : pures (ns.map .int) = true := by
  induction ns with
  | nil => rfl
  | cons n r ih => simp only [List.map_cons, pures, D.pure, Bool.true_and]; exact ih
theorem unders_ints {n : Nat} (ns : List Int) : unders n (ns.map .int) = true := pures_under n _ (pures_ints ns)
theorem frzL_pure {n k : Nat} {h : Hh} : ∀ {ds : List D}, pures ds = true → (∀ d ∈ ds, frz n h (k + 1) d = some d) → frzL (frz n h (k + 1)) ds = some ds
  | [], _, _ => rfl
  | d :: ds, hp, hf => by
    simp only [pures, Bool.and_eq_true] at hp
    simp only [frzL, hf d (List.mem_cons_self), Option.bind_some, frzL_pure hp.2 (fun e he => hf e (List.mem_cons_of_mem _ he)), Option.map_some]
/-- a new list of numbers comes out of a call, frozen -/
theorem callF_ints {F : Fn} {ds : List D} {h h' : Hh} {ns : List Int} (e : F ds h = .ok (.cel h.length) h') (hl : h.length < h'.length) (ei : h'[h.length]? = some (.lst (ns.map .int))) (ua : ∀ j o, j < h.length → h'[j]? = some o → o.under h.length = true) :
    callM .F F ds h = .ok (.lst (ns.map .int)) (h'.take h.length) := by
  show callF F ds h = _
  unfold callF
  rw [e]
  have z : fz h.length h' (.cel h.length) = some (.lst (ns.map .int)) := by
    show frz h.length h' 8 (.cel h.length) = _
    show (if h.length < h.length then some (D.cel h.length) else (asO h'[h.length]?).bind fun xs => (frzL (frz h.length h' 7) xs).map .lst) = _
    rw [if_neg (Nat.lt_irrefl _), ei]
    show (frzL (frz h.length h' 7) (ns.map .int)).map D.lst = _
    rw [frzL_pure (pures_ints ns) (fun d hd => by obtain ⟨i, _, rfl⟩ := List.mem_map.mp hd; rfl)]
    rfl
  have al : (h'.take h.length).all (O.under h.length) = true := by
    rw [List.all_eq_true]
    intro o ho
    obtain ⟨j, hj, ej⟩ := List.getElem_of_mem ho
    rw [List.length_take] at hj
    have q : (h'.take h.length)[j]? = some o := by rw [List.getElem?_eq_getElem (by rw [List.length_take]; exact hj), ej]
    rw [List.getElem?_take_of_lt (by omega)] at q
    exact ua j o (by omega) q
  simp only [z]
  rw [if_pos ⟨al, Nat.le_of_lt hl⟩]
section
variable {h : Hh} {i : Nat} {xs : List D} {d : D} {c : Bool} {ns ms : List Int}
theorem okR_cel {m : Me} (e : h[i]? = some (.lst xs)) (hm : m.isStr = false) : m.okR h (.cel i) = true := by
  unfold Me.okR
  rw [hm]
  show (asO h[i]?).isSome = true
  rw [e]; rfl
theorem me_append (e : h[i]? = some (.lst xs)) (hl : xs.length < LIM) : meD .append c (.cel i) [d] h = .ok .non (h.set i (.lst (xs ++ [d]))) := by
  show (match asO h[i]? with | some xs => meC .append i xs [d] h | none => .bad) = _
  rw [e]
  show (if xs.length < LIM then R.ok D.non (h.set i (.lst (xs ++ [d]))) else .bad) = _
  rw [if_pos hl]
theorem pys_ints : ∀ ns : List Int, pys (ns.map .int) = some (ns.map .int)
  | [] => rfl
  | n :: r => by simp [pys, py, pys_ints r]
theorem eqv_ints : ∀ a b : List Int, PyData.eqvAll (a.map .int) (b.map .int) = decide (a = b)
  | [], [] => rfl
  | [], _ :: _ => rfl
  | _ :: _, [] => rfl
  | x :: a, y :: b => by
    simp only [List.map_cons, PyData.eqvAll, PyData.eqv, eqv_ints a b, List.cons.injEq, Bool.decide_and]
    congr 1
end
/-! plain data: whole numbers, None, lists and tuples of them -/
def D.gv : Nat → D → Bool
  | _, .int _ => true
  | _, .non => true
  | n + 1, .lst xs => xs.all (D.gv n)
  | n + 1, .tup xs => xs.all (D.gv n)
  | _, _ => false
theorem gvs_py {n : Nat} (ih : ∀ d : D, d.gv n = true → ∃ p, py d = some p ∧ p.canLay0 = true ∧ p.depth ≤ n) : ∀ xs : List D, xs.all (D.gv n) = true → ∃ ps, pys xs = some ps ∧ PyData.canLayAll0 ps = true ∧ PyData.depthAll ps ≤ n
  | [], _ => ⟨[], rfl, rfl, Nat.zero_le _⟩
  | x :: xs, h => by
    simp only [List.all_cons, Bool.and_eq_true] at h
    obtain ⟨p, e1, e2, e3⟩ := ih x h.1
    obtain ⟨ps, f1, f2, f3⟩ := gvs_py ih xs h.2
    exact ⟨p :: ps, by simp [pys, e1, f1], by simp [PyData.canLayAll0, e2, f2], by simp only [PyData.depthAll]; omega⟩
theorem gv_py : ∀ (n : Nat) (d : D), d.gv n = true → ∃ p, py d = some p ∧ p.canLay0 = true ∧ p.depth ≤ n
  | n, .int i, _ => ⟨.int i, rfl, rfl, by simp [PyData.depth]⟩
  | n, .non, _ => ⟨.none, rfl, rfl, by simp [PyData.depth]⟩
  | n + 1, .lst xs, h => by
    obtain ⟨ps, e1, e2, e3⟩ := gvs_py (gv_py n) xs (by simpa [D.gv] using h)
    exact ⟨.list ps, by simp [py, e1], by simp [PyData.canLay0, e2], by simp only [PyData.depth]; omega⟩
  | n + 1, .tup xs, h => by
    obtain ⟨ps, e1, e2, e3⟩ := gvs_py (gv_py n) xs (by simpa [D.gv] using h)
    exact ⟨.tuple ps, by simp [py, e1], by simp [PyData.canLay0, e2], by simp only [PyData.depth]; omega⟩
  | 0, .lst xs, h => by simp [D.gv] at h
  | 0, .tup xs, h => by simp [D.gv] at h
  | n, .bl _, h => by cases n <;> simp [D.gv] at h
  | n, .str _, h => by cases n <;> simp [D.gv] at h
  | n, .kl _, h => by cases n <;> simp [D.gv] at h
  | n, .dic _, h => by cases n <;> simp [D.gv] at h
  | n, .cel _, h => by cases n <;> simp [D.gv] at h
  | n, .cls _, h => by cases n <;> simp [D.gv] at h
  | n, .ty _, h => by cases n <;> simp [D.gv] at h
  | n, .exc _, h => by cases n <;> simp [D.gv] at h
theorem gvs_inj {n m : Nat} (ih : ∀ (d e : D) p q, d.gv n = true → e.gv m = true → py d = some p → py e = some q → (PyData.eqv p q = true ↔ d = e)) : ∀ (xs ys : List D) ps qs, xs.all (D.gv n) = true → ys.all (D.gv m) = true → pys xs = some ps → pys ys = some qs → (PyData.eqvAll ps qs = true ↔ xs = ys)
  | [], [], ps, qs, _, _, e1, e2 => by cases e1; cases e2; simp [PyData.eqvAll]
  | [], y :: ys, ps, qs, _, h2, e1, e2 => by
    cases e1
    simp only [pys] at e2
    cases q : py y with
    | none => rw [q] at e2; cases e2
    | some p =>
      cases q2 : pys ys with
      | none => rw [q, q2] at e2; cases e2
      | some r => rw [q, q2] at e2; cases e2; simp [PyData.eqvAll]
  | x :: xs, [], ps, qs, h1, _, e1, e2 => by
    cases e2
    simp only [pys] at e1
    cases q : py x with
    | none => rw [q] at e1; cases e1
    | some p =>
      cases q2 : pys xs with
      | none => rw [q, q2] at e1; cases e1
      | some r => rw [q, q2] at e1; cases e1; simp [PyData.eqvAll]
  | x :: xs, y :: ys, ps, qs, h1, h2, e1, e2 => by
    simp only [List.all_cons, Bool.and_eq_true] at h1 h2
    simp only [pys] at e1 e2
    cases q : py x with
    | none => rw [q] at e1; cases e1
    | some p =>
      cases q2 : pys xs with
      | none => rw [q, q2] at e1; cases e1
      | some r =>
        rw [q, q2] at e1
        cases e1
        cases q3 : py y with
        | none => rw [q3] at e2; cases e2
        | some p' =>
          cases q4 : pys ys with
          | none => rw [q3, q4] at e2; cases e2
          | some r' =>
            rw [q3, q4] at e2
            cases e2
            simp only [PyData.eqvAll, Bool.and_eq_true, List.cons.injEq, ih x y p p' h1.1 h2.1 q q3, gvs_inj ih xs ys r r' h1.2 h2.2 q2 q4]
theorem gv_inj : ∀ (n m : Nat) (d e : D) p q, d.gv n = true → e.gv m = true → py d = some p → py e = some q → (PyData.eqv p q = true ↔ d = e) := by
  intro n
  induction n with
  | zero =>
    intro m d e p q h1 h2 e1 e2
    cases d <;> first | (simp [D.gv] at h1; done) | skip
    · cases e1
      cases e <;> first | (cases m <;> simp [D.gv] at h2; done) | skip
      · cases e2; simp [PyData.eqv]
      · cases e2; simp [PyData.eqv]
      · rename_i xs; simp only [py] at e2; cases z : pys xs with
        | none => rw [z] at e2; cases e2
        | some r => rw [z] at e2; cases e2; simp [PyData.eqv]
      · rename_i xs; simp only [py] at e2; cases z : pys xs with
        | none => rw [z] at e2; cases e2
        | some r => rw [z] at e2; cases e2; simp [PyData.eqv]
    · cases e1
      cases e <;> first | (cases m <;> simp [D.gv] at h2; done) | skip
      · cases e2; simp [PyData.eqv]
      · cases e2; simp [PyData.eqv]
      · rename_i xs; simp only [py] at e2; cases z : pys xs with
        | none => rw [z] at e2; cases e2
        | some r => rw [z] at e2; cases e2; simp [PyData.eqv]
      · rename_i xs; simp only [py] at e2; cases z : pys xs with
        | none => rw [z] at e2; cases e2
        | some r => rw [z] at e2; cases e2; simp [PyData.eqv]
  | succ n ih =>
    intro m d e p q h1 h2 e1 e2
    cases d <;> first | (simp [D.gv] at h1; done) | skip
    · cases e1
      cases e <;> first | (cases m <;> simp [D.gv] at h2; done) | skip
      · cases e2; simp [PyData.eqv]
      · cases e2; simp [PyData.eqv]
      · rename_i xs; simp only [py] at e2; cases z : pys xs with
        | none => rw [z] at e2; cases e2
        | some r => rw [z] at e2; cases e2; simp [PyData.eqv]
      · rename_i xs; simp only [py] at e2; cases z : pys xs with
        | none => rw [z] at e2; cases e2
        | some r => rw [z] at e2; cases e2; simp [PyData.eqv]
    · cases e1
      cases e <;> first | (cases m <;> simp [D.gv] at h2; done) | skip
      · cases e2; simp [PyData.eqv]
      · cases e2; simp [PyData.eqv]
      · rename_i xs; simp only [py] at e2; cases z : pys xs with
        | none => rw [z] at e2; cases e2
        | some r => rw [z] at e2; cases e2; simp [PyData.eqv]
      · rename_i xs; simp only [py] at e2; cases z : pys xs with
        | none => rw [z] at e2; cases e2
        | some r => rw [z] at e2; cases e2; simp [PyData.eqv]
    · rename_i xs
      simp only [py] at e1
      cases z1 : pys xs with
      | none => rw [z1] at e1; cases e1
      | some ps =>
        rw [z1] at e1
        cases e1
        cases e <;> first | (cases m <;> simp [D.gv] at h2; done) | skip
        · cases e2; simp [PyData.eqv]
        · cases e2; simp [PyData.eqv]
        · rename_i ys; simp only [py] at e2; cases z : pys ys with
          | none => rw [z] at e2; cases e2
          | some r =>
            rw [z] at e2
            cases e2
            cases m with
            | zero => simp [D.gv] at h2
            | succ m => simp only [PyData.eqv, D.lst.injEq, D.tup.injEq]; exact gvs_inj (ih m) xs ys ps r (by simpa [D.gv] using h1) (by simpa [D.gv] using h2) z1 z
        · rename_i ys; simp only [py] at e2; cases z : pys ys with
          | none => rw [z] at e2; cases e2
          | some r => rw [z] at e2; cases e2; simp [PyData.eqv]
    · rename_i xs
      simp only [py] at e1
      cases z1 : pys xs with
      | none => rw [z1] at e1; cases e1
      | some ps =>
        rw [z1] at e1
        cases e1
        cases e <;> first | (cases m <;> simp [D.gv] at h2; done) | skip
        · cases e2; simp [PyData.eqv]
        · cases e2; simp [PyData.eqv]
        · rename_i ys; simp only [py] at e2; cases z : pys ys with
          | none => rw [z] at e2; cases e2
          | some r => rw [z] at e2; cases e2; simp [PyData.eqv]
        · rename_i ys; simp only [py] at e2; cases z : pys ys with
          | none => rw [z] at e2; cases e2
          | some r =>
            rw [z] at e2
            cases e2
            cases m with
            | zero => simp [D.gv] at h2
            | succ m => simp only [PyData.eqv, D.lst.injEq, D.tup.injEq]; exact gvs_inj (ih m) xs ys ps r (by simpa [D.gv] using h1) (by simpa [D.gv] using h2) z1 z
/-- == of plain data -/
theorem eq_gv {h : Hh} {n m : Nat} {a b : D} (h1 : a.gv n = true) (h2 : b.gv m = true) (hn : n ≤ 60) (hm : m ≤ 60) : ∃ r : Bool, cmpD .Eq h a b = some r ∧ cmpD .NotEq h a b = some (!r) ∧ (r = true ↔ a = b) := by
  obtain ⟨p, e1, l1, d1⟩ := gv_py n a h1
  obtain ⟨q, e2, l2, d2⟩ := gv_py m b h2
  have sh : ∀ x : PyData, x.canLay0 = true → x.depth ≤ 60 → SeqAt.shaped x = true := fun x c d => by
    unfold SeqAt.shaped
    rw [c, decide_eq_true (by omega : x.depth ≤ 64)]; rfl
  have tp : ∀ {d : D} {n : Nat}, d.gv n = true → toPy h d = py d := fun {d n} z => by
    cases d <;> first | rfl | (cases n <;> simp [D.gv] at z)
  have main : eqP (toPy h a) (toPy h b) = some (PyData.eqv p q) := by
    rw [tp h1, tp h2, e1, e2]
    show (if SeqAt.shaped p = true ∧ SeqAt.shaped q = true then some (PyData.eqv p q) else none) = _
    rw [if_pos ⟨sh p l1 (by omega), sh q l2 (by omega)⟩]
  have inj := gv_inj n m a b p q h1 h2 e1 e2
  refine ⟨PyData.eqv p q, ?_, ?_, inj⟩
  · show eqD h a b = _
    unfold eqD
    split
    · cases e1; cases e2; rfl
    · exact absurd h1 (by cases n <;> simp [D.gv])
    · rw [main]
  · show (eqD h a b).map not = _
    have : eqD h a b = some (PyData.eqv p q) := by
      unfold eqD
      split
      · cases e1; cases e2; rfl
      · exact absurd h1 (by cases n <;> simp [D.gv])
      · rw [main]
    rw [this]; rfl
theorem gv_ints {n : Nat} (ns : List Int) : D.gv (n + 1) (.lst (ns.map .int)) = true := by
  simp [D.gv, List.all_map]
section
variable {h : Hh} {ns ms : List Int}
theorem map_int_inj : ∀ {ns ms : List Int}, ns.map D.int = ms.map D.int ↔ ns = ms
  | [], [] => by simp
  | [], _ :: _ => by simp
  | _ :: _, [] => by simp
  | n :: ns, m :: ms => by simp only [List.map_cons, List.cons.injEq, D.int.injEq, map_int_inj]
theorem eq_ints : cmpD .Eq h (.lst (ns.map .int)) (.lst (ms.map .int)) = some (decide (ns = ms)) := by
  obtain ⟨r, e, _, q⟩ := eq_gv (h := h) (gv_ints (n := 0) ns) (gv_ints (n := 0) ms) (by omega) (by omega)
  rw [e]
  congr 1
  rw [Bool.eq_iff_iff, q, decide_eq_true_eq]
  rw [D.lst.injEq, map_int_inj]
theorem ne_ints : cmpD .NotEq h (.lst (ns.map .int)) (.lst (ms.map .int)) = some (!decide (ns = ms)) := by
  show (cmpD .Eq h (.lst (ns.map .int)) (.lst (ms.map .int))).map not = _
  rw [eq_ints]; rfl
theorem ne_ints0 : cmpD .NotEq h (.lst (ns.map .int)) (.lst []) = some (!decide (ns = [])) := ne_ints (ms := [])
theorem eq_ints0 : cmpD .Eq h (.lst (ns.map .int)) (.lst []) = some (decide (ns = [])) := eq_ints (ms := [])
end
end Tb
namespace Tb
open PySem PySem.Spec PyProof.Rows L2
theorem em_l (a x p : Int) : a % p * x % p = a * x % p := by rw [Int.mul_emod, Int.emod_emod, ← Int.mul_emod]
theorem em_r (a x p : Int) : x * (a % p) % p = x * a % p := by rw [Int.mul_emod, Int.emod_emod, ← Int.mul_emod]
section
variable {g : D → Ls → Option Ls} {b : Ls → Hh → RS} {t : Ls → Hh → R Bool} {f : Ls → Hh → R D} {ls : Ls} {h : Hh}
theorem loopL_cons {x : D} {xs : List D} : loopL g b (x :: xs) ls h = match g x ls with
    | none => .bad
    | some l1 => match b l1 h with
      | .nx l2 h2 => loopL g b xs l2 h2
      | .ct l2 h2 => loopL g b xs l2 h2
      | .bk l2 h2 => .nx l2 h2
      | r => r := rfl
theorem whileR_succ {t : Ls → Hh → R Bool} {n : Nat} : whileR t b (n + 1) ls h = ofR (t ls h) ls fun k h1 => if k = true then (match b ls h1 with
    | .nx l2 h2 => whileR t b n l2 h2
    | .ct l2 h2 => whileR t b n l2 h2
    | .bk l2 h2 => .nx l2 h2
    | r => r) else .nx ls h1 := by
  show (match t ls h with | .bad => _ | .exc c h1 => _ | .ok false h1 => _ | .ok true h1 => _) = _
  cases t ls h with
  | ok kk h1 => cases kk <;> rfl
  | exc c h1 => rfl
  | bad => rfl
/-- a for that reckons, the heap as it is -/
theorem loopL_fold {S : Type} (st : S → Ls) (k : S → D → S) (I : S → Prop) : ∀ (xs : List D) (s : S), I s → (∀ s x, x ∈ xs → I s → I (k s x) ∧ ∃ l1, g x (st s) = some l1 ∧ b l1 h = .nx (st (k s x)) h) → loopL g b xs (st s) h = .nx (st (xs.foldl k s)) h ∧ I (xs.foldl k s)
  | [], s, i, _ => ⟨rfl, i⟩
  | x :: xs, s, i, step => by
    obtain ⟨i2, l1, e1, e2⟩ := step s x List.mem_cons_self i
    obtain ⟨e3, i3⟩ := loopL_fold st k I xs (k s x) i2 fun s y hy => step s y (List.mem_cons_of_mem _ hy)
    refine ⟨?_, i3⟩
    rw [loopL_cons, e1]
    simp only [e2]
    exact e3
/-- a comprehension that leaves the heap as it is -/
theorem compL_map (l : D → Ls) (p : D → Bool) (v : D → D) : ∀ xs : List D, (∀ x ∈ xs, g x ls = some (l x) ∧ t (l x) h = .ok (p x) h ∧ (p x = true → f (l x) h = .ok (v x) h)) → compL g t f ls xs h = .ok ((xs.filter p).map v) h
  | [], _ => rfl
  | x :: xs, hx => by
    obtain ⟨e1, e2, e3⟩ := hx x List.mem_cons_self
    have ih := compL_map l p v xs fun y hy => hx y (List.mem_cons_of_mem _ hy)
    have un : compL g t f ls (x :: xs) h = match g x ls with
      | none => .bad
      | some l1 => (t l1 h).bind fun b h1 => if b = true then (f l1 h1).bind fun d h2 => (compL g t f ls xs h2).bind fun ds h3 => .ok (d :: ds) h3 else compL g t f ls xs h1 := rfl
    rw [un, e1]
    simp only [e2, bind_ok]
    cases hp : p x with
    | true => simp [e3 hp, ih, hp]
    | false => simp [ih, hp]
theorem compR_lst {xs : List D} (hl : xs.length ≤ LIM) : compR (.seq (.lst xs)) g t f ls h = compL g t f ls xs h := by
  show (if xs.length ≤ LIM then compL g t f ls xs h else .bad) = _
  rw [if_pos hl]
theorem compR_tup {xs : List D} (hl : xs.length ≤ LIM) : compR (.seq (.tup xs)) g t f ls h = compL g t f ls xs h := by
  show (if xs.length ≤ LIM then compL g t f ls xs h else .bad) = _
  rw [if_pos hl]
theorem compR_rng {lo st : Int} {n : Nat} (hl : n ≤ LIM) : compR (.rng lo n st) g t f ls h = compL g t f ls (rngL lo st n) h := by
  show (if (rngL lo st n).length ≤ LIM then compL g t f ls (rngL lo st n) h else .bad) = _
  rw [if_pos (by rw [rngL_len]; exact hl)]
theorem forR_rev {xs : List D} : forR (.rev (.lst xs) xs.length) g b ls h = loopL g b xs.reverse ls h := by
  show (match (if xs.length = xs.length then some xs.reverse else none) with | some xs => loopL g b xs ls h | none => .bad) = _
  rw [if_pos rfl]
theorem rngL_eq {lo : Int} : ∀ {n : Nat} {lo : Int}, rngL lo 1 n = (List.range n).map fun (i : Nat) => D.int (lo + i) := by
  intro n
  induction n with
  | zero => intro lo; rfl
  | succ n ih =>
    intro lo
    rw [List.range_succ_eq_map]
    show D.int lo :: rngL (lo + 1) 1 n = _
    rw [ih]
    simp only [List.map_cons, List.map_map]
    congr 1
    · simp
    · apply List.map_congr_left
      intro i _
      simp only [Function.comp]
      congr 1
      omega
@[simp] theorem mkIt_rev {xs : List D} {h : Hh} : ((asL h (.lst xs)).map fun ys => Tb.It.rev (.lst xs) ys.length) = some (.rev (.lst xs) xs.length) := rfl
@[simp] theorem mkIt_enu {xs : List D} {h : Hh} : ((asL h (.lst xs)).map fun _ => Tb.It.enu (.lst xs)) = some (.enu (.lst xs)) := rfl
theorem compR_rev {xs : List D} (hl : xs.length ≤ LIM) : compR (.rev (.lst xs) xs.length) g t f ls h = compL g t f ls xs.reverse h := by
  show (match (if xs.length = xs.length then some xs.reverse else none) with | some xs => (if xs.length ≤ LIM then compL g t f ls xs h else .bad) | none => .bad) = _
  rw [if_pos rfl]
  show (if xs.reverse.length ≤ LIM then compL g t f ls xs.reverse h else .bad) = _
  rw [if_pos (by simpa using hl)]
theorem me_extend {i : Nat} {xs ys : List D} {c : Bool} (e : h[i]? = some (.lst xs)) (hl : xs.length + ys.length ≤ LIM) : meD .extend c (.cel i) [.lst ys] h = .ok .non (h.set i (.lst (xs ++ ys))) := by
  show (match asO h[i]? with | some xs => meC .extend i xs [.lst ys] h | none => .bad) = _
  rw [e]
  show (if xs.length + ys.length ≤ LIM then R.ok D.non (h.set i (.lst (xs ++ ys))) else .bad) = _
  rw [if_pos hl]
theorem cmp_cel {i : Nat} {xs : List D} {b : D} (e : h[i]? = some (.lst xs)) (o : CmpOp) (ho : o = .Eq ∨ o = .NotEq) : cmpD o h (.cel i) b = cmpD o h (.lst xs) b := by
  have z : eqD h (.cel i) b = eqD h (.lst xs) b := by
    have t : toPy h (.cel i) = toPy h (.lst xs) := by
      show (asO h[i]?).bind (fun xs => (pys xs).map PyData.list) = _
      rw [e]; rfl
    have n : neLen h (.cel i) b = neLen h (.lst xs) b := by
      have : asT h (.cel i) = asT h (.lst xs) := by show asO h[i]? = _; rw [e]; rfl
      have z : pyN h 8 (.cel i) = pyN h 8 (.lst xs) := by
        show (asO h[i]?).bind (fun xs => (mapO (pyN h 7) xs).map PyData.list) = _
        rw [e]; rfl
      unfold neLen; rw [this, z]
    show (match eqP (toPy h (.cel i)) (toPy h b) with | some r => some r | none => neLen h (.cel i) b) = (match eqP (toPy h (.lst xs)) (toPy h b) with | some r => some r | none => neLen h (.lst xs) b)
    rw [t, n]
  rcases ho with rfl | rfl
  · exact z
  · show (eqD h (.cel i) b).map not = _
    rw [z]; rfl
theorem set_last {i : Nat} {xs : List D} {v : D} (e : h[i]? = some (.lst xs)) (q : xs ≠ []) : setD (.cel i) (.int (-1)) v h = .ok () (h.set i (.lst (xs.set (xs.length - 1) v))) := by
  have hl : 0 < xs.length := List.length_pos_iff.mpr q
  show (match h[i]? with | some (.lst xs) => (match ixN xs.length (-1) with | some j => R.ok () (h.set i (.lst (xs.set j v))) | none => .bad) | _ => .bad) = _
  rw [e]
  have z : ixN xs.length (-1) = some (xs.length - 1) := by
    unfold ixN
    rw [if_neg (by omega), if_pos (by omega)]
    congr 1
    omega
  simp only [z]
end
end Tb
namespace Tb
open PySem PySem.Spec PyProof.Rows L2
/-! slices, sorted, pop, truths, finite checks -/
theorem cut_up {xs : List D} {k : Int} (q : 0 ≤ k) : cutD xs none (some k) = xs.take k.toNat := by
  unfold cutD
  have e : HT.sIx xs.length xs.length (some k) = min k.toNat xs.length := by
    obtain ⟨j, rfl⟩ : ∃ j : Nat, k = j := ⟨k.toNat, by omega⟩
    rw [HT.sIx_nat]; rfl
  rw [e, HT.sIx_none, List.drop_zero, Nat.sub_zero]
  by_cases z : k.toNat ≤ xs.length
  · rw [Nat.min_eq_left z]
  · rw [Nat.min_eq_right (by omega), List.take_length, List.take_of_length_le (by omega)]
theorem cut_lo {xs : List D} {k : Int} (q : 0 ≤ k) : cutD xs (some k) none = xs.drop k.toNat := by
  unfold cutD
  have e : HT.sIx xs.length 0 (some k) = min k.toNat xs.length := by
    obtain ⟨j, rfl⟩ : ∃ j : Nat, k = j := ⟨k.toNat, by omega⟩
    rw [HT.sIx_nat]; rfl
  rw [e, HT.sIx_none]
  by_cases z : k.toNat ≤ xs.length
  · rw [Nat.min_eq_left z, List.take_of_length_le (by rw [List.length_drop]; omega)]
  · rw [Nat.min_eq_right (by omega), List.drop_of_length_le (Nat.le_refl _), List.drop_of_length_le (by omega)]
    simp
section
variable {h : Hh} {i : Nat} {xs : List D} {c : Bool} {ns ms : List Int} {k : Int} {a b : Bool} {d : D}
theorem slc_up_lst (q : 0 ≤ k) : slcD c (.lst xs) none (some k) h = mkL c (xs.take k.toNat) h := by
  show mkL c (cutD xs none (some k)) h = _
  rw [cut_up q]
theorem slc_lo_lst (q : 0 ≤ k) : slcD c (.lst xs) (some k) none h = mkL c (xs.drop k.toNat) h := by
  show mkL c (cutD xs (some k) none) h = _
  rw [cut_lo q]
theorem slc_up_cel (e : h[i]? = some (.lst xs)) (q : 0 ≤ k) : slcD c (.cel i) none (some k) h = mkL c (xs.take k.toNat) h := by
  show slcL c (asO h[i]?) none (some k) h = _
  rw [e]
  show mkL c (cutD xs none (some k)) h = _
  rw [cut_up q]
theorem slc_lo_cel (e : h[i]? = some (.lst xs)) (q : 0 ≤ k) : slcD c (.cel i) (some k) none h = mkL c (xs.drop k.toNat) h := by
  show slcL c (asO h[i]?) (some k) none h = _
  rw [e]
  show mkL c (cutD xs (some k) none) h = _
  rw [cut_lo q]
@[simp] theorem withI_int {α : Type} {f : Int → R α} : withI (.int k) f = f k := rfl
theorem asInts_map : ∀ ns : List Int, asInts (ns.map .int) = some ns
  | [] => rfl
  | n :: r => by simp [asInts, asInts_map r]
theorem sorted_lst : biD .sorted c [.lst (ns.map .int)] h = mkL c ((sortI ns).map .int) h := by
  show mkSorted c (asInts (ns.map .int)) h = _
  rw [asInts_map]; rfl
theorem sorted_cel (e : h[i]? = some (.lst (ns.map .int))) : biD .sorted c [.cel i] h = mkL c ((sortI ns).map .int) h := by
  show mkSorted c ((asO h[i]?).bind asInts) h = _
  rw [e]
  show mkSorted c (asInts (ns.map .int)) h = _
  rw [asInts_map]; rfl
theorem sortI_self (p : ns.Pairwise (· ≤ ·)) : sortI ns = ns := sorted_one (sortI_perm ns) (sortI_sorted ns) p
theorem list_cel (e : h[i]? = some (.lst xs)) : biD .list c [.cel i] h = mkL c xs h := by
  show (match asO h[i]? with | some xs => mkL c xs h | none => .bad) = _
  rw [e]; rfl
@[simp] theorem asL_lst : asL h (.lst xs) = some xs := rfl
@[simp] theorem asL_kl : asL h (.kl xs) = some xs := rfl
theorem asL_cel (e : h[i]? = some (.lst xs)) : asL h (.cel i) = some xs := by
  show asO h[i]? = _
  rw [e]; rfl
@[simp] theorem list_kl : biD .list c [.kl xs] h = mkL c xs h := rfl
theorem me_pop (e : h[i]? = some (.lst (ns.map .int))) (q0 : 0 ≤ k) (q : k.toNat < ns.length) : meD .pop c (.cel i) [.int k] h = .ok (.int ns[k.toNat]) (h.set i (.lst ((ns.eraseIdx k.toNat).map .int))) := by
  show (match asO h[i]? with | some xs => meC .pop i xs [.int k] h | none => .bad) = _
  rw [e]
  show (match ixN (ns.map D.int).length k with | some j => setC ((ns.map D.int)[j]?) i ((ns.map D.int).eraseIdx j) h | none => .bad) = _
  have z : ixN (ns.map D.int).length k = some k.toNat := by
    unfold ixN
    rw [if_pos q0, List.length_map, if_pos (by omega)]
  rw [z]
  show setC ((ns.map D.int)[k.toNat]?) i ((ns.map D.int).eraseIdx k.toNat) h = _
  rw [List.getElem?_map, List.getElem?_eq_getElem q, erase_mapD]
  rfl
theorem me_popL (e : h[i]? = some (.lst xs)) (q : xs ≠ []) : meD .pop c (.cel i) [] h = .ok (xs.getLast q) (h.set i (.lst xs.dropLast)) := by
  show (match asO h[i]? with | some xs => meC .pop i xs [] h | none => .bad) = _
  rw [e]
  show setC (xs[xs.length - 1]?) i xs.dropLast h = _
  rw [← List.getLast?_eq_getElem?, List.getLast?_eq_some_getLast q]
  rfl
@[simp] theorem aug_add {n m : Int} : augD .Add (.int n) (.int m) h = .ok (.int (n + m)) h := rfl
@[simp] theorem aug_sub {n m : Int} : augD .Sub (.int n) (.int m) h = .ok (.int (n - m)) h := rfl
theorem aug_mul {n m : Int} (h1 : small n = true) (h2 : small m = true) : augD .Mult (.int n) (.int m) h = .ok (.int (n * m)) h := by
  show (if small n = true ∧ small m = true then (R.ok (D.int (n * m)) h : R D) else .bad) = _
  rw [if_pos ⟨h1, h2⟩]
@[simp] theorem eq_bl : cmpD .Eq h (.bl a) (.bl b) = some (decide (a = b)) := by cases h <;> cases a <;> cases b <;> rfl
@[simp] theorem ne_bl : cmpD .NotEq h (.bl a) (.bl b) = some (!decide (a = b)) := by cases h <;> cases a <;> cases b <;> rfl
@[simp] theorem is_bl : cmpD .Is h (.bl a) (.bl b) = some (decide (a = b)) := rfl
@[simp] theorem isN_bl : cmpD .IsNot h (.bl a) (.bl b) = some (!decide (a = b)) := rfl
@[simp] theorem is_tup : cmpD .Is h (.tup xs) .non = some false := rfl
@[simp] theorem isN_tup : cmpD .IsNot h (.tup xs) .non = some true := rfl
@[simp] theorem is_lst : cmpD .Is h (.lst xs) .non = some false := rfl
@[simp] theorem isN_lst : cmpD .IsNot h (.lst xs) .non = some true := rfl
@[simp] theorem is_cel : cmpD .Is h (.cel i) .non = some false := rfl
@[simp] theorem isN_cel : cmpD .IsNot h (.cel i) .non = some true := rfl
theorem seqOf_cel (e : h[i]? = some (.lst xs)) : seqOf h (.cel i) = some xs := by
  show asO h[i]? = _
  rw [e]; rfl
theorem ne_cel_ints (e : h[i]? = some (.lst (ns.map .int))) : cmpD .NotEq h (.cel i) (.lst (ms.map .int)) = some (!decide (ns = ms)) := by
  rw [cmp_cel e .NotEq (.inr rfl), ne_ints]
theorem eq_cel_ints (e : h[i]? = some (.lst (ns.map .int))) : cmpD .Eq h (.cel i) (.lst (ms.map .int)) = some (decide (ns = ms)) := by
  rw [cmp_cel e .Eq (.inl rfl), eq_ints]
theorem ne_cel_nil (e : h[i]? = some (.lst (ns.map .int))) : cmpD .NotEq h (.cel i) (.lst []) = some (!decide (ns = [])) := ne_cel_ints (ms := []) e
end
theorem fn0 {C : Cs} {n : Nat} {p : Ss} {h : Hh} : fnS C n 0 p [] h = endR (evSs C p (List.replicate n none) h) := fnS_run (np := 0) (ds := []) rfl
/-! what the kernel reckons -/
def chkL (r : R D) (ns : List Int) : Bool := match r with
  | .ok (.lst xs) _ => intsL xs == some ns
  | _ => false
theorem chkL_ok {r : R D} {ns : List Int} (e : chkL r ns = true) : ∃ h', r = .ok (.lst (ns.map .int)) h' := by
  unfold chkL at e
  split at e
  · rename_i xs h'
    exact ⟨h', by rw [intsL_eq (eq_of_beq e)]⟩
  · cases e
def chkB (r : R D) (b : Bool) : Bool := match r with
  | .ok (.bl c) _ => c == b
  | _ => false
theorem chkB_ok {r : R D} {b : Bool} (e : chkB r b = true) : ∃ h', r = .ok (.bl b) h' := by
  unfold chkB at e
  split at e
  · rename_i c h'
    exact ⟨h', by rw [eq_of_beq e]⟩
  · cases e
section
variable {g : D → Ls → Option Ls} {b : Ls → Hh → RS} {t : Ls → Hh → R Bool} {f : Ls → Hh → R D} {ls : Ls} {h : Hh}
/-- over what stands in a cell that the body leaves as it is -/
theorem loopI_loopL {it : Tb.It} {xs : List D} (P : Ls → Hh → Prop) (hp : ∀ l h, P l h → it.items h = some xs) (st : ∀ x l h, x ∈ xs → P l h → ∃ l1, g x l = some l1 ∧ ∀ l2 h2, (b l1 h = .nx l2 h2 ∨ b l1 h = .ct l2 h2) → P l2 h2) :
    ∀ (n i : Nat) (ys : List D), xs.drop i = ys → ys.length < n → ∀ ls h, P ls h → loopI it g b n i ls h = loopL g b ys ls h
  | 0, _, _, _, hl, _, _, _ => absurd hl (Nat.not_lt_zero _)
  | n + 1, i, ys, e, hl, ls, h, p => by
    have un : loopI it g b (n + 1) i ls h = match it.items h with
      | none => .bad
      | some xs => match xs[i]? with
        | none => .nx ls h
        | some x => match g x ls with
          | none => .bad
          | some l1 => match b l1 h with
            | .nx l2 h2 => loopI it g b n (i + 1) l2 h2
            | .ct l2 h2 => loopI it g b n (i + 1) l2 h2
            | .bk l2 h2 => .nx l2 h2
            | r => r := rfl
    rw [un, hp ls h p]
    cases ys with
    | nil =>
      have : xs.length ≤ i := by
        have := congrArg List.length e
        rw [List.length_drop] at this
        simp at this
        omega
      simp only [List.getElem?_eq_none this]
      rfl
    | cons x r =>
      have ex : xs[i]? = some x := by
        have := congrArg (fun l : List D => l[0]?) e
        simpa using this
      have er : xs.drop (i + 1) = r := by
        have := congrArg List.tail e
        simpa using this
      obtain ⟨l1, g1, s⟩ := st x ls h (List.mem_of_getElem? ex) p
      simp only [ex]
      rw [loopL_cons, g1]
      cases q : b l1 h with
      | nx l2 h2 => simp only [q]; exact loopI_loopL P hp st n (i + 1) r er (by simpa using hl) l2 h2 (s _ _ (.inl q))
      | ct l2 h2 => simp only [q]; exact loopI_loopL P hp st n (i + 1) r er (by simpa using hl) l2 h2 (s _ _ (.inr q))
      | bk l2 h2 => simp only [q]
      | rt d h2 => simp only [q]
      | exc c l2 h2 => simp only [q]
      | bad => simp only [q]
/-- a comprehension over a cell that leaves the heap as it is -/
theorem compI_map {it : Tb.It} {xs : List D} (hi : it.items h = some xs) (l : D → Ls) (p : D → Bool) (v : D → D) (hx : ∀ x ∈ xs, g x ls = some (l x) ∧ t (l x) h = .ok (p x) h ∧ (p x = true → f (l x) h = .ok (v x) h)) :
    ∀ (n i : Nat) (ys : List D), xs.drop i = ys → ys.length < n → compI it g t f ls n i h = .ok ((ys.filter p).map v) h
  | 0, _, _, _, hl => absurd hl (Nat.not_lt_zero _)
  | n + 1, i, ys, e, hl => by
    have un : compI it g t f ls (n + 1) i h = match it.items h with
      | none => .bad
      | some xs => match xs[i]? with
        | none => .ok [] h
        | some x => match g x ls with
          | none => .bad
          | some l1 => (t l1 h).bind fun b h1 => if b = true then (f l1 h1).bind fun d h2 => (compI it g t f ls n (i + 1) h2).bind fun ds h3 => .ok (d :: ds) h3 else compI it g t f ls n (i + 1) h1 := rfl
    rw [un, hi]
    cases ys with
    | nil =>
      have : xs.length ≤ i := by
        have := congrArg List.length e
        rw [List.length_drop] at this
        simp at this
        omega
      simp only [List.getElem?_eq_none this]
      rfl
    | cons x r =>
      have ex : xs[i]? = some x := by
        have := congrArg (fun l : List D => l[0]?) e
        simpa using this
      have er : xs.drop (i + 1) = r := by
        have := congrArg List.tail e
        simpa using this
      obtain ⟨e1, e2, e3⟩ := hx x (List.mem_of_getElem? ex)
      have ih := compI_map hi l p v hx n (i + 1) r er (by simpa using hl)
      simp only [ex, e1, e2, bind_ok]
      cases hp : p x with
      | true => simp [e3 hp, ih, hp]
      | false => simp [ih, hp]
theorem compR_cel {i : Nat} {xs : List D} (e : h[i]? = some (.lst xs)) (hl : xs.length < FUEL) (l : D → Ls) (p : D → Bool) (v : D → D) (hx : ∀ x ∈ xs, g x ls = some (l x) ∧ t (l x) h = .ok (p x) h ∧ (p x = true → f (l x) h = .ok (v x) h)) :
    compR (.seq (.cel i)) g t f ls h = .ok ((xs.filter p).map v) h :=
  compI_map (it := .seq (.cel i)) (seqOf_cel e) l p v hx FUEL 0 xs rfl hl
theorem forR_enu {xs : List D} : forR (.enu (.lst xs)) g b ls h = loopL g b (enumL 0 xs) ls h := rfl
end
end Tb
namespace Tb
open PySem PySem.Spec PyProof.Rows L2
/-! ### what is wanted of the own texts, step by step -/
def W {α : Type} (r : R α) (Q : α → Hh → Prop) : Prop := match r with
  | .ok a h => Q a h
  | _ => False
def WS (r : RS) (N : Ls → Hh → Prop) (T : D → Hh → Prop) (B K : Ls → Hh → Prop) : Prop := match r with
  | .nx l h => N l h
  | .rt d h => T d h
  | .bk l h => B l h
  | .ct l h => K l h
  | _ => False
def no2 : Ls → Hh → Prop := fun _ _ => False
section
variable {α β : Type} {r : R α} {h : Hh} {ls : Ls} {N N' B B' K K' : Ls → Hh → Prop} {T T' : D → Hh → Prop} {Q Q' : α → Hh → Prop} {C : Cs}
@[simp] theorem W_ok {a : α} : W (.ok a h) Q = Q a h := rfl
@[simp] theorem W_bad : W (.bad : R α) Q = False := rfl
@[simp] theorem W_exc {c : Str} : W (.exc c h : R α) Q = False := rfl
@[simp] theorem W_bind {f : α → Hh → R β} {Q : β → Hh → Prop} : W (r.bind f) Q = W r fun a h => W (f a h) Q := by cases r <;> rfl
@[simp] theorem W_noX : W (noX r) Q = W r Q := by cases r <;> rfl
@[simp] theorem W_ite {c : Prop} [Decidable c] {a b : R α} : W (if c then a else b) Q = ((c → W a Q) ∧ (¬ c → W b Q)) := by
  by_cases q : c
  · rw [if_pos q]; exact propext ⟨fun z => ⟨fun _ => z, fun n => absurd q n⟩, fun z => z.1 q⟩
  · rw [if_neg q]; exact propext ⟨fun z => ⟨fun y => absurd y q, fun _ => z⟩, fun z => z.2 q⟩
theorem W.imp (w : W r Q) (i : ∀ a h, Q a h → Q' a h) : W r Q' := by
  cases r with
  | ok a h => exact i a h w
  | exc c h => exact w
  | bad => exact w
theorem W.ex (w : W r Q) : ∃ a h, r = .ok a h ∧ Q a h := by
  cases r with
  | ok a h => exact ⟨a, h, rfl, w⟩
  | exc c h => exact w.elim
  | bad => exact w.elim
theorem W.of {a : α} (e : r = .ok a h) (q : Q a h) : W r Q := by rw [e]; exact q
@[simp] theorem WS_nx : WS (.nx ls h) N T B K = N ls h := rfl
@[simp] theorem WS_rt {d : D} : WS (.rt d h) N T B K = T d h := rfl
@[simp] theorem WS_bk : WS (.bk ls h) N T B K = B ls h := rfl
@[simp] theorem WS_ct : WS (.ct ls h) N T B K = K ls h := rfl
@[simp] theorem WS_bad : WS .bad N T B K = False := rfl
@[simp] theorem WS_exc {c : Str} : WS (.exc c ls h) N T B K = False := rfl
@[simp] theorem WS_ofR {k : α → Hh → RS} : WS (ofR r ls k) N T B K = W r fun d h => WS (k d h) N T B K := by cases r <;> rfl
@[simp] theorem WS_seq {r : RS} {k : Ls → Hh → RS} : WS (seqR r k) N T B K = WS r (fun l h => WS (k l h) N T B K) T B K := by cases r <;> rfl
@[simp] theorem WS_ite {c : Prop} [Decidable c] {a b : RS} : WS (if c then a else b) N T B K = ((c → WS a N T B K) ∧ (¬ c → WS b N T B K)) := by
  by_cases q : c
  · rw [if_pos q]; exact propext ⟨fun z => ⟨fun _ => z, fun n => absurd q n⟩, fun z => z.1 q⟩
  · rw [if_neg q]; exact propext ⟨fun z => ⟨fun y => absurd y q, fun _ => z⟩, fun z => z.2 q⟩
theorem WS.imp {r : RS} (w : WS r N T B K) (n : ∀ l h, N l h → N' l h) (t : ∀ d h, T d h → T' d h) (b : ∀ l h, B l h → B' l h) (k : ∀ l h, K l h → K' l h) : WS r N' T' B' K' := by
  cases r with
  | nx l h => exact n _ _ w
  | rt d h => exact t _ _ w
  | bk l h => exact b _ _ w
  | ct l h => exact k _ _ w
  | exc c l h => exact w
  | bad => exact w
@[simp] theorem no2_eq : no2 ls h = False := rfl
theorem w_fnS {n np : Nat} {p : Ss} {ds : List D} {Q : D → Hh → Prop} (hl : ds.length = np) (w : WS (evSs C p (ds.map some ++ List.replicate (n - ds.length) none) h) (fun _ h1 => Q .non h1) Q no2 no2) : W (fnS C n np p ds h) Q := by
  rw [fnS_run hl]
  cases e : evSs C p (ds.map some ++ List.replicate (n - ds.length) none) h with
  | nx l h => rw [e] at w; exact w
  | rt d h => rw [e] at w; exact w
  | bk l h => rw [e] at w; exact w.elim
  | ct l h => rw [e] at w; exact w.elim
  | exc c l h => rw [e] at w; exact w.elim
  | bad => rw [e] at w; exact w.elim
theorem eq_of_W {n np : Nat} {p : Ss} {ds : List D} {d : D} {h1 : Hh} (w : W (fnS C n np p ds h) fun a k => a = d ∧ k = h1) : fnS C n np p ds h = .ok d h1 := by
  obtain ⟨a, k, e, rfl, rfl⟩ := w.ex
  exact e
/-- a pure call -/
theorem w_callP {F : Fn} {ds : List D} {Q : D → Hh → Prop} (hp : pures ds = true) (w : W (F ds []) fun d h' => ∃ e, fz 0 h' d = some e ∧ Q e h) : W (callM .P F ds h) Q := by
  obtain ⟨d, h', e, z, hz, q⟩ := w.ex
  rw [callP_eq hp e hz]; exact q
/-! loops -/
theorem w_loop {g : D → Ls → Option Ls} {b : Ls → Hh → RS} (I : Nat → Ls → Hh → Prop) : ∀ (xs : List D) (i : Nat) {ls : Ls} {h : Hh}, (∀ j x l h, xs[j]? = some x → I (i + j) l h → ∃ l1, g x l = some l1 ∧ WS (b l1 h) (I (i + j + 1)) T N (I (i + j + 1))) → (∀ l h, I (i + xs.length) l h → N l h) → I i ls h → WS (loopL g b xs ls h) N T B K
  | [], i, ls, h, _, fin, p => fin _ _ p
  | x :: xs, i, ls, h, st, fin, p => by
    obtain ⟨l1, e1, w⟩ := st 0 x ls h rfl p
    have ih := fun (l2 : Ls) (h2 : Hh) (p2 : I (i + 0 + 1) l2 h2) => w_loop I xs (i + 1) (ls := l2) (h := h2) (fun j y l h e q => by
      have := st (j + 1) y l h (by simpa using e) (by rw [Nat.add_assoc, Nat.add_comm 1 j] at q; exact q)
      rw [show i + 1 + j + 1 = i + (j + 1) + 1 by omega]; exact this) (fun l h q => fin l h (by rw [List.length_cons, Nat.add_comm xs.length 1, ← Nat.add_assoc]; exact q)) p2
    rw [loopL_cons, e1]
    show WS (match b l1 h with | .nx l2 h2 => loopL g b xs l2 h2 | .ct l2 h2 => loopL g b xs l2 h2 | .bk l2 h2 => .nx l2 h2 | r => r) N T B K
    cases e : b l1 h with
    | nx l h => rw [e] at w; exact ih _ _ w
    | rt d h => rw [e] at w; exact w
    | bk l h => rw [e] at w; exact w
    | ct l h => rw [e] at w; exact ih _ _ w
    | exc c l h => rw [e] at w; exact w.elim
    | bad => rw [e] at w; exact w.elim
variable {g : D → Ls → Option Ls} {b : Ls → Hh → RS}
/-- over a range -/
theorem w_rng (I : Nat → Ls → Hh → Prop) {lo : Int} {n : Nat} (h0 : I 0 ls h) (st : ∀ (j : Nat) l h, j < n → I j l h → ∃ l1, g (.int (lo + j)) l = some l1 ∧ WS (b l1 h) (I (j + 1)) T N (I (j + 1))) (fin : ∀ l h, I n l h → N l h) : WS (forR (.rng lo n 1) g b ls h) N T B K := by
  rw [forR_rng]
  refine w_loop I (rngL lo 1 n) 0 (fun j x l h e q => ?_) (fun l h q => fin l h (by rw [rngL_len, Nat.zero_add] at q; exact q)) h0
  obtain ⟨hj, rfl⟩ := rngL_mem e
  rw [Nat.zero_add] at q ⊢
  exact st j l h hj q
theorem w_rng0 (I : Nat → Ls → Hh → Prop) {n : Nat} (h0 : I 0 ls h) (st : ∀ (j : Nat) l h, j < n → I j l h → ∃ l1, g (.int (j : Nat)) l = some l1 ∧ WS (b l1 h) (I (j + 1)) T N (I (j + 1))) (fin : ∀ l h, I n l h → N l h) : WS (forR (.rng 0 n 1) g b ls h) N T B K :=
  w_rng I h0 (fun j l h hj q => by rw [Int.zero_add]; exact st j l h hj q) fin
theorem opq {α : Type} (a : α) : ∃ b, b = a := ⟨a, rfl⟩
/-- over what stays -/
theorem w_for (I : Nat → Ls → Hh → Prop) {it : Tb.It} {xs : List D} (c : it.cst = true) (e : it.items h = some xs) (h0 : I 0 ls h) (st : ∀ (j : Nat) x l h, xs[j]? = some x → I j l h → ∃ l1, g x l = some l1 ∧ WS (b l1 h) (I (j + 1)) T N (I (j + 1))) (fin : ∀ l h, I xs.length l h → N l h) : WS (forR it g b ls h) N T B K := by
  have : forR it g b ls h = loopL g b xs ls h := by unfold forR; rw [if_pos c, e]
  rw [this]
  exact w_loop I xs 0 (fun j x l h e q => by rw [Nat.zero_add] at q ⊢; exact st j x l h e q) (fun l h q => fin l h (by rw [Nat.zero_add] at q; exact q)) h0
theorem w_lst (I : Nat → Ls → Hh → Prop) {xs : List D} (h0 : I 0 ls h) (st : ∀ (j : Nat) x l h, xs[j]? = some x → I j l h → ∃ l1, g x l = some l1 ∧ WS (b l1 h) (I (j + 1)) T N (I (j + 1))) (fin : ∀ l h, I xs.length l h → N l h) : WS (forR (.seq (.lst xs)) g b ls h) N T B K := w_for I rfl rfl h0 st fin
theorem w_tup (I : Nat → Ls → Hh → Prop) {xs : List D} (h0 : I 0 ls h) (st : ∀ (j : Nat) x l h, xs[j]? = some x → I j l h → ∃ l1, g x l = some l1 ∧ WS (b l1 h) (I (j + 1)) T N (I (j + 1))) (fin : ∀ l h, I xs.length l h → N l h) : WS (forR (.seq (.tup xs)) g b ls h) N T B K := w_for I rfl rfl h0 st fin
/-- over what stands in a list's cell, which stays -/
theorem w_cel (I : Nat → Ls → Hh → Prop) {it : Tb.It} {xs : List D} (c : it.cst = false) (hl : xs.length < FUEL) (ei : ∀ (j : Nat) l h, I j l h → it.items h = some xs) (h0 : I 0 ls h) (st : ∀ (j : Nat) x l h, xs[j]? = some x → I j l h → ∃ l1, g x l = some l1 ∧ WS (b l1 h) (I (j + 1)) T N (I (j + 1))) (fin : ∀ l h, I xs.length l h → N l h) : WS (forR it g b ls h) N T B K := by
  have go : ∀ (m i : Nat) (ls : Ls) (h : Hh), xs.length - i < m → i ≤ xs.length → I i ls h → WS (loopI it g b m i ls h) N T B K := by
    intro m
    induction m with
    | zero => intro i ls h q; exact absurd q (Nat.not_lt_zero _)
    | succ m ih =>
      intro i ls h q le p
      have un : loopI it g b (m + 1) i ls h = match it.items h with
        | none => .bad
        | some xs => match xs[i]? with
          | none => .nx ls h
          | some x => match g x ls with
            | none => .bad
            | some l1 => match b l1 h with
              | .nx l2 h2 => loopI it g b m (i + 1) l2 h2
              | .ct l2 h2 => loopI it g b m (i + 1) l2 h2
              | .bk l2 h2 => .nx l2 h2
              | r => r := rfl
      rw [un, ei i ls h p]
      show WS (match xs[i]? with
          | none => .nx ls h
          | some x => match g x ls with
            | none => .bad
            | some l1 => match b l1 h with
              | .nx l2 h2 => loopI it g b m (i + 1) l2 h2
              | .ct l2 h2 => loopI it g b m (i + 1) l2 h2
              | .bk l2 h2 => .nx l2 h2
              | r => r) N T B K
      by_cases hi : i < xs.length
      · obtain ⟨l1, e1, w⟩ := st i xs[i] ls h (List.getElem?_eq_getElem hi) p
        rw [List.getElem?_eq_getElem hi]
        simp only [e1]
        cases e : b l1 h with
        | nx l h => rw [e] at w; exact ih _ _ _ (by omega) (by omega) w
        | rt d h => rw [e] at w; exact w
        | bk l h => rw [e] at w; exact w
        | ct l h => rw [e] at w; exact ih _ _ _ (by omega) (by omega) w
        | exc c l h => rw [e] at w; exact w.elim
        | bad => rw [e] at w; exact w.elim
      · obtain rfl : i = xs.length := by omega
        rw [List.getElem?_eq_none (Nat.le_refl _)]
        exact fin _ _ p
  unfold forR
  rw [c]
  exact go FUEL 0 ls h (by omega) (Nat.zero_le _) h0
/-- while, by a measure -/
theorem w_while {t : Ls → Hh → R Bool} (I : Nat → Ls → Hh → Prop) {n : Nat} (h0 : I n ls h) (hn : n < FUEL) (st : ∀ (m : Nat) l h, m ≤ n → I m l h → W (t l h) fun k h1 => (k = true → WS (b l h1) (fun l2 h2 => ∃ m2, m2 < m ∧ I m2 l2 h2) T N (fun l2 h2 => ∃ m2, m2 < m ∧ I m2 l2 h2)) ∧ (k = false → N l h1)) : WS (whileR t b FUEL ls h) N T B K := by
  have go : ∀ (m f : Nat) (ls : Ls) (h : Hh), m < f → m ≤ n → I m ls h → WS (whileR t b f ls h) N T B K := by
    intro m
    induction m using Nat.strongRecOn with
    | _ m ih =>
      intro f ls h q le p
      obtain ⟨f, rfl⟩ : ∃ f', f = f' + 1 := ⟨f - 1, by omega⟩
      have w := st m ls h le p
      rw [whileR_succ]
      cases e : t ls h with
      | bad => rw [e] at w; exact w.elim
      | exc c h1 => rw [e] at w; exact w.elim
      | ok k h1 =>
        rw [e] at w
        rw [ofR_ok]
        cases k with
        | false => exact w.2 rfl
        | true =>
          have w := w.1 rfl
          rw [if_pos rfl]
          cases e2 : b ls h1 with
          | nx l h => rw [e2] at w; obtain ⟨m2, hm, p2⟩ := w; exact ih m2 hm f _ _ (by omega) (by omega) p2
          | rt d h => rw [e2] at w; exact w
          | bk l h => rw [e2] at w; exact w
          | ct l h => rw [e2] at w; obtain ⟨m2, hm, p2⟩ := w; exact ih m2 hm f _ _ (by omega) (by omega) p2
          | exc c l h => rw [e2] at w; exact w.elim
          | bad => rw [e2] at w; exact w.elim
  exact go n FUEL ls h hn (Nat.le_refl _) h0
/-- a comprehension -/
theorem w_compL {g : D → Ls → Option Ls} {t : Ls → Hh → R Bool} {f : Ls → Hh → R D} {ls : Ls} (I : Nat → List D → Hh → Prop) : ∀ (xs : List D) (i : Nat) (acc : List D) {h : Hh} {Q : List D → Hh → Prop}, (∀ j x a h, xs[j]? = some x → I (i + j) a h → ∃ l1, g x ls = some l1 ∧ W (t l1 h) fun b h1 => (b = true → W (f l1 h1) fun d h2 => I (i + j + 1) (a ++ [d]) h2) ∧ (b = false → I (i + j + 1) a h1)) → (∀ a h, I (i + xs.length) (acc ++ a) h → Q a h) → I i acc h → W (compL g t f ls xs h) Q
  | [], i, acc, h, Q, _, fin, p => fin [] h (by rw [List.append_nil]; exact p)
  | x :: xs, i, acc, h, Q, st, fin, p => by
    obtain ⟨l1, e1, w⟩ := st 0 x acc h rfl p
    have un : compL g t f ls (x :: xs) h = match g x ls with
      | none => .bad
      | some l1 => (t l1 h).bind fun b h1 => if b = true then (f l1 h1).bind fun d h2 => (compL g t f ls xs h2).bind fun ds h3 => .ok (d :: ds) h3 else compL g t f ls xs h1 := rfl
    have st2 : ∀ j y a h, xs[j]? = some y → I (i + 1 + j) a h → ∃ l1, g y ls = some l1 ∧ W (t l1 h) fun b h1 => (b = true → W (f l1 h1) fun d h2 => I (i + 1 + j + 1) (a ++ [d]) h2) ∧ (b = false → I (i + 1 + j + 1) a h1) := fun j y a h e q => by
      have := st (j + 1) y a h (by simpa using e) (by rw [Nat.add_assoc, Nat.add_comm 1 j] at q; exact q)
      rw [show i + 1 + j + 1 = i + (j + 1) + 1 by omega]; exact this
    rw [un, e1]
    show W ((t l1 h).bind _) Q
    rw [W_bind]
    refine w.imp fun b h1 w => ?_
    cases b with
    | false =>
      rw [if_neg (by decide)]
      exact w_compL I xs (i + 1) acc st2 (fun a h q => fin a h (by rw [List.length_cons, Nat.add_comm xs.length 1, ← Nat.add_assoc]; exact q)) (w.2 rfl)
    | true =>
      rw [if_pos rfl, W_bind]
      refine (w.1 rfl).imp fun d h2 p2 => ?_
      rw [W_bind]
      refine w_compL (Q := fun a h3 => W (.ok (d :: a) h3) Q) I xs (i + 1) (acc ++ [d]) st2 (fun a h q => fin (d :: a) h ?_) p2
      rw [List.length_cons, Nat.add_comm xs.length 1, ← Nat.add_assoc, show acc ++ d :: a = acc ++ [d] ++ a by simp]
      exact q
theorem w_comp {g : D → Ls → Option Ls} {t : Ls → Hh → R Bool} {f : Ls → Hh → R D} {ls : Ls} (I : Nat → List D → Hh → Prop) {it : Tb.It} {xs : List D} {Q : List D → Hh → Prop} (c : it.cst = true) (e : it.items h = some xs) (hl : xs.length ≤ LIM) (h0 : I 0 [] h) (st : ∀ (j : Nat) x a h, xs[j]? = some x → I j a h → ∃ l1, g x ls = some l1 ∧ W (t l1 h) fun b h1 => (b = true → W (f l1 h1) fun d h2 => I (j + 1) (a ++ [d]) h2) ∧ (b = false → I (j + 1) a h1)) (fin : ∀ a h, I xs.length a h → Q a h) : W (compR it g t f ls h) Q := by
  have : compR it g t f ls h = compL g t f ls xs h := by
    unfold compR
    rw [if_pos c, e]
    show (if xs.length ≤ LIM then _ else _) = _
    rw [if_pos hl]
  rw [this]
  exact w_compL I xs 0 [] (fun j x a h e q => by rw [Nat.zero_add] at q ⊢; exact st j x a h e q) (fun a h q => fin a h (by rw [Nat.zero_add, List.nil_append] at q; exact q)) h0
theorem w_comp_rng {g : D → Ls → Option Ls} {t : Ls → Hh → R Bool} {f : Ls → Hh → R D} {ls : Ls} (I : Nat → List D → Hh → Prop) {lo : Int} {n : Nat} {Q : List D → Hh → Prop} (hl : n ≤ LIM) (h0 : I 0 [] h) (st : ∀ (j : Nat) a h, j < n → I j a h → ∃ l1, g (.int (lo + j)) ls = some l1 ∧ W (t l1 h) fun b h1 => (b = true → W (f l1 h1) fun d h2 => I (j + 1) (a ++ [d]) h2) ∧ (b = false → I (j + 1) a h1)) (fin : ∀ a h, I n a h → Q a h) : W (compR (.rng lo n 1) g t f ls h) Q := by
  refine w_comp I (xs := rngL lo 1 n) rfl rfl (by rw [rngL_len]; exact hl) h0 (fun j x a h e q => ?_) (fun a h q => fin a h (by rw [rngL_len] at q; exact q))
  obtain ⟨hj, rfl⟩ := rngL_mem e
  exact st j a h hj q
/-- a comprehension of which all is known -/
theorem w_compA {α : Type} {g : D → Ls → Option Ls} {t : Ls → Hh → R Bool} {f : Ls → Hh → R D} {ls : Ls} (enc : α → D) (as : List α) (p : α → Bool) (v : α → D) {it : Tb.It} {Q : List D → Hh → Prop} (c : it.cst = true) (e : it.items h = some (as.map enc)) (hl : as.length ≤ LIM) (st : ∀ a ∈ as, ∃ l1, g (enc a) ls = some l1 ∧ W (t l1 h) (fun b h1 => b = p a ∧ h1 = h) ∧ (p a = true → W (f l1 h) fun d h2 => d = v a ∧ h2 = h)) (fin : Q ((as.filter p).map v) h) : W (compR it g t f ls h) Q := by
  have : compR it g t f ls h = compL g t f ls (as.map enc) h := by
    unfold compR
    rw [if_pos c, e]
    show (if (as.map enc).length ≤ LIM then _ else _) = _
    rw [if_pos (by rw [List.length_map]; exact hl)]
  rw [this]
  have go : ∀ l : List α, (∀ a ∈ l, ∃ l1, g (enc a) ls = some l1 ∧ W (t l1 h) (fun b h1 => b = p a ∧ h1 = h) ∧ (p a = true → W (f l1 h) fun d h2 => d = v a ∧ h2 = h)) → compL g t f ls (l.map enc) h = .ok ((l.filter p).map v) h := by
    intro l
    induction l with
    | nil => intro _; rfl
    | cons a r ih =>
      intro st
      obtain ⟨l1, e1, w, w2⟩ := st a List.mem_cons_self
      obtain ⟨b, h1, e2, rfl, rfl⟩ := w.ex
      have un : compL g t f ls (enc a :: r.map enc) h1 = match g (enc a) ls with
        | none => .bad
        | some l1 => (t l1 h1).bind fun b h1 => if b = true then (f l1 h1).bind fun d h2 => (compL g t f ls (r.map enc) h2).bind fun ds h3 => .ok (d :: ds) h3 else compL g t f ls (r.map enc) h1 := rfl
      rw [List.map_cons, un, e1]
      show (t l1 h1).bind _ = _
      have ih := ih fun x hx => st x (List.mem_cons_of_mem _ hx)
      rw [e2, bind_ok]
      by_cases q : p a = true
      · obtain ⟨d, h2, e3, rfl, rfl⟩ := (w2 q).ex
        rw [if_pos q, e3, bind_ok, ih, bind_ok, List.filter_cons_of_pos q]
        rfl
      · rw [if_neg q, ih, List.filter_cons_of_neg q]
  rw [go as st]
  exact fin
theorem w_comp_rngA {g : D → Ls → Option Ls} {t : Ls → Hh → R Bool} {f : Ls → Hh → R D} {ls : Ls} {lo : Int} {n : Nat} (p : Nat → Bool) (v : Nat → D) {Q : List D → Hh → Prop} (hl : n ≤ LIM) (st : ∀ j : Nat, j < n → ∃ l1, g (.int (lo + j)) ls = some l1 ∧ W (t l1 h) (fun b h1 => b = p j ∧ h1 = h) ∧ (p j = true → W (f l1 h) fun d h2 => d = v j ∧ h2 = h)) (fin : Q (((List.range n).filter p).map v) h) : W (compR (.rng lo n 1) g t f ls h) Q :=
  w_compA (fun (i : Nat) => D.int (lo + i)) (List.range n) p v rfl (by show some (rngL lo 1 n) = _; rw [rngL_eq (lo := lo)]) (by rw [List.length_range]; exact hl) (fun a ha => st a (List.mem_range.mp ha)) fin
theorem w_comp_rng0 {g : D → Ls → Option Ls} {t : Ls → Hh → R Bool} {f : Ls → Hh → R D} {ls : Ls} (I : Nat → List D → Hh → Prop) {n : Nat} {Q : List D → Hh → Prop} (hl : n ≤ LIM) (h0 : I 0 [] h) (st : ∀ (j : Nat) a h, j < n → I j a h → ∃ l1, g (.int (j : Nat)) ls = some l1 ∧ W (t l1 h) fun b h1 => (b = true → W (f l1 h1) fun d h2 => I (j + 1) (a ++ [d]) h2) ∧ (b = false → I (j + 1) a h1)) (fin : ∀ a h, I n a h → Q a h) : W (compR (.rng 0 n 1) g t f ls h) Q :=
  w_comp_rng I hl h0 (fun j a h hj q => by rw [Int.zero_add]; exact st j a h hj q) fin
theorem w_comp_rng0A {g : D → Ls → Option Ls} {t : Ls → Hh → R Bool} {f : Ls → Hh → R D} {ls : Ls} {n : Nat} (p : Nat → Bool) (v : Nat → D) {Q : List D → Hh → Prop} (hl : n ≤ LIM) (st : ∀ j : Nat, j < n → ∃ l1, g (.int (j : Nat)) ls = some l1 ∧ W (t l1 h) (fun b h1 => b = p j ∧ h1 = h) ∧ (p j = true → W (f l1 h) fun d h2 => d = v j ∧ h2 = h)) (fin : Q (((List.range n).filter p).map v) h) : W (compR (.rng 0 n 1) g t f ls h) Q :=
  w_comp_rngA p v hl (fun j hj => by rw [Int.zero_add]; exact st j hj) fin
/-! frames: all cells but one stay -/
def Fx (i : Nat) (h h' : Hh) : Prop := h.length ≤ h'.length ∧ ∀ j, j < h.length → j ≠ i → h'[j]? = h[j]?
theorem Fx.refl {i : Nat} : Fx i h h := ⟨Nat.le_refl _, fun _ _ _ => rfl⟩
theorem Fx.trans {i : Nat} {h1 h2 : Hh} (a : Fx i h h1) (b : Fx i h1 h2) : Fx i h h2 := ⟨Nat.le_trans a.1 b.1, fun j q n => (b.2 j (Nat.lt_of_lt_of_le q a.1) n).trans (a.2 j q n)⟩
theorem Fx.at {i j : Nat} {h h' : Hh} {o : O} (f : Fx i h h') (e : h[j]? = some o) (n : j ≠ i) : h'[j]? = some o := by rw [f.2 j (List.getElem?_eq_some_iff.mp e).1 n]; exact e
theorem Fx.set {i : Nat} {o : O} : Fx i h (h.set i o) := ⟨by simp, fun j _ n => List.getElem?_set_ne (Ne.symm n)⟩
theorem Fx.app {i : Nat} {g : Hh} : Fx i h (h ++ g) := ⟨by simp, fun j q _ => List.getElem?_append_left q⟩
theorem Fx.new {i j : Nat} {o : O} {h h' : Hh} (f : Fx i h h') (q : h.length ≤ j) : Fx i h (h'.set j o) := ⟨by rw [List.length_set]; exact f.1, fun k a n => by rw [List.getElem?_set_ne (by omega)]; exact f.2 k a n⟩
end
end Tb
namespace Tb
open PySem PySem.Spec PyProof.Rows L2
/-! ### cells by what stands there; side conditions for omega -/
def appC (o : Option (List D)) (i : Nat) (d : D) (h : Hh) : R D := match o with
  | some xs => if xs.length < LIM then .ok .non (h.set i (.lst (xs ++ [d]))) else .bad
  | none => .bad
def extC (o p : Option (List D)) (i : Nat) (h : Hh) : R D := match o, p with
  | some xs, some ys => if xs.length + ys.length ≤ LIM then .ok .non (h.set i (.lst (xs ++ ys))) else .bad
  | _, _ => .bad
def popC (o : Option (List D)) (i : Nat) (h : Hh) : R D := match o with
  | some xs => setC (xs[xs.length - 1]?) i xs.dropLast h
  | none => .bad
def popK (o : Option (List D)) (i : Nat) (k : Int) (h : Hh) : R D := match o with
  | some xs => match ixN xs.length k with
    | some j => setC (xs[j]?) i (xs.eraseIdx j) h
    | none => .bad
  | none => .bad
def insC (o : Option (List D)) (i : Nat) (k : Int) (d : D) (h : Hh) : R D := match o with
  | some xs => if 0 ≤ k ∧ k ≤ 1000000 ∧ xs.length < LIM then .ok .non (h.set i (.lst (xs.take k.toNat ++ [d] ++ xs.drop k.toNat))) else .bad
  | none => .bad
def lstC (c : Bool) (o : Option (List D)) (h : Hh) : R D := match o with
  | some xs => mkL c xs h
  | none => .bad
def tupC (o : Option (List D)) (h : Hh) : R D := match o with
  | some xs => .ok (.tup xs) h
  | none => .bad
def setQ (o : Option (List D)) (i : Nat) (k : Int) (v : D) (h : Hh) : R Unit := match o with
  | some xs => match ixN xs.length k with
    | some j => .ok () (h.set i (.lst (xs.set j v)))
    | none => .bad
  | none => .bad
section
variable {ls : Ls} {h : Hh} {c : Bool} {n m k : Int} {i j : Nat} {xs ys : List D} {d v : D} {o : Option (List D)} {lo hi : Option Int}
@[simp] theorem asO_lst : asO (some (.lst xs)) = some xs := rfl
@[simp] theorem asL_c : asL h (.cel i) = asO h[i]? := rfl
@[simp] theorem asT_c : asT h (.cel i) = asO h[i]? := rfl
@[simp] theorem asT_l : asT h (.lst xs) = some xs := rfl
@[simp] theorem seqOf_c : seqOf h (.cel i) = asO h[i]? := rfl
@[simp] theorem okR_append : Me.okR .append h (.cel i) = (asO h[i]?).isSome := rfl
@[simp] theorem okR_pop : Me.okR .pop h (.cel i) = (asO h[i]?).isSome := rfl
@[simp] theorem okR_extend : Me.okR .extend h (.cel i) = (asO h[i]?).isSome := rfl
@[simp] theorem okR_insert : Me.okR .insert h (.cel i) = (asO h[i]?).isSome := rfl
@[simp] theorem okR_clear : Me.okR .clear h (.cel i) = (asO h[i]?).isSome := rfl
@[simp] theorem okR_reverse : Me.okR .reverse h (.cel i) = (asO h[i]?).isSome := rfl
@[simp] theorem okR_remove : Me.okR .remove h (.cel i) = (asO h[i]?).isSome := rfl
@[simp] theorem okR_count : Me.okR .count h (.cel i) = (asO h[i]?).isSome := rfl
@[simp] theorem okR_index : Me.okR .index h (.cel i) = (asO h[i]?).isSome := rfl
@[simp] theorem okR_countL : Me.okR .count h (.lst xs) = true := rfl
@[simp] theorem okR_indexL : Me.okR .index h (.lst xs) = true := rfl
@[simp] theorem okR_join {x : Str} : Me.okR .join h (.str x) = true := rfl
@[simp] theorem okR_split {x : Str} : Me.okR .split h (.str x) = true := rfl
@[simp] theorem okR_partition {x : Str} : Me.okR .partition h (.str x) = true := rfl
@[simp] theorem len_c : biD .len c [.cel i] h = optI ((asO h[i]?).map fun xs => (xs.length : Int)) h := rfl
@[simp] theorem idx_c : idxD (.cel i) (.int n) h = idxL (asO h[i]?) n h := rfl
@[simp] theorem idxL_s : idxL (some xs) n h = optD (atI xs n) h := rfl
@[simp] theorem isi_cl : isiD h (.cel i) (.ty "list") = (asO h[i]?).map fun _ => true := by
  show (if tyAsk.contains "list" then ((asO h[i]?).map fun _ => "list").map fun t => isiB t "list" else none) = _
  cases asO h[i]? <;> rfl
@[simp] theorem isi_ct : isiD h (.cel i) (.ty "tuple") = (asO h[i]?).map fun _ => false := by
  show (if tyAsk.contains "tuple" then ((asO h[i]?).map fun _ => "list").map fun t => isiB t "tuple" else none) = _
  cases asO h[i]? <;> rfl
@[simp] theorem isi_ci : isiD h (.cel i) (.ty "int") = (asO h[i]?).map fun _ => false := by
  show (if tyAsk.contains "int" then ((asO h[i]?).map fun _ => "list").map fun t => isiB t "int" else none) = _
  cases asO h[i]? <;> rfl
@[simp] theorem list_c : biD .list c [.cel i] h = lstC c (asO h[i]?) h := by
  show (match asO h[i]? with | some xs => mkL c xs h | none => .bad) = _
  cases asO h[i]? <;> rfl
@[simp] theorem lstC_s : lstC c (some xs) h = mkL c xs h := rfl
@[simp] theorem tuple_c : biD .tuple c [.cel i] h = tupC (asO h[i]?) h := by
  show (match asO h[i]? with | some xs => R.ok (D.tup xs) h | none => R.bad) = _
  cases asO h[i]? <;> rfl
@[simp] theorem tuple_l : biD .tuple c [.lst xs] h = .ok (.tup xs) h := rfl
@[simp] theorem tupC_s : tupC (some xs) h = .ok (.tup xs) h := rfl
@[simp] theorem slc_c : slcD c (.cel i) lo hi h = slcL c (asO h[i]?) lo hi h := rfl
@[simp] theorem slc_l : slcD c (.lst xs) lo hi h = mkL c (cutD xs lo hi) h := rfl
@[simp] theorem slc_k : slcD c (.kl xs) lo hi h = mkL c (cutD xs lo hi) h := rfl
@[simp] theorem slc_t : slcD c (.tup xs) lo hi h = .ok (.tup (cutD xs lo hi)) h := rfl
@[simp] theorem slcL_s : slcL c (some xs) lo hi h = mkL c (cutD xs lo hi) h := rfl
@[simp] theorem cut_upO (q : 0 ≤ k) : cutD xs none (some k) = xs.take k.toNat := cut_up q
@[simp] theorem cut_loO (q : 0 ≤ k) : cutD xs (some k) none = xs.drop k.toNat := cut_lo q
@[simp] theorem rev_c : revD c (.cel i) h = revL c (asO h[i]?) h := rfl
@[simp] theorem rev_l : revD c (.lst xs) h = mkL c xs.reverse h := rfl
@[simp] theorem revL_s : revL c (some xs) h = mkL c xs.reverse h := rfl
@[simp] theorem me_app : meD .append c (.cel i) [d] h = appC (asO h[i]?) i d h := by
  show (match asO h[i]? with | some xs => meC .append i xs [d] h | none => .bad) = _
  cases asO h[i]? <;> rfl
@[simp] theorem appC_s (q : xs.length < 1000000) : appC (some xs) i d h = .ok .non (h.set i (.lst (xs ++ [d]))) := by
  exact if_pos q
@[simp] theorem me_ext : meD .extend c (.cel i) [d] h = extC (asO h[i]?) (asT h d) i h := by
  show (match asO h[i]? with | some xs => (match asT h d with | some ys => (if xs.length + ys.length ≤ LIM then R.ok D.non (h.set i (.lst (xs ++ ys))) else R.bad) | none => R.bad) | none => R.bad) = _
  cases asO h[i]? <;> cases asT h d <;> rfl
@[simp] theorem extC_s (q : xs.length + ys.length ≤ 1000000) : extC (some xs) (some ys) i h = .ok .non (h.set i (.lst (xs ++ ys))) := by
  exact if_pos q
@[simp] theorem me_pop0 : meD .pop c (.cel i) [] h = popC (asO h[i]?) i h := by
  show (match asO h[i]? with | some xs => meC .pop i xs [] h | none => .bad) = _
  cases asO h[i]? <;> rfl
@[simp] theorem popC_g : popC (some xs) i h = setC xs.getLast? i xs.dropLast h := by
  show setC (xs[xs.length - 1]?) i xs.dropLast h = _
  rw [List.getLast?_eq_getElem?]
@[simp] theorem setC_s : setC (some d) i xs h = .ok d (h.set i (.lst xs)) := rfl
@[simp] theorem me_popk : meD .pop c (.cel i) [.int k] h = popK (asO h[i]?) i k h := by
  show (match asO h[i]? with | some xs => meC .pop i xs [.int k] h | none => .bad) = _
  cases asO h[i]? <;> rfl
theorem popK_s (q0 : 0 ≤ k) (e : xs[k.toNat]? = some d) : popK (some xs) i k h = .ok d (h.set i (.lst (xs.eraseIdx k.toNat))) := by
  have q : k.toNat < xs.length := (List.getElem?_eq_some_iff.mp e).1
  have z : ixN xs.length k = some k.toNat := by
    unfold ixN
    rw [if_pos q0, if_pos (by omega)]
  show (match ixN xs.length k with | some j => setC (xs[j]?) i (xs.eraseIdx j) h | none => .bad) = _
  rw [z]
  show setC (xs[k.toNat]?) i _ h = _
  rw [e]; rfl
@[simp] theorem me_ins : meD .insert c (.cel i) [.int k, d] h = insC (asO h[i]?) i k d h := by
  show (match asO h[i]? with | some xs => meC .insert i xs [.int k, d] h | none => .bad) = _
  cases asO h[i]? <;> rfl
@[simp] theorem insC_s (q0 : 0 ≤ k) (q1 : k ≤ 1000000) (q : xs.length < 1000000) : insC (some xs) i k d h = .ok .non (h.set i (.lst (xs.take k.toNat ++ [d] ++ xs.drop k.toNat))) := by
  exact if_pos ⟨q0, q1, q⟩
@[simp] theorem set_q : setD (.cel i) (.int k) v h = setQ (asO h[i]?) i k v h := by
  show (match h[i]? with | some (.lst xs) => (match ixN xs.length k with | some j => R.ok () (h.set i (.lst (xs.set j v))) | none => R.bad) | _ => R.bad) = _
  cases h[i]? with
  | none => rfl
  | some o => cases o <;> rfl
@[simp] theorem setQ_s (q0 : 0 ≤ k) (q : k < xs.length) : setQ (some xs) i k v h = .ok () (h.set i (.lst (xs.set k.toNat v))) := by
  have z : ixN xs.length k = some k.toNat := by
    unfold ixN
    rw [if_pos q0, if_pos q]
  unfold setQ
  simp only [z]
@[simp] theorem setQ_last (q : 0 < xs.length) : setQ (some xs) i (-1) v h = .ok () (h.set i (.lst (xs.set (xs.length - 1) v))) := by
  have z : ixN xs.length (-1) = some (xs.length - 1) := by
    unfold ixN
    rw [if_neg (by omega), if_pos (by omega)]
    congr 1; omega
  unfold setQ
  simp only [z]
@[simp] theorem bin_mulO (h1 : -1000000000000000000000000000000000000000000000000000000000000 ≤ n) (h2 : n ≤ 1000000000000000000000000000000000000000000000000000000000000) (h3 : -1000000000000000000000000000000000000000000000000000000000000 ≤ m) (h4 : m ≤ 1000000000000000000000000000000000000000000000000000000000000) : binD c .Mult (.int n) (.int m) h = .ok (.int (n * m)) h := bin_mul (small_of h1 h2) (small_of h3 h4)
@[simp] theorem aug_mulO (h1 : -1000000000000000000000000000000000000000000000000000000000000 ≤ n) (h2 : n ≤ 1000000000000000000000000000000000000000000000000000000000000) (h3 : -1000000000000000000000000000000000000000000000000000000000000 ≤ m) (h4 : m ≤ 1000000000000000000000000000000000000000000000000000000000000) : augD .Mult (.int n) (.int m) h = .ok (.int (n * m)) h := aug_mul (small_of h1 h2) (small_of h3 h4)
@[simp] theorem bin_fdivO (q : 0 < m) (h4 : m ≤ 1000000000000000000000000000000000000000000000000000000000000) : binD c .FloorDiv (.int n) (.int m) h = .ok (.int (n / m)) h := bin_fdiv q (small_of (by omega) h4)
@[simp] theorem rng1O (a : -1000000000000 ≤ n) (b : n ≤ 1000000000000) : rngOf [.int n] = some (.rng 0 n.toNat 1) := rng1 (smallR_i a b)
@[simp] theorem rng2O (a : -1000000000000 ≤ n) (b : n ≤ 1000000000000) (a2 : -1000000000000 ≤ m) (b2 : m ≤ 1000000000000) : rngOf [.int n, .int m] = some (.rng n (m - n).toNat 1) := rng2 (smallR_i a b) (smallR_i a2 b2)
@[simp] theorem mul_rep (q0 : 0 ≤ k) (q : k ≤ 1000000) (q2 : xs.length * k.toNat ≤ 1000000) : binD c .Mult (.lst xs) (.int k) h = mkL c (List.replicate k.toNat xs).flatten h := by
  exact if_pos ⟨q2, by omega, q⟩
@[simp] theorem add_ll (q : xs.length + ys.length ≤ 1000000) : binD c .Add (.lst xs) (.lst ys) h = mkL c (xs ++ ys) h := by
  exact if_pos q
@[simp] theorem get_app_len {h g : Hh} : (h ++ g)[h.length]? = g[0]? := by rw [List.getElem?_append_right (Nat.le_refl _), Nat.sub_self]
@[simp] theorem get_app_add {h g : Hh} {k : Nat} : (h ++ g)[h.length + k]? = g[k]? := by rw [List.getElem?_append_right (by omega)]; congr 1; omega
@[simp] theorem set_app_len {h g : Hh} {y : O} : (h ++ g).set h.length y = h ++ g.set 0 y := by rw [List.set_append_right _ _ (Nat.le_refl _), Nat.sub_self]
@[simp] theorem set_app_add {h g : Hh} {k : Nat} {y : O} : (h ++ g).set (h.length + k) y = h ++ g.set k y := by rw [List.set_append_right _ _ (by omega)]; congr 2; omega
theorem max_iO : biD .max c [.int n, .int m] h = .ok (.int (max n m)) h := by
  rw [max_ii]; congr 2; split <;> omega
theorem min_iO : biD .min c [.int n, .int m] h = .ok (.int (min n m)) h := by
  rw [min_ii]; congr 2; split <;> omega
theorem max_tO : biD .max c [.tup [.int n, .int m]] h = .ok (.int (max n m)) h := by
  rw [max_t2]; congr 2; split <;> omega
theorem abs_iO : biD .abs c [.int n] h = .ok (.int (n.natAbs : Int)) h := by
  rw [abs_i]; congr 2; split <;> omega
/-- .. over a list's cell -/
theorem w_compC {α : Type} {g : D → Ls → Option Ls} {t : Ls → Hh → R Bool} {f : Ls → Hh → R D} (enc : α → D) (as : List α) (p : α → Bool) (v : α → D) {it : Tb.It} {Q : List D → Hh → Prop} (c : it.cst = false) (e : it.items h = some (as.map enc)) (hl : as.length < 100000) (st : ∀ a ∈ as, ∃ l1, g (enc a) ls = some l1 ∧ W (t l1 h) (fun b h1 => b = p a ∧ h1 = h) ∧ (p a = true → W (f l1 h) fun d h2 => d = v a ∧ h2 = h)) (fin : Q ((as.filter p).map v) h) : W (compR it g t f ls h) Q := by
  have go : ∀ (m i : Nat), as.length - i < m → i ≤ as.length → compI it g t f ls m i h = .ok (((as.drop i).filter p).map v) h := by
    intro m
    induction m with
    | zero => intro i q; exact absurd q (Nat.not_lt_zero _)
    | succ m ih =>
      intro i q le
      have un : compI it g t f ls (m + 1) i h = match it.items h with
        | none => .bad
        | some xs => match xs[i]? with
          | none => .ok [] h
          | some x => match g x ls with
            | none => .bad
            | some l1 => (t l1 h).bind fun b h1 => if b = true then (f l1 h1).bind fun d h2 => (compI it g t f ls m (i + 1) h2).bind fun ds h3 => .ok (d :: ds) h3 else compI it g t f ls m (i + 1) h1 := rfl
      rw [un, e]
      by_cases hi : i < as.length
      · obtain ⟨l1, e1, w, w2⟩ := st as[i] (List.getElem_mem hi)
        obtain ⟨b, h1, e2, rfl, rfl⟩ := w.ex
        have ih := ih (i + 1) (by omega) (by omega)
        have eg : (as.map enc)[i]? = some (enc as[i]) := by rw [List.getElem?_map, List.getElem?_eq_getElem hi]; rfl
        have ed : as.drop i = as[i] :: as.drop (i + 1) := List.drop_eq_getElem_cons hi
        simp only [eg, e1, e2, bind_ok]
        rw [ed]
        by_cases q : p as[i] = true
        · obtain ⟨d, h2, e3, rfl, rfl⟩ := (w2 q).ex
          rw [if_pos q, e3, bind_ok, ih, bind_ok, List.filter_cons_of_pos q]
          rfl
        · rw [if_neg q, ih, List.filter_cons_of_neg q]
      · have eg : (as.map enc)[i]? = none := List.getElem?_eq_none (by simp; omega)
        simp only [eg]
        rw [List.drop_of_length_le (by omega)]
        rfl
  unfold compR
  rw [if_neg (by rw [c]; decide), go FUEL 0 (by unfold FUEL; omega) (by omega)]
  exact fin
theorem atI_mem {α : Type} {xs : List α} (q0 : 0 ≤ k) (q1 : k < xs.length) : ∃ d, atI xs k = some d ∧ d ∈ xs := by
  rw [atI_pos q0]
  have : k.toNat < xs.length := by omega
  exact ⟨xs[k.toNat], List.getElem?_eq_getElem this, List.getElem_mem this⟩
theorem eq_nilG {n : Nat} (g : xs.all (D.gv n) = true) (hn : n < 60) : cmpD .Eq h (.lst xs) (.lst []) = some xs.isEmpty ∧ cmpD .NotEq h (.lst xs) (.lst []) = some (!xs.isEmpty) := by
  obtain ⟨r, e1, e2, q⟩ := eq_gv (h := h) (n := n + 1) (m := 1) (a := .lst xs) (b := .lst []) g rfl (by omega) (by omega)
  have : r = xs.isEmpty := by
    rw [Bool.eq_iff_iff, q, List.isEmpty_iff]
    exact ⟨fun z => by cases z; rfl, fun z => by rw [z]⟩
  rw [e1, e2, this]
  exact ⟨rfl, rfl⟩
theorem eq_nilC {n : Nat} (e : h[i]? = some (.lst xs)) (g : xs.all (D.gv n) = true) (hn : n < 60) : cmpD .Eq h (.cel i) (.lst []) = some xs.isEmpty ∧ cmpD .NotEq h (.cel i) (.lst []) = some (!xs.isEmpty) := by
  rw [cmp_cel e _ (.inl rfl), cmp_cel e _ (.inr rfl)]
  exact eq_nilG g hn
/-- by cells or not, equal where the data are -/
def datL (h : Hh) : D → Option D
  | .cel i => (asO h[i]?).map .lst
  | d => some d
theorem eqG {n m : Nat} {a b a' b' : D} (ea : datL h a = some a') (eb : datL h b = some b') (h1 : a'.gv n = true) (h2 : b'.gv m = true) (hn : n ≤ 60) (hm : m ≤ 60) : ∃ r : Bool, cmpD .Eq h a b = some r ∧ cmpD .NotEq h a b = some (!r) ∧ (r = true ↔ a' = b') := by
  have key : ∀ (x x' : D), datL h x = some x' → toPy h x = toPy h x' := by
    intro x x' e
    cases x with
    | cel i =>
      cases q : asO h[i]? with
      | none => simp [datL, q] at e
      | some xs =>
        simp [datL, q] at e
        subst e
        show (asO h[i]?).bind _ = _
        rw [q]; rfl
    | _ => cases e; rfl
  have ns : ∀ (x x' : D), datL h x = some x' → x'.gv 60 = true → (∀ j, x ≠ .int j) → (∀ j, x' ≠ .int j) := by
    intro x x' e _ q j z
    cases x with
    | cel i =>
      cases q : asO h[i]? with
      | none => simp [datL, q] at e
      | some xs => simp [datL, q] at e; subst e; cases z
    | _ => cases e; exact q j z
  obtain ⟨r, e1, e2, q⟩ := eq_gv (h := h) h1 h2 hn hm
  have keyT : ∀ (x x' : D), datL h x = some x' → asT h x = asT h x' := by
    intro x x' e
    cases x with
    | cel i =>
      cases q : asO h[i]? with
      | none => simp [datL, q] at e
      | some xs =>
        simp [datL, q] at e
        subst e
        show asO h[i]? = _
        rw [q]; rfl
    | _ => cases e; rfl
  have keyP : ∀ (x x' : D), datL h x = some x' → pyN h 8 x = pyN h 8 x' := by
    intro x x' e
    cases x with
    | cel i =>
      cases q : asO h[i]? with
      | none => simp [datL, q] at e
      | some xs =>
        simp [datL, q] at e
        subst e
        show (asO h[i]?).bind (fun xs => (mapO (pyN h 7) xs).map PyData.list) = _
        rw [q]; rfl
    | _ => cases e; rfl
  have kN : neLen h a b = neLen h a' b' := by unfold neLen; rw [keyT _ _ ea, keyT _ _ eb, keyP _ _ ea, keyP _ _ eb]
  have body : (match eqP (toPy h a) (toPy h b) with | some r => some r | none => neLen h a b) = (match eqP (toPy h a') (toPy h b') with | some r => some r | none => neLen h a' b') := by rw [key _ _ ea, key _ _ eb, kN]
  have ee : eqD h a b = eqD h a' b' := by
    cases a with
    | cel i =>
      cases qa : asO h[i]? with
      | none => simp [datL, qa] at ea
      | some xs =>
        simp [datL, qa] at ea
        subst ea
        exact body
    | int j =>
      cases ea
      cases b with
      | cel i =>
        cases qa : asO h[i]? with
        | none => simp [datL, qa] at eb
        | some xs =>
          simp [datL, qa] at eb
          subst eb
          exact body
      | _ => cases eb; rfl
    | str j => cases ea; exact absurd h1 (by cases n <;> simp [D.gv])
    | _ =>
      cases ea
      exact body
  refine ⟨r, ?_, ?_, q⟩
  · rw [← e1]; exact ee
  · rw [← e2]; show (eqD h a b).map not = (eqD h a' b').map not; rw [ee]
@[simp] theorem lim_le2 {k : Nat} : (k ≤ LIM) = (k ≤ 1000000) := rfl
end
end Tb
namespace Tb
open PySem PySem.Spec PyProof.Rows L2
/-! ### rules for whatever is walked -/
section
variable {ls : Ls} {h : Hh} {N B K : Ls → Hh → Prop} {T : D → Hh → Prop} {g : D → Ls → Option Ls} {b : Ls → Hh → RS} {t : Ls → Hh → R Bool} {f : Ls → Hh → R D} {it : Tb.It} {xs : List D}
/-- a comprehension of which all is known -/
theorem w_cA {α : Type} (enc : α → D) (as : List α) (p : α → Bool) (v : α → D) {Q : List D → Hh → Prop} (e : it.items h = some (as.map enc)) (hl : as.length < 100000) (st : ∀ a ∈ as, ∃ l1, g (enc a) ls = some l1 ∧ W (t l1 h) (fun b h1 => b = p a ∧ h1 = h) ∧ (p a = true → W (f l1 h) fun d h2 => d = v a ∧ h2 = h)) (fin : Q ((as.filter p).map v) h) : W (compR it g t f ls h) Q := by
  cases c : it.cst with
  | true => exact w_compA enc as p v c e (by unfold LIM; omega) st fin
  | false => exact w_compC enc as p v c e hl st fin
/-- .. by an invariant -/
theorem w_cI (I : Nat → List D → Hh → Prop) {Q : List D → Hh → Prop} (hl : xs.length < 100000) (ei : ∀ (j : Nat) a h', I j a h' → it.items h' = some xs) (h0 : I 0 [] h) (st : ∀ (j : Nat) x a h, xs[j]? = some x → I j a h → ∃ l1, g x ls = some l1 ∧ W (t l1 h) fun b h1 => (b = true → W (f l1 h1) fun d h2 => I (j + 1) (a ++ [d]) h2) ∧ (b = false → I (j + 1) a h1)) (fin : ∀ a h, I xs.length a h → Q a h) : W (compR it g t f ls h) Q := by
  cases c : it.cst with
  | true => exact w_comp I c (ei 0 [] h h0) (by unfold LIM; omega) h0 st fin
  | false =>
    have go : ∀ (m i : Nat) (acc : List D) (h : Hh) (Q : List D → Hh → Prop), xs.length - i < m → i ≤ xs.length → I i acc h → (∀ a h, I xs.length (acc ++ a) h → Q a h) → W (compI it g t f ls m i h) Q := by
      intro m
      induction m with
      | zero => intro i acc h Q q; exact absurd q (Nat.not_lt_zero _)
      | succ m ih =>
        intro i acc h Q q le p fin
        have un : compI it g t f ls (m + 1) i h = match it.items h with
          | none => .bad
          | some xs => match xs[i]? with
            | none => .ok [] h
            | some x => match g x ls with
              | none => .bad
              | some l1 => (t l1 h).bind fun b h1 => if b = true then (f l1 h1).bind fun d h2 => (compI it g t f ls m (i + 1) h2).bind fun ds h3 => .ok (d :: ds) h3 else compI it g t f ls m (i + 1) h1 := rfl
        rw [un, ei i acc h p]
        by_cases hi : i < xs.length
        · have eg := List.getElem?_eq_getElem hi
          obtain ⟨l1, e1, w⟩ := st i xs[i] acc h eg p
          simp only [eg, e1]
          rw [W_bind]
          refine w.imp fun b h1 w => ?_
          cases b with
          | false =>
            rw [if_neg (by decide)]
            exact ih (i + 1) acc h1 Q (by omega) (by omega) (w.2 rfl) fin
          | true =>
            rw [if_pos rfl, W_bind]
            refine (w.1 rfl).imp fun d h2 p2 => ?_
            rw [W_bind]
            refine ih (i + 1) (acc ++ [d]) h2 _ (by omega) (by omega) p2 fun a h q => fin (d :: a) h ?_
            rw [show acc ++ d :: a = acc ++ [d] ++ a by simp]
            exact q
        · have eg : xs[i]? = none := List.getElem?_eq_none (by omega)
          simp only [eg]
          have : i = xs.length := by omega
          subst this
          exact fin [] h (by rw [List.append_nil]; exact p)
    unfold compR
    rw [if_neg (by rw [c]; decide)]
    exact go FUEL 0 [] h Q (by unfold FUEL; omega) (by omega) h0 fun a h q => fin a h (by rw [List.nil_append] at q; exact q)
/-- a loop by an invariant -/
theorem w_fI (I : Nat → Ls → Hh → Prop) (hl : xs.length < 100000) (ei : ∀ (j : Nat) l h', I j l h' → it.items h' = some xs) (h0 : I 0 ls h) (st : ∀ (j : Nat) x l h, xs[j]? = some x → I j l h → ∃ l1, g x l = some l1 ∧ WS (b l1 h) (I (j + 1)) T N (I (j + 1))) (fin : ∀ l h, I xs.length l h → N l h) : WS (forR it g b ls h) N T B K := by
  cases c : it.cst with
  | true => exact w_for I c (ei 0 ls h h0) h0 st fin
  | false => exact w_cel I c hl ei h0 st fin
/-! lists, in cells or not -/
theorem asL_fx {i : Nat} {h h' : Hh} {P : D} {xs : List D} (e : asL h P = some xs) (f : Fx i h h') (q : P ≠ .cel i) : asL h' P = some xs := by
  cases P with
  | cel c =>
    have e : asO h[c]? = some xs := e
    cases o : h[c]? with
    | none => rw [o] at e; cases e
    | some ob =>
      rw [o] at e
      show asO h'[c]? = _
      rw [f.at o (fun z => q (by rw [z]))]
      exact e
  | _ => exact e
theorem asL_app {h g : Hh} {P : D} {xs : List D} (e : asL h P = some xs) : asL (h ++ g) P = some xs := by
  cases P with
  | cel c =>
    have e : asO h[c]? = some xs := e
    cases o : h[c]? with
    | none => rw [o] at e; cases e
    | some ob =>
      rw [o] at e
      show asO (h ++ g)[c]? = _
      rw [List.getElem?_append_left (List.getElem?_eq_some_iff.mp o).1, o]
      exact e
  | _ => exact e
theorem asL_set {h : Hh} {j : Nat} {o : O} {P : D} {xs : List D} (e : asL h P = some xs) (q : P ≠ .cel j) : asL (h.set j o) P = some xs := asL_fx e Fx.set q
theorem seqOf_asL {h : Hh} {P : D} {xs : List D} (e : asL h P = some xs) : seqOf h P = some xs := by
  cases P with
  | tup _ => cases e
  | _ => exact e
theorem idx_asL {h : Hh} {P : D} {xs : List D} {n : Int} (e : asL h P = some xs) : idxD P (.int n) h = optD (atI xs n) h := by
  cases P with
  | tup _ => cases e
  | str _ => cases e
  | cel c => show idxL (asL h (.cel c)) n h = _; rw [e]; rfl
  | lst _ => cases e; rfl
  | kl _ => cases e; rfl
  | _ => cases e
theorem len_asL {h : Hh} {P : D} {xs : List D} {c : Bool} (e : asL h P = some xs) : biD .len c [P] h = .ok (.int xs.length) h := by
  cases P with
  | tup _ => cases e
  | str _ => cases e
  | dic _ => cases e
  | cel c => show optI ((asL h (.cel c)).map fun xs => (xs.length : Int)) h = _; rw [e]; rfl
  | lst _ => cases e; rfl
  | kl _ => cases e; rfl
  | _ => cases e
/-- a new object -/
theorem Fx.newAt {i : Nat} {h h' : Hh} (f : Fx i h h') {j : Nat} {o : O} (e : h[j]? = some o) (q : j ≠ i) : h'[j]? = some o := f.at e q
end
end Tb
namespace Tb
open PySem PySem.Spec PyProof.Rows L2
/-! ### pure calls by lists in cells -/
theorem callP_as {F : Fn} {ds es : List D} {v : D} {h : Hh} (hf : frzL (fz 0 h) ds = some es) (ep : pures es = true) (k : callM .P F es h = .ok v h) (hn : v.nol = true) : callM .P F ds h = .ok v h := by
  have k : callP F es h = .ok v h := k
  show callP F ds h = _
  unfold callP at k ⊢
  rw [frz_pures ep] at k
  rw [hf]
  simp only [ep, true_or, if_true] at k
  cases e : F es [] with
  | bad => rw [e] at k; cases k
  | exc c h1 => rw [e] at k; cases k
  | ok d h1 =>
    rw [e] at k
    cases e2 : fz 0 h1 d with
    | none => simp [e2] at k
    | some z =>
      simp [e2] at k
      subst k
      simp [e, e2, hn]
theorem frz_gv {m : Nat} {h : Hh} : ∀ (k n : Nat) (d : D), n < k → d.gv n = true → frz m h k d = some d
  | 0, n, d, q, _ => absurd q (Nat.not_lt_zero _)
  | k + 1, n, d, q, g => by
    have go : ∀ (j : Nat) (xs : List D), j < k → xs.all (D.gv j) = true → frzL (frz m h k) xs = some xs := by
      intro j xs hj
      induction xs with
      | nil => intro _; rfl
      | cons x r ih =>
        intro g
        rw [List.all_cons, Bool.and_eq_true] at g
        simp only [frzL, frz_gv k j x hj g.1, Option.bind_some, ih g.2, Option.map_some]
    cases n with
    | zero =>
      cases d with
      | lst xs => simp [D.gv] at g
      | tup xs => simp [D.gv] at g
      | non => rfl
      | int i => rfl
      | _ => simp [D.gv] at g
    | succ n =>
      cases d with
      | lst xs =>
        show (frzL (frz m h k) xs).map D.lst = _
        rw [go n xs (by omega) (by simpa [D.gv] using g)]; rfl
      | tup xs =>
        show (frzL (frz m h k) xs).map D.tup = _
        rw [go n xs (by omega) (by simpa [D.gv] using g)]; rfl
      | non => rfl
      | int i => rfl
      | _ => simp [D.gv] at g
theorem fz_celG {h : Hh} {i n : Nat} {xs : List D} (e : h[i]? = some (.lst xs)) (g : xs.all (D.gv n) = true) (hn : n < 7) : fz 0 h (.cel i) = some (.lst xs) :=
  fz_cel e fun d hd => frz_gv 7 n d hn (List.all_eq_true.mp g d hd)
end Tb
namespace Tb
open PySem PySem.Spec PyProof.Rows L2
/-! ### plain data with texts -/
def D.gs : Nat → D → Bool
  | _, .int _ => true
  | _, .non => true
  | _, .str x => PyData.strOk x
  | n + 1, .lst xs => xs.all (D.gs n)
  | n + 1, .tup xs => xs.all (D.gs n)
  | _, _ => false
theorem gv_gs : ∀ (n : Nat) (d : D), d.gv n = true → d.gs n = true
  | n, .int i, _ => by cases n <;> rfl
  | n, .non, _ => by cases n <;> rfl
  | n + 1, .lst xs, h => by
    have h : xs.all (D.gv n) = true := by simpa [D.gv] using h
    show xs.all (D.gs n) = true
    rw [List.all_eq_true] at h ⊢
    exact fun x hx => gv_gs n x (h x hx)
  | n + 1, .tup xs, h => by
    have h : xs.all (D.gv n) = true := by simpa [D.gv] using h
    show xs.all (D.gs n) = true
    rw [List.all_eq_true] at h ⊢
    exact fun x hx => gv_gs n x (h x hx)
  | 0, .lst xs, h => by simp [D.gv] at h
  | 0, .tup xs, h => by simp [D.gv] at h
  | n, .bl _, h => by cases n <;> simp [D.gv] at h
  | n, .str _, h => by cases n <;> simp [D.gv] at h
  | n, .kl _, h => by cases n <;> simp [D.gv] at h
  | n, .dic _, h => by cases n <;> simp [D.gv] at h
  | n, .cel _, h => by cases n <;> simp [D.gv] at h
  | n, .cls _, h => by cases n <;> simp [D.gv] at h
  | n, .ty _, h => by cases n <;> simp [D.gv] at h
  | n, .exc _, h => by cases n <;> simp [D.gv] at h
theorem gss_py {n : Nat} (ih : ∀ d : D, d.gs n = true → ∃ p, py d = some p ∧ p.canLay0 = true ∧ p.depth ≤ n) : ∀ xs : List D, xs.all (D.gs n) = true → ∃ ps, pys xs = some ps ∧ PyData.canLayAll0 ps = true ∧ PyData.depthAll ps ≤ n
  | [], _ => ⟨[], rfl, rfl, Nat.zero_le _⟩
  | x :: xs, h => by
    simp only [List.all_cons, Bool.and_eq_true] at h
    obtain ⟨p, e1, e2, e3⟩ := ih x h.1
    obtain ⟨ps, f1, f2, f3⟩ := gss_py ih xs h.2
    exact ⟨p :: ps, by simp [pys, e1, f1], by simp [PyData.canLayAll0, e2, f2], by simp only [PyData.depthAll]; omega⟩
theorem gs_py : ∀ (n : Nat) (d : D), d.gs n = true → ∃ p, py d = some p ∧ p.canLay0 = true ∧ p.depth ≤ n
  | n, .int i, _ => ⟨.int i, rfl, rfl, by simp [PyData.depth]⟩
  | n, .non, _ => ⟨.none, rfl, rfl, by simp [PyData.depth]⟩
  | n, .str x, h => ⟨.str x, rfl, by have h : PyData.strOk x = true := by { cases n <;> simpa [D.gs] using h }; simpa [PyData.canLay0] using h, by simp [PyData.depth]⟩
  | n + 1, .lst xs, h => by
    obtain ⟨ps, e1, e2, e3⟩ := gss_py (gs_py n) xs (by simpa [D.gs] using h)
    exact ⟨.list ps, by simp [py, e1], by simp [PyData.canLay0, e2], by simp only [PyData.depth]; omega⟩
  | n + 1, .tup xs, h => by
    obtain ⟨ps, e1, e2, e3⟩ := gss_py (gs_py n) xs (by simpa [D.gs] using h)
    exact ⟨.tuple ps, by simp [py, e1], by simp [PyData.canLay0, e2], by simp only [PyData.depth]; omega⟩
  | 0, .lst xs, h => by simp [D.gs] at h
  | 0, .tup xs, h => by simp [D.gs] at h
  | n, .bl _, h => by cases n <;> simp [D.gs] at h
  | n, .kl _, h => by cases n <;> simp [D.gs] at h
  | n, .dic _, h => by cases n <;> simp [D.gs] at h
  | n, .cel _, h => by cases n <;> simp [D.gs] at h
  | n, .cls _, h => by cases n <;> simp [D.gs] at h
  | n, .ty _, h => by cases n <;> simp [D.gs] at h
  | n, .exc _, h => by cases n <;> simp [D.gs] at h
theorem pys_cons {x : D} {xs : List D} {ps : List PyData} (e : pys (x :: xs) = some ps) : ∃ p r, py x = some p ∧ pys xs = some r ∧ ps = p :: r := by
  simp only [pys] at e
  cases q : py x with
  | none => rw [q] at e; cases e
  | some p =>
    cases q2 : pys xs with
    | none => rw [q, q2] at e; cases e
    | some r => rw [q, q2] at e; cases e; exact ⟨p, r, rfl, rfl, rfl⟩
theorem gss_inj {n m : Nat} (ih : ∀ (d e : D) p q, d.gs n = true → e.gs m = true → py d = some p → py e = some q → (PyData.eqv p q = true ↔ d = e)) : ∀ (xs ys : List D) ps qs, xs.all (D.gs n) = true → ys.all (D.gs m) = true → pys xs = some ps → pys ys = some qs → (PyData.eqvAll ps qs = true ↔ xs = ys)
  | [], [], ps, qs, _, _, e1, e2 => by cases e1; cases e2; simp [PyData.eqvAll]
  | [], y :: ys, ps, qs, _, h2, e1, e2 => by
    cases e1
    obtain ⟨p, r, _, _, rfl⟩ := pys_cons e2
    simp [PyData.eqvAll]
  | x :: xs, [], ps, qs, h1, _, e1, e2 => by
    cases e2
    obtain ⟨p, r, _, _, rfl⟩ := pys_cons e1
    simp [PyData.eqvAll]
  | x :: xs, y :: ys, ps, qs, h1, h2, e1, e2 => by
    simp only [List.all_cons, Bool.and_eq_true] at h1 h2
    obtain ⟨p, r, q, q2, rfl⟩ := pys_cons e1
    obtain ⟨p', r', q3, q4, rfl⟩ := pys_cons e2
    simp only [PyData.eqvAll, Bool.and_eq_true, List.cons.injEq, ih x y p p' h1.1 h2.1 q q3, gss_inj ih xs ys r r' h1.2 h2.2 q2 q4]
theorem gs_leaf {m : Nat} {d e : D} {p q : PyData} (hd : (∃ i, d = .int i ∧ p = .int i) ∨ (d = .non ∧ p = .none) ∨ ∃ x, d = .str x ∧ p = .str x) (h2 : e.gs m = true) (e2 : py e = some q) : PyData.eqv p q = true ↔ d = e := by
  cases e with
  | int j => cases e2; rcases hd with ⟨i, rfl, rfl⟩ | ⟨rfl, rfl⟩ | ⟨x, rfl, rfl⟩ <;> simp [PyData.eqv]
  | non => cases e2; rcases hd with ⟨i, rfl, rfl⟩ | ⟨rfl, rfl⟩ | ⟨x, rfl, rfl⟩ <;> simp [PyData.eqv]
  | str j => cases e2; rcases hd with ⟨i, rfl, rfl⟩ | ⟨rfl, rfl⟩ | ⟨x, rfl, rfl⟩ <;> simp [PyData.eqv]
  | lst ys =>
    obtain ⟨r, _, rfl⟩ := Option.map_eq_some_iff.mp (show (pys ys).map PyData.list = some q from e2)
    rcases hd with ⟨i, rfl, rfl⟩ | ⟨rfl, rfl⟩ | ⟨x, rfl, rfl⟩ <;> simp [PyData.eqv]
  | tup ys =>
    obtain ⟨r, _, rfl⟩ := Option.map_eq_some_iff.mp (show (pys ys).map PyData.tuple = some q from e2)
    rcases hd with ⟨i, rfl, rfl⟩ | ⟨rfl, rfl⟩ | ⟨x, rfl, rfl⟩ <;> simp [PyData.eqv]
  | _ => cases m <;> simp [D.gs] at h2
theorem gs_inj : ∀ (n m : Nat) (d e : D) p q, d.gs n = true → e.gs m = true → py d = some p → py e = some q → (PyData.eqv p q = true ↔ d = e) := by
  intro n
  induction n with
  | zero =>
    intro m d e p q h1 h2 e1 e2
    cases d with
    | int i => cases e1; exact gs_leaf (.inl ⟨i, rfl, rfl⟩) h2 e2
    | non => cases e1; exact gs_leaf (.inr (.inl ⟨rfl, rfl⟩)) h2 e2
    | str x => cases e1; exact gs_leaf (.inr (.inr ⟨x, rfl, rfl⟩)) h2 e2
    | _ => simp [D.gs] at h1
  | succ n ih =>
    intro m d e p q h1 h2 e1 e2
    cases d with
    | int i => cases e1; exact gs_leaf (.inl ⟨i, rfl, rfl⟩) h2 e2
    | non => cases e1; exact gs_leaf (.inr (.inl ⟨rfl, rfl⟩)) h2 e2
    | str x => cases e1; exact gs_leaf (.inr (.inr ⟨x, rfl, rfl⟩)) h2 e2
    | lst xs =>
      obtain ⟨ps, z1, rfl⟩ := Option.map_eq_some_iff.mp (show (pys xs).map PyData.list = some p from e1)
      cases e with
      | int j => cases e2; simp [PyData.eqv]
      | non => cases e2; simp [PyData.eqv]
      | str j => cases e2; simp [PyData.eqv]
      | lst ys =>
        obtain ⟨qs, z2, rfl⟩ := Option.map_eq_some_iff.mp (show (pys ys).map PyData.list = some q from e2)
        cases m with
        | zero => simp [D.gs] at h2
        | succ m => simp only [PyData.eqv, D.lst.injEq]; exact gss_inj (ih m) xs ys ps qs (by simpa [D.gs] using h1) (by simpa [D.gs] using h2) z1 z2
      | tup ys =>
        obtain ⟨qs, z2, rfl⟩ := Option.map_eq_some_iff.mp (show (pys ys).map PyData.tuple = some q from e2)
        simp [PyData.eqv]
      | _ => cases m <;> simp [D.gs] at h2
    | tup xs =>
      obtain ⟨ps, z1, rfl⟩ := Option.map_eq_some_iff.mp (show (pys xs).map PyData.tuple = some p from e1)
      cases e with
      | int j => cases e2; simp [PyData.eqv]
      | non => cases e2; simp [PyData.eqv]
      | str j => cases e2; simp [PyData.eqv]
      | tup ys =>
        obtain ⟨qs, z2, rfl⟩ := Option.map_eq_some_iff.mp (show (pys ys).map PyData.tuple = some q from e2)
        cases m with
        | zero => simp [D.gs] at h2
        | succ m => simp only [PyData.eqv, D.tup.injEq]; exact gss_inj (ih m) xs ys ps qs (by simpa [D.gs] using h1) (by simpa [D.gs] using h2) z1 z2
      | lst ys =>
        obtain ⟨qs, z2, rfl⟩ := Option.map_eq_some_iff.mp (show (pys ys).map PyData.list = some q from e2)
        simp [PyData.eqv]
      | _ => cases m <;> simp [D.gs] at h2
    | _ => simp [D.gs] at h1
theorem gs_shaped {n : Nat} {d : D} (h1 : d.gs n = true) (hn : n ≤ 60) : ∃ p, (∀ h, toPy h d = some p) ∧ py d = some p ∧ SeqAt.shaped p = true := by
  obtain ⟨p, e1, l1, d1⟩ := gs_py n d h1
  refine ⟨p, fun h => ?_, e1, ?_⟩
  · cases d <;> first | exact e1 | (cases n <;> simp [D.gs] at h1)
  · unfold SeqAt.shaped
    rw [l1, decide_eq_true (by omega : p.depth ≤ 64)]; rfl
theorem eq_gs {h : Hh} {n m : Nat} {a b : D} (h1 : a.gs n = true) (h2 : b.gs m = true) (hn : n ≤ 60) (hm : m ≤ 60) : ∃ r : Bool, cmpD .Eq h a b = some r ∧ cmpD .NotEq h a b = some (!r) ∧ (r = true ↔ a = b) := by
  obtain ⟨p, t1, e1, s1⟩ := gs_shaped h1 hn
  obtain ⟨q, t2, e2, s2⟩ := gs_shaped h2 hm
  have main : eqP (toPy h a) (toPy h b) = some (PyData.eqv p q) := by
    rw [t1, t2]
    show (if SeqAt.shaped p = true ∧ SeqAt.shaped q = true then some (PyData.eqv p q) else none) = _
    rw [if_pos ⟨s1, s2⟩]
  have ee : eqD h a b = some (PyData.eqv p q) := by
    unfold eqD
    split
    · cases e1; cases e2; rfl
    · cases e1; cases e2
      have := gs_inj n m _ _ _ _ h1 h2 rfl rfl
      first
        | rfl
        | (congr 1; rw [Bool.eq_iff_iff, this, decide_eq_true_eq, D.str.injEq])
    · rw [main]
  refine ⟨PyData.eqv p q, ee, ?_, gs_inj n m a b p q h1 h2 e1 e2⟩
  show (eqD h a b).map not = _
  rw [ee]; rfl
theorem gs_self {v : D} {n : Nat} {h : Hh} (g : v.gs n = true) (hn : n ≤ 60) : cmpD .Eq h v v = some true ∧ cmpD .NotEq h v v = some false := by
  obtain ⟨r, e1, e2, q⟩ := eq_gs (h := h) g g hn hn
  rw [e1, e2, q.mpr rfl]; exact ⟨rfl, rfl⟩
theorem gs_ne {a b : D} {n m : Nat} {h : Hh} (g : a.gs n = true) (g2 : b.gs m = true) (hn : n ≤ 60) (hm : m ≤ 60) (ne : a ≠ b) : cmpD .Eq h a b = some false ∧ cmpD .NotEq h a b = some true := by
  obtain ⟨r, e1, e2, q⟩ := eq_gs (h := h) g g2 hn hm
  have : r = false := Bool.eq_false_iff.mpr fun z => ne (q.mp z)
  rw [e1, e2, this]; exact ⟨rfl, rfl⟩
theorem eq_str {h : Hh} {x y : Str} (hx : PyData.strOk x = true) (hy : PyData.strOk y = true) : cmpD .Eq h (.str x) (.str y) = some (decide (x = y)) := by
  obtain ⟨r, e1, _, q⟩ := eq_gs (h := h) (n := 0) (m := 0) (a := .str x) (b := .str y) hx hy (by omega) (by omega)
  rw [e1]; congr 1
  rw [Bool.eq_iff_iff, q, decide_eq_true_eq, D.str.injEq]
theorem ne_str {h : Hh} {x y : Str} (hx : PyData.strOk x = true) (hy : PyData.strOk y = true) : cmpD .NotEq h (.str x) (.str y) = some (!decide (x = y)) := by
  show (cmpD .Eq h (.str x) (.str y)).map not = _
  rw [eq_str hx hy]; rfl
/-- in a list of plain data -/
theorem in_gs {h : Hh} {n m : Nat} {a : D} {xs : List D} (h1 : a.gs n = true) (h2 : xs.all (D.gs m) = true) (hn : n ≤ 60) (hm : m < 60) (nd : ∀ i kvs, a = .int i → (D.lst xs) ≠ .dic kvs) : ∃ r : Bool, cmpD .In h a (.lst xs) = some r ∧ cmpD .NotIn h a (.lst xs) = some (!r) ∧ (r = true ↔ a ∈ xs) := by
  obtain ⟨p, t1, e1, s1⟩ := gs_shaped h1 hn
  have h2' : (D.lst xs).gs (m + 1) = true := h2
  obtain ⟨q, t2, e2, s2⟩ := gs_shaped h2' (by omega)
  obtain ⟨ps, z, rfl⟩ := Option.map_eq_some_iff.mp (show (pys xs).map PyData.list = some q from e2)
  have main : inD h a (.lst xs) = some (ps.any fun z => PyData.eqv z p) := by
    have : inD h a (.lst xs) = inP (toPy h a) (toPy h (.lst xs)) := by
      cases a <;> rfl
    rw [this, t1, t2]
    show (if SeqAt.shaped p = true ∧ SeqAt.shaped (.list ps) = true then some (ps.any fun z => PyData.eqv z p) else none) = _
    rw [if_pos ⟨s1, s2⟩]
  refine ⟨_, main, by show (inD h a (.lst xs)).map not = _; rw [main]; rfl, ?_⟩
  have key : ∀ (xs : List D) (ps : List PyData), xs.all (D.gs m) = true → pys xs = some ps → ((ps.any fun z => PyData.eqv z p) = true ↔ a ∈ xs) := by
    intro xs
    induction xs with
    | nil => intro ps _ e; cases e; simp
    | cons x r ih =>
      intro ps g e
      obtain ⟨y, r', q1, q2, rfl⟩ := pys_cons e
      rw [List.all_cons, Bool.and_eq_true] at g
      rw [List.any_cons, Bool.or_eq_true, ih r' g.2 q2, gs_inj m n x a y p g.1 h1 q1 e1, List.mem_cons]
      constructor <;> (rintro (z | z); exact .inl z.symm; exact .inr z)
  exact key xs ps h2 z
theorem frz_gs {m : Nat} {h : Hh} : ∀ (k n : Nat) (d : D), n < k → d.gs n = true → frz m h k d = some d
  | 0, n, d, q, _ => absurd q (Nat.not_lt_zero _)
  | k + 1, n, d, q, g => by
    have go : ∀ (j : Nat) (xs : List D), j < k → xs.all (D.gs j) = true → frzL (frz m h k) xs = some xs := by
      intro j xs hj
      induction xs with
      | nil => intro _; rfl
      | cons x r ih =>
        intro g
        rw [List.all_cons, Bool.and_eq_true] at g
        simp only [frzL, frz_gs k j x hj g.1, Option.bind_some, ih g.2, Option.map_some]
    cases n with
    | zero =>
      cases d with
      | non => rfl
      | int i => rfl
      | str x => rfl
      | _ => simp [D.gs] at g
    | succ n =>
      cases d with
      | lst xs =>
        show (frzL (frz m h k) xs).map D.lst = _
        rw [go n xs (by omega) (by simpa [D.gs] using g)]; rfl
      | tup xs =>
        show (frzL (frz m h k) xs).map D.tup = _
        rw [go n xs (by omega) (by simpa [D.gs] using g)]; rfl
      | non => rfl
      | int i => rfl
      | str x => rfl
      | _ => simp [D.gs] at g
theorem pure_gs : ∀ (n : Nat) (d : D), d.gs n = true → d.pure = true
  | n, .int i, _ => rfl
  | n, .non, _ => rfl
  | n, .str x, _ => rfl
  | n + 1, .lst xs, h => by
    have h : xs.all (D.gs n) = true := by simpa [D.gs] using h
    show pures xs = true
    induction xs with
    | nil => rfl
    | cons x r ih =>
      rw [List.all_cons, Bool.and_eq_true] at h
      simp only [pures, Bool.and_eq_true]
      exact ⟨pure_gs n x h.1, ih h.2 h.2⟩
  | n + 1, .tup xs, h => by
    have h : xs.all (D.gs n) = true := by simpa [D.gs] using h
    show pures xs = true
    induction xs with
    | nil => rfl
    | cons x r ih =>
      rw [List.all_cons, Bool.and_eq_true] at h
      simp only [pures, Bool.and_eq_true]
      exact ⟨pure_gs n x h.1, ih h.2 h.2⟩
  | 0, .lst xs, h => by simp [D.gs] at h
  | 0, .tup xs, h => by simp [D.gs] at h
  | n, .bl _, h => by cases n <;> simp [D.gs] at h
  | n, .kl _, h => by cases n <;> simp [D.gs] at h
  | n, .dic _, h => by cases n <;> simp [D.gs] at h
  | n, .cel _, h => by cases n <;> simp [D.gs] at h
  | n, .cls _, h => by cases n <;> simp [D.gs] at h
  | n, .ty _, h => by cases n <;> simp [D.gs] at h
  | n, .exc _, h => by cases n <;> simp [D.gs] at h
end Tb
namespace Tb
open PySem PySem.Spec PyProof.Rows L2
/-! ### exceptions that are caught -/
def tryR (c : Str) (i j : Nat) : RS → RS
  | .exc k l1 h1 => if subX k c = true then (if j < l1.length then .nx ((l1.set j (some (.exc k))).set i none) h1 else .bad) else .exc k l1 h1
  | r => r
def tryB (c : Str) (j : Nat) (v : Bool) : RS → RS
  | .exc k l1 h1 => if subX k c = true then (if j < l1.length then .nx (l1.set j (some (.bl v))) h1 else .bad) else .exc k l1 h1
  | r => r
section
variable {C : Cs} {b : Ss} {c k : Str} {i j : Nat} {v : Bool} {ls l1 : Ls} {h h1 : Hh} {d : D}
theorem eq_strs {x y : Str} : cmpD .Eq h (.str x) (.str y) = some (decide (x = y)) := rfl
theorem ne_strs {x y : Str} : cmpD .NotEq h (.str x) (.str y) = some (!decide (x = y)) := rfl
@[simp] theorem ev_tryA : evS C (.tryA b c i j) ls h = tryR c i j (evSs C b ls h) := by
  show (match evSs C b ls h with | .exc k l1 h1 => _ | r => r) = _
  cases evSs C b ls h <;> rfl
@[simp] theorem ev_tryK : evS C (.tryK b c j v) ls h = tryB c j v (evSs C b ls h) := by
  show (match evSs C b ls h with | .exc k l1 h1 => _ | r => r) = _
  cases evSs C b ls h <;> rfl
@[simp] theorem subX_back : subX k "BackError" = true := by unfold subX; simp
@[simp] theorem subX_self : subX k k = true := by unfold subX; simp
@[simp] theorem tryR_nx : tryR c i j (.nx l1 h1) = .nx l1 h1 := rfl
@[simp] theorem tryR_rt : tryR c i j (.rt d h1) = .rt d h1 := rfl
@[simp] theorem tryR_exc (q : subX k c = true) (hj : j < l1.length) : tryR c i j (.exc k l1 h1) = .nx ((l1.set j (some (.exc k))).set i none) h1 := by
  unfold tryR
  simp only [q, hj, if_true]
@[simp] theorem tryB_nx : tryB c j v (.nx l1 h1) = .nx l1 h1 := rfl
@[simp] theorem tryB_rt : tryB c j v (.rt d h1) = .rt d h1 := rfl
@[simp] theorem tryB_exc (q : subX k c = true) (hj : j < l1.length) : tryB c j v (.exc k l1 h1) = .nx (l1.set j (some (.bl v))) h1 := by
  unfold tryB
  simp only [q, hj, if_true]
@[simp] theorem isi_exc_cls {n m : Str} : isiD h (.exc n) (.cls m) = some (subX n m) := rfl
@[simp] theorem isi_exc_val {n : Str} : isiD h (.exc n) (.ty "ValueError") = some true := rfl
@[simp] theorem isi_exc_tup {n : Str} {ms : List D} : isiD h (.exc n) (.tup ms) = (clsL ms).map fun l => l.any (subX n) := rfl
@[simp] theorem is_exc_non {n : Str} : cmpD .Is h (.exc n) .non = some false := rfl
@[simp] theorem isn_exc_non {n : Str} : cmpD .IsNot h (.exc n) .non = some true := rfl
end
end Tb
namespace Tb
theorem fnS_run2 {C : Cs} {n np : Nat} {b : Ss} {ds : List D} {h : Hh} {ls : Ls} (hl : ds.length = np) (e : ds.map some ++ List.replicate (n - ds.length) none = ls) : fnS C n np b ds h = endR (evSs C b ls h) := by
  subst e
  exact fnS_run hl
theorem w_fnS2 {C : Cs} {n np : Nat} {b : Ss} {ds : List D} {h : Hh} {Q : D → Hh → Prop} {ls : Ls} (hl : ds.length = np) (e : ds.map some ++ List.replicate (n - ds.length) none = ls) (w : WS (evSs C b ls h) (fun _ h1 => Q .non h1) Q no2 no2) : W (fnS C n np b ds h) Q := by
  subst e
  exact w_fnS hl w
end Tb
local macro_rules | `(tactic| walk_at "ln") => `(tactic| ((try simp only [List.length_append, List.length_cons, List.length_nil, List.length_map, List.length_reverse, List.length_set, List.length_range, List.length_replicate, List.length_take, List.length_drop]); omega))
namespace U
open PySem PySem.Spec PyProof.Rows L2 Tb
/-! series over a ring -/
structure Ser (R : Type) where
  at_ : Nat → R
namespace Po
open Lean.Grind
section
variable {R : Type} [CommRing R]
def tl (f : Nat → R) : Nat → R := fun i => f (i + 1)
def mulS : (Nat → R) → (Nat → R) → Nat → R
  | f, g, 0 => f 0 * g 0
  | f, g, n + 1 => f 0 * g (n + 1) + mulS (tl f) g n
theorem mulS_addL (f f' g : Nat → R) (n : Nat) : mulS (fun i => f i + f' i) g n = mulS f g n + mulS f' g n := by
  induction n generalizing f f' with
  | zero => simp only [mulS]; grind
  | succ n ih => simp only [mulS]; have := ih (tl f) (tl f'); unfold tl at *; rw [this]; grind
theorem mulS_addR (f g g' : Nat → R) (n : Nat) : mulS f (fun i => g i + g' i) n = mulS f g n + mulS f g' n := by
  induction n generalizing f with
  | zero => simp only [mulS]; grind
  | succ n ih => simp only [mulS]; rw [ih]; grind
theorem mulS_smL (c : R) (f g : Nat → R) (n : Nat) : mulS (fun i => c * f i) g n = c * mulS f g n := by
  induction n generalizing f with
  | zero => simp only [mulS]; grind
  | succ n ih => simp only [mulS]; have := ih (tl f); unfold tl at *; rw [this]; grind
theorem mulS_succ (f g : Nat → R) (n : Nat) : mulS f g (n + 1) = g 0 * f (n + 1) + mulS f (tl g) n := by
  induction n generalizing f with
  | zero => simp only [mulS, tl]; grind
  | succ n ih =>
    rw [mulS, ih (tl f), mulS]
    simp only [tl]
    grind
theorem mulS_comm (f g : Nat → R) (n : Nat) : mulS f g n = mulS g f n := by
  induction n generalizing f g with
  | zero => simp only [mulS]; grind
  | succ n ih => rw [mulS, ih (tl f) g, mulS_succ g f]
theorem mulS_assoc (f g h : Nat → R) (n : Nat) : mulS (mulS f g) h n = mulS f (mulS g h) n := by
  induction n generalizing f g with
  | zero => simp only [mulS]; grind
  | succ n ih =>
    have e : tl (mulS f g) = fun i => f 0 * tl g i + mulS (tl f) g i := by
      funext i; simp only [tl, mulS]
    rw [mulS, e, mulS_addL, mulS_smL, ih (tl f) g, mulS, mulS]
    simp only [mulS]
    grind
theorem mulS_zL (g : Nat → R) (n : Nat) : mulS (fun _ => 0) g n = 0 := by
  induction n with
  | zero => simp only [mulS]; grind
  | succ n ih =>
    have e : tl (fun _ => (0 : R)) = fun _ => 0 := rfl
    rw [mulS, e, ih]; grind
def csS (c : R) : Nat → R := fun i => if i = 0 then c else 0
theorem mulS_cs (c : R) (g : Nat → R) (n : Nat) : mulS (csS c) g n = c * g n := by
  cases n with
  | zero => simp [mulS, csS]
  | succ n =>
    have e : tl (csS c) = fun _ => 0 := by funext i; simp [tl, csS]
    rw [mulS, e, mulS_zL]
    simp [csS]
    grind
end
@[ext] theorem Ser.ext {R : Type} {f g : Ser R} (h : ∀ i, f.at_ i = g.at_ i) : f = g := by
  cases f; cases g; congr 1; funext i; exact h i
section
variable {R : Type} [CommRing R]
def C (c : R) : Ser R := ⟨csS c⟩
instance : Add (Ser R) := ⟨fun f g => ⟨fun i => f.at_ i + g.at_ i⟩⟩
instance : Mul (Ser R) := ⟨fun f g => ⟨mulS f.at_ g.at_⟩⟩
instance : Neg (Ser R) := ⟨fun f => ⟨fun i => - f.at_ i⟩⟩
instance : Sub (Ser R) := ⟨fun f g => ⟨fun i => f.at_ i - g.at_ i⟩⟩
def powS (f : Ser R) : Nat → Ser R
  | 0 => C 1
  | n + 1 => powS f n * f
theorem add_at (f g : Ser R) (i : Nat) : (f + g).at_ i = f.at_ i + g.at_ i := rfl
theorem sub_at (f g : Ser R) (i : Nat) : (f - g).at_ i = f.at_ i - g.at_ i := rfl
theorem neg_at (f : Ser R) (i : Nat) : (-f).at_ i = - f.at_ i := rfl
theorem mul_at (f g : Ser R) (i : Nat) : (f * g).at_ i = mulS f.at_ g.at_ i := rfl
theorem C_at (c : R) (i : Nat) : (C c).at_ i = if i = 0 then c else 0 := rfl
theorem cs_eq (c : R) (g : Ser R) : (C c * g) = ⟨fun i => c * g.at_ i⟩ := by
  apply Ser.ext; intro i; exact mulS_cs c g.at_ i
theorem C_add (a b : R) : C (a + b) = C a + C b := by
  apply Ser.ext; intro i; rw [add_at, C_at, C_at, C_at]; split <;> grind
theorem C_neg (a : R) : C (-a) = - C a := by
  apply Ser.ext; intro i; rw [neg_at, C_at, C_at]; split <;> grind
theorem C_mul (a b : R) : C (a * b) = C a * C b := by
  rw [cs_eq]; apply Ser.ext; intro i; rw [C_at]; show _ = a * (C b).at_ i; rw [C_at]; split <;> grind
instance ringS : CommRing (Ser R) where
  natCast := ⟨fun n => C (Semiring.natCast.natCast n)⟩
  ofNat n := ⟨C (Semiring.natCast.natCast n)⟩
  nsmul := ⟨fun n f => C (Semiring.natCast.natCast n) * f⟩
  npow := ⟨powS⟩
  intCast := ⟨fun n => C (Ring.intCast.intCast n)⟩
  zsmul := ⟨fun n f => C (Ring.intCast.intCast n) * f⟩
  add_zero f := by
    apply Ser.ext; intro i
    show f.at_ i + (if i = 0 then (Semiring.natCast.natCast 0 : R) else 0) = _
    have : (Semiring.natCast.natCast 0 : R) = 0 := Semiring.natCast_zero
    rw [this]; split <;> grind
  add_comm f g := by apply Ser.ext; intro i; rw [add_at, add_at]; grind
  add_assoc f g h := by apply Ser.ext; intro i; simp only [add_at]; grind
  mul_assoc f g h := by apply Ser.ext; intro i; exact mulS_assoc f.at_ g.at_ h.at_ i
  mul_comm f g := by apply Ser.ext; intro i; exact mulS_comm f.at_ g.at_ i
  mul_one f := by
    apply Ser.ext; intro i
    have e : (Semiring.natCast.natCast 1 : R) = 1 := Semiring.natCast_one
    show mulS f.at_ (csS (Semiring.natCast.natCast 1)) i = _
    rw [e, mulS_comm, mulS_cs]; grind
  one_mul f := by
    apply Ser.ext; intro i
    have e : (Semiring.natCast.natCast 1 : R) = 1 := Semiring.natCast_one
    show mulS (csS (Semiring.natCast.natCast 1)) f.at_ i = _
    rw [e, mulS_cs]; grind
  right_distrib f g h := by apply Ser.ext; intro i; exact mulS_addL f.at_ g.at_ h.at_ i
  mul_zero f := by
    apply Ser.ext; intro i
    have e : (Semiring.natCast.natCast 0 : R) = 0 := Semiring.natCast_zero
    show mulS f.at_ (csS (Semiring.natCast.natCast 0)) i = (C _).at_ i
    rw [e, mulS_comm, mulS_cs, C_at]; split <;> grind
  left_distrib f g h := by apply Ser.ext; intro i; exact mulS_addR f.at_ g.at_ h.at_ i
  zero_mul f := by
    apply Ser.ext; intro i
    have e : (Semiring.natCast.natCast 0 : R) = 0 := Semiring.natCast_zero
    show mulS (csS (Semiring.natCast.natCast 0)) f.at_ i = (C _).at_ i
    rw [e, mulS_cs, C_at]; split <;> grind
  pow_zero f := by
    show C 1 = C _
    congr 1; exact Semiring.natCast_one.symm
  pow_succ f n := rfl
  ofNat_succ n := by
    show C _ = C _ + C _
    rw [← C_add]; congr 1
    have := Semiring.natCast_succ (α := R) n
    have e : (Semiring.natCast.natCast 1 : R) = 1 := Semiring.natCast_one
    rw [e]; exact this
  ofNat_eq_natCast n := rfl
  nsmul_eq_natCast_mul n f := rfl
  neg_add_cancel f := by
    apply Ser.ext; intro i
    have e : (Semiring.natCast.natCast 0 : R) = 0 := Semiring.natCast_zero
    show - f.at_ i + f.at_ i = (C _).at_ i
    rw [e, C_at]; split <;> grind
  sub_eq_add_neg f g := by apply Ser.ext; intro i; rw [sub_at, add_at, neg_at]; grind
  neg_zsmul n f := by
    show C _ * f = -(C _ * f)
    have : (Ring.intCast.intCast (-n) : R) = - Ring.intCast.intCast n := Ring.intCast_neg n
    rw [this, cs_eq, cs_eq]; apply Ser.ext; intro i
    show _ * _ = - (_ * _)
    grind
  zsmul_natCast_eq_nsmul n f := by
    show C _ * f = C _ * f
    congr 2; exact Ring.intCast_natCast n
  intCast_ofNat n := by
    show C _ = C _
    congr 1; exact Ring.intCast_natCast n
  intCast_neg n := by
    show C _ = - C _
    rw [← C_neg]; congr 1; exact Ring.intCast_neg n
theorem C_0 : (C 0 : Ser R) = 0 := by
  show C 0 = C _
  congr 1; exact Semiring.natCast_zero.symm
theorem C_1 : (C 1 : Ser R) = 1 := by
  show C 1 = C _
  congr 1; exact Semiring.natCast_one.symm
theorem zero_at (i : Nat) : (0 : Ser R).at_ i = 0 := by rw [← C_0, C_at]; split <;> rfl
theorem one_at (i : Nat) : (1 : Ser R).at_ i = if i = 0 then 1 else 0 := by rw [← C_1, C_at]
theorem C_sub (a b : R) : C (a - b) = C a - C b := by
  rw [show a - b = a + -b by grind, C_add, C_neg]; grind
example (a b c : Ser R) : (a + b) * (a - b) + c = a * a - b * b + c := by grind
end
section
variable {R : Type} [CommRing R]
def X : Ser R := ⟨fun i => if i = 1 then 1 else 0⟩
def Dg (f : Ser R) (n : Nat) : Prop := ∀ i, n ≤ i → f.at_ i = 0
def Pol (f : Ser R) : Prop := ∃ n, Dg f n
variable {f g : Ser R} {n m : Nat}
theorem Dg.le (h : Dg f n) (q : n ≤ m) : Dg f m := fun i hi => h i (by omega)
theorem Dg.add (h : Dg f n) (k : Dg g n) : Dg (f + g) n := fun i hi => by rw [add_at, h i hi, k i hi]; grind
theorem Dg.sub (h : Dg f n) (k : Dg g n) : Dg (f - g) n := fun i hi => by rw [sub_at, h i hi, k i hi]; grind
theorem Dg.neg (h : Dg f n) : Dg (-f) n := fun i hi => by rw [neg_at, h i hi]; grind
theorem Dg.C {c : R} : Dg (C c) 1 := fun i hi => by rw [C_at, if_neg (by omega)]
theorem Dg.zero : Dg (0 : Ser R) n := fun i _ => zero_at i
theorem Dg.one : Dg (1 : Ser R) 1 := by rw [← C_1]; exact Dg.C
theorem Dg.X : Dg (X : Ser R) 2 := fun i hi => if_neg (by omega)
theorem Dg_zero (h : Dg f 0) : f = 0 := by apply Ser.ext; intro i; rw [h i (Nat.zero_le _), zero_at]
theorem mulS_dg : ∀ (n : Nat) (a b : Nat → R) (m : Nat), (∀ i, n + 1 ≤ i → a i = 0) → (∀ i, m + 1 ≤ i → b i = 0) → mulS a b (n + m) = a n * b m ∧ ∀ k, n + m + 1 ≤ k → mulS a b k = 0
  | 0, a, b, m, ha, hb => by
    have e : a = csS (a 0) := by
      funext i
      cases i with
      | zero => rfl
      | succ i => rw [ha _ (by omega)]; rfl
    rw [e]
    simp only [mulS_cs]
    refine ⟨by simp [csS], fun k hk => ?_⟩
    rw [hb k (by omega)]; grind
  | n + 1, a, b, m, ha, hb => by
    obtain ⟨h1, h2⟩ := mulS_dg n (tl a) b m (fun i hi => ha (i + 1) (by omega)) hb
    refine ⟨?_, fun k hk => ?_⟩
    · rw [show n + 1 + m = n + m + 1 by omega, mulS, h1, hb _ (by omega)]
      show _ + a (n + 1) * _ = _
      grind
    · obtain ⟨k, rfl⟩ : ∃ j, k = j + 1 := ⟨k - 1, by omega⟩
      rw [mulS, h2 k (by omega), hb _ (by omega)]; grind
theorem lead (h : Dg f (n + 1)) (k : Dg g (m + 1)) : (f * g).at_ (n + m) = f.at_ n * g.at_ m ∧ Dg (f * g) (n + m + 1) := mulS_dg n f.at_ g.at_ m h k
theorem Dg.mul1 (h : Dg f (n + 1)) (k : Dg g m) : Dg (f * g) (n + m) := by
  cases m with
  | zero => rw [Dg_zero k, show f * 0 = 0 by grind]; exact Dg.zero
  | succ m => exact (lead h k).2
theorem Dg.mul (h : Dg f n) (k : Dg g m) : Dg (f * g) (n + m) := by
  cases n with
  | zero => rw [Dg_zero h, show 0 * g = 0 by grind]; exact Dg.zero
  | succ n => exact (Dg.mul1 h k).le (by omega)
theorem Pol.add (h : Pol f) (k : Pol g) : Pol (f + g) := let ⟨n, a⟩ := h; let ⟨m, b⟩ := k; ⟨max n m, (a.le (by omega)).add (b.le (by omega))⟩
theorem Pol.sub (h : Pol f) (k : Pol g) : Pol (f - g) := let ⟨n, a⟩ := h; let ⟨m, b⟩ := k; ⟨max n m, (a.le (by omega)).sub (b.le (by omega))⟩
theorem Pol.neg (h : Pol f) : Pol (-f) := let ⟨n, a⟩ := h; ⟨n, a.neg⟩
theorem Pol.mul (h : Pol f) (k : Pol g) : Pol (f * g) := let ⟨n, a⟩ := h; let ⟨m, b⟩ := k; ⟨n + m, a.mul b⟩
theorem Pol.C {c : R} : Pol (C c) := ⟨1, Dg.C⟩
theorem Pol.zero : Pol (0 : Ser R) := ⟨0, Dg.zero⟩
theorem Pol.one : Pol (1 : Ser R) := ⟨1, Dg.one⟩
theorem Pol.X : Pol (X : Ser R) := ⟨2, Dg.X⟩
/-- just so many numbers -/
def Sz (f : Ser R) (n : Nat) : Prop := Dg f n ∧ (0 < n → f.at_ (n - 1) ≠ 0)
theorem sz_ex : ∀ n : Nat, Dg f n → ∃ m, m ≤ n ∧ Sz f m
  | 0, h => ⟨0, Nat.le_refl _, h, fun z => absurd z (Nat.lt_irrefl _)⟩
  | n + 1, h => by
    by_cases q : f.at_ n = 0
    · obtain ⟨m, a, b⟩ := sz_ex n fun i hi => by
        by_cases z : i = n
        · rw [z]; exact q
        · exact h i (by omega)
      exact ⟨m, by omega, b⟩
    · exact ⟨n + 1, Nat.le_refl _, h, fun _ => q⟩
theorem Sz.le (h : Sz f n) (k : Dg f m) : n ≤ m := by
  by_cases q : n ≤ m
  · exact q
  · exact absurd (k (n - 1) (by omega)) (h.2 (by omega))
theorem Sz.uniq (h : Sz f n) (k : Sz f m) : n = m := Nat.le_antisymm (h.le k.1) (k.le h.1)
theorem Sz.zero (h : Sz f 0) : f = 0 := Dg_zero h.1
theorem Sz.pos (h : Sz f n) (q : f ≠ 0) : 0 < n := by
  cases n with
  | zero => exact absurd h.zero q
  | succ n => omega
theorem Sz.ne (h : Sz f (n + 1)) : f ≠ 0 := fun z => h.2 (by omega) (by rw [z, zero_at])
theorem Pol.sz (h : Pol f) : ∃ n, Sz f n := let ⟨n, a⟩ := h; let ⟨m, _, b⟩ := sz_ex n a; ⟨m, b⟩
end
/-- a field -/
def Fld (R : Type) [CommRing R] : Prop := (∀ a : R, a ≠ 0 → ∃ b, a * b = 1) ∧ (1 : R) ≠ 0
section
variable {R : Type} [CommRing R] {f g a b c d q r q' r' u v : Ser R} {n m : Nat} (K : Fld R)
theorem Fld.mul {x y : R} (K : Fld R) (hx : x ≠ 0) (hy : y ≠ 0) : x * y ≠ 0 := by
  intro z
  obtain ⟨w, e⟩ := K.1 x hx
  apply hy
  have : y = (x * w) * y := by rw [e]; grind
  rw [this]; grind
include K
theorem Sz.mul (h : Sz f (n + 1)) (k : Sz g (m + 1)) : Sz (f * g) (n + m + 1) := by
  obtain ⟨e, d⟩ := lead h.1 k.1
  refine ⟨d, fun _ => ?_⟩
  rw [show n + m + 1 - 1 = n + m by omega, e]
  exact K.mul (h.2 (by omega)) (k.2 (by omega))
theorem mul_ne (pf : Pol f) (pg : Pol g) (hf : f ≠ 0) (hg : g ≠ 0) : f * g ≠ 0 := by
  obtain ⟨n, sf⟩ := pf.sz
  obtain ⟨m, sg⟩ := pg.sz
  have := sf.pos hf
  have := sg.pos hg
  obtain ⟨n, rfl⟩ : ∃ j, n = j + 1 := ⟨n - 1, by omega⟩
  obtain ⟨m, rfl⟩ : ∃ j, m = j + 1 := ⟨m - 1, by omega⟩
  exact (Sz.mul K sf sg).ne
theorem cancel (pf : Pol f) (pa : Pol a) (pb : Pol b) (hf : f ≠ 0) (e : f * a = f * b) : a = b := by
  by_cases q : a - b = 0
  · grind
  · exact absurd (show f * (a - b) = 0 by grind) (mul_ne K pf (pa.sub pb) hf q)
theorem div_uniq (sb : Sz b (n + 1)) (pq : Pol q) (pq' : Pol q') (dr : Dg r n) (dr' : Dg r' n) (e : b * q + r = b * q' + r') : q = q' ∧ r = r' := by
  have z : q - q' = 0 := by
    by_cases z : q - q' = 0
    · exact z
    · exfalso
      obtain ⟨m, sm⟩ := (pq.sub pq').sz
      have := sm.pos z
      obtain ⟨m, rfl⟩ : ∃ j, m = j + 1 := ⟨m - 1, by omega⟩
      have s := Sz.mul K sb sm
      have e2 : b * (q - q') = r' - r := by grind
      rw [e2] at s
      exact s.2 (by omega) ((dr'.sub dr) _ (by omega))
  have : q = q' := by grind
  subst this
  exact ⟨rfl, by grind⟩
omit K
/-- what goes into another one -/
def Dv (b a : Ser R) : Prop := ∃ q, Pol q ∧ a = b * q
theorem Dv.refl : Dv a a := ⟨1, Pol.one, by grind⟩
theorem Dv.trans (h : Dv a b) (k : Dv b c) : Dv a c := let ⟨q, p, e⟩ := h; let ⟨q', p', e'⟩ := k; ⟨q * q', p.mul p', by grind⟩
theorem Dv.add (h : Dv a b) (k : Dv a c) : Dv a (b + c) := let ⟨q, p, e⟩ := h; let ⟨q', p', e'⟩ := k; ⟨q + q', p.add p', by grind⟩
theorem Dv.sub (h : Dv a b) (k : Dv a c) : Dv a (b - c) := let ⟨q, p, e⟩ := h; let ⟨q', p', e'⟩ := k; ⟨q - q', p.sub p', by grind⟩
theorem Dv.mulR (h : Dv a b) (p : Pol c) : Dv a (b * c) := let ⟨q, p', e⟩ := h; ⟨q * c, p'.mul p, by grind⟩
theorem Dv.mulL (h : Dv a b) (p : Pol c) : Dv a (c * b) := let ⟨q, p', e⟩ := h; ⟨q * c, p'.mul p, by grind⟩
theorem Dv.zero : Dv a 0 := ⟨0, Pol.zero, by grind⟩
def Mon (f : Ser R) : Prop := ∃ n, Dg f (n + 1) ∧ f.at_ n = 1
theorem Mon.pol (h : Mon f) : Pol f := let ⟨n, a, _⟩ := h; ⟨n + 1, a⟩
theorem Mon.sz (K : Fld R) (h : Mon f) : ∃ n, Sz f (n + 1) ∧ f.at_ n = 1 := let ⟨n, a, e⟩ := h; ⟨n, ⟨a, fun _ => by rw [show n + 1 - 1 = n by omega, e]; exact K.2⟩, e⟩
theorem Mon.ne (K : Fld R) (h : Mon f) : f ≠ 0 := let ⟨_, a, _⟩ := h.sz K; a.ne
theorem Mon.one : Mon (1 : Ser R) := ⟨0, Dg.one, one_at 0⟩
include K
theorem dv_anti (pa : Mon a) (pb : Mon b) (h : Dv a b) (k : Dv b a) : a = b := by
  obtain ⟨q, pq, e⟩ := h
  obtain ⟨q', pq', e'⟩ := k
  have e1 : a * (q * q') = a * 1 := by grind
  have e2 := cancel K pa.pol (pq.mul pq') Pol.one (pa.ne K) e1
  obtain ⟨n, sn⟩ := pq.sz
  obtain ⟨m, sm⟩ := pq'.sz
  have one : Sz (1 : Ser R) 1 := ⟨Dg.one, fun _ => by rw [one_at]; exact K.2⟩
  have n0 : 0 < n := sn.pos fun z => one.ne (by rw [← e2, z]; grind)
  have m0 : 0 < m := sm.pos fun z => one.ne (by rw [← e2, z]; grind)
  obtain ⟨n, rfl⟩ : ∃ j, n = j + 1 := ⟨n - 1, by omega⟩
  obtain ⟨m, rfl⟩ : ∃ j, m = j + 1 := ⟨m - 1, by omega⟩
  have s := Sz.mul K sn sm
  rw [e2] at s
  have nm := s.uniq one
  obtain rfl : n = 0 := by omega
  have qc : q = C (q.at_ 0) := by
    apply Ser.ext; intro i
    rw [C_at]
    cases i with
    | zero => rfl
    | succ i => rw [sn.1 (i + 1) (by omega)]; rfl
  obtain ⟨k, da, ea⟩ := pa
  obtain ⟨l, sl, el⟩ := pb.sz K
  obtain ⟨k', sa, ea'⟩ := Mon.sz K ⟨k, da, ea⟩
  have s2 := Sz.mul K sa sn
  rw [← e] at s2
  have kl : k' + 0 + 1 = l + 1 := s2.uniq sl
  have := (lead sa.1 sn.1).1
  rw [← e, ea', show k' + 0 = l by omega, el] at this
  have q1 : q = 1 := by
    rw [qc, ← C_1]; congr 1; grind
  rw [e, q1]; grind
omit K
/-- the greatest one that goes into both -/
def Gc (a b g : Ser R) : Prop := Pol g ∧ Dv g a ∧ Dv g b ∧ ∃ u v, Pol u ∧ Pol v ∧ g = u * a + v * b
theorem Gc.dv (h : Gc a b g) (ka : Dv c a) (kb : Dv c b) : Dv c g := by
  obtain ⟨_, _, _, u, v, pu, pv, e⟩ := h
  rw [e]; exact (ka.mulL pu).add (kb.mulL pv)
theorem Gc.uniq (K : Fld R) (h : Gc a b f) (k : Gc a b g) (mf : Mon f) (mg : Mon g) : f = g := dv_anti K mf mg (k.dv h.2.1 h.2.2.1) (h.dv k.2.1 k.2.2.1)
theorem Gc.symm (h : Gc a b g) : Gc b a g := by
  obtain ⟨p, x, y, u, v, pu, pv, e⟩ := h
  exact ⟨p, y, x, v, u, pv, pu, by grind⟩
/-- one step of the row of divisions -/
theorem Gc.step (pq : Pol q) (e : a = b * q + r) (h : Gc b r g) : Gc a b g := by
  obtain ⟨p, x, y, u, v, pu, pv, e2⟩ := h
  refine ⟨p, ?_, x, v, u - v * q, pv, pu.sub (pv.mul pq), by grind⟩
  rw [e]; exact (x.mulR pq).add y
theorem Gc.last (h : Pol a) : Gc a 0 a := ⟨h, Dv.refl, Dv.zero, 1, 0, Pol.one, Pol.zero, by grind⟩
/-- by a number -/
theorem Gc.num {x y : R} (h : Gc a b g) (e : x * y = 1) : Gc a b (g * C x) := by
  obtain ⟨p, ⟨q1, p1, e1⟩, ⟨q2, p2, e2⟩, u, v, pu, pv, e3⟩ := h
  have e4 : (C x : Ser R) * C y = 1 := by rw [← C_mul, e, C_1]
  exact ⟨p.mul Pol.C, ⟨q1 * C y, p1.mul Pol.C, by grind⟩, ⟨q2 * C y, p2.mul Pol.C, by grind⟩, u * C x, v * C x, pu.mul Pol.C, pv.mul Pol.C, by grind⟩
/-- quotients of one -/
theorem quo_uniq (K : Fld R) (pa : Pol a) (pc : Pol c) (mb : Mon b) (md : Mon d) (h : Gc a b 1) (k : Gc c d 1) (e : a * d = c * b) : a = c ∧ b = d := by
  have bd : b = d := by
    refine dv_anti K mb md ?_ ?_
    · obtain ⟨_, _, _, u, v, pu, pv, e1⟩ := h
      exact ⟨u * c + v * d, (pu.mul pc).add (pv.mul md.pol), by grind⟩
    · obtain ⟨_, _, _, u, v, pu, pv, e1⟩ := k
      exact ⟨u * a + v * b, (pu.mul pa).add (pv.mul mb.pol), by grind⟩
  subst bd
  refine ⟨cancel K mb.pol pa pc (mb.ne K) (by grind), rfl⟩
/-- both by what goes into both -/
theorem Gc.quo (K : Fld R) (pa : Pol a) (pb : Pol b) (pg : g ≠ 0) (h : Gc (g * a) (g * b) g) : Gc a b 1 := by
  obtain ⟨p, _, _, u, v, pu, pv, e⟩ := h
  refine ⟨Pol.one, ⟨a, pa, by grind⟩, ⟨b, pb, by grind⟩, u, v, pu, pv, ?_⟩
  exact cancel K p Pol.one ((pu.mul pa).add (pv.mul pb)) pg (by grind)
/-! worths -/
def Ev (f : Ser R) (x r : R) : Prop := ∃ q, Pol q ∧ f = (X - C x) * q + C r
variable {x y z w s t : R}
theorem Dg_lin : Dg (Po.X - Po.C x : Ser R) 2 := Dg.X.sub (Dg.C.le (by omega))
theorem Mon_lin : Mon (Po.X - Po.C x : Ser R) := ⟨1, Dg_lin, by
  rw [sub_at, C_at, if_neg (by omega)]
  show (if 1 = 1 then 1 else 0) - 0 = (1 : R)
  rw [if_pos rfl]; grind⟩
theorem Ev.uniq (K : Fld R) (h : Ev f x s) (k : Ev f x t) : s = t := by
  obtain ⟨q, pq, e⟩ := h
  obtain ⟨q', pq', e'⟩ := k
  obtain ⟨n, sn, e1⟩ := (Mon_lin (x := x)).sz K
  have n1 : n = 1 := by
    have := sn.le Dg_lin
    have := Dg_lin (x := x)
    obtain ⟨k, a, b⟩ := Mon_lin (x := x)
    cases n with
    | zero =>
      have z := sn.1 1 (by omega)
      rw [sub_at, C_at, if_neg (by omega)] at z
      have : (1 : R) = 0 := by
        have : (Po.X : Ser R).at_ 1 = 1 := rfl
        rw [this] at z; grind
      exact absurd this K.2
    | succ n => omega
  subst n1
  have := (div_uniq K sn pq pq' (Dg.C (c := s)) (Dg.C (c := t)) (by grind)).2
  have z := congrArg (fun f => f.at_ 0) this
  simpa [C_at] using z
theorem Ev.C : Ev (C s) x s := ⟨0, Pol.zero, by grind⟩
theorem Ev.X : Ev X x x := ⟨1, Pol.one, by grind⟩
theorem Ev.zero : Ev (0 : Ser R) x 0 := by have := Ev.C (s := (0 : R)) (x := x); rw [C_0] at this; exact this
theorem Ev.add (h : Ev f x s) (k : Ev g x t) : Ev (f + g) x (s + t) := by
  obtain ⟨q, pq, e⟩ := h
  obtain ⟨q', pq', e'⟩ := k
  exact ⟨q + q', pq.add pq', by rw [C_add]; grind⟩
theorem Ev.sub (h : Ev f x s) (k : Ev g x t) : Ev (f - g) x (s - t) := by
  obtain ⟨q, pq, e⟩ := h
  obtain ⟨q', pq', e'⟩ := k
  exact ⟨q - q', pq.sub pq', by rw [C_sub]; grind⟩
theorem Ev.mul (pf : Pol f) (h : Ev f x s) (k : Ev g x t) : Ev (f * g) x (s * t) := by
  obtain ⟨q, pq, e⟩ := h
  obtain ⟨q', pq', e'⟩ := k
  exact ⟨q * Po.C t + f * q', (pq.mul Pol.C).add (pf.mul pq'), by rw [C_mul]; grind⟩
theorem Ev.root (h : Ev f x 0) : ∃ q, Pol q ∧ f = (Po.X - Po.C x) * q := by
  obtain ⟨q, pq, e⟩ := h
  exact ⟨q, pq, by rw [C_0] at e; grind⟩
theorem Ev.ex : ∀ (n : Nat) {f : Ser R}, Dg f n → ∃ s, Ev f x s
  | 0, f, h => by rw [Dg_zero h]; exact ⟨0, Ev.zero⟩
  | n + 1, f, h => by
    obtain ⟨s, e⟩ := Ev.ex n (f := ⟨tl f.at_⟩) fun i hi => h (i + 1) (by omega)
    have e2 : f = Po.X * ⟨tl f.at_⟩ + Po.C (f.at_ 0) := by
      apply Ser.ext; intro i
      rw [add_at, C_at, mul_at]
      cases i with
      | zero =>
        simp only [mulS, if_true]
        have : (Po.X : Ser R).at_ 0 = 0 := rfl
        rw [this]; grind
      | succ i =>
        rw [mulS]
        have : tl (Po.X : Ser R).at_ = csS 1 := by
          funext j; show (if j + 1 = 1 then (1 : R) else 0) = if j = 0 then 1 else 0
          by_cases q : j = 0 <;> simp [q]
        rw [this, mulS_cs]
        show _ = (if 0 = 1 then (1 : R) else 0) * _ + _ * f.at_ (i + 1) + _
        simp; grind
    refine ⟨x * s + f.at_ 0, ?_⟩
    have := (Ev.X (x := x)).mul Pol.X e
    have := this.add (Ev.C (s := f.at_ 0) (x := x))
    rw [← e2] at this
    exact this
/-- no more places of worth nought than numbers less one -/
theorem roots (K : Fld R) : ∀ (l : List R) (n : Nat) {f : Ser R}, Dg f n → f ≠ 0 → l.Nodup → (∀ x ∈ l, Ev f x 0) → l.length < n
  | [], n, f, h, ne, _, _ => by
    cases n with
    | zero => exact absurd (Dg_zero h) ne
    | succ n => simp
  | x :: l, n, f, h, ne, nd, al => by
    obtain ⟨m, mn, sm⟩ := sz_ex n h
    obtain ⟨q, pq, e⟩ := (al x List.mem_cons_self).root
    have q0 : q ≠ 0 := fun z => ne (by rw [e, z]; grind)
    obtain ⟨k, sk⟩ := pq.sz
    have := sk.pos q0
    obtain ⟨k, rfl⟩ : ∃ j, k = j + 1 := ⟨k - 1, by omega⟩
    obtain ⟨j, sj, e1⟩ := (Mon_lin (x := x)).sz K
    have s := Sz.mul K sj sk
    rw [← e] at s
    have mk := s.uniq sm
    have j1 : 0 < j := by
      cases j with
      | zero =>
        have z := sj.1 1 (by omega)
        rw [sub_at, C_at, if_neg (by omega)] at z
        have : (Po.X : Ser R).at_ 1 = 1 := rfl
        rw [this] at z
        exact absurd (show (1 : R) = 0 by grind) K.2
      | succ j => omega
    have := roots K l (k + 1) sk.1 q0 (List.nodup_cons.mp nd).2 fun y hy => by
      obtain ⟨t, et⟩ := Ev.ex (x := y) (k + 1) sk.1
      have e3 := ((Ev.X (x := y)).sub (Ev.C (s := x))).mul (Pol.X.sub Pol.C) et
      rw [← e] at e3
      have z := e3.uniq K (al y (List.mem_cons_of_mem _ hy))
      have ne2 : y - x ≠ 0 := fun w => (List.nodup_cons.mp nd).1 (by
        have : y = x := by grind
        rw [← this]; exact hy)
      by_cases t0 : t = 0
      · rw [← t0]; exact et
      · exact absurd z (K.mul ne2 t0)
    rw [List.length_cons]; omega
end
end Po
namespace Po
open Lean.Grind
/-! numbers by p -/
section
variable {p : Nat} [NeZero p]
def cz (p : Nat) [NeZero p] (a : Int) : Fin p := ⟨(a % p).toNat, by
  have : p ≠ 0 := NeZero.ne p
  have := Int.emod_lt_of_pos a (show (0 : Int) < p by omega)
  have := Int.emod_nonneg a (show (p : Int) ≠ 0 by omega)
  omega⟩
theorem p_pos : 0 < p := Nat.pos_of_ne_zero (NeZero.ne p)
theorem cz_val (a : Int) : (((cz p a).val : Nat) : Int) = a % p := by
  have := p_pos (p := p)
  have := Int.emod_nonneg a (show (p : Int) ≠ 0 by omega)
  show (((a % p).toNat : Nat) : Int) = _
  omega
theorem cz_eq {a b : Int} : cz p a = cz p b ↔ a % p = b % p := by
  rw [Fin.ext_iff, ← cz_val, ← cz_val]; omega
theorem cz_add (a b : Int) : cz p (a + b) = cz p a + cz p b := by
  rw [Fin.ext_iff, Fin.val_add]
  have : ((cz p (a + b)).val : Int) = ((((cz p a).val + (cz p b).val) % p : Nat) : Int) := by
    rw [cz_val, Int.natCast_emod, Int.natCast_add, cz_val, cz_val, ← Int.add_emod]
  exact Int.ofNat.inj this
theorem cz_mul (a b : Int) : cz p (a * b) = cz p a * cz p b := by
  rw [Fin.ext_iff, Fin.val_mul]
  have : ((cz p (a * b)).val : Int) = ((((cz p a).val * (cz p b).val) % p : Nat) : Int) := by
    rw [cz_val, Int.natCast_emod, Int.natCast_mul, cz_val, cz_val, ← Int.mul_emod]
  exact Int.ofNat.inj this
theorem cz_0 : cz p 0 = 0 := by
  rw [Fin.ext_iff, Fin.val_zero]; rfl
theorem cz_sub (a b : Int) : cz p (a - b) = cz p a - cz p b := by
  have := cz_add (p := p) (a - b) b
  rw [show a - b + b = a by omega] at this
  rw [this]; grind
theorem cz_neg (a : Int) : cz p (-a) = - cz p a := by
  have := cz_sub (p := p) 0 a
  rw [show (0 : Int) - a = -a by omega, cz_0] at this
  rw [this]; grind
theorem cz_mod (a : Int) : cz p (a % p) = cz p a := by
  rw [cz_eq, Int.emod_emod_of_dvd _ (Int.dvd_refl _)]
theorem cz_1 : cz p 1 = 1 := by
  have h := p_pos (p := p)
  have : cz p 1 * 1 = 1 * 1 → cz p 1 = 1 := by grind
  obtain ⟨q, rfl⟩ : ∃ q, p = q + 1 := ⟨p - 1, by omega⟩
  rw [Fin.ext_iff]
  have e : (((cz (q + 1) 1).val : Nat) : Int) = 1 % ((q + 1 : Nat) : Int) := cz_val 1
  have e2 : (((1 : Fin (q + 1)).val : Nat) : Int) = 1 % ((q + 1 : Nat) : Int) := by
    rfl
  omega
theorem cz_inj {a b : Int} (a0 : 0 ≤ a) (a1 : a < p) (b0 : 0 ≤ b) (b1 : b < p) (e : cz p a = cz p b) : a = b := by
  rw [cz_eq, Int.emod_eq_of_lt a0 a1, Int.emod_eq_of_lt b0 b1] at e; exact e
theorem cz_zero {a : Int} : cz p a = 0 ↔ a % p = 0 := by
  rw [← cz_0, cz_eq]; simp
theorem cz_surj (x : Fin p) : cz p (x.val : Int) = x := by
  rw [Fin.ext_iff]
  have := cz_val (p := p) (x.val : Int)
  rw [Int.emod_eq_of_lt (by omega) (by have := x.isLt; omega)] at this
  omega
/-! lists of numbers -/
def ser (p : Nat) [NeZero p] (l : List Int) : Ser (Fin p) := ⟨fun i => cz p (l.getD i 0)⟩
def Red (p : Nat) (l : List Int) : Prop := ∀ a ∈ l, 0 ≤ a ∧ a < p
theorem ser_at (l : List Int) (i : Nat) : (ser p l).at_ i = cz p (l.getD i 0) := rfl
theorem ser_dg (l : List Int) : Dg (ser p l) l.length := fun i hi => by
  rw [ser_at, List.getD, List.getElem?_eq_none hi]; exact cz_0
theorem ser_pol (l : List Int) : Pol (ser p l) := ⟨_, ser_dg l⟩
theorem ser_nil : ser p [] = 0 := by
  apply Ser.ext; intro i; rw [zero_at, ser_at]; exact cz_0
theorem ser_cons (a : Int) (l : List Int) : ser p (a :: l) = C (cz p a) + X * ser p l := by
  apply Ser.ext; intro i
  rw [add_at, C_at, mul_at, ser_at]
  cases i with
  | zero =>
    simp only [mulS, if_true]
    have : (X : Ser (Fin p)).at_ 0 = 0 := rfl
    rw [this]; show cz p a = _; grind
  | succ i =>
    rw [mulS]
    have e : tl (X : Ser (Fin p)).at_ = csS 1 := by
      funext j; show (if j + 1 = 1 then (1 : Fin p) else 0) = if j = 0 then 1 else 0
      by_cases q : j = 0 <;> simp [q]
    have e0 : (X : Ser (Fin p)).at_ 0 = 0 := rfl
    rw [e, mulS_cs, e0, ser_at, if_neg (by omega), List.getD_cons_succ]
    simp only [ser_at]
    grind
theorem ser_one (a : Int) : ser p [a] = C (cz p a) := by rw [ser_cons, ser_nil]; grind
/-- so far up -/
def mono (k : Nat) (c : Fin p) : Ser (Fin p) := ⟨fun i => if i = k then c else 0⟩
theorem mono_0 (c : Fin p) : mono 0 c = C c := rfl
theorem mono_succ (k : Nat) (c : Fin p) : mono (k + 1) c = X * mono k c := by
  apply Ser.ext; intro i
  rw [mul_at]
  have e0 : (X : Ser (Fin p)).at_ 0 = 0 := rfl
  have e : tl (X : Ser (Fin p)).at_ = csS 1 := by
    funext j; show (if j + 1 = 1 then (1 : Fin p) else 0) = if j = 0 then 1 else 0
    by_cases q : j = 0 <;> simp [q]
  cases i with
  | zero => simp only [mulS, e0, mono]; rw [if_neg (by omega)]; grind
  | succ i =>
    rw [mulS, e, mulS_cs, e0]
    simp only [mono]
    by_cases q : i = k
    · rw [if_pos (by omega), if_pos q]; grind
    · rw [if_neg (by omega), if_neg q]; grind
theorem mono_mul (j k : Nat) (c d : Fin p) : mono j c * mono k d = mono (j + k) (c * d) := by
  induction j with
  | zero =>
    rw [mono_0, cs_eq, Nat.zero_add]; apply Ser.ext; intro i; simp only [mono]; split <;> grind
  | succ j ih => rw [mono_succ, show j + 1 + k = j + k + 1 by omega, mono_succ, ← ih]; grind
theorem mono_add (k : Nat) (c d : Fin p) : mono k (c + d) = mono k c + mono k d := by
  apply Ser.ext; intro i; rw [add_at]; simp only [mono]; split <;> grind
theorem mono_sub (k : Nat) (c d : Fin p) : mono k (c - d) = mono k c - mono k d := by
  apply Ser.ext; intro i; rw [sub_at]; simp only [mono]; split <;> grind
theorem mono_dg (k : Nat) (c : Fin p) : Dg (mono k c) (k + 1) := fun i hi => if_neg (by omega)
theorem mono_z (k : Nat) : mono k (0 : Fin p) = 0 := by
  apply Ser.ext; intro i; rw [zero_at]; simp only [mono]; split <;> rfl
theorem ser_set (l : List Int) (k : Nat) (v : Int) (hk : k < l.length) : ser p (l.set k v) = ser p l + mono k (cz p v - cz p l[k]) := by
  apply Ser.ext; intro i
  rw [add_at, ser_at, ser_at]
  simp only [mono, List.getD]
  by_cases q : i = k
  · subst q
    rw [List.getElem?_set_self hk, if_pos rfl, List.getElem?_eq_getElem hk]
    show cz p v = cz p l[i] + _; grind
  · rw [List.getElem?_set_ne (by omega), if_neg q]; grind
theorem ser_snoc (l : List Int) (a : Int) : ser p (l ++ [a]) = ser p l + mono l.length (cz p a) := by
  induction l with
  | nil => rw [ser_nil, List.nil_append, ser_one, List.length_nil, mono_0]; grind
  | cons b r ih => rw [List.cons_append, ser_cons, ser_cons, ih, List.length_cons, mono_succ]; grind
theorem ser_app0 (l : List Int) (k : Nat) : ser p (l ++ List.replicate k 0) = ser p l := by
  induction k with
  | zero => simp
  | succ k ih => rw [List.replicate_succ', ← List.append_assoc, ser_snoc, ih, cz_0, mono_z]; grind
theorem ser_rep0 (k : Nat) : ser p (List.replicate k 0) = 0 := by
  have := ser_app0 (p := p) [] k
  rw [List.nil_append] at this
  rw [this, ser_nil]
theorem ser_take_succ (l : List Int) (j : Nat) (hj : j < l.length) : ser p (l.take (j + 1)) = ser p (l.take j) + mono j (cz p l[j]) := by
  rw [← List.take_append_getElem hj, ser_snoc, List.length_take, Nat.min_eq_left (by omega)]
/-- the polynomials -/
def Can (p : Nat) (l : List Int) : Prop := Red p l ∧ ∀ (he : l ≠ []), l.getLast he ≠ 0
theorem Can.nil : Can p [] := ⟨fun a h => (by cases h), fun h => absurd rfl h⟩
theorem Can.sz {l : List Int} (h : Can p l) : Sz (ser p l) l.length := by
  refine ⟨ser_dg l, fun hl => ?_⟩
  have he : l ≠ [] := List.length_pos_iff.mp hl
  have e : l.getD (l.length - 1) 0 = l.getLast he := by
    rw [List.getD, List.getElem?_eq_getElem (by omega), List.getLast_eq_getElem]; rfl
  rw [ser_at, e]
  intro z
  have r := h.1 _ (List.getLast_mem he)
  exact h.2 he (cz_inj (p := p) r.1 r.2 (by omega) (by have := p_pos (p := p); omega) (by rw [z, cz_0]))
theorem red_inj {l k : List Int} (a : Red p l) (b : Red p k) (hl : l.length = k.length) (e : ser p l = ser p k) : l = k := by
  apply List.ext_getElem hl
  intro i h1 h2
  have e1 := congrArg (fun s => s.at_ i) e
  simp only [ser_at, List.getD, List.getElem?_eq_getElem h1, List.getElem?_eq_getElem h2, Option.getD_some] at e1
  have r1 := a _ (List.getElem_mem h1)
  have r2 := b _ (List.getElem_mem h2)
  exact cz_inj r1.1 r1.2 r2.1 r2.2 e1
theorem can_inj {l k : List Int} (a : Can p l) (b : Can p k) (e : ser p l = ser p k) : l = k :=
  red_inj a.1 b.1 (a.sz.uniq (e ▸ b.sz)) e
theorem Can.ne {l : List Int} (h : Can p l) (q : l ≠ []) : ser p l ≠ 0 := fun z => q (can_inj h Can.nil (by rw [z, ser_nil]))
theorem ser_eq0 {l : List Int} (h : Can p l) : ser p l = 0 ↔ l = [] := ⟨fun z => can_inj h Can.nil (by rw [z, ser_nil]), fun z => by rw [z, ser_nil]⟩
/-- the noughts behind off -/
def trimL (ns : List Int) : List Int := if h : ns = [] then [] else if ns.getLast h = 0 then trimL ns.dropLast else ns
termination_by ns.length
decreasing_by
  have := List.length_pos_iff.mpr h
  rw [List.length_dropLast]; omega
theorem trim_all : ∀ (n : Nat) (ns : List Int), ns.length = n → Red p ns → Can p (trimL ns) ∧ (trimL ns).length ≤ ns.length ∧ ser p (trimL ns) = ser p ns := by
  intro n
  induction n with
  | zero =>
    intro ns hl al
    obtain rfl : ns = [] := List.length_eq_zero_iff.mp hl
    rw [trimL, dif_pos rfl]
    exact ⟨Can.nil, Nat.le_refl _, rfl⟩
  | succ n ih =>
    intro ns hl al
    have he : ns ≠ [] := fun z => by rw [z] at hl; simp at hl
    rw [trimL, dif_neg he]
    by_cases q : ns.getLast he = 0
    · rw [if_pos q]
      obtain ⟨a, b, c⟩ := ih ns.dropLast (by rw [List.length_dropLast]; omega) fun x hx => al x (List.dropLast_subset _ hx)
      refine ⟨a, by rw [List.length_dropLast] at b; omega, ?_⟩
      rw [c]
      conv => rhs; rw [← List.dropLast_concat_getLast he, q, ser_snoc, cz_0, mono_z]
      grind
    · rw [if_neg q]
      exact ⟨⟨al, fun _ => q⟩, Nat.le_refl _, rfl⟩
theorem trim_can {ns : List Int} (h : Red p ns) : Can p (trimL ns) := (trim_all _ ns rfl h).1
theorem trim_len {ns : List Int} (h : Red p ns) : (trimL ns).length ≤ ns.length := (trim_all _ ns rfl h).2.1
theorem trim_ser {ns : List Int} (h : Red p ns) : ser p (trimL ns) = ser p ns := (trim_all _ ns rfl h).2.2
theorem trim_self {ns : List Int} (h : Can p ns) : trimL ns = ns := can_inj (trim_can h.1) h (trim_ser h.1)
/-- the polynomial of a series -/
def pol (n : Nat) (f : Ser (Fin p)) : List Int := trimL ((List.range n).map fun i => ((f.at_ i).val : Int))
theorem pol_red (n : Nat) (f : Ser (Fin p)) : Red p ((List.range n).map fun i => ((f.at_ i).val : Int)) := fun a ha => by
  obtain ⟨i, _, rfl⟩ := List.mem_map.mp ha
  have := (f.at_ i).isLt
  omega
theorem pol_can (n : Nat) (f : Ser (Fin p)) : Can p (pol n f) := trim_can (pol_red n f)
theorem pol_ser {n : Nat} {f : Ser (Fin p)} (h : Dg f n) : ser p (pol n f) = f := by
  rw [pol, trim_ser (pol_red n f)]
  apply Ser.ext; intro i
  rw [ser_at, List.getD]
  by_cases q : i < n
  · rw [List.getElem?_map, List.getElem?_range q]; exact cz_surj _
  · rw [List.getElem?_eq_none (by simp; omega), h i (by omega)]; exact cz_0
theorem pol_len (n : Nat) (f : Ser (Fin p)) : (pol n f).length ≤ n := by
  have := trim_len (pol_red n f)
  rw [List.length_map, List.length_range] at this
  exact this
theorem can_of {f : Ser (Fin p)} (h : Pol f) : ∃ l, Can p l ∧ ser p l = f := let ⟨n, a⟩ := h; ⟨pol n f, pol_can n f, pol_ser a⟩
theorem len_of {l : List Int} {n : Nat} (h : Can p l) (d : Dg (ser p l) n) : l.length ≤ n := h.sz.le d
/-- sums, products -/
def sumP (p : Nat) [NeZero p] (a b : List Int) : List Int := pol (max a.length b.length) (ser p a + ser p b)
def mulP (p : Nat) [NeZero p] (a b : List Int) : List Int := pol (a.length + b.length) (ser p a * ser p b)
def timP (p : Nat) [NeZero p] (a : List Int) (c : Int) : List Int := pol a.length (ser p a * C (cz p c))
theorem sumP_can (a b : List Int) : Can p (sumP p a b) := pol_can _ _
theorem mulP_can (a b : List Int) : Can p (mulP p a b) := pol_can _ _
theorem timP_can (a : List Int) (c : Int) : Can p (timP p a c) := pol_can _ _
theorem sumP_ser (a b : List Int) : ser p (sumP p a b) = ser p a + ser p b := pol_ser (((ser_dg a).le (by omega)).add ((ser_dg b).le (by omega)))
theorem mulP_ser (a b : List Int) : ser p (mulP p a b) = ser p a * ser p b := pol_ser ((ser_dg a).mul (ser_dg b))
theorem timP_ser (a : List Int) (c : Int) : ser p (timP p a c) = ser p a * C (cz p c) := pol_ser (by
  have := Dg.mul1 (n := 0) (Dg.C (c := cz p c)) (ser_dg (p := p) a)
  rw [show ser p a * C (cz p c) = C (cz p c) * ser p a by grind]
  rw [Nat.zero_add] at this; exact this)
theorem sumP_len (a b : List Int) : (sumP p a b).length ≤ max a.length b.length := pol_len _ _
theorem mulP_len (a b : List Int) : (mulP p a b).length ≤ a.length + b.length := pol_len _ _
theorem mulP_len1 (a b : List Int) : (mulP p a b).length ≤ a.length + b.length - 1 := by
  refine len_of (mulP_can a b) ?_
  rw [mulP_ser]
  cases a with
  | nil => rw [ser_nil, show (0 : Ser (Fin p)) * ser p b = 0 by grind]; exact Dg.zero
  | cons x r =>
    have := Dg.mul1 (n := r.length) (ser_dg (p := p) (x :: r)) (ser_dg (p := p) b)
    rw [List.length_cons, show r.length + 1 + b.length - 1 = r.length + b.length by omega]; exact this
theorem timP_len (a : List Int) (c : Int) : (timP p a c).length ≤ a.length := pol_len _ _
theorem trim_is {ns l : List Int} (h : Red p ns) (k : Can p l) (e : ser p ns = ser p l) : trimL ns = l := can_inj (trim_can h) k (by rw [trim_ser h, e])
/-- parted -/
def Dm (p : Nat) [NeZero p] (a b q r : List Int) : Prop := Can p q ∧ Can p r ∧ ser p a = ser p b * ser p q + ser p r ∧ r.length < b.length
theorem Dm.uniq (K : Fld (Fin p)) {a b q r q' r' : List Int} (hb : Can p b) (h : Dm p a b q r) (k : Dm p a b q' r') : q = q' ∧ r = r' := by
  obtain ⟨cq, cr, e, l⟩ := h
  obtain ⟨cq', cr', e', l'⟩ := k
  obtain ⟨n, hn⟩ : ∃ n, b.length = n + 1 := ⟨b.length - 1, by omega⟩
  have sb := hb.sz
  rw [hn] at sb
  obtain ⟨x, y⟩ := div_uniq K sb (ser_pol q) (ser_pol q') ((ser_dg r).le (by omega)) ((ser_dg r').le (by omega)) (by rw [← e, ← e'])
  exact ⟨can_inj cq cq' x, can_inj cr cr' y⟩
/-- the greatest divisor, its last number 1 -/
def Gd (p : Nat) [NeZero p] (a b g : List Int) : Prop := Can p g ∧ Gc (ser p a) (ser p b) (ser p g) ∧ ∃ he : g ≠ [], g.getLast he = 1
theorem last_mon {g : List Int} (he : g ≠ []) (e : g.getLast he = 1) : Mon (ser p g) := by
  have hl := List.length_pos_iff.mpr he
  refine ⟨g.length - 1, ?_, ?_⟩
  · have := ser_dg (p := p) g
    rw [show g.length - 1 + 1 = g.length by omega]; exact this
  · rw [ser_at, List.getD, List.getElem?_eq_getElem (by omega), ← cz_1]
    congr 1
    rw [List.getLast_eq_getElem] at e
    exact e
theorem mon_last (K : Fld (Fin p)) {g : List Int} (h : Can p g) (m : Mon (ser p g)) : ∃ he : g ≠ [], g.getLast he = 1 := by
  obtain ⟨n, s, e⟩ := m.sz K
  have hl := h.sz.uniq s
  have he : g ≠ [] := fun z => by rw [z] at hl; simp at hl
  refine ⟨he, ?_⟩
  have p2 : 1 < p := by
    by_cases z : p = 1
    · subst z; exact absurd (Subsingleton.elim (1 : Fin 1) 0) K.2
    · have := p_pos (p := p); omega
  have r := h.1 _ (List.getLast_mem he)
  refine cz_inj (p := p) r.1 r.2 (by omega) (by omega) ?_
  rw [cz_1, ← e, ser_at, List.getD, List.getElem?_eq_getElem (by omega), List.getLast_eq_getElem]
  congr 1
  simp [hl]
theorem Gd.uniq (K : Fld (Fin p)) {a b g g' : List Int} (h : Gd p a b g) (k : Gd p a b g') : g = g' := by
  obtain ⟨c, d, he, e⟩ := h
  obtain ⟨c', d', he', e'⟩ := k
  exact can_inj c c' (d.uniq K d' (last_mon he e) (last_mon he' e'))
theorem Gd.symm {a b g : List Int} (h : Gd p a b g) : Gd p b a g := ⟨h.1, h.2.1.symm, h.2.2⟩
/-! worths -/
def wor (p x : Int) : List Int → Int
  | [] => 0
  | a :: r => (wor p x r * x + a) % p
theorem wor_ev (x : Int) : ∀ l : List Int, Ev (ser p l) (cz p x) (cz p (wor p x l))
  | [] => by rw [ser_nil]; show Ev 0 _ (cz p 0); rw [cz_0]; exact Ev.zero
  | a :: r => by
    have := (Ev.C (s := cz p a) (x := cz p x)).add (Ev.X.mul Pol.X (wor_ev x r))
    rw [ser_cons]
    show Ev _ _ (cz p ((wor p x r * x + a) % p))
    rw [cz_mod, cz_add, cz_mul]
    have e : cz p a + cz p x * cz p (wor p x r) = cz p (wor p x r) * cz p x + cz p a := by grind
    rw [e] at this
    exact this
theorem wor_bd (x : Int) (l : List Int) : 0 ≤ wor p x l ∧ wor p x l < p := by
  have := p_pos (p := p)
  cases l with
  | nil => exact ⟨Int.le_refl _, by show (0 : Int) < p; omega⟩
  | cons a r => exact ⟨Int.emod_nonneg _ (by omega), Int.emod_lt_of_pos _ (by omega)⟩
theorem wor_is (K : Fld (Fin p)) {x : Int} {l : List Int} {w : Int} (e : Ev (ser p l) (cz p x) (cz p w)) : wor p x l = w % p := by
  have := (wor_ev x l).uniq K e
  rw [cz_eq] at this
  have b := wor_bd (p := p) x l
  rw [Int.emod_eq_of_lt b.1 b.2] at this
  exact this
end
end Po
end U
namespace U
open PySem PySem.Spec PyProof.Rows L2 Tb
/-! calls whose cells are ours -/
mutual
theorem sh_pure (n : Nat) : ∀ d : D, d.pure = true → d.sh n = d
  | .non, _ => rfl
  | .bl _, _ => rfl
  | .int _, _ => rfl
  | .str _, _ => rfl
  | .tup xs, h => by rw [D.sh, shs_pure n xs (by simpa [D.pure] using h)]
  | .lst xs, h => by rw [D.sh, shs_pure n xs (by simpa [D.pure] using h)]
  | .kl xs, h => by rw [D.sh, shs_pure n xs (by simpa [D.pure] using h)]
  | .dic kvs, h => by rw [D.sh, shK_pure n kvs (by simpa [D.pure] using h)]
  | .cel _, h => by simp [D.pure] at h
  | .cls _, _ => rfl
  | .ty _, _ => rfl
  | .exc _, _ => rfl
theorem shs_pure (n : Nat) : ∀ ds : List D, pures ds = true → shs n ds = ds
  | [], _ => rfl
  | d :: ds, h => by
    simp only [pures, Bool.and_eq_true] at h
    rw [shs, sh_pure n d h.1, shs_pure n ds h.2]
theorem shK_pure (n : Nat) : ∀ ds : List (Key × D), pureK ds = true → shK n ds = ds
  | [], _ => rfl
  | (k, d) :: ds, h => by
    simp only [pureK, Bool.and_eq_true] at h
    rw [shK, sh_pure n d h.1, shK_pure n ds h.2]
end
theorem w_callL {F : Fn} {ds : List D} {h : Hh} {Q : D → Hh → Prop} (hp : pures ds = true) (w : W (F ds []) fun d h' => h'.all O.noI = true ∧ Q (d.sh h.length) (h ++ h'.map (O.sh h.length))) : W (callM .L F ds h) Q := by
  obtain ⟨d, h', e, n, q⟩ := w.ex
  show W (callL F ds h) Q
  unfold callL
  rw [frz_pures hp]
  simp only [e, n, hp, true_or, and_self, if_true]
  exact q
theorem mapO_py {f : D → Option PyData} : ∀ xs : List D, (∀ x ∈ xs, f x = py x) → mapO f xs = pys xs
  | [], _ => rfl
  | x :: r, al => by rw [mapO, pys, al x List.mem_cons_self, mapO_py r fun y hy => al y (List.mem_cons_of_mem _ hy)]
theorem pyN_gv {h : Hh} : ∀ (k n : Nat) (d : D), n < k → d.gv n = true → pyN h k d = py d
  | 0, n, d, q, _ => absurd q (Nat.not_lt_zero _)
  | k + 1, n, d, q, g => by
    cases n with
    | zero =>
      cases d with
      | non => rfl
      | int i => rfl
      | _ => simp [D.gv] at g
    | succ n =>
      have go : ∀ xs : List D, xs.all (D.gv n) = true → mapO (pyN h k) xs = pys xs := fun xs ga => mapO_py xs fun x hx => pyN_gv k n x (by omega) (List.all_eq_true.mp ga x hx)
      cases d with
      | lst xs =>
        show (mapO (pyN h k) xs).map PyData.list = (pys xs).map PyData.list
        rw [go xs (by simpa [D.gv] using g)]
      | tup xs =>
        show (mapO (pyN h k) xs).map PyData.tuple = (pys xs).map PyData.tuple
        rw [go xs (by simpa [D.gv] using g)]
      | non => rfl
      | int i => rfl
      | _ => simp [D.gv] at g
/-- by cells within or not, alike where the data are -/
theorem deep_self {h : Hh} {a b : D} {n : Nat} (e : pyN h 8 a = pyN h 8 b) (g : b.gv n = true) (hn : n < 8) (na : toPy h a = none) (ta : asT h a = none) (ni : ∀ i, a ≠ .int i) (nst : ∀ i, a ≠ .str i) : cmpD .Eq h a b = some true ∧ cmpD .NotEq h a b = some false := by
  have p1 := pyN_gv (h := h) 8 n b hn g
  have main : eqP (py b) (py b) = some true := by
    obtain ⟨r0, e1, _, q0⟩ := eq_gv (h := []) g g (by omega) (by omega)
    rw [q0.mpr rfl] at e1
    have e1 : eqD [] b b = some true := e1
    cases b with
    | int i => simp [py, eqP, SeqAt.shaped, PyData.canLay0, PyData.depth, PyData.eqv]
    | non => simp [py, eqP, SeqAt.shaped, PyData.canLay0, PyData.depth, PyData.eqv]
    | lst xs =>
      have e1 : (match eqP (py (.lst xs)) (py (.lst xs)) with | some r => some r | none => neLen [] (.lst xs) (.lst xs)) = some true := e1
      cases q : eqP (py (.lst xs)) (py (.lst xs)) with
      | some r => rw [q] at e1; exact e1
      | none =>
        rw [q] at e1
        simp only [neLen, asT, if_true] at e1
        rw [pyN_gv (h := []) 8 n _ hn g, q] at e1
        cases e1
    | tup xs =>
      have e1 : (match eqP (py (.tup xs)) (py (.tup xs)) with | some r => some r | none => neLen [] (.tup xs) (.tup xs)) = some true := e1
      cases q : eqP (py (.tup xs)) (py (.tup xs)) with
      | some r => rw [q] at e1; exact e1
      | none =>
        rw [q] at e1
        simp only [neLen, asT] at e1
        rw [pyN_gv (h := []) 8 n _ hn g, q] at e1
        cases e1
    | _ => cases n <;> simp [D.gv] at g
  have ee : eqD h a b = some true := by
    have z : eqP (toPy h a) (toPy h b) = none := by rw [na]; rfl
    have y : neLen h a b = some true := by
      unfold neLen
      rw [ta]
      simp only
      rw [e, p1]
      exact main
    unfold eqD
    split
    · exact absurd rfl (ni _)
    · exact absurd rfl (nst _)
    · rw [z]; exact y
  exact ⟨ee, by show (eqD h a b).map not = _; rw [ee]; rfl⟩
end U
namespace U
open PySem PySem.Spec PyProof.Rows L2 Tb
def b_need_field : Ss := (.cons (.ifs (.bop .Or (.cons (.not (.isi (.var 0) (.bty "int"))) (.cons (.isi (.var 0) (.bty "bool")) (.cons (.not (.chn .LtE .LtE (.int 3) (.var 0) (.int 97))) .nil)))) (.cons (.rais "NoPrime")
  .nil) .nil)
  (.cons (.ifs (.cmp .NotEq (.comp false [1] (.nm 1) (.rng (.cons (.int 2) (.cons (.var 0) .nil))) (.cons (.cmp .Eq (.bin false .Mod (.var 0) (.var 1)) (.int 0)) .nil) (.var 1)) (.lst false .nil)) (.cons (.rais "NoPrime")
  .nil) .nil)
  .nil))
def f_need_field : Fn := fnS cs0 2 1 b_need_field
def t_need_field_4 : Ss := .cons (.rais "NoPrime") .nil
def t_need_field_3 : Ss := .cons (.ifs (.cmp .NotEq (.comp false [1] (.nm 1) (.rng (.cons (.int 2) (.cons (.var 0) .nil))) (.cons (.cmp .Eq (.bin false .Mod (.var 0) (.var 1)) (.int 0)) .nil) (.var 1)) (.lst false .nil)) t_need_field_4 .nil) .nil
def t_need_field_2 : Ss := .cons (.rais "NoPrime") .nil
def t_need_field_1 : Ss := .cons (.ifs (.bop .Or (.cons (.not (.isi (.var 0) (.bty "int"))) (.cons (.isi (.var 0) (.bty "bool")) (.cons (.not (.chn .LtE .LtE (.int 3) (.var 0) (.int 97))) .nil)))) t_need_field_2 .nil) t_need_field_3
theorem u_need_field : b_need_field = t_need_field_1 := rfl
/-- p, number -/
theorem w_need_field {x0 : D} {h : Hh} {Q : D → Hh → Prop} (w : WS (evSs cs0 t_need_field_1 [some x0, none] h) (fun _ h1 => Q .non h1) Q no2 no2) : W (f_need_field [x0] h) Q := by
  rw [← u_need_field] at w
  exact w_fnS2 (C := cs0) (n := 2) (np := 1) (b := b_need_field) rfl rfl w
theorem r_need_field {x0 : D} {h : Hh} : f_need_field [x0] h = endR (evSs cs0 t_need_field_1 [some x0, none] h) := by
  rw [← u_need_field]
  exact fnS_run2 (C := cs0) (n := 2) (np := 1) (b := b_need_field) rfl rfl
def b_is_place : Ss := (.cons (.ret (.bop .And (.cons (.isi (.var 0) (.bty "int")) (.cons (.not (.isi (.var 0) (.bty "bool"))) (.cons (.chn .LtE .Lt (.int 0) (.var 0) (.var 1)) .nil)))))
  .nil)
def f_is_place : Fn := fnS cs0 2 2 b_is_place
def t_is_place_1 : Ss := .cons (.ret (.bop .And (.cons (.isi (.var 0) (.bty "int")) (.cons (.not (.isi (.var 0) (.bty "bool"))) (.cons (.chn .LtE .Lt (.int 0) (.var 0) (.var 1)) .nil))))) .nil
theorem u_is_place : b_is_place = t_is_place_1 := rfl
/-- thing, p -/
theorem w_is_place {x0 x1 : D} {h : Hh} {Q : D → Hh → Prop} (w : WS (evSs cs0 t_is_place_1 [some x0, some x1] h) (fun _ h1 => Q .non h1) Q no2 no2) : W (f_is_place [x0, x1] h) Q := by
  rw [← u_is_place] at w
  exact w_fnS2 (C := cs0) (n := 2) (np := 2) (b := b_is_place) rfl rfl w
theorem r_is_place {x0 x1 : D} {h : Hh} : f_is_place [x0, x1] h = endR (evSs cs0 t_is_place_1 [some x0, some x1] h) := by
  rw [← u_is_place]
  exact fnS_run2 (C := cs0) (n := 2) (np := 2) (b := b_is_place) rfl rfl
def b_is_poly_by : Ss := (.cons (.ifs (.bop .Or (.cons (.not (.isi (.var 0) (.bty "list"))) (.cons (.cmp .NotEq (.comp false [2] (.nm 2) (.seq (.var 0)) (.cons (.not (.call .P "is_place" f_is_place (.cons (.var 2) (.cons (.var 1) .nil)))) .nil) (.var 2)) (.lst false .nil)) .nil))) (.cons (.ret (.bl false))
  .nil) .nil)
  (.cons (.ret (.bop .Or (.cons (.cmp .Eq (.var 0) (.lst false .nil)) (.cons (.cmp .NotEq (.idx (.var 0) (.neg (.int 1))) (.int 0)) .nil))))
  .nil))
def f_is_poly_by : Fn := fnS cs0 3 2 b_is_poly_by
def t_is_poly_by_3 : Ss := .cons (.ret (.bop .Or (.cons (.cmp .Eq (.var 0) (.lst false .nil)) (.cons (.cmp .NotEq (.idx (.var 0) (.neg (.int 1))) (.int 0)) .nil)))) .nil
def t_is_poly_by_2 : Ss := .cons (.ret (.bl false)) .nil
def t_is_poly_by_1 : Ss := .cons (.ifs (.bop .Or (.cons (.not (.isi (.var 0) (.bty "list"))) (.cons (.cmp .NotEq (.comp false [2] (.nm 2) (.seq (.var 0)) (.cons (.not (.call .P "is_place" f_is_place (.cons (.var 2) (.cons (.var 1) .nil)))) .nil) (.var 2)) (.lst false .nil)) .nil))) t_is_poly_by_2 .nil) t_is_poly_by_3
theorem u_is_poly_by : b_is_poly_by = t_is_poly_by_1 := rfl
/-- thing, p, number -/
theorem w_is_poly_by {x0 x1 : D} {h : Hh} {Q : D → Hh → Prop} (w : WS (evSs cs0 t_is_poly_by_1 [some x0, some x1, none] h) (fun _ h1 => Q .non h1) Q no2 no2) : W (f_is_poly_by [x0, x1] h) Q := by
  rw [← u_is_poly_by] at w
  exact w_fnS2 (C := cs0) (n := 3) (np := 2) (b := b_is_poly_by) rfl rfl w
theorem r_is_poly_by {x0 x1 : D} {h : Hh} : f_is_poly_by [x0, x1] h = endR (evSs cs0 t_is_poly_by_1 [some x0, some x1, none] h) := by
  rw [← u_is_poly_by]
  exact fnS_run2 (C := cs0) (n := 3) (np := 2) (b := b_is_poly_by) rfl rfl
def b_need_poly : Ss := (.cons (.ifs (.not (.call .P "is_poly_by" f_is_poly_by (.cons (.var 0) (.cons (.var 1) .nil)))) (.cons (.rais "NoPoly")
  .nil) .nil)
  .nil)
def f_need_poly : Fn := fnS cs0 2 2 b_need_poly
def t_need_poly_2 : Ss := .cons (.rais "NoPoly") .nil
def t_need_poly_1 : Ss := .cons (.ifs (.not (.call .P "is_poly_by" f_is_poly_by (.cons (.var 0) (.cons (.var 1) .nil)))) t_need_poly_2 .nil) .nil
theorem u_need_poly : b_need_poly = t_need_poly_1 := rfl
/-- thing, p -/
theorem w_need_poly {x0 x1 : D} {h : Hh} {Q : D → Hh → Prop} (w : WS (evSs cs0 t_need_poly_1 [some x0, some x1] h) (fun _ h1 => Q .non h1) Q no2 no2) : W (f_need_poly [x0, x1] h) Q := by
  rw [← u_need_poly] at w
  exact w_fnS2 (C := cs0) (n := 2) (np := 2) (b := b_need_poly) rfl rfl w
theorem r_need_poly {x0 x1 : D} {h : Hh} : f_need_poly [x0, x1] h = endR (evSs cs0 t_need_poly_1 [some x0, some x1] h) := by
  rw [← u_need_poly]
  exact fnS_run2 (C := cs0) (n := 2) (np := 2) (b := b_need_poly) rfl rfl
def b_need_two : Ss := (.cons (.ex (.call .P "need_field" f_need_field (.cons (.var 2) .nil)))
  (.cons (.ex (.call .P "need_poly" f_need_poly (.cons (.var 0) (.cons (.var 2) .nil))))
  (.cons (.ex (.call .P "need_poly" f_need_poly (.cons (.var 1) (.cons (.var 2) .nil))))
  .nil)))
def f_need_two : Fn := fnS cs0 3 3 b_need_two
def t_need_two_3 : Ss := .cons (.ex (.call .P "need_poly" f_need_poly (.cons (.var 1) (.cons (.var 2) .nil)))) .nil
def t_need_two_2 : Ss := .cons (.ex (.call .P "need_poly" f_need_poly (.cons (.var 0) (.cons (.var 2) .nil)))) t_need_two_3
def t_need_two_1 : Ss := .cons (.ex (.call .P "need_field" f_need_field (.cons (.var 2) .nil))) t_need_two_2
theorem u_need_two : b_need_two = t_need_two_1 := rfl
/-- one, other, p -/
theorem w_need_two {x0 x1 x2 : D} {h : Hh} {Q : D → Hh → Prop} (w : WS (evSs cs0 t_need_two_1 [some x0, some x1, some x2] h) (fun _ h1 => Q .non h1) Q no2 no2) : W (f_need_two [x0, x1, x2] h) Q := by
  rw [← u_need_two] at w
  exact w_fnS2 (C := cs0) (n := 3) (np := 3) (b := b_need_two) rfl rfl w
theorem r_need_two {x0 x1 x2 : D} {h : Hh} : f_need_two [x0, x1, x2] h = endR (evSs cs0 t_need_two_1 [some x0, some x1, some x2] h) := by
  rw [← u_need_two]
  exact fnS_run2 (C := cs0) (n := 3) (np := 3) (b := b_need_two) rfl rfl
def b_trimmed : Ss := (.cons (.asg (.nm 1) (.bi .list true (.cons (.var 0) .nil)))
  (.cons (.whl (.bop .And (.cons (.cmp .NotEq (.var 1) (.lst false .nil)) (.cons (.cmp .Eq (.idx (.var 1) (.neg (.int 1))) (.int 0)) .nil))) (.cons (.ex (.me .pop false (.var 1) .nil))
  .nil))
  (.cons (.ret (.var 1))
  .nil)))
def f_trimmed : Fn := fnS cs0 2 1 b_trimmed
def t_trimmed_4 : Ss := .cons (.ret (.var 1)) .nil
def t_trimmed_3 : Ss := .cons (.ex (.me .pop false (.var 1) .nil)) .nil
def t_trimmed_2 : Ss := .cons (.whl (.bop .And (.cons (.cmp .NotEq (.var 1) (.lst false .nil)) (.cons (.cmp .Eq (.idx (.var 1) (.neg (.int 1))) (.int 0)) .nil))) t_trimmed_3) t_trimmed_4
def t_trimmed_1 : Ss := .cons (.asg (.nm 1) (.bi .list true (.cons (.var 0) .nil))) t_trimmed_2
theorem u_trimmed : b_trimmed = t_trimmed_1 := rfl
/-- numbers, found -/
theorem w_trimmed {x0 : D} {h : Hh} {Q : D → Hh → Prop} (w : WS (evSs cs0 t_trimmed_1 [some x0, none] h) (fun _ h1 => Q .non h1) Q no2 no2) : W (f_trimmed [x0] h) Q := by
  rw [← u_trimmed] at w
  exact w_fnS2 (C := cs0) (n := 2) (np := 1) (b := b_trimmed) rfl rfl w
theorem r_trimmed {x0 : D} {h : Hh} : f_trimmed [x0] h = endR (evSs cs0 t_trimmed_1 [some x0, none] h) := by
  rw [← u_trimmed]
  exact fnS_run2 (C := cs0) (n := 2) (np := 1) (b := b_trimmed) rfl rfl
def b_product_by : Ss := (.cons (.asg (.nm 3) (.bin true .Mult (.lst false (.cons (.int 0) .nil)) (.bin false .Add (.bi .len false (.cons (.var 0) .nil)) (.bi .len false (.cons (.var 1) .nil)))))
  (.cons (.fr (.tp [4, 5]) (.enu (.var 0)) (.cons (.fr (.tp [6, 7]) (.enu (.var 1)) (.cons (.sub (.var 3) (.bin false .Add (.var 4) (.var 6)) (.bin false .Mod (.bin false .Add (.idx (.var 3) (.bin false .Add (.var 4) (.var 6))) (.bin false .Mult (.var 5) (.var 7))) (.var 2)))
  .nil))
  .nil))
  (.cons (.ret (.call .C "trimmed" f_trimmed (.cons (.var 3) .nil)))
  .nil)))
def f_product_by : Fn := fnS cs0 8 3 b_product_by
def t_product_by_5 : Ss := .cons (.ret (.call .C "trimmed" f_trimmed (.cons (.var 3) .nil))) .nil
def t_product_by_4 : Ss := .cons (.sub (.var 3) (.bin false .Add (.var 4) (.var 6)) (.bin false .Mod (.bin false .Add (.idx (.var 3) (.bin false .Add (.var 4) (.var 6))) (.bin false .Mult (.var 5) (.var 7))) (.var 2))) .nil
def t_product_by_3 : Ss := .cons (.fr (.tp [6, 7]) (.enu (.var 1)) t_product_by_4) .nil
def t_product_by_2 : Ss := .cons (.fr (.tp [4, 5]) (.enu (.var 0)) t_product_by_3) t_product_by_5
def t_product_by_1 : Ss := .cons (.asg (.nm 3) (.bin true .Mult (.lst false (.cons (.int 0) .nil)) (.bin false .Add (.bi .len false (.cons (.var 0) .nil)) (.bi .len false (.cons (.var 1) .nil))))) t_product_by_2
theorem u_product_by : b_product_by = t_product_by_1 := rfl
/-- one, other, p, found, i, a, j, b -/
theorem w_product_by {x0 x1 x2 : D} {h : Hh} {Q : D → Hh → Prop} (w : WS (evSs cs0 t_product_by_1 [some x0, some x1, some x2, none, none, none, none, none] h) (fun _ h1 => Q .non h1) Q no2 no2) : W (f_product_by [x0, x1, x2] h) Q := by
  rw [← u_product_by] at w
  exact w_fnS2 (C := cs0) (n := 8) (np := 3) (b := b_product_by) rfl rfl w
theorem r_product_by {x0 x1 x2 : D} {h : Hh} : f_product_by [x0, x1, x2] h = endR (evSs cs0 t_product_by_1 [some x0, some x1, some x2, none, none, none, none, none] h) := by
  rw [← u_product_by]
  exact fnS_run2 (C := cs0) (n := 8) (np := 3) (b := b_product_by) rfl rfl
def b_poly_product : Ss := (.cons (.ex (.call .P "need_two" f_need_two (.cons (.var 0) (.cons (.var 1) (.cons (.var 2) .nil)))))
  (.cons (.ret (.call .C "product_by" f_product_by (.cons (.var 0) (.cons (.var 1) (.cons (.var 2) .nil)))))
  .nil))
def f_poly_product : Fn := fnS cs0 3 3 b_poly_product
def t_poly_product_2 : Ss := .cons (.ret (.call .C "product_by" f_product_by (.cons (.var 0) (.cons (.var 1) (.cons (.var 2) .nil))))) .nil
def t_poly_product_1 : Ss := .cons (.ex (.call .P "need_two" f_need_two (.cons (.var 0) (.cons (.var 1) (.cons (.var 2) .nil))))) t_poly_product_2
theorem u_poly_product : b_poly_product = t_poly_product_1 := rfl
/-- one, other, p -/
theorem w_poly_product {x0 x1 x2 : D} {h : Hh} {Q : D → Hh → Prop} (w : WS (evSs cs0 t_poly_product_1 [some x0, some x1, some x2] h) (fun _ h1 => Q .non h1) Q no2 no2) : W (f_poly_product [x0, x1, x2] h) Q := by
  rw [← u_poly_product] at w
  exact w_fnS2 (C := cs0) (n := 3) (np := 3) (b := b_poly_product) rfl rfl w
theorem r_poly_product {x0 x1 x2 : D} {h : Hh} : f_poly_product [x0, x1, x2] h = endR (evSs cs0 t_poly_product_1 [some x0, some x1, some x2] h) := by
  rw [← u_poly_product]
  exact fnS_run2 (C := cs0) (n := 3) (np := 3) (b := b_poly_product) rfl rfl
def b_sum_by : Ss := (.cons (.asg (.nm 3) (.bi .max false (.cons (.bi .len false (.cons (.var 0) .nil)) (.cons (.bi .len false (.cons (.var 1) .nil)) .nil))))
  (.cons (.asg (.nm 4) (.comp false [5] (.nm 5) (.seq (.tup (.cons (.var 0) (.cons (.var 1) .nil)))) .nil (.bin false .Add (.bi .list false (.cons (.var 5) .nil)) (.bin false .Mult (.lst false (.cons (.int 0) .nil)) (.bin false .Sub (.var 3) (.bi .len false (.cons (.var 5) .nil)))))))
  (.cons (.ret (.call .C "trimmed" f_trimmed (.cons (.comp false [6, 7] (.tp [6, 7]) (.zip (.idx (.var 4) (.int 0)) (.idx (.var 4) (.int 1))) .nil (.bin false .Mod (.bin false .Add (.var 6) (.var 7)) (.var 2))) .nil)))
  .nil)))
def f_sum_by : Fn := fnS cs0 8 3 b_sum_by
def t_sum_by_3 : Ss := .cons (.ret (.call .C "trimmed" f_trimmed (.cons (.comp false [6, 7] (.tp [6, 7]) (.zip (.idx (.var 4) (.int 0)) (.idx (.var 4) (.int 1))) .nil (.bin false .Mod (.bin false .Add (.var 6) (.var 7)) (.var 2))) .nil))) .nil
def t_sum_by_2 : Ss := .cons (.asg (.nm 4) (.comp false [5] (.nm 5) (.seq (.tup (.cons (.var 0) (.cons (.var 1) .nil)))) .nil (.bin false .Add (.bi .list false (.cons (.var 5) .nil)) (.bin false .Mult (.lst false (.cons (.int 0) .nil)) (.bin false .Sub (.var 3) (.bi .len false (.cons (.var 5) .nil))))))) t_sum_by_3
def t_sum_by_1 : Ss := .cons (.asg (.nm 3) (.bi .max false (.cons (.bi .len false (.cons (.var 0) .nil)) (.cons (.bi .len false (.cons (.var 1) .nil)) .nil)))) t_sum_by_2
theorem u_sum_by : b_sum_by = t_sum_by_1 := rfl
/-- one, other, p, many, longer, poly, a, b -/
theorem w_sum_by {x0 x1 x2 : D} {h : Hh} {Q : D → Hh → Prop} (w : WS (evSs cs0 t_sum_by_1 [some x0, some x1, some x2, none, none, none, none, none] h) (fun _ h1 => Q .non h1) Q no2 no2) : W (f_sum_by [x0, x1, x2] h) Q := by
  rw [← u_sum_by] at w
  exact w_fnS2 (C := cs0) (n := 8) (np := 3) (b := b_sum_by) rfl rfl w
theorem r_sum_by {x0 x1 x2 : D} {h : Hh} : f_sum_by [x0, x1, x2] h = endR (evSs cs0 t_sum_by_1 [some x0, some x1, some x2, none, none, none, none, none] h) := by
  rw [← u_sum_by]
  exact fnS_run2 (C := cs0) (n := 8) (np := 3) (b := b_sum_by) rfl rfl
def b_poly_sum : Ss := (.cons (.ex (.call .P "need_two" f_need_two (.cons (.var 0) (.cons (.var 1) (.cons (.var 2) .nil)))))
  (.cons (.ret (.call .C "sum_by" f_sum_by (.cons (.var 0) (.cons (.var 1) (.cons (.var 2) .nil)))))
  .nil))
def f_poly_sum : Fn := fnS cs0 3 3 b_poly_sum
def t_poly_sum_2 : Ss := .cons (.ret (.call .C "sum_by" f_sum_by (.cons (.var 0) (.cons (.var 1) (.cons (.var 2) .nil))))) .nil
def t_poly_sum_1 : Ss := .cons (.ex (.call .P "need_two" f_need_two (.cons (.var 0) (.cons (.var 1) (.cons (.var 2) .nil))))) t_poly_sum_2
theorem u_poly_sum : b_poly_sum = t_poly_sum_1 := rfl
/-- one, other, p -/
theorem w_poly_sum {x0 x1 x2 : D} {h : Hh} {Q : D → Hh → Prop} (w : WS (evSs cs0 t_poly_sum_1 [some x0, some x1, some x2] h) (fun _ h1 => Q .non h1) Q no2 no2) : W (f_poly_sum [x0, x1, x2] h) Q := by
  rw [← u_poly_sum] at w
  exact w_fnS2 (C := cs0) (n := 3) (np := 3) (b := b_poly_sum) rfl rfl w
theorem r_poly_sum {x0 x1 x2 : D} {h : Hh} : f_poly_sum [x0, x1, x2] h = endR (evSs cs0 t_poly_sum_1 [some x0, some x1, some x2] h) := by
  rw [← u_poly_sum]
  exact fnS_run2 (C := cs0) (n := 3) (np := 3) (b := b_poly_sum) rfl rfl
def b_worth_by : Ss := (.cons (.asg (.nm 3) (.int 0))
  (.cons (.fr (.nm 4) (.rev (.var 0)) (.cons (.asg (.nm 3) (.bin false .Mod (.bin false .Add (.bin false .Mult (.var 3) (.var 2)) (.var 4)) (.var 1)))
  .nil))
  (.cons (.ret (.var 3))
  .nil)))
def f_worth_by : Fn := fnS cs0 5 3 b_worth_by
def t_worth_by_4 : Ss := .cons (.ret (.var 3)) .nil
def t_worth_by_3 : Ss := .cons (.asg (.nm 3) (.bin false .Mod (.bin false .Add (.bin false .Mult (.var 3) (.var 2)) (.var 4)) (.var 1))) .nil
def t_worth_by_2 : Ss := .cons (.fr (.nm 4) (.rev (.var 0)) t_worth_by_3) t_worth_by_4
def t_worth_by_1 : Ss := .cons (.asg (.nm 3) (.int 0)) t_worth_by_2
theorem u_worth_by : b_worth_by = t_worth_by_1 := rfl
/-- poly, p, x, worth, number -/
theorem w_worth_by {x0 x1 x2 : D} {h : Hh} {Q : D → Hh → Prop} (w : WS (evSs cs0 t_worth_by_1 [some x0, some x1, some x2, none, none] h) (fun _ h1 => Q .non h1) Q no2 no2) : W (f_worth_by [x0, x1, x2] h) Q := by
  rw [← u_worth_by] at w
  exact w_fnS2 (C := cs0) (n := 5) (np := 3) (b := b_worth_by) rfl rfl w
theorem r_worth_by {x0 x1 x2 : D} {h : Hh} : f_worth_by [x0, x1, x2] h = endR (evSs cs0 t_worth_by_1 [some x0, some x1, some x2, none, none] h) := by
  rw [← u_worth_by]
  exact fnS_run2 (C := cs0) (n := 5) (np := 3) (b := b_worth_by) rfl rfl
def b_poly_worth : Ss := (.cons (.ex (.call .P "need_field" f_need_field (.cons (.var 1) .nil)))
  (.cons (.ex (.call .P "need_poly" f_need_poly (.cons (.var 0) (.cons (.var 1) .nil))))
  (.cons (.ifs (.not (.call .P "is_place" f_is_place (.cons (.var 2) (.cons (.var 1) .nil)))) (.cons (.rais "NoNumber")
  .nil) .nil)
  (.cons (.ret (.call .P "worth_by" f_worth_by (.cons (.var 0) (.cons (.var 1) (.cons (.var 2) .nil)))))
  .nil))))
def f_poly_worth : Fn := fnS cs0 3 3 b_poly_worth
def t_poly_worth_5 : Ss := .cons (.ret (.call .P "worth_by" f_worth_by (.cons (.var 0) (.cons (.var 1) (.cons (.var 2) .nil))))) .nil
def t_poly_worth_4 : Ss := .cons (.rais "NoNumber") .nil
def t_poly_worth_3 : Ss := .cons (.ifs (.not (.call .P "is_place" f_is_place (.cons (.var 2) (.cons (.var 1) .nil)))) t_poly_worth_4 .nil) t_poly_worth_5
def t_poly_worth_2 : Ss := .cons (.ex (.call .P "need_poly" f_need_poly (.cons (.var 0) (.cons (.var 1) .nil)))) t_poly_worth_3
def t_poly_worth_1 : Ss := .cons (.ex (.call .P "need_field" f_need_field (.cons (.var 1) .nil))) t_poly_worth_2
theorem u_poly_worth : b_poly_worth = t_poly_worth_1 := rfl
/-- poly, p, x -/
theorem w_poly_worth {x0 x1 x2 : D} {h : Hh} {Q : D → Hh → Prop} (w : WS (evSs cs0 t_poly_worth_1 [some x0, some x1, some x2] h) (fun _ h1 => Q .non h1) Q no2 no2) : W (f_poly_worth [x0, x1, x2] h) Q := by
  rw [← u_poly_worth] at w
  exact w_fnS2 (C := cs0) (n := 3) (np := 3) (b := b_poly_worth) rfl rfl w
theorem r_poly_worth {x0 x1 x2 : D} {h : Hh} : f_poly_worth [x0, x1, x2] h = endR (evSs cs0 t_poly_worth_1 [some x0, some x1, some x2] h) := by
  rw [← u_poly_worth]
  exact fnS_run2 (C := cs0) (n := 3) (np := 3) (b := b_poly_worth) rfl rfl
def b_inverse : Ss := (.cons (.ret (.idx (.comp false [2] (.nm 2) (.rng (.cons (.int 1) (.cons (.var 1) .nil))) (.cons (.cmp .Eq (.bin false .Mod (.bin false .Mult (.var 0) (.var 2)) (.var 1)) (.int 1)) .nil) (.var 2)) (.int 0)))
  .nil)
def f_inverse : Fn := fnS cs0 3 2 b_inverse
def t_inverse_1 : Ss := .cons (.ret (.idx (.comp false [2] (.nm 2) (.rng (.cons (.int 1) (.cons (.var 1) .nil))) (.cons (.cmp .Eq (.bin false .Mod (.bin false .Mult (.var 0) (.var 2)) (.var 1)) (.int 1)) .nil) (.var 2)) (.int 0))) .nil
theorem u_inverse : b_inverse = t_inverse_1 := rfl
/-- number, p, other -/
theorem w_inverse {x0 x1 : D} {h : Hh} {Q : D → Hh → Prop} (w : WS (evSs cs0 t_inverse_1 [some x0, some x1, none] h) (fun _ h1 => Q .non h1) Q no2 no2) : W (f_inverse [x0, x1] h) Q := by
  rw [← u_inverse] at w
  exact w_fnS2 (C := cs0) (n := 3) (np := 2) (b := b_inverse) rfl rfl w
theorem r_inverse {x0 x1 : D} {h : Hh} : f_inverse [x0, x1] h = endR (evSs cs0 t_inverse_1 [some x0, some x1, none] h) := by
  rw [← u_inverse]
  exact fnS_run2 (C := cs0) (n := 3) (np := 2) (b := b_inverse) rfl rfl
def b_parted_by : Ss := (.cons (.asg (.nm 3) (.bi .list true (.cons (.var 0) .nil)))
  (.cons (.asg (.nm 4) (.bin true .Mult (.lst false (.cons (.int 0) .nil)) (.bi .max false (.cons (.int 0) (.cons (.bin false .Add (.bin false .Sub (.bi .len false (.cons (.var 0) .nil)) (.bi .len false (.cons (.var 1) .nil))) (.int 1)) .nil)))))
  (.cons (.asg (.nm 5) (.call .P "inverse" f_inverse (.cons (.idx (.var 1) (.neg (.int 1))) (.cons (.var 2) .nil))))
  (.cons (.fr (.nm 6) (.rng (.cons (.bin false .Sub (.bi .len false (.cons (.var 4) .nil)) (.int 1)) (.cons (.neg (.int 1)) (.cons (.neg (.int 1)) .nil)))) (.cons (.sub (.var 4) (.var 6) (.bin false .Mod (.bin false .Mult (.idx (.var 3) (.bin false .Sub (.bin false .Add (.var 6) (.bi .len false (.cons (.var 1) .nil))) (.int 1))) (.var 5)) (.var 2)))
  (.cons (.fr (.tp [7, 8]) (.enu (.var 1)) (.cons (.sub (.var 3) (.bin false .Add (.var 6) (.var 7)) (.bin false .Mod (.bin false .Sub (.idx (.var 3) (.bin false .Add (.var 6) (.var 7))) (.bin false .Mult (.idx (.var 4) (.var 6)) (.var 8))) (.var 2)))
  .nil))
  .nil)))
  (.cons (.ret (.tup (.cons (.call .C "trimmed" f_trimmed (.cons (.var 4) .nil)) (.cons (.call .C "trimmed" f_trimmed (.cons (.var 3) .nil)) .nil))))
  .nil)))))
def f_parted_by : Fn := fnS cs0 9 3 b_parted_by
def t_parted_by_8 : Ss := .cons (.ret (.tup (.cons (.call .C "trimmed" f_trimmed (.cons (.var 4) .nil)) (.cons (.call .C "trimmed" f_trimmed (.cons (.var 3) .nil)) .nil)))) .nil
def t_parted_by_7 : Ss := .cons (.sub (.var 3) (.bin false .Add (.var 6) (.var 7)) (.bin false .Mod (.bin false .Sub (.idx (.var 3) (.bin false .Add (.var 6) (.var 7))) (.bin false .Mult (.idx (.var 4) (.var 6)) (.var 8))) (.var 2))) .nil
def t_parted_by_6 : Ss := .cons (.fr (.tp [7, 8]) (.enu (.var 1)) t_parted_by_7) .nil
def t_parted_by_5 : Ss := .cons (.sub (.var 4) (.var 6) (.bin false .Mod (.bin false .Mult (.idx (.var 3) (.bin false .Sub (.bin false .Add (.var 6) (.bi .len false (.cons (.var 1) .nil))) (.int 1))) (.var 5)) (.var 2))) t_parted_by_6
def t_parted_by_4 : Ss := .cons (.fr (.nm 6) (.rng (.cons (.bin false .Sub (.bi .len false (.cons (.var 4) .nil)) (.int 1)) (.cons (.neg (.int 1)) (.cons (.neg (.int 1)) .nil)))) t_parted_by_5) t_parted_by_8
def t_parted_by_3 : Ss := .cons (.asg (.nm 5) (.call .P "inverse" f_inverse (.cons (.idx (.var 1) (.neg (.int 1))) (.cons (.var 2) .nil)))) t_parted_by_4
def t_parted_by_2 : Ss := .cons (.asg (.nm 4) (.bin true .Mult (.lst false (.cons (.int 0) .nil)) (.bi .max false (.cons (.int 0) (.cons (.bin false .Add (.bin false .Sub (.bi .len false (.cons (.var 0) .nil)) (.bi .len false (.cons (.var 1) .nil))) (.int 1)) .nil))))) t_parted_by_3
def t_parted_by_1 : Ss := .cons (.asg (.nm 3) (.bi .list true (.cons (.var 0) .nil))) t_parted_by_2
theorem u_parted_by : b_parted_by = t_parted_by_1 := rfl
/-- one, other, p, rest, quotient, lead, at, k, number -/
theorem w_parted_by {x0 x1 x2 : D} {h : Hh} {Q : D → Hh → Prop} (w : WS (evSs cs0 t_parted_by_1 [some x0, some x1, some x2, none, none, none, none, none, none] h) (fun _ h1 => Q .non h1) Q no2 no2) : W (f_parted_by [x0, x1, x2] h) Q := by
  rw [← u_parted_by] at w
  exact w_fnS2 (C := cs0) (n := 9) (np := 3) (b := b_parted_by) rfl rfl w
theorem r_parted_by {x0 x1 x2 : D} {h : Hh} : f_parted_by [x0, x1, x2] h = endR (evSs cs0 t_parted_by_1 [some x0, some x1, some x2, none, none, none, none, none, none] h) := by
  rw [← u_parted_by]
  exact fnS_run2 (C := cs0) (n := 9) (np := 3) (b := b_parted_by) rfl rfl
def b_poly_parted : Ss := (.cons (.ex (.call .P "need_two" f_need_two (.cons (.var 0) (.cons (.var 1) (.cons (.var 2) .nil)))))
  (.cons (.ifs (.cmp .Eq (.var 1) (.lst false .nil)) (.cons (.rais "NoPoly")
  .nil) .nil)
  (.cons (.ret (.call .L "parted_by" f_parted_by (.cons (.var 0) (.cons (.var 1) (.cons (.var 2) .nil)))))
  .nil)))
def f_poly_parted : Fn := fnS cs0 3 3 b_poly_parted
def t_poly_parted_4 : Ss := .cons (.ret (.call .L "parted_by" f_parted_by (.cons (.var 0) (.cons (.var 1) (.cons (.var 2) .nil))))) .nil
def t_poly_parted_3 : Ss := .cons (.rais "NoPoly") .nil
def t_poly_parted_2 : Ss := .cons (.ifs (.cmp .Eq (.var 1) (.lst false .nil)) t_poly_parted_3 .nil) t_poly_parted_4
def t_poly_parted_1 : Ss := .cons (.ex (.call .P "need_two" f_need_two (.cons (.var 0) (.cons (.var 1) (.cons (.var 2) .nil))))) t_poly_parted_2
theorem u_poly_parted : b_poly_parted = t_poly_parted_1 := rfl
/-- one, other, p -/
theorem w_poly_parted {x0 x1 x2 : D} {h : Hh} {Q : D → Hh → Prop} (w : WS (evSs cs0 t_poly_parted_1 [some x0, some x1, some x2] h) (fun _ h1 => Q .non h1) Q no2 no2) : W (f_poly_parted [x0, x1, x2] h) Q := by
  rw [← u_poly_parted] at w
  exact w_fnS2 (C := cs0) (n := 3) (np := 3) (b := b_poly_parted) rfl rfl w
theorem r_poly_parted {x0 x1 x2 : D} {h : Hh} : f_poly_parted [x0, x1, x2] h = endR (evSs cs0 t_poly_parted_1 [some x0, some x1, some x2] h) := by
  rw [← u_poly_parted]
  exact fnS_run2 (C := cs0) (n := 3) (np := 3) (b := b_poly_parted) rfl rfl
def b_times_by : Ss := (.cons (.ret (.call .C "trimmed" f_trimmed (.cons (.comp false [3] (.nm 3) (.seq (.var 0)) .nil (.bin false .Mod (.bin false .Mult (.var 3) (.var 1)) (.var 2))) .nil)))
  .nil)
def f_times_by : Fn := fnS cs0 4 3 b_times_by
def t_times_by_1 : Ss := .cons (.ret (.call .C "trimmed" f_trimmed (.cons (.comp false [3] (.nm 3) (.seq (.var 0)) .nil (.bin false .Mod (.bin false .Mult (.var 3) (.var 1)) (.var 2))) .nil))) .nil
theorem u_times_by : b_times_by = t_times_by_1 := rfl
/-- poly, number, p, one -/
theorem w_times_by {x0 x1 x2 : D} {h : Hh} {Q : D → Hh → Prop} (w : WS (evSs cs0 t_times_by_1 [some x0, some x1, some x2, none] h) (fun _ h1 => Q .non h1) Q no2 no2) : W (f_times_by [x0, x1, x2] h) Q := by
  rw [← u_times_by] at w
  exact w_fnS2 (C := cs0) (n := 4) (np := 3) (b := b_times_by) rfl rfl w
theorem r_times_by {x0 x1 x2 : D} {h : Hh} : f_times_by [x0, x1, x2] h = endR (evSs cs0 t_times_by_1 [some x0, some x1, some x2, none] h) := by
  rw [← u_times_by]
  exact fnS_run2 (C := cs0) (n := 4) (np := 3) (b := b_times_by) rfl rfl
def b_divisor_by : Ss := (.cons (.whl (.cmp .NotEq (.var 1) (.lst false .nil)) (.cons (.asg (.tp [0, 1]) (.tup (.cons (.var 1) (.cons (.idx (.call .P "parted_by" f_parted_by (.cons (.var 0) (.cons (.var 1) (.cons (.var 2) .nil)))) (.int 1)) .nil))))
  .nil))
  (.cons (.ret (.call .C "times_by" f_times_by (.cons (.var 0) (.cons (.call .P "inverse" f_inverse (.cons (.idx (.var 0) (.neg (.int 1))) (.cons (.var 2) .nil))) (.cons (.var 2) .nil)))))
  .nil))
def f_divisor_by : Fn := fnS cs0 3 3 b_divisor_by
def t_divisor_by_3 : Ss := .cons (.ret (.call .C "times_by" f_times_by (.cons (.var 0) (.cons (.call .P "inverse" f_inverse (.cons (.idx (.var 0) (.neg (.int 1))) (.cons (.var 2) .nil))) (.cons (.var 2) .nil))))) .nil
def t_divisor_by_2 : Ss := .cons (.asg (.tp [0, 1]) (.tup (.cons (.var 1) (.cons (.idx (.call .P "parted_by" f_parted_by (.cons (.var 0) (.cons (.var 1) (.cons (.var 2) .nil)))) (.int 1)) .nil)))) .nil
def t_divisor_by_1 : Ss := .cons (.whl (.cmp .NotEq (.var 1) (.lst false .nil)) t_divisor_by_2) t_divisor_by_3
theorem u_divisor_by : b_divisor_by = t_divisor_by_1 := rfl
/-- one, other, p -/
theorem w_divisor_by {x0 x1 x2 : D} {h : Hh} {Q : D → Hh → Prop} (w : WS (evSs cs0 t_divisor_by_1 [some x0, some x1, some x2] h) (fun _ h1 => Q .non h1) Q no2 no2) : W (f_divisor_by [x0, x1, x2] h) Q := by
  rw [← u_divisor_by] at w
  exact w_fnS2 (C := cs0) (n := 3) (np := 3) (b := b_divisor_by) rfl rfl w
theorem r_divisor_by {x0 x1 x2 : D} {h : Hh} : f_divisor_by [x0, x1, x2] h = endR (evSs cs0 t_divisor_by_1 [some x0, some x1, some x2] h) := by
  rw [← u_divisor_by]
  exact fnS_run2 (C := cs0) (n := 3) (np := 3) (b := b_divisor_by) rfl rfl
def b_greatest_divisor : Ss := (.cons (.ex (.call .P "need_two" f_need_two (.cons (.var 0) (.cons (.var 1) (.cons (.var 2) .nil)))))
  (.cons (.ifs (.bop .And (.cons (.cmp .Eq (.var 0) (.lst false .nil)) (.cons (.cmp .Eq (.var 1) (.lst false .nil)) .nil))) (.cons (.rais "NoPoly")
  .nil) .nil)
  (.cons (.ret (.call .C "divisor_by" f_divisor_by (.cons (.var 0) (.cons (.var 1) (.cons (.var 2) .nil)))))
  .nil)))
def f_greatest_divisor : Fn := fnS cs0 3 3 b_greatest_divisor
def t_greatest_divisor_4 : Ss := .cons (.ret (.call .C "divisor_by" f_divisor_by (.cons (.var 0) (.cons (.var 1) (.cons (.var 2) .nil))))) .nil
def t_greatest_divisor_3 : Ss := .cons (.rais "NoPoly") .nil
def t_greatest_divisor_2 : Ss := .cons (.ifs (.bop .And (.cons (.cmp .Eq (.var 0) (.lst false .nil)) (.cons (.cmp .Eq (.var 1) (.lst false .nil)) .nil))) t_greatest_divisor_3 .nil) t_greatest_divisor_4
def t_greatest_divisor_1 : Ss := .cons (.ex (.call .P "need_two" f_need_two (.cons (.var 0) (.cons (.var 1) (.cons (.var 2) .nil))))) t_greatest_divisor_2
theorem u_greatest_divisor : b_greatest_divisor = t_greatest_divisor_1 := rfl
/-- one, other, p -/
theorem w_greatest_divisor {x0 x1 x2 : D} {h : Hh} {Q : D → Hh → Prop} (w : WS (evSs cs0 t_greatest_divisor_1 [some x0, some x1, some x2] h) (fun _ h1 => Q .non h1) Q no2 no2) : W (f_greatest_divisor [x0, x1, x2] h) Q := by
  rw [← u_greatest_divisor] at w
  exact w_fnS2 (C := cs0) (n := 3) (np := 3) (b := b_greatest_divisor) rfl rfl w
theorem r_greatest_divisor {x0 x1 x2 : D} {h : Hh} : f_greatest_divisor [x0, x1, x2] h = endR (evSs cs0 t_greatest_divisor_1 [some x0, some x1, some x2] h) := by
  rw [← u_greatest_divisor]
  exact fnS_run2 (C := cs0) (n := 3) (np := 3) (b := b_greatest_divisor) rfl rfl
open Po
/-! new lists of numbers -/
theorem nols_ints (ns : List Int) : nols (ns.map .int) = true := by
  induction ns with
  | nil => rfl
  | cons n r ih => simp only [List.map_cons, nols, D.nol, Bool.true_and]; exact ih
def Gv (F : Fn) (ds : List D) (ns : List Int) : Prop := ∃ i h', F ds [] = .ok (.cel i) h' ∧ h'[i]? = some (.lst (ns.map .int))
section
variable {F : Fn} {ds es : List D} {ns : List Int} {h : Hh}
theorem Gv.P (g : Gv F ds ns) (hp : pures ds = true) : callM .P F ds h = .ok (.lst (ns.map .int)) h := let ⟨_, _, e, ei⟩ := g; callPN hp e ei
theorem Gv.CE (g : Gv F es ns) (hf : frzL (fz 0 h) ds = some es) : callM .C F ds h = .ok (.cel h.length) (h ++ [.lst (ns.map .int)]) := let ⟨_, _, e, ei⟩ := g; callCE hf e ei ⟨pures_ints ns, .inr (nols_ints ns)⟩
theorem Gv.C (g : Gv F ds ns) (hp : pures ds = true) : callM .C F ds h = .ok (.cel h.length) (h ++ [.lst (ns.map .int)]) := g.CE (frz_pures hp)
theorem Gv.of (w : W (F ds []) fun d h' => ∃ i, d = .cel i ∧ h'[i]? = some (.lst (ns.map .int))) : Gv F ds ns := by
  obtain ⟨d, h', e, i, rfl, ei⟩ := w.ex
  exact ⟨i, h', e, ei⟩
theorem fz_ints {i : Nat} (e : h[i]? = some (.lst (ns.map .int))) : fz 0 h (.cel i) = some (.lst (ns.map .int)) := fz_cel e fun d hd => by obtain ⟨n, _, rfl⟩ := List.mem_map.mp hd; rfl
/-- a list in a cell, copied -/
theorem Gv.C1 {i : Nat} {ms : List Int} (g : Gv F [.lst (ms.map .int)] ns) (e : h[i]? = some (.lst (ms.map .int))) : callM .C F [.cel i] h = .ok (.cel h.length) (h ++ [.lst (ns.map .int)]) := g.CE (by simp [frzL, fz_ints e])
/-- two new lists of numbers -/
def Pv (F : Fn) (ds : List D) (q r : List Int) : Prop := ∃ i j h', F ds [] = .ok (.tup [.cel i, .cel j]) h' ∧ h'[i]? = some (.lst (q.map .int)) ∧ h'[j]? = some (.lst (r.map .int)) ∧ i ≠ j ∧ h'.all O.noI = true
theorem Pv.of {q r : List Int} (w : W (F ds []) fun d h' => ∃ i j, d = .tup [.cel i, .cel j] ∧ h'[i]? = some (.lst (q.map .int)) ∧ h'[j]? = some (.lst (r.map .int)) ∧ i ≠ j ∧ h'.all O.noI = true) : Pv F ds q r := by
  obtain ⟨d, h', e, i, j, rfl, a, b, c, n⟩ := w.ex
  exact ⟨i, j, h', e, a, b, c, n⟩
theorem frz_ints {k : Nat} {h : Hh} {ns : List Int} : frzL (frz 0 h (k + 1)) (ns.map .int) = some (ns.map .int) := by
  induction ns with
  | nil => rfl
  | cons n r ih =>
    have : frz 0 h (k + 1) (.int n) = some (.int n) := rfl
    simp only [List.map_cons, frzL, this, Option.bind_some, ih, Option.map_some]
theorem Pv.P {q r : List Int} (g : Pv F ds q r) (hp : pures ds = true) : callM .P F ds h = .ok (.tup [.lst (q.map .int), .lst (r.map .int)]) h := by
  obtain ⟨i, j, h', e, a, b, _, _⟩ := g
  refine callP_eq hp e ?_
  have one : ∀ (k : Nat) (ns : List Int), h'[k]? = some (.lst (ns.map .int)) → frz 0 h' 7 (.cel k) = some (.lst (ns.map .int)) := fun k ns e => by
    show (if k < 0 then some (D.cel k) else (asO h'[k]?).bind fun xs => (frzL (frz 0 h' 6) xs).map .lst) = _
    rw [if_neg (Nat.not_lt_zero _), e]
    show (frzL (frz 0 h' 6) (ns.map .int)).map D.lst = _
    rw [frz_ints]; rfl
  show (if (D.tup [.cel i, .cel j]).pure = true then _ else frz 0 h' 8 (.tup [.cel i, .cel j])) = _
  rw [if_neg (by simp [D.pure, pures])]
  show (frzL (frz 0 h' 7) [.cel i, .cel j]).map D.tup = _
  simp [frzL, one i q a, one j r b]
theorem shs_ints (n : Nat) (ns : List Int) : shs n (ns.map .int) = ns.map .int := shs_pure n _ (pures_ints ns)
theorem Pv.L {q r : List Int} {Q : D → Hh → Prop} (g : Pv F ds q r) (hp : pures ds = true) (k : ∀ i j g, i ≠ j → h.length ≤ i → h.length ≤ j → g.all O.noI = true → (h ++ g)[i]? = some (.lst (q.map .int)) → (h ++ g)[j]? = some (.lst (r.map .int)) → Q (.tup [.cel i, .cel j]) (h ++ g)) : W (callM .L F ds h) Q := by
  obtain ⟨i, j, h', e, a, b, ne, ni⟩ := g
  refine w_callL hp (W.of e ⟨ni, ?_⟩)
  have sh : ∀ (k : Nat) (ns : List Int), h'[k]? = some (.lst (ns.map .int)) → (h ++ h'.map (O.sh h.length))[h.length + k]? = some (.lst (ns.map .int)) := fun k ns e => by
    rw [List.getElem?_append_right (by omega), show h.length + k - h.length = k by omega, List.getElem?_map, e]
    show some (O.lst (shs h.length (ns.map .int))) = _
    rw [shs_ints]
  refine k (h.length + i) (h.length + j) _ (by omega) (by omega) (by omega) ?_ (sh i q a) (sh j r b)
  rw [List.all_map, List.all_eq_true] at *
  intro o ho
  have := ni o ho
  cases o <;> first | rfl | cases this
end
theorem last_int {xs : List Int} (he : xs ≠ []) : atI (xs.map D.int) (-1) = some (.int (xs.getLast he)) := by
  rw [Tb.atI_last, List.length_map, List.getElem?_map, ← List.getLast?_eq_getElem?, List.getLast?_eq_some_getLast he]
  rfl
/-! the fields -/
def FP : List Nat := [3, 5, 7, 11, 13, 17, 19, 23, 29, 31, 37, 41, 43, 47, 53, 59, 61, 67, 71, 73, 79, 83, 89, 97]
def okNon : R D → Bool
  | .ok .non [] => true
  | _ => false
theorem okNon_of {r : R D} (h : okNon r = true) : r = .ok .non [] := by
  unfold okNon at h
  split at h
  · rfl
  · cases h
theorem need_field_all : (FP.all fun p => okNon (f_need_field [.int (p : Nat)] [])) = true := by decide +kernel
theorem need_field_ok {p : Nat} {h : Hh} (q : p ∈ FP) : callM .P f_need_field [.int (p : Nat)] h = .ok .non h := callPP rfl (okNon_of (List.all_eq_true.mp need_field_all p q)) rfl
theorem FP_le {p : Nat} (q : p ∈ FP) : 3 ≤ p ∧ p ≤ 97 := by
  have z : (FP.all fun p => decide (3 ≤ p ∧ p ≤ 97)) = true := by decide
  exact of_decide_eq_true (List.all_eq_true.mp z p q)
theorem FP_inv {p a : Nat} (q : p ∈ FP) (a0 : 0 < a) (a1 : a < p) : ∃ b, 0 < b ∧ b < p ∧ a * b % p = 1 := by
  have z : (FP.all fun p => (List.range p).all fun a => a == 0 || (List.range p).any fun b => b != 0 && a * b % p == 1) = true := by decide +kernel
  have z := List.all_eq_true.mp (List.all_eq_true.mp z p q) a (List.mem_range.mpr a1)
  simp only [Bool.or_eq_true, beq_iff_eq, List.any_eq_true, List.mem_range, Bool.and_eq_true, bne_iff_ne] at z
  rcases z with z | ⟨b, b1, b0, e⟩
  · omega
  · exact ⟨b, by omega, b1, e⟩
theorem FP_fld {p : Nat} [NeZero p] (q : p ∈ FP) : Fld (Fin p) := by
  have b := FP_le q
  refine ⟨fun a ha => ?_, fun z => ?_⟩
  · have a0 : 0 < a.val := Nat.pos_of_ne_zero fun z => ha (by rw [Fin.ext_iff, z]; rfl)
    obtain ⟨c, c0, c1, e⟩ := FP_inv q a0 a.isLt
    refine ⟨⟨c, c1⟩, ?_⟩
    rw [← cz_1, ← cz_surj (a * _)]
    rw [cz_eq]
    congr 1
    rw [Fin.val_mul]
    show ((a.val * c % p : Nat) : Int) = 1
    rw [e]; rfl
  · have := cz_inj (p := p) (a := 1) (b := 0) (by omega) (by omega) (by omega) (by omega) (by rw [cz_1, cz_0]; exact z)
    omega
@[simp] theorem is_place_ok {x p : Int} {h : Hh} : callM .P f_is_place [.int x, .int p] h = .ok (.bl (decide (0 ≤ x ∧ x < p))) h := by
  refine callPP rfl (d := .bl (decide (0 ≤ x ∧ x < p))) (h' := []) (r_is_place.trans ?_) rfl
  by_cases h0 : 0 ≤ x <;> simp [t_is_place_1, h0]
section
variable {p : Nat} [NeZero p]
theorem is_poly_by_ok {xs : List Int} {h : Hh} (hx : Can p xs) (hl : xs.length ≤ 1000) : callM .P f_is_poly_by [.lst (xs.map .int), .int (p : Nat)] h = .ok (.bl true) h := by
  refine callPP (by simp [pures, D.pure, pures_ints]) (d := .bl true) (h' := []) (eq_of_W (w_is_poly_by ?_)) rfl
  generalize hQ : (fun (x : D) (k : Hh) => x = D.bl true ∧ k = []) = Q
  simp (disch := walk_at "ln") [-getElem?_pos, -max_ii, -min_ii, -max_t2, -abs_i, max_iO, min_iO, max_tO, abs_iO, List.getElem?_cons_zero, List.getElem?_append_left, t_is_poly_by_1, wipeL]
  refine w_cA D.int xs (fun _ => false) D.int rfl (by omega) (fun a ha => ⟨_, rfl, ?_, fun z => (by cases z)⟩) ?_
  · have := hx.1 a ha
    simp [this.1, this.2]
  rw [List.filter_eq_nil_iff.mpr (by simp)]
  by_cases he : xs = []
  · subst he
    simp (disch := walk_at "ln") [-getElem?_pos, -max_ii, -min_ii, -max_t2, -abs_i, max_iO, min_iO, max_tO, abs_iO, List.getElem?_cons_zero, List.getElem?_append_left, t_is_poly_by_3, ← hQ]
  · have l := last_int he
    have n := hx.2 he
    simp (disch := walk_at "ln") [-getElem?_pos, -max_ii, -min_ii, -max_t2, -abs_i, max_iO, min_iO, max_tO, abs_iO, List.getElem?_cons_zero, List.getElem?_append_left, t_is_poly_by_3, eq_ints0, he, l, n, ← hQ]
theorem need_poly_ok {xs : List Int} {h : Hh} (hx : Can p xs) (hl : xs.length ≤ 1000) : callM .P f_need_poly [.lst (xs.map .int), .int (p : Nat)] h = .ok .non h := by
  refine callPP (by simp [pures, D.pure, pures_ints]) (d := .non) (h' := []) (r_need_poly.trans ?_) rfl
  simp [t_need_poly_1, is_poly_by_ok hx hl]
theorem need_two_ok {xs ys : List Int} {h : Hh} (q : p ∈ FP) (hx : Can p xs) (hl : xs.length ≤ 1000) (hy : Can p ys) (hm : ys.length ≤ 1000) : callM .P f_need_two [.lst (xs.map .int), .lst (ys.map .int), .int (p : Nat)] h = .ok .non h := by
  refine callPP (by simp [pures, D.pure, pures_ints]) (d := .non) (h' := []) (r_need_two.trans ?_) rfl
  simp [t_need_two_1, t_need_two_2, t_need_two_3, need_field_ok q, need_poly_ok hx hl, need_poly_ok hy hm]
/-! the noughts behind off -/
theorem trimmed_gv {ns : List Int} (hl : ns.length ≤ 1000) : Gv f_trimmed [.lst (ns.map .int)] (trimL ns) := by
  refine Gv.of (w_trimmed ?_)
  generalize hQ : (fun (d : D) (h' : Hh) => ∃ i, d = .cel i ∧ h'[i]? = some (O.lst ((trimL ns).map .int))) = Q
  simp (disch := walk_at "ln") [-getElem?_pos, -max_ii, -min_ii, -max_t2, -abs_i, max_iO, min_iO, max_tO, abs_iO, List.getElem?_cons_zero, List.getElem?_append_left, t_trimmed_1, t_trimmed_2]
  refine w_while (fun m ls h => ∃ l : List Int, ls = [some (.lst (ns.map .int)), some (.cel 0)] ∧ h = [.lst (l.map .int)] ∧ l.length = m ∧ trimL l = trimL ns) (n := ns.length) ⟨ns, rfl, rfl, rfl, rfl⟩ (by unfold FUEL; omega) ?_
  rintro m _ _ hm ⟨l, rfl, rfl, hl, tl⟩
  have ne := ne_cel_nil (ns := l) (h := [O.lst (l.map .int)]) (i := 0) rfl
  by_cases he : l = []
  · subst he
    simp at ne
    simp (disch := walk_at "ln") [-getElem?_pos, -max_ii, -min_ii, -max_t2, -abs_i, max_iO, min_iO, max_tO, abs_iO, List.getElem?_cons_zero, List.getElem?_append_left, ne]
    simp (disch := walk_at "ln") [-getElem?_pos, -max_ii, -min_ii, -max_t2, -abs_i, max_iO, min_iO, max_tO, abs_iO, List.getElem?_cons_zero, List.getElem?_append_left, t_trimmed_4, ← hQ, ← tl]
    rw [trimL, dif_pos rfl]
  · have la := last_int he
    simp (disch := walk_at "ln") [-getElem?_pos, -max_ii, -min_ii, -max_t2, -abs_i, max_iO, min_iO, max_tO, abs_iO, List.getElem?_cons_zero, List.getElem?_append_left, ne, he, la]
    by_cases q : l.getLast he = 0
    · refine ⟨fun _ => ?_, fun z => absurd q z⟩
      have he2 : l.map D.int ≠ [] := by simpa using he
      have hp := List.length_pos_iff.mpr he
      have gl : (l.map D.int).getLast? = some (.int (l.getLast he)) := by
        rw [List.getLast?_map, List.getLast?_eq_some_getLast he]; rfl
      simp (disch := walk_at "ln") [-getElem?_pos, -max_ii, -min_ii, -max_t2, -abs_i, max_iO, min_iO, max_tO, abs_iO, List.getElem?_cons_zero, List.getElem?_append_left, t_trimmed_3, gl]
      refine ⟨l.length - 1, by omega, l.dropLast, ?_, by simp, ?_⟩
      · rw [List.map_dropLast]
      · rw [← tl]; conv => rhs; rw [trimL, dif_neg he, if_pos q]
    · refine ⟨fun z => absurd z q, fun _ => ?_⟩
      simp (disch := walk_at "ln") [-getElem?_pos, -max_ii, -min_ii, -max_t2, -abs_i, max_iO, min_iO, max_tO, abs_iO, List.getElem?_cons_zero, List.getElem?_append_left, t_trimmed_4, ← hQ, ← tl]
      rw [trimL, dif_neg he, if_neg q]
end
end U
namespace U
open PySem PySem.Spec PyProof.Rows L2 Tb
section
open Po
variable {p : Nat} [NeZero p]
theorem mapmod_red (l : List α) (f : α → Int) : Red p (l.map fun a => f a % p) := fun a ha => by
  obtain ⟨x, _, rfl⟩ := List.mem_map.mp ha
  have := p_pos (p := p)
  exact ⟨Int.emod_nonneg _ (by omega), Int.emod_lt_of_pos _ (by omega)⟩
theorem ser_map_mul (xs : List Int) (c : Int) : ser p (xs.map fun a => a * c % p) = ser p xs * C (cz p c) := by
  induction xs with
  | nil => rw [List.map_nil, ser_nil]; grind
  | cons a r ih => rw [List.map_cons, ser_cons, ser_cons, ih, cz_mod, cz_mul, C_mul]; grind
theorem timP_is (xs : List Int) (c : Int) : trimL (xs.map fun a => a * c % p) = timP p xs c := trim_is (mapmod_red xs _) (timP_can xs c) (by rw [ser_map_mul, timP_ser])
theorem times_gv {xs : List Int} {c : Int} (hx : Red p xs) (hp : p ≤ 100) (hl : xs.length ≤ 1000) (c0 : 0 ≤ c) (c1 : c < p) : Gv f_times_by [.lst (xs.map .int), .int c, .int (p : Nat)] (timP p xs c) := by
  refine Gv.of (w_times_by ?_)
  generalize hQ : (fun (d : D) (h' : Hh) => ∃ i, d = .cel i ∧ h'[i]? = some (O.lst ((timP p xs c).map .int))) = Q
  have p0 := p_pos (p := p)
  simp (disch := walk_at "ln") [-getElem?_pos, -max_ii, -min_ii, -max_t2, -abs_i, max_iO, min_iO, max_tO, abs_iO, List.getElem?_cons_zero, List.getElem?_append_left, t_times_by_1, wipeL]
  refine w_cA D.int xs (fun _ => true) (fun a => .int (a * c % p)) rfl (by omega) (fun a ha => ⟨_, rfl, ⟨rfl, rfl⟩, fun _ => ?_⟩) ?_
  · have := hx a ha
    try simp (disch := walk_at "ln") [-getElem?_pos, -max_ii, -min_ii, -max_t2, -abs_i, max_iO, min_iO, max_tO, abs_iO, List.getElem?_cons_zero, List.getElem?_append_left]
  rw [List.filter_eq_self.mpr (fun _ _ => rfl), show (xs.map fun a => D.int (a * c % p)) = (xs.map fun a => a * c % p).map D.int by rw [List.map_map]; rfl]
  have t := (trimmed_gv (ns := xs.map fun a => a * c % p) (by simp; omega)).C (h := []) (by simp only [pures, D.pure, pures_ints, Bool.and_true])
  rw [timP_is] at t
  generalize (xs.map fun a => a * c % p) = L at *
  simp (disch := walk_at "ln") [-getElem?_pos, -max_ii, -min_ii, -max_t2, -abs_i, max_iO, min_iO, max_tO, abs_iO, List.getElem?_cons_zero, List.getElem?_append_left, mkL, t, ← hQ]
theorem inverse_ex {a : Int} (q : p ∈ FP) (a0 : 0 < a) (a1 : a < p) : ∃ v : Int, 0 < v ∧ v < p ∧ a * v % p = 1 ∧ ∀ h : Hh, callM .P f_inverse [.int a, .int (p : Nat)] h = .ok (.int v) h := by
  obtain ⟨b, b0, b1, e⟩ := FP_inv (a := a.toNat) q (by omega) (by omega)
  have pb := FP_le q
  have e2 : a * (b : Int) % p = 1 := by
    have : ((a.toNat * b % p : Nat) : Int) = 1 := by rw [e]; rfl
    rw [Int.natCast_emod, Int.natCast_mul, show ((a.toNat : Nat) : Int) = a by omega] at this
    exact this
  have ne : ((List.range (p - 1)).filter fun (i : Nat) => decide (a * (1 + (i : Int)) % p = 1)) ≠ [] := fun z => by
    have := List.filter_eq_nil_iff.mp z (b - 1) (List.mem_range.mpr (by omega))
    rw [show (1 + ((b - 1 : Nat) : Int)) = (b : Int) by omega] at this
    exact this (decide_eq_true e2)
  obtain ⟨i, r, er⟩ := List.exists_cons_of_ne_nil ne
  have mi : i ∈ (List.range (p - 1)).filter fun (i : Nat) => decide (a * (1 + (i : Int)) % p = 1) := by rw [er]; exact List.mem_cons_self
  obtain ⟨m1, m2⟩ := List.mem_filter.mp mi
  have m1 := List.mem_range.mp m1
  refine ⟨1 + (i : Int), by omega, by omega, of_decide_eq_true m2, fun h => ?_⟩
  refine callPP rfl (d := .int (1 + (i : Int))) (h' := []) (eq_of_W (w_inverse ?_)) rfl
  generalize hQ : (fun (x : D) (k : Hh) => x = D.int (1 + (i : Int)) ∧ k = []) = Q
  simp (disch := walk_at "ln") [-getElem?_pos, -max_ii, -min_ii, -max_t2, -abs_i, max_iO, min_iO, max_tO, abs_iO, List.getElem?_cons_zero, List.getElem?_append_left, t_inverse_1, wipeL]
  refine w_comp_rngA (fun i => decide (a * (1 + (i : Int)) % p = 1)) (fun i => .int (1 + (i : Int))) (by unfold LIM; omega) ?_ ?_
  · intro j hj
    refine ⟨_, rfl, ?_, fun _ => ?_⟩
    · try simp (disch := walk_at "ln") [-getElem?_pos, -max_ii, -min_ii, -max_t2, -abs_i, max_iO, min_iO, max_tO, abs_iO, List.getElem?_cons_zero, List.getElem?_append_left]
    · try simp (disch := walk_at "ln") [-getElem?_pos, -max_ii, -min_ii, -max_t2, -abs_i, max_iO, min_iO, max_tO, abs_iO, List.getElem?_cons_zero, List.getElem?_append_left]
  rw [er]
  simp (disch := walk_at "ln") [-getElem?_pos, -max_ii, -min_ii, -max_t2, -abs_i, max_iO, min_iO, max_tO, abs_iO, List.getElem?_cons_zero, List.getElem?_append_left, mkL, ← hQ]
theorem zip_ser : ∀ (la lb : List Int), la.length = lb.length → ser p ((la.zip lb).map fun q => (q.1 + q.2) % p) = ser p la + ser p lb
  | [], [], _ => by rw [List.zip_nil_left, List.map_nil, ser_nil]; grind
  | a :: la, b :: lb, e => by
    rw [List.zip_cons_cons, List.map_cons, ser_cons, ser_cons, ser_cons, zip_ser la lb (by simpa using e), cz_mod, cz_add, C_add]; grind
  | [], b :: lb, e => by simp at e
  | a :: la, [], e => by simp at e
def padL (m : Nat) (l : List Int) : List Int := l ++ List.replicate (m - l.length) 0
theorem padL_len {m : Nat} {l : List Int} (h : l.length ≤ m) : (padL m l).length = m := by simp [padL]; omega
theorem padL_ser (m : Nat) (l : List Int) : ser p (padL m l) = ser p l := ser_app0 _ _
theorem sumP_is (xs ys : List Int) : trimL (((padL (max xs.length ys.length) xs).zip (padL (max xs.length ys.length) ys)).map fun q => (q.1 + q.2) % p) = sumP p xs ys := by
  refine trim_is (mapmod_red _ fun q : Int × Int => q.1 + q.2) (sumP_can xs ys) ?_
  rw [zip_ser _ _ (by rw [padL_len (by omega), padL_len (by omega)]), padL_ser, padL_ser, sumP_ser]
theorem zipD (la lb : List Int) : zipL (la.map D.int) (lb.map D.int) = (la.zip lb).map fun q => D.tup [.int q.1, .int q.2] := by
  induction la generalizing lb with
  | nil => rfl
  | cons a la ih =>
    cases lb with
    | nil => rfl
    | cons b lb => rw [List.zip_cons_cons, List.map_cons, List.map_cons, List.map_cons, ← ih]; rfl
theorem sum_gv {xs ys : List Int} (hl : xs.length ≤ 400) (hm : ys.length ≤ 400) (hp : p ≤ 100) : Gv f_sum_by [.lst (xs.map .int), .lst (ys.map .int), .int (p : Nat)] (sumP p xs ys) := by
  refine Gv.of (w_sum_by ?_)
  generalize hQ : (fun (d : D) (h' : Hh) => ∃ i, d = .cel i ∧ h'[i]? = some (O.lst ((sumP p xs ys).map .int))) = Q
  have p0 := p_pos (p := p)
  have si := sumP_is (p := p) xs ys
  have zl := padL_len (m := max xs.length ys.length) (l := xs) (by omega)
  have zm := padL_len (m := max xs.length ys.length) (l := ys) (by omega)
  obtain ⟨m, hm2⟩ : ∃ m, m = max xs.length ys.length := ⟨_, rfl⟩
  rw [← hm2] at si zl zm
  have hm3 : max (xs.length : Int) (ys.length : Int) = (m : Int) := by omega
  simp (disch := walk_at "ln") [-getElem?_pos, -max_ii, -min_ii, -max_t2, -abs_i, max_iO, min_iO, max_tO, abs_iO, List.getElem?_cons_zero, List.getElem?_append_left, t_sum_by_1, hm3, t_sum_by_2, wipeL]
  refine w_cA (fun l : List Int => D.lst (l.map .int)) [xs, ys] (fun _ => true) (fun l => .lst ((padL m l).map .int)) rfl (by simp) (fun l hl => ⟨_, rfl, ⟨rfl, rfl⟩, fun _ => ?_⟩) ?_
  · have le : l.length ≤ m := by
      simp only [List.mem_cons, List.not_mem_nil, or_false] at hl
      rcases hl with rfl | rfl <;> omega
    have e : ((m : Int) - (l.length : Int)).toNat = m - l.length := by omega
    simp (disch := walk_at "ln") [-getElem?_pos, -max_ii, -min_ii, -max_t2, -abs_i, max_iO, min_iO, max_tO, abs_iO, List.getElem?_cons_zero, List.getElem?_append_left, mkL, e, padL]
  rw [List.filter_eq_self.mpr (fun _ _ => rfl), List.map_cons, List.map_cons, List.map_nil]
  generalize padL m xs = A at *
  generalize padL m ys = B at *
  simp (disch := walk_at "ln") [-getElem?_pos, -max_ii, -min_ii, -max_t2, -abs_i, max_iO, min_iO, max_tO, abs_iO, List.getElem?_cons_zero, List.getElem?_append_left, mkL, t_sum_by_3, wipeL]
  refine w_cA (fun q : Int × Int => D.tup [.int q.1, .int q.2]) (A.zip B) (fun _ => true) (fun q => .int ((q.1 + q.2) % p)) (by show some (zipL _ _) = _; rw [zipD]) (by simp; omega) (fun q hq => ⟨_, rfl, ⟨rfl, rfl⟩, fun _ => ?_⟩) ?_
  · try simp (disch := walk_at "ln") [-getElem?_pos, -max_ii, -min_ii, -max_t2, -abs_i, max_iO, min_iO, max_tO, abs_iO, List.getElem?_cons_zero, List.getElem?_append_left]
  rw [List.filter_eq_self.mpr (fun _ _ => rfl), show ((A.zip B).map fun q => D.int ((q.1 + q.2) % p)) = ((A.zip B).map fun q => (q.1 + q.2) % (p : Int)).map D.int by rw [List.map_map]; rfl]
  have t := (trimmed_gv (ns := (A.zip B).map fun q => (q.1 + q.2) % (p : Int)) (by simp; omega)).C (h := []) (by simp only [pures, D.pure, pures_ints, Bool.and_true])
  rw [si] at t
  generalize ((A.zip B).map fun q => (q.1 + q.2) % (p : Int)) = L at *
  simp (disch := walk_at "ln") [-getElem?_pos, -max_ii, -min_ii, -max_t2, -abs_i, max_iO, min_iO, max_tO, abs_iO, List.getElem?_cons_zero, List.getElem?_append_left, mkL, t, ← hQ]
/-! products -/
theorem prod_step {F xs ys : List Int} {i j : Nat} (hi : i < xs.length) (hj : j < ys.length) (lF : F.length = xs.length + ys.length) (hF : Red p F) (e : ser p F = ser p (xs.take i) * ser p ys + mono i (cz p xs[i]) * ser p (ys.take j)) :
    Red p (F.set (i + j) ((F.getD (i + j) 0 + xs[i] * ys[j]) % p)) ∧ ser p (F.set (i + j) ((F.getD (i + j) 0 + xs[i] * ys[j]) % p)) = ser p (xs.take i) * ser p ys + mono i (cz p xs[i]) * ser p (ys.take (j + 1)) := by
  have p0 := p_pos (p := p)
  have hk : i + j < F.length := by omega
  have eg : F.getD (i + j) 0 = F[i + j] := by rw [List.getD, List.getElem?_eq_getElem hk]; rfl
  refine ⟨fun a ha => ?_, ?_⟩
  · rcases List.mem_or_eq_of_mem_set ha with z | z
    · exact hF a z
    · rw [z]; exact ⟨Int.emod_nonneg _ (by omega), Int.emod_lt_of_pos _ (by omega)⟩
  · rw [ser_set _ _ _ hk, e, ser_take_succ ys j hj, cz_mod, eg, cz_add, cz_mul]
    have := mono_mul i j (cz p xs[i]) (cz p ys[j])
    have e2 : cz p F[i + j] + cz p xs[i] * cz p ys[j] - cz p F[i + j] = cz p xs[i] * cz p ys[j] := by grind
    rw [e2, ← this]
    grind
theorem getD_red {F : List Int} (h : Red p F) (k : Nat) : 0 ≤ F.getD k 0 ∧ F.getD k 0 < p := by
  have p0 := p_pos (p := p)
  rw [List.getD]
  by_cases q : k < F.length
  · rw [List.getElem?_eq_getElem q]; exact h _ (List.getElem_mem q)
  · rw [List.getElem?_eq_none (by omega)]; simp; omega
theorem atI_ints {F : List Int} {k : Nat} (h : k < F.length) : atI (F.map D.int) (k : Nat) = some (.int (F.getD k 0)) := by
  rw [atI_at, List.getElem?_map, List.getElem?_eq_getElem h, List.getD, List.getElem?_eq_getElem h]; rfl
theorem w_enuLt {h : Hh} {ls : Ls} {N B K : Ls → Hh → Prop} {T : D → Hh → Prop} {g : D → Ls → Option Ls} {b : Ls → Hh → RS} (I : Nat → Ls → Hh → Prop) {xs : List Int} (h0 : I 0 ls h) (st : ∀ (j : Nat) (hj : j < xs.length) l h, I j l h → ∃ l1, g (.tup [.int (j : Nat), .int xs[j]]) l = some l1 ∧ WS (b l1 h) (I (j + 1)) T N (I (j + 1))) (fin : ∀ l h, I xs.length l h → N l h) : WS (forR (.enu (.lst (xs.map D.int))) g b ls h) N T B K := by
  have len : ∀ (xs : List D) (n : Nat), (enumL n xs).length = xs.length := by
    intro xs
    induction xs with
    | nil => intro n; rfl
    | cons x r ih => intro n; simp [enumL, ih]
  have at_ : ∀ (xs : List D) (n i : Nat), (enumL n xs)[i]? = (xs[i]?).map fun d => D.tup [.int ((n + i : Nat) : Int), d] := by
    intro xs
    induction xs with
    | nil => intro n i; simp [enumL]
    | cons x r ih =>
      intro n i
      cases i with
      | zero => simp [enumL]
      | succ i =>
        rw [enumL, List.getElem?_cons_succ, ih, List.getElem?_cons_succ]
        congr 2
        funext d
        rw [show n + 1 + i = n + (i + 1) by omega]
  refine w_for I (it := .enu (.lst (xs.map D.int))) (xs := enumL 0 (xs.map D.int)) rfl rfl h0 (fun j x l h e q => ?_) (fun l h q => fin l h (by rw [len, List.length_map] at q; exact q))
  rw [at_, Nat.zero_add, List.getElem?_map] at e
  obtain ⟨y, e1, rfl⟩ := Option.map_eq_some_iff.mp e
  obtain ⟨z, e2, rfl⟩ := Option.map_eq_some_iff.mp e1
  obtain ⟨hj, rfl⟩ := List.getElem?_eq_some_iff.mp e2
  exact st j hj l h q
theorem product_gv {xs ys : List Int} (hx : Red p xs) (hy : Red p ys) (hl : xs.length ≤ 400) (hm : ys.length ≤ 400) (hp : p ≤ 100) : Gv f_product_by [.lst (xs.map .int), .lst (ys.map .int), .int (p : Nat)] (mulP p xs ys) := by
  refine Gv.of (w_product_by ?_)
  generalize hQ : (fun (d : D) (h' : Hh) => ∃ i, d = .cel i ∧ h'[i]? = some (O.lst ((mulP p xs ys).map .int))) = Q
  have p0 := p_pos (p := p)
  have e0 : ((xs.length : Int) + (ys.length : Int)).toNat = xs.length + ys.length := by omega
  have r0 : List.replicate (xs.length + ys.length) (D.int 0) = (List.replicate (xs.length + ys.length) (0 : Int)).map D.int := by rw [List.map_replicate]
  have rf : (List.replicate (xs.length + ys.length) [D.int 0]).flatten = (List.replicate (xs.length + ys.length) (0 : Int)).map D.int := by rw [← r0]; induction (xs.length + ys.length) with | zero => rfl | succ n ih => rw [List.replicate_succ, List.flatten_cons, ih, List.replicate_succ]; rfl
  simp (disch := walk_at "ln") [-getElem?_pos, -max_ii, -min_ii, -max_t2, -abs_i, max_iO, min_iO, max_tO, abs_iO, List.getElem?_cons_zero, List.getElem?_append_left, t_product_by_1, e0, rf]
  obtain ⟨I, hI⟩ := opq fun (i : Nat) (ls : Ls) (h' : Hh) => ∃ (F : List Int) (o4 o5 o6 o7 : Option D), ls = [some (.lst (xs.map .int)), some (.lst (ys.map .int)), some (.int (p : Nat)), some (.cel 0), o4, o5, o6, o7] ∧ h' = [.lst (F.map .int)] ∧ F.length = xs.length + ys.length ∧ Red p F ∧ ser p F = ser p (xs.take i) * ser p ys
  simp (disch := walk_at "ln") [-getElem?_pos, -max_ii, -min_ii, -max_t2, -abs_i, max_iO, min_iO, max_tO, abs_iO, List.getElem?_cons_zero, List.getElem?_append_left, t_product_by_2]
  refine w_enuLt I (by rw [hI]; exact ⟨List.replicate (xs.length + ys.length) 0, _, _, _, _, rfl, by rw [List.map_replicate], by simp, fun a ha => by rw [(List.mem_replicate.mp ha).2]; omega, by rw [ser_rep0, List.take_zero, ser_nil]; grind⟩) ?_ ?_
  · intro i hi _ _ q
    rw [hI] at q
    obtain ⟨F, o4, o5, o6, o7, rfl, rfl, lF, rF, eF⟩ := q
    refine ⟨_, rfl, ?_⟩
    have xi := hx _ (List.getElem_mem hi)
    obtain ⟨J, hJ⟩ := opq fun (j : Nat) (ls : Ls) (h' : Hh) => ∃ (F : List Int) (o6 o7 : Option D), ls = [some (.lst (xs.map .int)), some (.lst (ys.map .int)), some (.int (p : Nat)), some (.cel 0), some (.int (i : Nat)), some (.int xs[i]), o6, o7] ∧ h' = [.lst (F.map .int)] ∧ F.length = xs.length + ys.length ∧ Red p F ∧ ser p F = ser p (xs.take i) * ser p ys + mono i (cz p xs[i]) * ser p (ys.take j)
    simp (disch := walk_at "ln") [-getElem?_pos, -max_ii, -min_ii, -max_t2, -abs_i, max_iO, min_iO, max_tO, abs_iO, List.getElem?_cons_zero, List.getElem?_append_left, t_product_by_3]
    refine w_enuLt J (by rw [hJ]; exact ⟨F, _, _, rfl, rfl, lF, rF, by rw [eF, List.take_zero, ser_nil]; grind⟩) ?_ ?_
    · intro j hj _ _ q
      rw [hJ] at q
      obtain ⟨F, o6, o7, rfl, rfl, lF, rF, eF⟩ := q
      refine ⟨_, rfl, ?_⟩
      have yj := hy _ (List.getElem_mem hj)
      have st := prod_step hi hj lF rF eF
      have fb := getD_red rF (i + j)
      have ea := atI_ints (F := F) (k := i + j) (by omega)
      rw [show ((i + j : Nat) : Int) = (i : Int) + (j : Int) by omega] at ea
      have tn : ((i : Int) + (j : Int)).toNat = i + j := by omega
      generalize F.getD (i + j) 0 = v at *
      simp (disch := walk_at "ln") [-getElem?_pos, -max_ii, -min_ii, -max_t2, -abs_i, max_iO, min_iO, max_tO, abs_iO, List.getElem?_cons_zero, List.getElem?_append_left, t_product_by_4, ea, tn]
      rw [hJ]
      exact ⟨F.set (i + j) ((v + xs[i] * ys[j]) % p), _, _, rfl, by rw [List.map_set], by simpa using lF, st.1, st.2⟩
    · intro _ _ q
      rw [hJ] at q
      obtain ⟨F, o6, o7, rfl, rfl, lF, rF, eF⟩ := q
      try simp (disch := walk_at "ln") [-getElem?_pos, -max_ii, -min_ii, -max_t2, -abs_i, max_iO, min_iO, max_tO, abs_iO, List.getElem?_cons_zero, List.getElem?_append_left]
      rw [hI]
      refine ⟨F, _, _, _, _, rfl, rfl, lF, rF, ?_⟩
      rw [eF, List.take_length, ser_take_succ xs i hi]; grind
  · intro _ _ q
    rw [hI] at q
    obtain ⟨F, o4, o5, o6, o7, rfl, rfl, lF, rF, eF⟩ := q
    rw [List.take_length] at eF
    have t := (trimmed_gv (ns := F) (by omega)).C1 (h := [.lst (F.map .int)]) (i := 0) rfl
    rw [trim_is rF (mulP_can xs ys) (by rw [eF, mulP_ser])] at t
    simp (disch := walk_at "ln") [-getElem?_pos, -max_ii, -min_ii, -max_t2, -abs_i, max_iO, min_iO, max_tO, abs_iO, List.getElem?_cons_zero, List.getElem?_append_left, t_product_by_5, t, ← hQ]
end
end U
namespace U
open PySem PySem.Spec PyProof.Rows L2 Tb
section
open Po
variable {p : Nat} [NeZero p]
theorem rng3O {n m : Int} (a : -1000000000000 ≤ n) (b : n ≤ 1000000000000) (a2 : -1000000000000 ≤ m) (b2 : m ≤ 1000000000000) : rngOf [.int n, .int m, .int (-1)] = some (.rng n (n - m).toNat (-1)) := by
  show (if smallR n = true ∧ smallR m = true then _ else _) = _
  rw [if_pos ⟨smallR_i a b, smallR_i a2 b2⟩]
theorem dg_drop {s : Ser (Fin p)} {ys : List Int} {a n : Nat} {c : Fin p} (hn : ys.length = n + 1) (hs : Dg s (a + n + 1)) (hc : s.at_ (a + n) = c * cz p (ys.getD n 0)) : Dg (s - mono a c * ser p ys) (a + n) := fun i hi => by
  have d := ser_dg (p := p) ys
  rw [hn] at d
  obtain ⟨e1, e2⟩ := lead (mono_dg a c) d
  rw [sub_at]
  by_cases q : i = a + n
  · subst q
    rw [e1, hc, ser_at]
    show _ - (if a = a then c else 0) * _ = _
    rw [if_pos rfl]; grind
  · rw [hs i (by omega), e2 i (by omega)]; grind
theorem part_in {R : List Int} {k : Nat} (v : Int) (hk : k < R.length) (hR : Red p R) : Red p (R.set k ((R.getD k 0 - v) % p)) ∧ ser p (R.set k ((R.getD k 0 - v) % p)) = ser p R - mono k (cz p v) := by
  have p0 := p_pos (p := p)
  refine ⟨fun a ha => ?_, ?_⟩
  · rcases List.mem_or_eq_of_mem_set ha with z | z
    · exact hR a z
    · rw [z]; exact ⟨Int.emod_nonneg _ (by omega), Int.emod_lt_of_pos _ (by omega)⟩
  · have eg : R.getD k 0 = R[k] := by rw [List.getD, List.getElem?_eq_getElem hk]; rfl
    rw [ser_set _ _ _ hk, cz_mod, eg, cz_sub]
    have e2 : cz p R[k] - cz p v - cz p R[k] = - cz p v := by grind
    have e3 : mono k (-cz p v) = - mono k (cz p v) := by
      have := mono_sub k (0 : Fin p) (cz p v)
      rw [mono_z] at this
      have z : (0 : Fin p) - cz p v = - cz p v := by grind
      rw [z] at this
      rw [this]; grind
    rw [e2, e3]; grind
theorem set_ok {Q : List Int} {k : Nat} {c : Int} (hk : k < Q.length) (hQ : Red p Q) (z : Q.getD k 0 = 0) (c0 : 0 ≤ c) (c1 : c < p) : Red p (Q.set k c) ∧ ser p (Q.set k c) = ser p Q + mono k (cz p c) := by
  refine ⟨fun a ha => ?_, ?_⟩
  · rcases List.mem_or_eq_of_mem_set ha with z | z
    · exact hQ a z
    · rw [z]; exact ⟨c0, c1⟩
  · have eg : Q.getD k 0 = Q[k] := by rw [List.getD, List.getElem?_eq_getElem hk]; rfl
    rw [ser_set _ _ _ hk, ← eg, z, cz_0]
    have : cz p c - 0 = cz p c := by grind
    rw [this]
theorem mono_split (a k : Nat) (c y : Int) : mono (a + k) (cz p (c * y)) = mono a (cz p c) * mono k (cz p y) := by rw [mono_mul, cz_mul]
theorem parted_pv {xs ys : List Int} (q : p ∈ FP) (hx : Can p xs) (hy : Can p ys) (ne : ys ≠ []) (hl : xs.length ≤ 400) (hm : ys.length ≤ 400) : ∃ qs rs, Dm p xs ys qs rs ∧ qs.length ≤ xs.length + 1 - ys.length ∧ rs.length ≤ xs.length ∧ Pv f_parted_by [.lst (xs.map .int), .lst (ys.map .int), .int (p : Nat)] qs rs := by
  have pb := FP_le q
  obtain ⟨n, hn⟩ : ∃ n, ys.length = n + 1 := ⟨ys.length - 1, by have := List.length_pos_iff.mpr ne; omega⟩
  have yl := hy.1 _ (List.getLast_mem ne)
  have yn := hy.2 ne
  obtain ⟨v, v0, v1, ev, vk⟩ := inverse_ex (a := ys.getLast ne) q (by omega) (by omega)
  have la := last_int ne
  have yg : ys.getD n 0 = ys.getLast ne := by rw [List.getD, List.getElem?_eq_getElem (by omega), List.getLast_eq_getElem]; simp [hn]
  have cv : cz p (ys.getLast ne) * cz p v = 1 := by
    rw [← cz_mul, ← cz_1, cz_eq, ev]; rw [Int.emod_eq_of_lt (by omega) (by omega)]
  generalize ys.getLast ne = yL at *
  obtain ⟨m, hmm⟩ : ∃ m, m = xs.length + 1 - ys.length := ⟨_, rfl⟩
  have e0 : (max 0 ((xs.length : Int) - (ys.length : Int) + 1)).toNat = m := by omega
  have rf : (List.replicate m [D.int 0]).flatten = (List.replicate m (0 : Int)).map D.int := by induction m with | zero => rfl | succ n ih => rw [List.replicate_succ, List.flatten_cons, List.replicate_succ, List.map_cons]; simp
  suffices w : W (f_parted_by [.lst (xs.map .int), .lst (ys.map .int), .int (p : Nat)] []) fun d h' => ∃ Q R : List Int, Q.length = m ∧ R.length = xs.length ∧ Red p Q ∧ Red p R ∧ ser p xs = ser p ys * ser p Q + ser p R ∧ Dg (ser p R) n ∧ ∃ i j, d = .tup [.cel i, .cel j] ∧ h'[i]? = some (.lst ((trimL Q).map .int)) ∧ h'[j]? = some (.lst ((trimL R).map .int)) ∧ i ≠ j ∧ h'.all O.noI = true by
    obtain ⟨d, h', e, Q, R, lQ, lR, rQ, rR, es, dg, i, j, rfl, a, b, c, ni⟩ := w.ex
    refine ⟨trimL Q, trimL R, ⟨trim_can rQ, trim_can rR, by rw [trim_ser rQ, trim_ser rR, es], ?_⟩, by have := trim_len rQ; omega, by have := trim_len rR; omega, i, j, h', e, a, b, c, ni⟩
    have := len_of (trim_can rR) (n := n) (by rw [trim_ser rR]; exact dg)
    omega
  refine w_parted_by ?_
  generalize hQ : (fun (d : D) (h' : Hh) => ∃ Q R : List Int, Q.length = m ∧ R.length = xs.length ∧ Red p Q ∧ Red p R ∧ ser p xs = ser p ys * ser p Q + ser p R ∧ Dg (ser p R) n ∧ ∃ i j, d = D.tup [.cel i, .cel j] ∧ h'[i]? = some (O.lst ((trimL Q).map .int)) ∧ h'[j]? = some (O.lst ((trimL R).map .int)) ∧ i ≠ j ∧ h'.all O.noI = true) = P
  simp (disch := walk_at "ln") [-getElem?_pos, -max_ii, -min_ii, -max_t2, -abs_i, max_iO, min_iO, max_tO, abs_iO, List.getElem?_cons_zero, List.getElem?_append_left, t_parted_by_1, t_parted_by_2, e0, rf, t_parted_by_3, la, vk, t_parted_by_4]
  have rg : rngOf [.int ((m : Int) - 1), .int (-1), .int (-1)] = some (.rng ((m : Int) - 1) m (-1)) := by
    rw [rng3O (by omega) (by omega) (by omega) (by omega)]
    congr 2; omega
  simp (disch := walk_at "ln") [-getElem?_pos, -max_ii, -min_ii, -max_t2, -abs_i, max_iO, min_iO, max_tO, abs_iO, List.getElem?_cons_zero, List.getElem?_append_left, rg]
  obtain ⟨I, hI⟩ := opq fun (j : Nat) (ls : Ls) (h' : Hh) => ∃ (Q R : List Int) (o6 o7 o8 : Option D), ls = [some (.lst (xs.map .int)), some (.lst (ys.map .int)), some (.int (p : Nat)), some (.cel 0), some (.cel 1), some (.int v), o6, o7, o8] ∧ h' = [.lst (R.map .int), .lst (Q.map .int)] ∧ Q.length = m ∧ R.length = xs.length ∧ Red p Q ∧ Red p R ∧ ser p xs = ser p ys * ser p Q + ser p R ∧ Dg (ser p R) (m - j + n) ∧ ∀ i, i < m - j → Q.getD i 0 = 0
  refine w_for I (it := .rng ((m : Int) - 1) m (-1)) (xs := rngL ((m : Int) - 1) (-1) m) rfl rfl ?_ ?_ ?_
  · rw [hI]
    refine ⟨List.replicate m 0, xs, _, _, _, rfl, by rw [List.map_replicate], by simp, rfl, fun a ha => by rw [(List.mem_replicate.mp ha).2]; omega, hx.1, by rw [ser_rep0]; grind, ?_, fun i hi => ?_⟩
    · exact (ser_dg xs).le (by omega)
    · rw [List.getD, List.getElem?_replicate]; split <;> rfl
  · intro j x _ _ ex w
    have hj : j < m := by have := (List.getElem?_eq_some_iff.mp ex).1; rw [rngL_len] at this; exact this
    rw [rngL_get _ _ _ _ hj] at ex
    cases ex
    rw [hI] at w
    obtain ⟨Q, R, o6, o7, o8, rfl, rfl, lQ, lR, rQ, rR, es, dg, zs⟩ := w
    obtain ⟨a, ha⟩ : ∃ a : Nat, a = m - 1 - j := ⟨_, rfl⟩
    have ea : (m : Int) - 1 + (j : Int) * -1 = (a : Int) := by omega
    rw [ea]
    refine ⟨_, rfl, ?_⟩
    have gb := getD_red rR (a + n)
    have at1 := atI_ints (F := R) (k := a + n) (by omega)
    have i1 : (a : Int) + (ys.length : Int) - 1 = ((a + n : Nat) : Int) := by omega
    have z0 := zs a (by omega)
    have c0 := Int.emod_nonneg (R.getD (a + n) 0 * v) (show (p : Int) ≠ 0 by omega)
    have c1 := Int.emod_lt_of_pos (R.getD (a + n) 0 * v) (show (0 : Int) < p by omega)
    have cc : cz p (R.getD (a + n) 0 * v % p) * cz p yL = cz p (R.getD (a + n) 0) := by
      rw [cz_mod, cz_mul]
      grind
    have dr := dg_drop (s := ser p R) (a := a) (c := cz p (R.getD (a + n) 0 * v % p)) hn (dg.le (by omega)) (by rw [yg, cc, ser_at])
    obtain ⟨rQ', eQ'⟩ := set_ok (k := a) (c := R.getD (a + n) 0 * v % p) (by omega) rQ z0 c0 c1
    clear z0
    generalize hr : R.getD (a + n) 0 = r at *
    generalize hc : r * v % p = c at *
    rw [Int.natCast_add] at at1 i1
    simp (disch := walk_at "ln") [-getElem?_pos, -max_ii, -min_ii, -max_t2, -abs_i, max_iO, min_iO, max_tO, abs_iO, List.getElem?_cons_zero, List.getElem?_append_left, t_parted_by_5, i1, at1, hc]
    have ln2 : ((Q.map D.int).set a (D.int c)) = (Q.set a c).map D.int := by rw [List.map_set]
    rw [ln2]
    have ql : (Q.set a c).length = m := by simpa using lQ
    have qa : (Q.set a c).getD a 0 = c := by rw [List.getD, List.getElem?_set_self (by omega)]; rfl
    have zs2 : ∀ i, i < a → (Q.set a c).getD i 0 = 0 := fun i hi => by
      rw [List.getD, List.getElem?_set_ne (by omega)]; exact zs i (by omega)
    generalize Q.set a c = Q2 at *
    have aq := atI_ints (F := Q2) (k := a) (by omega)
    rw [qa] at aq
    obtain ⟨J, hJ⟩ := opq fun (k : Nat) (ls : Ls) (h' : Hh) => ∃ (R2 : List Int) (o7 o8 : Option D), ls = [some (.lst (xs.map .int)), some (.lst (ys.map .int)), some (.int (p : Nat)), some (.cel 0), some (.cel 1), some (.int v), some (.int (a : Nat)), o7, o8] ∧ h' = [.lst (R2.map .int), .lst (Q2.map .int)] ∧ R2.length = xs.length ∧ Red p R2 ∧ ser p R2 = ser p R - mono a (cz p c) * ser p (ys.take k)
    simp (disch := walk_at "ln") [-getElem?_pos, -max_ii, -min_ii, -max_t2, -abs_i, max_iO, min_iO, max_tO, abs_iO, List.getElem?_cons_zero, List.getElem?_append_left, t_parted_by_6]
    refine w_enuLt J (by rw [hJ]; exact ⟨R, _, _, rfl, rfl, lR, rR, by rw [List.take_zero, ser_nil]; grind⟩) ?_ ?_
    · intro k hk _ _ w
      rw [hJ] at w
      obtain ⟨R2, o7, o8, rfl, rfl, lR2, rR2, eR2⟩ := w
      refine ⟨_, rfl, ?_⟩
      have yk := hy.1 _ (List.getElem_mem hk)
      have fb := getD_red rR2 (a + k)
      have ea := atI_ints (F := R2) (k := a + k) (by omega)
      rw [Int.natCast_add] at ea
      have tn : ((a : Int) + (k : Int)).toNat = a + k := by omega
      have st := part_in (c * ys[k]) (k := a + k) (by omega) rR2
      generalize R2.getD (a + k) 0 = r2 at *
      simp (disch := walk_at "ln") [-getElem?_pos, -max_ii, -min_ii, -max_t2, -abs_i, max_iO, min_iO, max_tO, abs_iO, List.getElem?_cons_zero, List.getElem?_append_left, t_parted_by_7, ea, tn, aq]
      rw [hJ]
      refine ⟨R2.set (a + k) ((r2 - c * ys[k]) % p), _, _, rfl, by rw [List.map_set], by simpa using lR2, st.1, ?_⟩
      rw [st.2, eR2, ser_take_succ ys k hk, mono_split]; grind
    · intro _ _ w
      rw [hJ] at w
      obtain ⟨R2, o7, o8, rfl, rfl, lR2, rR2, eR2⟩ := w
      rw [List.take_length] at eR2
      try simp (disch := walk_at "ln") [-getElem?_pos, -max_ii, -min_ii, -max_t2, -abs_i, max_iO, min_iO, max_tO, abs_iO, List.getElem?_cons_zero, List.getElem?_append_left]
      rw [hI]
      refine ⟨Q2, R2, _, _, _, rfl, rfl, ql, lR2, rQ', rR2, ?_, ?_, fun i hi => zs2 i (by omega)⟩
      · rw [eR2, eQ', es]; grind
      · rw [eR2, show m - (j + 1) + n = a + n by omega]; exact dr
  · intro _ _ w
    rw [rngL_len, hI] at w
    obtain ⟨Q, R, o6, o7, o8, rfl, rfl, lQ, lR, rQ, rR, es, dg, zs⟩ := w
    rw [Nat.sub_self, Nat.zero_add] at dg
    have t1 := (trimmed_gv (ns := Q) (by omega)).C1 (h := [.lst (R.map .int), .lst (Q.map .int)]) (i := 1) rfl
    have t2 := (trimmed_gv (ns := R) (by omega)).C1 (h := [.lst (R.map .int), .lst (Q.map .int), .lst ((trimL Q).map .int)]) (i := 0) rfl
    simp (disch := walk_at "ln") [-getElem?_pos, -max_ii, -min_ii, -max_t2, -abs_i, max_iO, min_iO, max_tO, abs_iO, List.getElem?_cons_zero, List.getElem?_append_left, t_parted_by_8, t1, t2, ← hQ]
    exact ⟨Q, lQ, R, lR, rQ, rR, es, dg, 2, 3, ⟨rfl, rfl⟩, rfl, rfl, by decide, rfl, rfl, rfl, rfl⟩
/-! the greatest divisor -/
theorem cz_ne {a : Int} (a0 : 0 < a) (a1 : a < p) : cz p a ≠ 0 := fun z => by
  have := cz_inj (p := p) (a := a) (b := 0) (by omega) a1 (by omega) (by omega) (by rw [z, cz_0]); omega
/-- its last number made 1 -/
theorem made_one {g : List Int} {a b : Ser (Fin p)} {v : Int} (q : p ∈ FP) (hg : Can p g) (ne : g ≠ []) (gc : Gc a b (ser p g)) (ev : g.getLast ne * v % p = 1) : Gc a b (ser p (timP p g v)) ∧ Can p (timP p g v) ∧ ∃ he : timP p g v ≠ [], (timP p g v).getLast he = 1 := by
  have K := FP_fld q
  have pb := FP_le q
  have e1 : cz p v * cz p (g.getLast ne) = 1 := by
    rw [← cz_mul, ← cz_1, cz_eq, Int.mul_comm, ev, Int.emod_eq_of_lt (by omega) (by omega)]
  have gc2 := gc.num e1
  rw [← timP_ser] at gc2
  refine ⟨gc2, timP_can g v, mon_last K (timP_can g v) ⟨g.length - 1, ?_, ?_⟩⟩
  · rw [timP_ser, show ser p g * C (cz p v) = C (cz p v) * ser p g by grind, show g.length - 1 + 1 = 0 + g.length by have := List.length_pos_iff.mpr ne; omega]
    exact Dg.mul1 Dg.C (ser_dg g)
  · have := List.length_pos_iff.mpr ne
    have eg : g.getD (g.length - 1) 0 = g.getLast ne := by rw [List.getD, List.getElem?_eq_getElem (by omega), List.getLast_eq_getElem]; rfl
    rw [timP_ser, show ser p g * C (cz p v) = C (cz p v) * ser p g by grind, cs_eq]
    show cz p v * (ser p g).at_ _ = 1
    rw [ser_at, eg, e1]
theorem divisor_gv {xs ys : List Int} (q : p ∈ FP) (hx : Can p xs) (hy : Can p ys) (ne : xs ≠ [] ∨ ys ≠ []) (hl : xs.length ≤ 400) (hm : ys.length ≤ 400) : ∃ g, Gd p xs ys g ∧ g.length ≤ max xs.length ys.length ∧ Gv f_divisor_by [.lst (xs.map .int), .lst (ys.map .int), .int (p : Nat)] g := by
  have pb := FP_le q
  suffices w : W (f_divisor_by [.lst (xs.map .int), .lst (ys.map .int), .int (p : Nat)] []) fun d h' => ∃ g : List Int, Gd p xs ys g ∧ g.length ≤ max xs.length ys.length ∧ ∃ i, d = .cel i ∧ h'[i]? = some (.lst (g.map .int)) by
    obtain ⟨d, h', e, g, gd, gl, i, rfl, ei⟩ := w.ex
    exact ⟨g, gd, gl, i, h', e, ei⟩
  refine w_divisor_by ?_
  generalize hQ : (fun (d : D) (h' : Hh) => ∃ g : List Int, Gd p xs ys g ∧ g.length ≤ max xs.length ys.length ∧ ∃ i, d = D.cel i ∧ h'[i]? = some (O.lst (g.map .int))) = P
  simp (disch := walk_at "ln") [-getElem?_pos, -max_ii, -min_ii, -max_t2, -abs_i, max_iO, min_iO, max_tO, abs_iO, List.getElem?_cons_zero, List.getElem?_append_left, t_divisor_by_1]
  refine w_while (fun m ls h => ∃ a b : List Int, ls = [some (.lst (a.map .int)), some (.lst (b.map .int)), some (.int (p : Nat))] ∧ h = [] ∧ b.length = m ∧ Can p a ∧ Can p b ∧ (a ≠ [] ∨ b ≠ []) ∧ a.length ≤ max xs.length ys.length ∧ b.length ≤ max xs.length ys.length ∧ ∀ g, Gc (ser p a) (ser p b) g → Gc (ser p xs) (ser p ys) g) (n := ys.length) ⟨xs, ys, rfl, rfl, rfl, hx, hy, ne, by omega, by omega, fun g h => h⟩ (by unfold FUEL; omega) ?_
  rintro m _ _ hm ⟨a, b, rfl, rfl, lb, ca, cb, ne, la, lb2, gc⟩
  simp (disch := walk_at "ln") [-getElem?_pos, -max_ii, -min_ii, -max_t2, -abs_i, max_iO, min_iO, max_tO, abs_iO, List.getElem?_cons_zero, List.getElem?_append_left, ne_ints0]
  by_cases he : b = []
  · refine ⟨fun z => absurd he z, fun _ => ?_⟩
    subst he
    have na : a ≠ [] := by rcases ne with z | z; exact z; exact absurd rfl z
    have l := last_int na
    have yl := ca.1 _ (List.getLast_mem na)
    have yn := ca.2 na
    obtain ⟨v, v0, v1, ev, vk⟩ := inverse_ex (a := a.getLast na) q (by omega) (by omega)
    have t := (times_gv (xs := a) (c := v) ca.1 (by omega) (by omega) (by omega) (by omega)).C (h := []) (by simp only [pures, D.pure, pures_ints, Bool.and_true])
    have g0 : Gc (ser p a) (ser p []) (ser p a) := by rw [ser_nil]; exact Gc.last (ser_pol a)
    obtain ⟨m1, m2, m3⟩ := made_one q ca na (gc _ g0) ev
    generalize a.getLast na = aL at *
    simp (disch := walk_at "ln") [-getElem?_pos, -max_ii, -min_ii, -max_t2, -abs_i, max_iO, min_iO, max_tO, abs_iO, List.getElem?_cons_zero, List.getElem?_append_left, t_divisor_by_3, l, vk, t, ← hQ]
    have := timP_len (p := p) a v
    exact ⟨_, ⟨m2, m1, m3⟩, by omega, rfl⟩
  · refine ⟨fun _ => ?_, fun z => absurd z he⟩
    obtain ⟨qs, rs, dm, ql, rl, pv⟩ := parted_pv q ca cb he (by omega) (by omega)
    have pp := fun h => pv.P (h := h) (by simp only [pures, D.pure, pures_ints, Bool.and_true])
    obtain ⟨cq, cr, e, lt⟩ := dm
    simp (disch := walk_at "ln") [-getElem?_pos, -max_ii, -min_ii, -max_t2, -abs_i, max_iO, min_iO, max_tO, abs_iO, List.getElem?_cons_zero, List.getElem?_append_left, t_divisor_by_2, pp]
    refine ⟨rs.length, by omega, b, rs, ⟨rfl, rfl⟩, rfl, cb, cr, .inl he, by omega, by omega, fun g h => gc g (h.step (ser_pol qs) e)⟩
/-! with a look at them -/
theorem worth_by_ok {xs : List Int} {x : Int} {h : Hh} (hx : Red p xs) (hp : p ≤ 1000) (hl : xs.length ≤ 1000) (x0 : 0 ≤ x) (x1 : x ≤ 1000) : callM .P f_worth_by [.lst (xs.map .int), .int (p : Nat), .int x] h = .ok (.int (wor p x xs)) h := by
  refine callPP (by simp [pures, D.pure, pures_ints]) (d := .int (wor p x xs)) (h' := []) (eq_of_W (w_worth_by ?_)) rfl
  generalize hQ : (fun (d : D) (h' : Hh) => d = D.int (wor p x xs) ∧ h' = []) = Q
  have p0 := p_pos (p := p)
  simp (disch := walk_at "ln") [-getElem?_pos, -max_ii, -min_ii, -max_t2, -abs_i, max_iO, min_iO, max_tO, abs_iO, List.getElem?_cons_zero, List.getElem?_append_left, t_worth_by_1, t_worth_by_2]
  obtain ⟨I, hI⟩ := opq fun (j : Nat) (ls : Ls) (h' : Hh) => ∃ o4 : Option D, ls = [some (.lst (xs.map .int)), some (.int (p : Nat)), some (.int x), some (.int (wor p x (xs.drop (xs.length - j)))), o4] ∧ h' = []
  refine w_for I (it := .rev (.lst (xs.map .int)) xs.length) (xs := (xs.map D.int).reverse) rfl ?_ ?_ ?_ ?_
  · show (if (xs.map D.int).length = xs.length then some (xs.map D.int).reverse else none) = _
    rw [if_pos (by simp)]
  · rw [hI]
    exact ⟨_, by rw [Nat.sub_zero, List.drop_length]; rfl, rfl⟩
  · intro j y _ _ ey w
    rw [hI] at w
    obtain ⟨o4, rfl, rfl⟩ := w
    have hj : j < xs.length := by have := (List.getElem?_eq_some_iff.mp ey).1; simpa using this
    rw [List.getElem?_reverse (by simpa using hj), List.length_map, List.getElem?_map, List.getElem?_eq_getElem (by omega)] at ey
    cases ey
    have xb := hx _ (List.getElem_mem (show xs.length - 1 - j < xs.length by omega))
    have wb := wor_bd (p := p) x (xs.drop (xs.length - j))
    have dd : xs.drop (xs.length - (j + 1)) = xs[xs.length - 1 - j] :: xs.drop (xs.length - j) := by
      rw [show xs.length - (j + 1) = xs.length - 1 - j by omega, List.drop_eq_getElem_cons (by omega)]
      congr 2
      omega
    refine ⟨_, rfl, ?_⟩
    have ew : wor p x (xs.drop (xs.length - (j + 1))) = (wor p x (xs.drop (xs.length - j)) * x + xs[xs.length - 1 - j]) % p := by rw [dd]; rfl
    generalize wor p x (xs.drop (xs.length - j)) = w0 at *
    generalize xs[xs.length - 1 - j] = y0 at *
    simp (disch := walk_at "ln") [-getElem?_pos, -max_ii, -min_ii, -max_t2, -abs_i, max_iO, min_iO, max_tO, abs_iO, List.getElem?_cons_zero, List.getElem?_append_left, t_worth_by_3]
    rw [hI]
    exact ⟨_, by rw [ew], rfl⟩
  · intro _ _ w
    rw [hI] at w
    obtain ⟨o4, rfl, rfl⟩ := w
    have e : xs.length - (xs.map D.int).reverse.length = 0 := by simp
    rw [e, List.drop_zero]
    simp (disch := walk_at "ln") [-getElem?_pos, -max_ii, -min_ii, -max_t2, -abs_i, max_iO, min_iO, max_tO, abs_iO, List.getElem?_cons_zero, List.getElem?_append_left, t_worth_by_4, ← hQ]
theorem poly_worth_ok {xs : List Int} {x : Int} {h : Hh} (q : p ∈ FP) (hx : Can p xs) (hl : xs.length ≤ 1000) (x0 : 0 ≤ x) (x1 : x < p) : callM .P f_poly_worth [.lst (xs.map .int), .int (p : Nat), .int x] h = .ok (.int (wor p x xs)) h := by
  have pb := FP_le q
  refine callPP (by simp [pures, D.pure, pures_ints]) (d := .int (wor p x xs)) (h' := []) (r_poly_worth.trans ?_) rfl
  simp [t_poly_worth_1, t_poly_worth_2, t_poly_worth_3, t_poly_worth_5, need_field_ok q, need_poly_ok hx hl, x0, x1, worth_by_ok (xs := xs) (x := x) hx.1 (by omega) hl x0 (by omega)]
theorem Gv.tail {F G : Fn} {ds : List D} {ns : List Int} (g : Gv G ds ns) (hp : pures ds = true) (e : F ds [] = callM .C G ds []) : Gv F ds ns := ⟨0, _, e.trans (g.C hp), rfl⟩
theorem poly_sum_gv {xs ys : List Int} (q : p ∈ FP) (hx : Can p xs) (hl : xs.length ≤ 400) (hy : Can p ys) (hm : ys.length ≤ 400) : Gv f_poly_sum [.lst (xs.map .int), .lst (ys.map .int), .int (p : Nat)] (sumP p xs ys) := by
  have t := (sum_gv (p := p) hl hm (by have := FP_le q; omega)).C (h := []) (by simp only [pures, D.pure, pures_ints, Bool.and_true])
  refine ⟨0, [.lst ((sumP p xs ys).map .int)], r_poly_sum.trans ?_, rfl⟩
  simp [t_poly_sum_1, t_poly_sum_2, need_two_ok q hx (by omega) hy (by omega), t]
theorem poly_product_gv {xs ys : List Int} (q : p ∈ FP) (hx : Can p xs) (hl : xs.length ≤ 400) (hy : Can p ys) (hm : ys.length ≤ 400) : Gv f_poly_product [.lst (xs.map .int), .lst (ys.map .int), .int (p : Nat)] (mulP p xs ys) := by
  have t := (product_gv (p := p) hx.1 hy.1 hl hm (by have := FP_le q; omega)).C (h := []) (by simp only [pures, D.pure, pures_ints, Bool.and_true])
  refine ⟨0, [.lst ((mulP p xs ys).map .int)], r_poly_product.trans ?_, rfl⟩
  simp [t_poly_product_1, t_poly_product_2, need_two_ok q hx (by omega) hy (by omega), t]
theorem poly_parted_pv {xs ys : List Int} (q : p ∈ FP) (hx : Can p xs) (hy : Can p ys) (ne : ys ≠ []) (hl : xs.length ≤ 400) (hm : ys.length ≤ 400) : ∃ qs rs, Dm p xs ys qs rs ∧ qs.length ≤ xs.length + 1 - ys.length ∧ rs.length ≤ xs.length ∧ Pv f_poly_parted [.lst (xs.map .int), .lst (ys.map .int), .int (p : Nat)] qs rs := by
  obtain ⟨qs, rs, dm, l1, l2, pv⟩ := parted_pv q hx hy ne hl hm
  refine ⟨qs, rs, dm, l1, l2, Pv.of (w_poly_parted ?_)⟩
  simp [t_poly_parted_1, t_poly_parted_2, t_poly_parted_4, need_two_ok q hx (by omega) hy (by omega), eq_ints0, ne]
  exact pv.L (by simp only [pures, D.pure, pures_ints, Bool.and_true]) fun i j g ij _ _ ng e1 e2 => ⟨i, j, rfl, e1, e2, ij, by simpa using ng⟩
theorem greatest_gv {xs ys : List Int} (q : p ∈ FP) (hx : Can p xs) (hy : Can p ys) (ne : xs ≠ [] ∨ ys ≠ []) (hl : xs.length ≤ 400) (hm : ys.length ≤ 400) : ∃ g, Gd p xs ys g ∧ g.length ≤ max xs.length ys.length ∧ Gv f_greatest_divisor [.lst (xs.map .int), .lst (ys.map .int), .int (p : Nat)] g := by
  obtain ⟨g, gd, gl, gv⟩ := divisor_gv q hx hy ne hl hm
  refine ⟨g, gd, gl, ?_⟩
  have t := gv.C (h := []) (by simp only [pures, D.pure, pures_ints, Bool.and_true])
  have z : ¬ (xs = [] ∧ ys = []) := fun z => by rcases ne with w | w; exact w z.1; exact w z.2
  refine ⟨0, [.lst (g.map .int)], r_greatest_divisor.trans ?_, rfl⟩
  by_cases z1 : xs = []
  · have z2 : ys ≠ [] := fun w => z ⟨z1, w⟩
    subst z1
    have n2 := need_two_ok (h := []) q hx (by omega) hy (by omega)
    have e0 := fun h => eq_ints0 (ns := []) (h := h)
    simp only [List.map_nil] at n2 t e0 ⊢
    simp [t_greatest_divisor_1, t_greatest_divisor_2, t_greatest_divisor_4, n2, e0, eq_ints0, z2, t]
  · simp [t_greatest_divisor_1, t_greatest_divisor_2, t_greatest_divisor_4, need_two_ok q hx (by omega) hy (by omega), eq_ints0, z1, t]
end
end U
namespace U
open PySem PySem.Spec PyProof.Rows L2 Tb
def b__law_deck : Ss := (.cons (.asg (.nm 1) (.lst true .nil))
  (.cons (.fr (.nm 2) (.rng (.cons (.bi .max true (.cons (.int 1) (.cons (.bi .min true (.cons (.int 63) (.cons (.bi .len true (.cons (.var 0) .nil)) .nil))) .nil))) .nil)) (.cons (.asg (.nm 3) (.int 0))
  (.cons (.ifs (.cmp .Lt (.var 2) (.bi .len true (.cons (.var 0) .nil))) (.cons (.asg (.nm 3) (.idx (.var 0) (.var 2)))
  .nil) .nil)
  (.cons (.ex (.me .append true (.var 1) (.cons (.lst true (.cons (.var 3) (.cons (.bi .int true (.cons (.cmp .GtE (.var 3) (.bin true .Pow (.int 10) (.int 18))) .nil)) (.cons (.bin true .Mult (.int 31) (.var 2)) .nil)))) .nil)))
  .nil))))
  (.cons (.ret (.lst true (.cons (.var 1) (.cons (.int 0) .nil))))
  .nil)))
def f__law_deck : Fn := fnS cs0 4 1 b__law_deck
def t__law_deck_7 : Ss := .cons (.ret (.lst true (.cons (.var 1) (.cons (.int 0) .nil)))) .nil
def t__law_deck_6 : Ss := .cons (.ex (.me .append true (.var 1) (.cons (.lst true (.cons (.var 3) (.cons (.bi .int true (.cons (.cmp .GtE (.var 3) (.bin true .Pow (.int 10) (.int 18))) .nil)) (.cons (.bin true .Mult (.int 31) (.var 2)) .nil)))) .nil))) .nil
def t__law_deck_5 : Ss := .cons (.asg (.nm 3) (.idx (.var 0) (.var 2))) .nil
def t__law_deck_4 : Ss := .cons (.ifs (.cmp .Lt (.var 2) (.bi .len true (.cons (.var 0) .nil))) t__law_deck_5 .nil) t__law_deck_6
def t__law_deck_3 : Ss := .cons (.asg (.nm 3) (.int 0)) t__law_deck_4
def t__law_deck_2 : Ss := .cons (.fr (.nm 2) (.rng (.cons (.bi .max true (.cons (.int 1) (.cons (.bi .min true (.cons (.int 63) (.cons (.bi .len true (.cons (.var 0) .nil)) .nil))) .nil))) .nil)) t__law_deck_3) t__law_deck_7
def t__law_deck_1 : Ss := .cons (.asg (.nm 1) (.lst true .nil)) t__law_deck_2
theorem u__law_deck : b__law_deck = t__law_deck_1 := rfl
/-- script, pools, k, cell -/
theorem w__law_deck {x0 : D} {h : Hh} {Q : D → Hh → Prop} (w : WS (evSs cs0 t__law_deck_1 [some x0, none, none, none] h) (fun _ h1 => Q .non h1) Q no2 no2) : W (f__law_deck [x0] h) Q := by
  rw [← u__law_deck] at w
  exact w_fnS2 (C := cs0) (n := 4) (np := 1) (b := b__law_deck) rfl rfl w
theorem r__law_deck {x0 : D} {h : Hh} : f__law_deck [x0] h = endR (evSs cs0 t__law_deck_1 [some x0, none, none, none] h) := by
  rw [← u__law_deck]
  exact fnS_run2 (C := cs0) (n := 4) (np := 1) (b := b__law_deck) rfl rfl
def b__law_draw : Ss := (.cons (.asg (.nm 2) (.idx (.idx (.var 0) (.int 0)) (.bin false .Mod (.idx (.var 0) (.int 1)) (.bi .len false (.cons (.idx (.var 0) (.int 0)) .nil)))))
  (.cons (.sub (.var 0) (.int 1) (.bin false .Add (.idx (.var 0) (.int 1)) (.int 1)))
  (.cons (.ifs (.bop .And (.cons (.cmp .Eq (.idx (.var 2) (.int 1)) (.int 1)) (.cons (.cmp .Gt (.idx (.var 2) (.int 0)) (.int 0)) .nil))) (.cons (.asg (.nm 4) (.bin false .Mod (.idx (.var 2) (.int 0)) (.var 1)))
  (.cons (.sub (.var 2) (.int 0) (.bin false .FloorDiv (.idx (.var 2) (.int 0)) (.var 1)))
  (.cons (.ret (.var 4))
  .nil))) .nil)
  (.cons (.sub (.var 2) (.int 2) (.bin false .Add (.idx (.var 2) (.int 2)) (.int 1)))
  (.cons (.asg (.nm 3) (.bin false .Mod (.bin false .Add (.bin false .Mod (.idx (.var 2) (.int 0)) (.int 99999999977)) (.bin false .Mult (.int 700001) (.idx (.var 2) (.int 2)))) (.int 99999999947)))
  (.cons (.asg (.nm 3) (.bin false .Mod (.bin false .Mult (.var 3) (.var 3)) (.int 99999999821)))
  (.cons (.asg (.nm 3) (.bin false .Mod (.bin false .Mult (.var 3) (.bin false .Add (.var 3) (.int 19))) (.int 9999999967)))
  (.cons (.ret (.bin false .Mod (.bin false .FloorDiv (.var 3) (.int 13)) (.var 1)))
  .nil))))))))
def f__law_draw : Fn := fnS cs0 5 2 b__law_draw
def t__law_draw_11 : Ss := .cons (.ret (.bin false .Mod (.bin false .FloorDiv (.var 3) (.int 13)) (.var 1))) .nil
def t__law_draw_10 : Ss := .cons (.asg (.nm 3) (.bin false .Mod (.bin false .Mult (.var 3) (.bin false .Add (.var 3) (.int 19))) (.int 9999999967))) t__law_draw_11
def t__law_draw_9 : Ss := .cons (.asg (.nm 3) (.bin false .Mod (.bin false .Mult (.var 3) (.var 3)) (.int 99999999821))) t__law_draw_10
def t__law_draw_8 : Ss := .cons (.asg (.nm 3) (.bin false .Mod (.bin false .Add (.bin false .Mod (.idx (.var 2) (.int 0)) (.int 99999999977)) (.bin false .Mult (.int 700001) (.idx (.var 2) (.int 2)))) (.int 99999999947))) t__law_draw_9
def t__law_draw_7 : Ss := .cons (.sub (.var 2) (.int 2) (.bin false .Add (.idx (.var 2) (.int 2)) (.int 1))) t__law_draw_8
def t__law_draw_6 : Ss := .cons (.ret (.var 4)) .nil
def t__law_draw_5 : Ss := .cons (.sub (.var 2) (.int 0) (.bin false .FloorDiv (.idx (.var 2) (.int 0)) (.var 1))) t__law_draw_6
def t__law_draw_4 : Ss := .cons (.asg (.nm 4) (.bin false .Mod (.idx (.var 2) (.int 0)) (.var 1))) t__law_draw_5
def t__law_draw_3 : Ss := .cons (.ifs (.bop .And (.cons (.cmp .Eq (.idx (.var 2) (.int 1)) (.int 1)) (.cons (.cmp .Gt (.idx (.var 2) (.int 0)) (.int 0)) .nil))) t__law_draw_4 .nil) t__law_draw_7
def t__law_draw_2 : Ss := .cons (.sub (.var 0) (.int 1) (.bin false .Add (.idx (.var 0) (.int 1)) (.int 1))) t__law_draw_3
def t__law_draw_1 : Ss := .cons (.asg (.nm 2) (.idx (.idx (.var 0) (.int 0)) (.bin false .Mod (.idx (.var 0) (.int 1)) (.bi .len false (.cons (.idx (.var 0) (.int 0)) .nil))))) t__law_draw_2
theorem u__law_draw : b__law_draw = t__law_draw_1 := rfl
/-- deck, many, pool, number, found -/
theorem w__law_draw {x0 x1 : D} {h : Hh} {Q : D → Hh → Prop} (w : WS (evSs cs0 t__law_draw_1 [some x0, some x1, none, none, none] h) (fun _ h1 => Q .non h1) Q no2 no2) : W (f__law_draw [x0, x1] h) Q := by
  rw [← u__law_draw] at w
  exact w_fnS2 (C := cs0) (n := 5) (np := 2) (b := b__law_draw) rfl rfl w
theorem r__law_draw {x0 x1 : D} {h : Hh} : f__law_draw [x0, x1] h = endR (evSs cs0 t__law_draw_1 [some x0, some x1, none, none, none] h) := by
  rw [← u__law_draw]
  exact fnS_run2 (C := cs0) (n := 5) (np := 2) (b := b__law_draw) rfl rfl
def b__law_prime : Ss := (.cons (.asg (.nm 1) (.lst false (.cons (.int 3) (.cons (.int 5) (.cons (.int 7) (.cons (.int 11) (.cons (.int 13) (.cons (.int 17) (.cons (.int 19) (.cons (.int 23) (.cons (.int 29) (.cons (.int 31) (.cons (.int 37) (.cons (.int 41) (.cons (.int 43) (.cons (.int 47) (.cons (.int 53) (.cons (.int 59) (.cons (.int 61) (.cons (.int 67) (.cons (.int 71) (.cons (.int 73) (.cons (.int 79) (.cons (.int 83) (.cons (.int 89) (.cons (.int 97) .nil))))))))))))))))))))))))))
  (.cons (.ret (.idx (.var 1) (.idx (.lst false (.cons (.call .S "_law_draw" f__law_draw (.cons (.var 0) (.cons (.int 3) .nil))) (.cons (.call .S "_law_draw" f__law_draw (.cons (.var 0) (.cons (.int 24) .nil))) (.cons (.int 23) .nil)))) (.call .S "_law_draw" f__law_draw (.cons (.var 0) (.cons (.int 3) .nil))))))
  .nil))
def f__law_prime : Fn := fnS cs0 2 1 b__law_prime
def t__law_prime_2 : Ss := .cons (.ret (.idx (.var 1) (.idx (.lst false (.cons (.call .S "_law_draw" f__law_draw (.cons (.var 0) (.cons (.int 3) .nil))) (.cons (.call .S "_law_draw" f__law_draw (.cons (.var 0) (.cons (.int 24) .nil))) (.cons (.int 23) .nil)))) (.call .S "_law_draw" f__law_draw (.cons (.var 0) (.cons (.int 3) .nil)))))) .nil
def t__law_prime_1 : Ss := .cons (.asg (.nm 1) (.lst false (.cons (.int 3) (.cons (.int 5) (.cons (.int 7) (.cons (.int 11) (.cons (.int 13) (.cons (.int 17) (.cons (.int 19) (.cons (.int 23) (.cons (.int 29) (.cons (.int 31) (.cons (.int 37) (.cons (.int 41) (.cons (.int 43) (.cons (.int 47) (.cons (.int 53) (.cons (.int 59) (.cons (.int 61) (.cons (.int 67) (.cons (.int 71) (.cons (.int 73) (.cons (.int 79) (.cons (.int 83) (.cons (.int 89) (.cons (.int 97) .nil)))))))))))))))))))))))))) t__law_prime_2
theorem u__law_prime : b__law_prime = t__law_prime_1 := rfl
/-- deck, primes -/
theorem w__law_prime {x0 : D} {h : Hh} {Q : D → Hh → Prop} (w : WS (evSs cs0 t__law_prime_1 [some x0, none] h) (fun _ h1 => Q .non h1) Q no2 no2) : W (f__law_prime [x0] h) Q := by
  rw [← u__law_prime] at w
  exact w_fnS2 (C := cs0) (n := 2) (np := 1) (b := b__law_prime) rfl rfl w
theorem r__law_prime {x0 : D} {h : Hh} : f__law_prime [x0] h = endR (evSs cs0 t__law_prime_1 [some x0, none] h) := by
  rw [← u__law_prime]
  exact fnS_run2 (C := cs0) (n := 2) (np := 1) (b := b__law_prime) rfl rfl
def b__law_poly : Ss := (.cons (.asg (.nm 3) (.idx (.lst false (.cons (.call .S "_law_draw" f__law_draw (.cons (.var 0) (.cons (.int 4) .nil))) (.cons (.call .S "_law_draw" f__law_draw (.cons (.var 0) (.cons (.bin false .Add (.var 2) (.int 1)) .nil))) (.cons (.var 2) .nil)))) (.call .S "_law_draw" f__law_draw (.cons (.var 0) (.cons (.int 3) .nil)))))
  (.cons (.ifs (.cmp .Gt (.var 3) (.var 2)) (.cons (.asg (.nm 3) (.var 2))
  .nil) .nil)
  (.cons (.asg (.nm 4) (.call .S "_law_draw" f__law_draw (.cons (.var 0) (.cons (.int 4) .nil))))
  (.cons (.asg (.nm 5) (.lst true .nil))
  (.cons (.fr (.nm 6) (.rng (.cons (.var 3) .nil)) (.cons (.ex (.me .append false (.var 5) (.cons (.idx (.lst false (.cons (.int 0) (.cons (.call .S "_law_draw" f__law_draw (.cons (.var 0) (.cons (.var 1) .nil))) .nil))) (.bi .int false (.cons (.cmp .GtE (.call .S "_law_draw" f__law_draw (.cons (.var 0) (.cons (.int 4) .nil))) (.var 4)) .nil))) .nil)))
  .nil))
  (.cons (.ifs (.cmp .NotEq (.var 5) (.lst false .nil)) (.cons (.sub (.var 5) (.neg (.int 1)) (.bin false .Add (.int 1) (.call .S "_law_draw" f__law_draw (.cons (.var 0) (.cons (.bin false .Sub (.var 1) (.int 1)) .nil)))))
  .nil) .nil)
  (.cons (.ret (.var 5))
  .nil)))))))
def f__law_poly : Fn := fnS cs0 7 3 b__law_poly
def t__law_poly_10 : Ss := .cons (.ret (.var 5)) .nil
def t__law_poly_9 : Ss := .cons (.sub (.var 5) (.neg (.int 1)) (.bin false .Add (.int 1) (.call .S "_law_draw" f__law_draw (.cons (.var 0) (.cons (.bin false .Sub (.var 1) (.int 1)) .nil))))) .nil
def t__law_poly_8 : Ss := .cons (.ifs (.cmp .NotEq (.var 5) (.lst false .nil)) t__law_poly_9 .nil) t__law_poly_10
def t__law_poly_7 : Ss := .cons (.ex (.me .append false (.var 5) (.cons (.idx (.lst false (.cons (.int 0) (.cons (.call .S "_law_draw" f__law_draw (.cons (.var 0) (.cons (.var 1) .nil))) .nil))) (.bi .int false (.cons (.cmp .GtE (.call .S "_law_draw" f__law_draw (.cons (.var 0) (.cons (.int 4) .nil))) (.var 4)) .nil))) .nil))) .nil
def t__law_poly_6 : Ss := .cons (.fr (.nm 6) (.rng (.cons (.var 3) .nil)) t__law_poly_7) t__law_poly_8
def t__law_poly_5 : Ss := .cons (.asg (.nm 5) (.lst true .nil)) t__law_poly_6
def t__law_poly_4 : Ss := .cons (.asg (.nm 4) (.call .S "_law_draw" f__law_draw (.cons (.var 0) (.cons (.int 4) .nil)))) t__law_poly_5
def t__law_poly_3 : Ss := .cons (.asg (.nm 3) (.var 2)) .nil
def t__law_poly_2 : Ss := .cons (.ifs (.cmp .Gt (.var 3) (.var 2)) t__law_poly_3 .nil) t__law_poly_4
def t__law_poly_1 : Ss := .cons (.asg (.nm 3) (.idx (.lst false (.cons (.call .S "_law_draw" f__law_draw (.cons (.var 0) (.cons (.int 4) .nil))) (.cons (.call .S "_law_draw" f__law_draw (.cons (.var 0) (.cons (.bin false .Add (.var 2) (.int 1)) .nil))) (.cons (.var 2) .nil)))) (.call .S "_law_draw" f__law_draw (.cons (.var 0) (.cons (.int 3) .nil))))) t__law_poly_2
theorem u__law_poly : b__law_poly = t__law_poly_1 := rfl
/-- deck, p, most, many, often, found, k -/
theorem w__law_poly {x0 x1 x2 : D} {h : Hh} {Q : D → Hh → Prop} (w : WS (evSs cs0 t__law_poly_1 [some x0, some x1, some x2, none, none, none, none] h) (fun _ h1 => Q .non h1) Q no2 no2) : W (f__law_poly [x0, x1, x2] h) Q := by
  rw [← u__law_poly] at w
  exact w_fnS2 (C := cs0) (n := 7) (np := 3) (b := b__law_poly) rfl rfl w
theorem r__law_poly {x0 x1 x2 : D} {h : Hh} : f__law_poly [x0, x1, x2] h = endR (evSs cs0 t__law_poly_1 [some x0, some x1, some x2, none, none, none, none] h) := by
  rw [← u__law_poly]
  exact fnS_run2 (C := cs0) (n := 7) (np := 3) (b := b__law_poly) rfl rfl
/-! the deck of k50 to k61 -/
structure DkA (B d : Nat) (h : Hh) (T : Int) : Prop where
  ex : ∃ (pc : Nat) (n : Int) (ks : List Nat), h[d]? = some (.lst [.cel pc, .int n]) ∧ h[pc]? = some (.lst (ks.map .cel)) ∧ 0 < ks.length ∧ (∀ k ∈ ks, k < B ∧ k ≠ d ∧ k ≠ pc ∧ ∃ c f t : Int, h[k]? = some (.lst [.int c, .int f, .int t]) ∧ 0 ≤ t ∧ t ≤ T + 2000) ∧ 0 ≤ n ∧ n ≤ T ∧ d < B ∧ pc < B ∧ d ≠ pc
  wb : ∀ (j : Nat) o, j < B → h[j]? = some o → o.under B = true
  wf : ∀ o ∈ h, o.under h.length = true
/-- nothing but the deck is touched -/
def Keep (B : Nat) (h h' : Hh) : Prop := h'.length = h.length ∧ ∀ j, B ≤ j → h'[j]? = h[j]?
theorem Keep.trans {B : Nat} {h h1 h2 : Hh} (a : Keep B h h1) (b : Keep B h1 h2) : Keep B h h2 := ⟨b.1.trans a.1, fun j q => (b.2 j q).trans (a.2 j q)⟩
theorem Keep.refl {B : Nat} {h : Hh} : Keep B h h := ⟨rfl, fun _ _ => rfl⟩
theorem wf_set {h : Hh} {i : Nat} {o : O} (w : ∀ o ∈ h, o.under h.length = true) (q : o.under h.length = true) : ∀ p ∈ h.set i o, p.under (h.set i o).length = true := by
  intro p hp
  rw [List.length_set]
  rcases List.mem_or_eq_of_mem_set hp with z | z
  · exact w p z
  · rw [z]; exact q
theorem draw5W {B d : Nat} {h : Hh} {T many : Int} {Q : D → Hh → Prop} (s : DkA B d h T) (hT : T < 1000000) (hm : 0 < many) (hm2 : many ≤ 1000000) (kk : ∀ r h', 0 ≤ r → r < many → DkA B d h' (T + 1) → Keep B h h' → Q (.int r) h') : W (f__law_draw [.cel d, .int many] h) Q := by
  obtain ⟨⟨pc, n, ks, e0, e1, hL, hk, n0, n1, dB, pB, dp⟩, wb, wf⟩ := s
  have hd : d < h.length := (List.getElem?_eq_some_iff.mp e0).1
  have hpc : pc < h.length := (List.getElem?_eq_some_iff.mp e1).1
  have sm : small many = true := small_of (by omega) (by omega)
  have hL' : (0 : Int) < (ks.length : Int) := by omega
  have j0 : 0 ≤ n % (ks.length : Int) := Int.emod_nonneg _ (by omega)
  have j1 : n % (ks.length : Int) < (ks.length : Int) := Int.emod_lt_of_pos _ hL'
  have jl : (n % (ks.length : Int)).toNat < ks.length := by omega
  have hkm := hk _ (List.getElem_mem jl)
  have ea : atI (ks.map D.cel) (n % (ks.length : Int)) = some (.cel ks[(n % (ks.length : Int)).toNat]) := by
    rw [atI_pos j0, List.getElem?_map, List.getElem?_eq_getElem jl]; rfl
  generalize ks[(n % (ks.length : Int)).toNat] = k at ea hkm
  obtain ⟨kB, kd, kp, c, f, t, e2, t0, t1⟩ := hkm
  have hkl : k < h.length := (List.getElem?_eq_some_iff.mp e2).1
  let h1 : Hh := h.set d (.lst [.cel pc, .int (n + 1)])
  have e3 : (h.set d (.lst [.cel pc, .int (n + 1)]))[k]? = some (.lst [.int c, .int f, .int t]) := by rw [List.getElem?_set_ne (Ne.symm kd)]; exact e2
  have hpu : D.under h.length (.cel pc) = true := by simpa [D.under] using hpc
  have wf1 : ∀ o ∈ h1, o.under h1.length = true := wf_set wf (by simp [O.under, unders, D.under, hpc])
  have fin : ∀ c' f' t' : Int, 0 ≤ t' → t' ≤ T + 1 + 2000 → DkA B d ((h.set d (.lst [.cel pc, .int (n + 1)])).set k (.lst [.int c', .int f', .int t'])) (T + 1) ∧ Keep B h ((h.set d (.lst [.cel pc, .int (n + 1)])).set k (.lst [.int c', .int f', .int t'])) := by
    intro c' f' t' q0 q1
    have hh1 : (h.set d (.lst [.cel pc, .int (n + 1)])).length = h.length := by simp
    refine ⟨⟨⟨pc, n + 1, ks, ?_, ?_, hL, fun k' hk' => ?_, by omega, by omega, dB, pB, dp⟩, fun j o hj e => ?_, wf_set wf1 (by simp [O.under, unders, D.under])⟩, by simp, fun j q => ?_⟩
    · rw [List.getElem?_set_ne kd, List.getElem?_set_self hd]
    · rw [List.getElem?_set_ne kp, List.getElem?_set_ne dp]; exact e1
    · obtain ⟨a1, a2, a3, c2, f2, t2, a4, a5, a6⟩ := hk k' hk'
      refine ⟨a1, a2, a3, ?_⟩
      by_cases z : k = k'
      · subst z
        exact ⟨c', f', t', by rw [List.getElem?_set_self (by rw [hh1]; exact hkl)], q0, q1⟩
      · exact ⟨c2, f2, t2, by rw [List.getElem?_set_ne z, List.getElem?_set_ne (Ne.symm a2)]; exact a4, a5, by omega⟩
    · by_cases z : k = j
      · subst z
        rw [List.getElem?_set_self (by rw [hh1]; exact hkl)] at e
        cases e
        simp [O.under, unders, D.under]
      · rw [List.getElem?_set_ne z] at e
        by_cases z2 : d = j
        · subst z2
          rw [List.getElem?_set_self hd] at e
          cases e
          simp [O.under, unders, D.under, pB]
        · rw [List.getElem?_set_ne z2] at e
          exact wb j o hj e
    · rw [List.getElem?_set_ne (by omega), List.getElem?_set_ne (by omega)]
  refine w__law_draw ?_
  simp (disch := walk_at "ln") [-getElem?_pos, -max_ii, -min_ii, -max_t2, -abs_i, max_iO, min_iO, max_tO, abs_iO, List.getElem?_cons_zero, List.getElem?_append_left, t__law_draw_1, e0, e1, ea, t__law_draw_2]
  simp (disch := walk_at "ln") [-getElem?_pos, -max_ii, -min_ii, -max_t2, -abs_i, max_iO, min_iO, max_tO, abs_iO, List.getElem?_cons_zero, List.getElem?_append_left, t__law_draw_3, e3]
  have c0 : 0 ≤ c % 99999999977 := Int.emod_nonneg _ (by decide)
  have c1 : c % 99999999977 < 99999999977 := Int.emod_lt_of_pos _ (by decide)
  have e4 : ((h.set d (.lst [.cel pc, .int (n + 1)])).set k (.lst [.int c, .int f, .int (t + 1)]))[k]? = some (.lst [.int c, .int f, .int (t + 1)]) := List.getElem?_set_self (by simpa using hkl)
  have rest : WS (evSs cs0 t__law_draw_7 [some (.cel d), some (.int many), some (.cel k), none, none] (h.set d (.lst [.cel pc, .int (n + 1)]))) (fun _ h1 => Q .non h1) Q no2 no2 := by
    obtain ⟨f1, f2⟩ := fin c f (t + 1) (by omega) (by omega)
    simp (disch := walk_at "ln") [-getElem?_pos, -max_ii, -min_ii, -max_t2, -abs_i, max_iO, min_iO, max_tO, abs_iO, List.getElem?_cons_zero, List.getElem?_append_left, t__law_draw_7, e3]
    simp (disch := walk_at "ln") [-getElem?_pos, -max_ii, -min_ii, -max_t2, -abs_i, max_iO, min_iO, max_tO, abs_iO, List.getElem?_cons_zero, List.getElem?_append_left, t__law_draw_8, e4]
    have x0 := Int.emod_nonneg (c % 99999999977 + 700001 * (t + 1)) (show (99999999947 : Int) ≠ 0 by decide)
    have x1 := Int.emod_lt_of_pos (c % 99999999977 + 700001 * (t + 1)) (show (0 : Int) < 99999999947 by decide)
    generalize (c % 99999999977 + 700001 * (t + 1)) % 99999999947 = x at *
    simp (disch := walk_at "ln") [-getElem?_pos, -max_ii, -min_ii, -max_t2, -abs_i, max_iO, min_iO, max_tO, abs_iO, List.getElem?_cons_zero, List.getElem?_append_left, t__law_draw_9]
    have y0 := Int.emod_nonneg (x * x) (show (99999999821 : Int) ≠ 0 by decide)
    have y1 := Int.emod_lt_of_pos (x * x) (show (0 : Int) < 99999999821 by decide)
    generalize x * x % 99999999821 = y at *
    simp (disch := walk_at "ln") [-getElem?_pos, -max_ii, -min_ii, -max_t2, -abs_i, max_iO, min_iO, max_tO, abs_iO, List.getElem?_cons_zero, List.getElem?_append_left, t__law_draw_10, t__law_draw_11]
    exact kk _ _ (Int.emod_nonneg _ (by omega)) (Int.emod_lt_of_pos _ hm) f1 f2
  refine ⟨fun qf => ?_, fun qf => ?_⟩
  · refine ⟨fun qc => ?_, fun qc => ?_⟩
    · obtain ⟨f1, f2⟩ := fin (c / many) f t t0 (by omega)
      simp (disch := walk_at "ln") [-getElem?_pos, -max_ii, -min_ii, -max_t2, -abs_i, max_iO, min_iO, max_tO, abs_iO, List.getElem?_cons_zero, List.getElem?_append_left, t__law_draw_4, e3, t__law_draw_5, t__law_draw_6]
      exact kk _ _ (Int.emod_nonneg _ (by omega)) (Int.emod_lt_of_pos _ hm) f1 f2
    · exact rest
  · exact rest
theorem draw_ok {B d : Nat} {h : Hh} {T many : Int} (s : DkA B d h T) (hT : T < 1000000) (hm : 0 < many) (hm2 : many ≤ 1000000) : ∃ r h', f__law_draw [.cel d, .int many] h = .ok (.int r) h' ∧ 0 ≤ r ∧ r < many ∧ DkA B d h' (T + 1) ∧ Keep B h h' := by
  obtain ⟨x, h', e, r, rfl, a⟩ := (draw5W (Q := fun x h' => ∃ r, x = .int r ∧ 0 ≤ r ∧ r < many ∧ DkA B d h' (T + 1) ∧ Keep B h h') s hT hm hm2 fun r h' a b c d => ⟨r, rfl, a, b, c, d⟩).ex
  exact ⟨r, h', e, a⟩
theorem at_field {r : Int} (h0 : 0 ≤ r) (h1 : r < 24) : ∃ p : Nat, atI (FP.map fun (p : Nat) => D.int (p : Nat)) r = some (.int (p : Nat)) ∧ p ∈ FP := by
  have hl : r.toNat < FP.length := by show r.toNat < 24; omega
  refine ⟨FP[r.toNat], ?_, List.getElem_mem hl⟩
  rw [atI_pos h0, List.getElem?_map, List.getElem?_eq_getElem hl]
  rfl
theorem prime_ok {B d : Nat} {h : Hh} {T : Int} (s : DkA B d h T) (hT : T < 900000) : ∃ (p : Nat) (h' : Hh), f__law_prime [.cel d] h = .ok (.int (p : Nat)) h' ∧ p ∈ FP ∧ DkA B d h' (T + 3) ∧ Keep B h h' := by
  obtain ⟨r1, k1, e1, a1, b1, s1, l1⟩ := draw_ok (many := 3) s (by omega) (by omega) (by omega)
  obtain ⟨r2, k2, e2, a2, b2, s2, l2⟩ := draw_ok (many := 24) s1 (by omega) (by omega) (by omega)
  obtain ⟨r3, k3, e3, a3, b3, s3, l3⟩ := draw_ok (many := 3) s2 (by omega) (by omega) (by omega)
  have fin : ∃ r, atI [D.int r1, .int r2, .int 23] r3 = some (.int r) ∧ 0 ≤ r ∧ r < 24 := by
    have hr : r3 = 0 ∨ r3 = 1 ∨ r3 = 2 := by omega
    rcases hr with rfl | rfl | rfl
    · exact ⟨r1, by simp, by omega, by omega⟩
    · exact ⟨r2, by simp, by omega, by omega⟩
    · exact ⟨23, by simp, by omega, by omega⟩
  obtain ⟨r, q, q0, q1⟩ := fin
  obtain ⟨p, qp, m⟩ := at_field q0 q1
  have z : T + 1 + 1 + 1 = T + 3 := by omega
  refine ⟨p, k3, ?_, m, z ▸ s3, (l1.trans l2).trans l3⟩
  refine (fnS_run rfl).trans ?_
  simp only [FP, List.map_cons, List.map_nil, Int.cast_ofNat_Int] at qp
  simp [b__law_prime, e1, e2, e3, q, qp]
/-- a polynomial by p -/
def PolyP (p : Int) (xs : List Int) : Prop := (∀ x ∈ xs, 0 ≤ x ∧ x < p) ∧ (∀ (he : xs ≠ []), xs.getLast he ≠ 0)
theorem dk_ext {B d : Nat} {h : Hh} {T : Int} {o : O} (s : DkA B d h T) (q : o.under (h.length + 1) = true) (hB : B ≤ h.length) : DkA B d (h ++ [o]) T := by
  obtain ⟨⟨pc, n, ks, e0, e1, hL, hk, n0, n1, dB, pB, dp⟩, wb, wf⟩ := s
  have ap : ∀ j, j < B → (h ++ [o])[j]? = h[j]? := fun j hj => List.getElem?_append_left (by omega)
  refine ⟨⟨pc, n, ks, by rw [ap d dB]; exact e0, by rw [ap pc pB]; exact e1, hL, fun k hk' => ?_, n0, n1, dB, pB, dp⟩, fun j p hj e => ?_, fun p hp => ?_⟩
  · obtain ⟨a1, a2, a3, c, f, t, a4, a5⟩ := hk k hk'
    exact ⟨a1, a2, a3, c, f, t, by rw [ap k a1]; exact a4, a5⟩
  · rw [ap j hj] at e
    exact wb j p hj e
  · rw [List.length_append]
    rcases List.mem_append.mp hp with z | z
    · exact O.under_le (Nat.le_succ _) p (wf p z)
    · rw [List.mem_singleton.mp z]; exact q
/-- a cell beyond the deck changes -/
theorem dk_set {B d : Nat} {h : Hh} {T : Int} {i : Nat} {o : O} (s : DkA B d h T) (hi : B ≤ i) (q : o.under h.length = true) : DkA B d (h.set i o) T := by
  obtain ⟨⟨pc, n, ks, e0, e1, hL, hk, n0, n1, dB, pB, dp⟩, wb, wf⟩ := s
  have ap : ∀ j, j < B → (h.set i o)[j]? = h[j]? := fun j hj => List.getElem?_set_ne (by omega)
  refine ⟨⟨pc, n, ks, by rw [ap d dB]; exact e0, by rw [ap pc pB]; exact e1, hL, fun k hk' => ?_, n0, n1, dB, pB, dp⟩, fun j p hj e => ?_, wf_set wf q⟩
  · obtain ⟨a1, a2, a3, c, f, t, a4, a5⟩ := hk k hk'
    exact ⟨a1, a2, a3, c, f, t, by rw [ap k a1]; exact a4, a5⟩
  · rw [ap j hj] at e
    exact wb j p hj e
/-- cut behind the deck -/
theorem dk_take {B d H : Nat} {h : Hh} {T : Int} (s : DkA B d h T) (hB : B ≤ H) (hH : H ≤ h.length) (ua : ∀ j o, j < H → h[j]? = some o → o.under H = true) : DkA B d (h.take H) T := by
  obtain ⟨⟨pc, n, ks, e0, e1, hL, hk, n0, n1, dB, pB, dp⟩, wb, wf⟩ := s
  have ap : ∀ j, j < B → (h.take H)[j]? = h[j]? := fun j hj => List.getElem?_take_of_lt (by omega)
  have ln : (h.take H).length = H := by rw [List.length_take]; omega
  refine ⟨⟨pc, n, ks, by rw [ap d dB]; exact e0, by rw [ap pc pB]; exact e1, hL, fun k hk' => ?_, n0, n1, dB, pB, dp⟩, fun j p hj e => ?_, fun p hp => ?_⟩
  · obtain ⟨a1, a2, a3, c, f, t, a4, a5⟩ := hk k hk'
    exact ⟨a1, a2, a3, c, f, t, by rw [ap k a1]; exact a4, a5⟩
  · rw [ap j hj] at e
    exact wb j p hj e
  · rw [ln]
    obtain ⟨j, hj, ej⟩ := List.getElem_of_mem hp
    rw [ln] at hj
    have q : (h.take H)[j]? = some p := by rw [List.getElem?_eq_getElem (by rw [ln]; exact hj), ej]
    rw [List.getElem?_take_of_lt hj] at q
    exact ua j p hj q
theorem DkA.le {B d : Nat} {h : Hh} {T U : Int} (s : DkA B d h T) (q : T ≤ U) : DkA B d h U := by
  obtain ⟨⟨pc, n, ks, x0, x1, hL, hk, n0, n1, dB, pB, dp⟩, wb, wf⟩ := s
  refine ⟨⟨pc, n, ks, x0, x1, hL, fun k hk' => ?_, n0, by omega, dB, pB, dp⟩, wb, wf⟩
  obtain ⟨y1, y2, y3, c, f, t, y4, y5, y6⟩ := hk k hk'
  exact ⟨y1, y2, y3, c, f, t, y4, y5, by omega⟩
theorem poly_run {B d : Nat} {h : Hh} {T : Int} {p : Nat} {most : Int} (s : DkA B d h T) (hB : B ≤ h.length) (hT : T < 500000) (hp : p ∈ FP) (hm : 0 ≤ most) (hm2 : most ≤ 1000) :
    W (f__law_poly [.cel d, .int (p : Nat), .int most] h) fun x h' => ∃ ys : List Int, x = .cel h.length ∧ h'.length = h.length + 1 ∧ h'[h.length]? = some (.lst (ys.map .int)) ∧ PolyP (p : Int) ys ∧ (ys.length : Int) ≤ most ∧ DkA B d h' (T + 5 + 2 * most) ∧ ∀ i, B ≤ i → i < h.length → h'[i]? = h[i]? := by
  have pb := FP_le hp
  refine w__law_poly ?_
  generalize hQ : (fun (x : D) (h' : Hh) => ∃ ys : List Int, x = .cel h.length ∧ h'.length = h.length + 1 ∧ h'[h.length]? = some (O.lst (ys.map .int)) ∧ PolyP (p : Int) ys ∧ (ys.length : Int) ≤ most ∧ DkA B d h' (T + 5 + 2 * most) ∧ ∀ i, B ≤ i → i < h.length → h'[i]? = h[i]?) = Q
  simp (disch := walk_at "ln") [-getElem?_pos, -max_ii, -min_ii, -max_t2, -abs_i, max_iO, min_iO, max_tO, abs_iO, List.getElem?_cons_zero, List.getElem?_append_left, t__law_poly_1]
  refine draw5W s (by omega) (by omega) (by omega) fun r1 k1 a1 b1 s1 l1 => ?_
  try simp (disch := walk_at "ln") [-getElem?_pos, -max_ii, -min_ii, -max_t2, -abs_i, max_iO, min_iO, max_tO, abs_iO, List.getElem?_cons_zero, List.getElem?_append_left]
  refine draw5W s1 (by omega) (by omega) (by omega) fun r2 k2 a2 b2 s2 l2 => ?_
  try simp (disch := walk_at "ln") [-getElem?_pos, -max_ii, -min_ii, -max_t2, -abs_i, max_iO, min_iO, max_tO, abs_iO, List.getElem?_cons_zero, List.getElem?_append_left]
  refine draw5W s2 (by omega) (by omega) (by omega) fun r3 k3 a3 b3 s3 l3 => ?_
  obtain ⟨m0, em, m00⟩ : ∃ m : Int, atI [D.int r1, .int r2, .int most] r3 = some (.int m) ∧ 0 ≤ m := by
    have hr : r3 = 0 ∨ r3 = 1 ∨ r3 = 2 := by omega
    rcases hr with rfl | rfl | rfl
    · exact ⟨r1, by simp, a1⟩
    · exact ⟨r2, by simp, a2⟩
    · exact ⟨most, by simp, hm⟩
  simp (disch := walk_at "ln") [-getElem?_pos, -max_ii, -min_ii, -max_t2, -abs_i, max_iO, min_iO, max_tO, abs_iO, List.getElem?_cons_zero, List.getElem?_append_left, em, t__law_poly_2]
  have go : ∀ (N : Ls → Hh → Prop) (m : Nat), (m : Int) ≤ most → WS (evSs cs0 t__law_poly_4 [some (.cel d), some (.int (p : Nat)), some (.int most), some (.int (m : Nat)), none, none, none] k3) N Q no2 no2 := by
    intro N m mm
    simp (disch := walk_at "ln") [-getElem?_pos, -max_ii, -min_ii, -max_t2, -abs_i, max_iO, min_iO, max_tO, abs_iO, List.getElem?_cons_zero, List.getElem?_append_left, t__law_poly_4]
    refine draw5W s3 (by omega) (by omega) (by omega) fun r4 k4 a4 b4 s4 l4 => ?_
    have l := ((l1.trans l2).trans l3).trans l4
    simp (disch := walk_at "ln") [-getElem?_pos, -max_ii, -min_ii, -max_t2, -abs_i, max_iO, min_iO, max_tO, abs_iO, List.getElem?_cons_zero, List.getElem?_append_left, t__law_poly_5, t__law_poly_6]
    obtain ⟨I, hI⟩ := opq fun (j : Nat) (ls : Ls) (hh : Hh) => ∃ (xs : List Int) (o : Option D), ls = [some (.cel d), some (.int (p : Nat)), some (.int most), some (.int (m : Nat)), some (.int r4), some (.cel h.length), o] ∧ hh.length = h.length + 1 ∧ hh[h.length]? = some (.lst (xs.map .int)) ∧ xs.length = j ∧ (∀ x ∈ xs, 0 ≤ x ∧ x < p) ∧ DkA B d hh (T + 4 + 2 * j) ∧ ∀ i, B ≤ i → i < h.length → hh[i]? = h[i]?
    refine w_rng0 I (by
      rw [hI]
      refine ⟨[], _, by rw [l.1], by simp [l.1], by rw [← l.1]; simp, rfl, by simp, ?_, fun i i0 i1 => by rw [List.getElem?_append_left (by rw [l.1]; omega)]; exact l.2 i i0⟩
      exact dk_ext (s4.le (by omega)) (by simp [O.under, unders]) (by rw [l.1]; omega)) ?_ ?_
    · intro j _ hh hj w
      rw [hI] at w
      obtain ⟨xs, o, rfl, g1, g2, g3, g4, g5, g6⟩ := w
      refine ⟨_, rfl, ?_⟩
      simp (disch := walk_at "ln") [-getElem?_pos, -max_ii, -min_ii, -max_t2, -abs_i, max_iO, min_iO, max_tO, abs_iO, List.getElem?_cons_zero, List.getElem?_append_left, t__law_poly_7, g2]
      refine draw5W g5 (by omega) (by omega) (by omega) fun r5 k5 a5 b5 s5 l5 => ?_
      try simp (disch := walk_at "ln") [-getElem?_pos, -max_ii, -min_ii, -max_t2, -abs_i, max_iO, min_iO, max_tO, abs_iO, List.getElem?_cons_zero, List.getElem?_append_left]
      refine draw5W s5 (by omega) (by omega) (by omega) fun r6 k6 a6 b6 s6 l6 => ?_
      have l56 := l5.trans l6
      have g2' : k6[h.length]? = some (.lst (xs.map .int)) := by rw [l56.2 _ hB]; exact g2
      obtain ⟨v, ev, v0, v1⟩ : ∃ v : Int, atI [D.int 0, .int r5] (if r4 ≤ r6 then 1 else 0) = some (.int v) ∧ 0 ≤ v ∧ v < p := by
        split
        · exact ⟨r5, by simp, a5, b5⟩
        · exact ⟨0, by simp, by omega, by omega⟩
      simp (disch := walk_at "ln") [-getElem?_pos, -max_ii, -min_ii, -max_t2, -abs_i, max_iO, min_iO, max_tO, abs_iO, List.getElem?_cons_zero, List.getElem?_append_left, ev, g2']
      rw [hI]
      have un : O.under k6.length (.lst ((xs.map D.int) ++ [.int v])) = true := by
        have q := unders_ints (n := k6.length) (xs ++ [v])
        simpa [O.under] using q
      have hlen : k6.length = h.length + 1 := by rw [l56.1]; exact g1
      refine ⟨xs ++ [v], _, rfl, by rw [List.length_set]; exact hlen, by rw [List.getElem?_set_self (by omega)]; simp, by simp [g3], fun y hy => ?_, dk_set (s6.le (by omega)) hB un, fun i i0 i1 => by rw [List.getElem?_set_ne (by omega), l56.2 i i0]; exact g6 i i0 i1⟩
      rcases List.mem_append.mp hy with q | q
      · exact g4 y q
      · rw [List.mem_singleton.mp q]; exact ⟨v0, v1⟩
    · intro _ hh w
      rw [hI] at w
      obtain ⟨xs, o, rfl, g1, g2, g3, g4, g5, g6⟩ := w
      have ne := ne_cel_nil g2
      simp (disch := walk_at "ln") [-getElem?_pos, -max_ii, -min_ii, -max_t2, -abs_i, max_iO, min_iO, max_tO, abs_iO, List.getElem?_cons_zero, List.getElem?_append_left, t__law_poly_8, ne]
      refine ⟨fun he => ?_, fun he => ?_⟩
      · subst he
        simp (disch := walk_at "ln") [-getElem?_pos, -max_ii, -min_ii, -max_t2, -abs_i, max_iO, min_iO, max_tO, abs_iO, List.getElem?_cons_zero, List.getElem?_append_left, t__law_poly_10]
        rw [← hQ]
        exact ⟨[], rfl, g1, g2, ⟨g4, fun z => absurd rfl z⟩, by simp; omega, g5.le (by omega), g6⟩
      · have xl := List.length_pos_iff.mpr he
        simp (disch := walk_at "ln") [-getElem?_pos, -max_ii, -min_ii, -max_t2, -abs_i, max_iO, min_iO, max_tO, abs_iO, List.getElem?_cons_zero, List.getElem?_append_left, t__law_poly_9]
        refine draw5W g5 (by omega) (by omega) (by omega) fun r7 k7 a7 b7 s7 l7 => ?_
        have g2' : k7[h.length]? = some (.lst (xs.map .int)) := by rw [l7.2 _ hB]; exact g2
        have hlen : k7.length = h.length + 1 := by rw [l7.1]; exact g1
        simp (disch := walk_at "ln") [-getElem?_pos, -max_ii, -min_ii, -max_t2, -abs_i, max_iO, min_iO, max_tO, abs_iO, List.getElem?_cons_zero, List.getElem?_append_left, g2', t__law_poly_10]
        rw [← hQ]
        refine ⟨xs.set (xs.length - 1) (1 + r7), rfl, by rw [List.length_set]; exact hlen, by rw [List.getElem?_set_self (by omega), List.map_set], ⟨fun y hy => ?_, fun hne => ?_⟩, by simp; omega, dk_set (s7.le (by omega)) hB ?_, fun i i0 i1 => by rw [List.getElem?_set_ne (by omega), l7.2 i i0]; exact g6 i i0 i1⟩
        · rcases List.mem_or_eq_of_mem_set hy with q | q
          · exact g4 y q
          · rw [q]; omega
        · rw [List.getLast_eq_getElem]
          simp only [List.length_set]
          rw [List.getElem_set_self]
          omega
        · rw [show (xs.map D.int).set (xs.length - 1) (.int (1 + r7)) = (xs.set (xs.length - 1) (1 + r7)).map D.int by rw [List.map_set]]
          exact unders_ints _
  refine ⟨fun q => ?_, fun q => ?_⟩
  · simp (disch := walk_at "ln") [-getElem?_pos, -max_ii, -min_ii, -max_t2, -abs_i, max_iO, min_iO, max_tO, abs_iO, List.getElem?_cons_zero, List.getElem?_append_left, t__law_poly_3]
    have := go (fun _ _ => False) most.toNat (by omega)
    rw [show ((most.toNat : Nat) : Int) = most by omega] at this
    exact this
  · have := go (fun _ _ => False) m0.toNat (by omega)
    rw [show ((m0.toNat : Nat) : Int) = m0 by omega] at this
    exact this
theorem poly_ok {B d : Nat} {h : Hh} {T : Int} {p : Nat} {most : Int} (s : DkA B d h T) (hB : B ≤ h.length) (hT : T < 500000) (hp : p ∈ FP) (hm : 0 ≤ most) (hm2 : most ≤ 1000) :
    ∃ xs h', callM .F f__law_poly [.cel d, .int (p : Nat), .int most] h = .ok (.lst (xs.map .int)) h' ∧ PolyP (p : Int) xs ∧ (xs.length : Int) ≤ most ∧ DkA B d h' (T + 5 + 2 * most) ∧ Keep B h h' := by
  obtain ⟨x, h', e, ys, rfl, c1, c2, c3, c4, c5, c6⟩ := (poly_run s hB hT hp hm hm2).ex
  have ua : ∀ j o, j < h.length → h'[j]? = some o → o.under h.length = true := by
    intro j o hj e
    by_cases z : j < B
    · exact O.under_le (by omega) o (c5.wb j o z e)
    · rw [c6 j (by omega) hj] at e
      exact s.wf o (List.mem_of_getElem? e)
  refine ⟨ys, h'.take h.length, callF_ints e (by omega) c2 ua, c3, c4, dk_take c5 (by omega) (by omega) ua, by rw [List.length_take]; omega, fun j hj => ?_⟩
  by_cases z : j < h.length
  · rw [List.getElem?_take_of_lt z]; exact c6 j hj z
  · rw [List.getElem?_eq_none (by rw [List.length_take]; omega), List.getElem?_eq_none (by omega)]
theorem deck_ok (ns : List Int) (hn : ns.length ≤ 63) : ∃ d h', f__law_deck [.kl (ns.map .int)] [] = .ok (.cel d) h' ∧ DkA h'.length d h' 0 := by
  have hmin : ∃ m : Nat, 1 ≤ m ∧ m ≤ 63 ∧ (if (1 : Int) < (if (ns.length : Int) < 63 then (ns.length : Int) else 63) then (if (ns.length : Int) < 63 then (ns.length : Int) else 63) else 1) = (m : Int) := by
    refine ⟨(if (1 : Int) < (if (ns.length : Int) < 63 then (ns.length : Int) else 63) then (if (ns.length : Int) < 63 then (ns.length : Int) else 63) else 1).toNat, ?_, ?_, ?_⟩ <;> split <;> (try split) <;> omega
  obtain ⟨m, m1, m2, em⟩ := hmin
  generalize hS : D.kl (ns.map D.int) = sc
  have lp := loopL_inv (g := asgT (.nm 2)) (b := evSs cs0 (match b__law_deck with | .cons _ (.cons (.fr _ _ b) _) => b | _ => .nil))
    (fun j ls hh => ∃ (ks : List Nat) (o2 o3 : Option D), ls = [some sc, some (.cel 0), o2, o3] ∧ hh.length = j + 1 ∧ hh[0]? = some (.lst (ks.map .cel)) ∧ ks.length = j ∧ (∀ k ∈ ks, k < hh.length ∧ k ≠ 0 ∧ ∃ c f t : Int, hh[k]? = some (.lst [.int c, .int f, .int t]) ∧ 0 ≤ t ∧ t ≤ 2000) ∧ ∀ o ∈ hh, o.under hh.length = true)
    (rngL 0 1 m) 0 [some sc, some (.cel 0), none, none] [.lst []] (by
      rintro j x ls hh ex ⟨ks, o2, o3, rfl, g1, g2, g3, g4, g5⟩
      obtain ⟨hj, rfl⟩ := rngL_mem ex
      have sj : small (j : Int) = true := small_of (by omega) (by omega)
      -- by the cell
      have go : ∀ c : Int, (if (j : Int) < ns.length then atI (ns.map D.int) j = some (.int c) else c = 0) → ∃ l1 l2 h2, asgT (.nm 2) (.int (0 + (j : Int))) [some sc, some (.cel 0), o2, o3] = some l1 ∧ (evSs cs0 (match b__law_deck with | .cons _ (.cons (.fr _ _ b) _) => b | _ => .nil) l1 hh = .nx l2 h2 ∨ evSs cs0 (match b__law_deck with | .cons _ (.cons (.fr _ _ b) _) => b | _ => .nil) l1 hh = .ct l2 h2) ∧
          ∃ (ks : List Nat) (o2 o3 : Option D), l2 = [some sc, some (.cel 0), o2, o3] ∧ h2.length = 0 + j + 1 + 1 ∧ h2[0]? = some (.lst (ks.map .cel)) ∧ ks.length = 0 + j + 1 ∧ (∀ k ∈ ks, k < h2.length ∧ k ≠ 0 ∧ ∃ c f t : Int, h2[k]? = some (.lst [.int c, .int f, .int t]) ∧ 0 ≤ t ∧ t ≤ 2000) ∧ ∀ o ∈ h2, o.under h2.length = true := by
        intro c hc
        have g2' : (hh ++ [.lst [.int c, .int (if 1000000000000000000 ≤ c then 1 else 0), .int (31 * (j : Int))]])[0]? = some (.lst (ks.map .cel)) := by rw [List.getElem?_append_left (by omega)]; exact g2
        have okr := okR_cel (m := .append) g2 rfl
        have lk : ks.length < LIM := by unfold LIM; omega
        refine ⟨_, [some sc, some (.cel 0), some (.int (0 + (j : Int))), some (.int c)], ((hh ++ [O.lst [.int c, .int (if 1000000000000000000 ≤ c then 1 else 0), .int (31 * (j : Int))]]).set 0 (O.lst ((ks ++ [hh.length]).map D.cel))), rfl, .inl ?_, ks ++ [hh.length], _, _, rfl, ?_, ?_, ?_, ?_, ?_⟩
        · subst hS
          have app := me_append (d := .cel hh.length) (c := true) g2' (by simpa using lk)
          rw [show ks.map D.cel ++ [.cel hh.length] = (ks ++ [hh.length]).map .cel by simp] at app
          by_cases q : (j : Int) < ns.length
          · rw [if_pos q] at hc
            simp [b__law_deck, q, hc, okr, bin_mul, sj, app]
          · rw [if_neg q] at hc
            subst hc
            simp at app
            simp [b__law_deck, q, okr, bin_mul, sj, app]
        · simp [g1]
        · rw [List.getElem?_set_self (by simp)]
        · simp [g3]
        · intro k hk
          rcases List.mem_append.mp hk with z | z
          · obtain ⟨a1, a2, c', f', t', a3, a4, a5⟩ := g4 k z
            exact ⟨by simp; omega, a2, c', f', t', by rw [List.getElem?_set_ne (by omega), List.getElem?_append_left a1]; exact a3, a4, a5⟩
          · rw [List.mem_singleton.mp z]
            exact ⟨by simp, by omega, c, (if 1000000000000000000 ≤ c then 1 else 0), 31 * (j : Int), by rw [List.getElem?_set_ne (by omega)]; simp, by omega, by omega⟩
        · refine wf_set (fun o ho => ?_) ?_
          · rw [List.length_append]
            rcases List.mem_append.mp ho with z | z
            · exact O.under_le (Nat.le_succ _) o (g5 o z)
            · rw [List.mem_singleton.mp z]; simp [O.under, unders, D.under]
          · have cu : ∀ l : List Nat, (∀ k ∈ l, k < (hh ++ [O.lst [.int c, .int (if 1000000000000000000 ≤ c then 1 else 0), .int (31 * (j : Int))]]).length) → unders (hh ++ [O.lst [.int c, .int (if 1000000000000000000 ≤ c then 1 else 0), .int (31 * (j : Int))]]).length (l.map .cel) = true := by
              intro l
              induction l with
              | nil => intro _; rfl
              | cons a r ih => intro z; simp only [List.map_cons, unders, D.under, Bool.and_eq_true, decide_eq_true_eq]; exact ⟨z a List.mem_cons_self, ih fun k hk => z k (List.mem_cons_of_mem _ hk)⟩
            exact cu _ (fun k hk => by
              rw [List.length_append]
              rcases List.mem_append.mp hk with z | z
              · have := (g4 k z).1; simp; omega
              · have e := List.mem_singleton.mp z; subst e; simp)
      by_cases q : (j : Int) < ns.length
      · have hj2 : j < ns.length := by omega
        refine go ns[j] ?_
        rw [if_pos q, atI_at, List.getElem?_map, List.getElem?_eq_getElem hj2]
        rfl
      · exact go 0 (by rw [if_neg q]))
    ⟨[], none, none, rfl, rfl, rfl, rfl, (fun _ z => by cases z), fun o ho => by rw [List.mem_singleton.mp ho]; rfl⟩
  obtain ⟨l2, hh, el, ks, o2, o3, rfl, g1, g2, g3, g4, g5⟩ := lp
  rw [rngL_len] at g1 g3
  refine ⟨hh.length, hh ++ [.lst [.cel 0, .int 0]], ?_, ⟨⟨0, 0, ks, by simp, by rw [List.getElem?_append_left (by omega)]; exact g2, by omega, fun k hk => ?_, by omega, by omega, by simp, by simp, by omega⟩, fun j o hj e => ?_, fun o ho => ?_⟩⟩
  · refine (fnS_run rfl).trans ?_
    have sr : smallR (m : Int) = true := smallR_i (by omega) (by omega)
    subst hS
    simp only [b__law_deck] at el ⊢
    simp [em, sr, forR_rng, el]
  · obtain ⟨a1, a2, c, f, t, a3, a4, a5⟩ := g4 k hk
    exact ⟨by simp; omega, by omega, a2, c, f, t, by rw [List.getElem?_append_left a1]; exact a3, a4, by omega⟩
  · have hm := List.mem_of_getElem? e
    rcases List.mem_append.mp hm with z | z
    · rw [List.length_append]; exact O.under_le (Nat.le_succ _) o (g5 o z)
    · rw [List.mem_singleton.mp z]; simp [O.under, unders, D.under]
  · rcases List.mem_append.mp ho with z | z
    · rw [List.length_append]; exact O.under_le (Nat.le_succ _) o (g5 o z)
    · rw [List.mem_singleton.mp z]; simp [O.under, unders, D.under]
theorem deckW {ns : List Int} (hn : ns.length ≤ 63) {Q : D → Hh → Prop} (q : ∀ d h', DkA h'.length d h' 0 → Q (.cel d) h') : W (f__law_deck [.kl (ns.map .int)] []) Q := by
  obtain ⟨d, h', e, s⟩ := deck_ok ns hn
  exact W.of e (q d h' s)
section
variable {B d : Nat} {h : Hh} {T : Int} {Q : D → Hh → Prop}
theorem prime5W (s : DkA B d h T) (hT : T < 900000) (q : ∀ (p : Nat) h', p ∈ FP → DkA B d h' (T + 3) → Keep B h h' → Q (.int (p : Nat)) h') : W (f__law_prime [.cel d] h) Q := by
  obtain ⟨p, h', e, a, s', k⟩ := prime_ok s hT
  exact W.of e (q p h' a s' k)
theorem poly5W {p : Nat} {most : Int} (s : DkA B d h T) (hB : B ≤ h.length) (hT : T < 500000) (hp : p ∈ FP) (hm : 0 ≤ most) (hm2 : most ≤ 1000) (q : ∀ xs h', Po.Can p xs → (xs.length : Int) ≤ most → DkA B d h' (T + 5 + 2 * most) → Keep B h h' → Q (.lst (xs.map .int)) h') : W (callM .F f__law_poly [.cel d, .int (p : Nat), .int most] h) Q := by
  have pb := FP_le hp
  obtain ⟨xs, h', e, a, b, s', k⟩ := poly_ok s hB hT hp hm hm2
  exact W.of e (q xs h' a b s' k)
theorem pureW {F : Fn} {ds : List D} {v : D} {m : Md} (e : ∀ h, callM m F ds h = .ok v h) (q : Q v h) : W (callM m F ds h) Q := W.of (e h) q
end
end U
namespace U
open PySem PySem.Spec PyProof.Rows L2 Tb
def b__law_trimmed : Ss := (.cons (.asg (.nm 1) (.bi .list true (.cons (.var 0) .nil)))
  (.cons (.whl (.bop .And (.cons (.cmp .NotEq (.var 1) (.lst false .nil)) (.cons (.cmp .Eq (.idx (.var 1) (.neg (.int 1))) (.int 0)) .nil))) (.cons (.ex (.me .pop false (.var 1) .nil))
  .nil))
  (.cons (.ret (.var 1))
  .nil)))
def f__law_trimmed : Fn := fnS cs0 2 1 b__law_trimmed
def t__law_trimmed_4 : Ss := .cons (.ret (.var 1)) .nil
def t__law_trimmed_3 : Ss := .cons (.ex (.me .pop false (.var 1) .nil)) .nil
def t__law_trimmed_2 : Ss := .cons (.whl (.bop .And (.cons (.cmp .NotEq (.var 1) (.lst false .nil)) (.cons (.cmp .Eq (.idx (.var 1) (.neg (.int 1))) (.int 0)) .nil))) t__law_trimmed_3) t__law_trimmed_4
def t__law_trimmed_1 : Ss := .cons (.asg (.nm 1) (.bi .list true (.cons (.var 0) .nil))) t__law_trimmed_2
theorem u__law_trimmed : b__law_trimmed = t__law_trimmed_1 := rfl
/-- numbers, found -/
theorem w__law_trimmed {x0 : D} {h : Hh} {Q : D → Hh → Prop} (w : WS (evSs cs0 t__law_trimmed_1 [some x0, none] h) (fun _ h1 => Q .non h1) Q no2 no2) : W (f__law_trimmed [x0] h) Q := by
  rw [← u__law_trimmed] at w
  exact w_fnS2 (C := cs0) (n := 2) (np := 1) (b := b__law_trimmed) rfl rfl w
theorem r__law_trimmed {x0 : D} {h : Hh} : f__law_trimmed [x0] h = endR (evSs cs0 t__law_trimmed_1 [some x0, none] h) := by
  rw [← u__law_trimmed]
  exact fnS_run2 (C := cs0) (n := 2) (np := 1) (b := b__law_trimmed) rfl rfl
def b__law_times : Ss := (.cons (.asg (.nm 3) (.bin true .Mult (.lst false (.cons (.int 0) .nil)) (.bin false .Add (.bi .len false (.cons (.var 0) .nil)) (.bi .len false (.cons (.var 1) .nil)))))
  (.cons (.fr (.nm 4) (.rng (.cons (.bi .len false (.cons (.var 0) .nil)) .nil)) (.cons (.fr (.nm 5) (.rng (.cons (.bi .len false (.cons (.var 1) .nil)) .nil)) (.cons (.sub (.var 3) (.bin false .Add (.var 4) (.var 5)) (.bin false .Mod (.bin false .Add (.idx (.var 3) (.bin false .Add (.var 4) (.var 5))) (.bin false .Mult (.idx (.var 0) (.var 4)) (.idx (.var 1) (.var 5)))) (.var 2)))
  .nil))
  .nil))
  (.cons (.ret (.call .C "_law_trimmed" f__law_trimmed (.cons (.var 3) .nil)))
  .nil)))
def f__law_times : Fn := fnS cs0 6 3 b__law_times
def t__law_times_5 : Ss := .cons (.ret (.call .C "_law_trimmed" f__law_trimmed (.cons (.var 3) .nil))) .nil
def t__law_times_4 : Ss := .cons (.sub (.var 3) (.bin false .Add (.var 4) (.var 5)) (.bin false .Mod (.bin false .Add (.idx (.var 3) (.bin false .Add (.var 4) (.var 5))) (.bin false .Mult (.idx (.var 0) (.var 4)) (.idx (.var 1) (.var 5)))) (.var 2))) .nil
def t__law_times_3 : Ss := .cons (.fr (.nm 5) (.rng (.cons (.bi .len false (.cons (.var 1) .nil)) .nil)) t__law_times_4) .nil
def t__law_times_2 : Ss := .cons (.fr (.nm 4) (.rng (.cons (.bi .len false (.cons (.var 0) .nil)) .nil)) t__law_times_3) t__law_times_5
def t__law_times_1 : Ss := .cons (.asg (.nm 3) (.bin true .Mult (.lst false (.cons (.int 0) .nil)) (.bin false .Add (.bi .len false (.cons (.var 0) .nil)) (.bi .len false (.cons (.var 1) .nil))))) t__law_times_2
theorem u__law_times : b__law_times = t__law_times_1 := rfl
/-- one, other, p, found, i, j -/
theorem w__law_times {x0 x1 x2 : D} {h : Hh} {Q : D → Hh → Prop} (w : WS (evSs cs0 t__law_times_1 [some x0, some x1, some x2, none, none, none] h) (fun _ h1 => Q .non h1) Q no2 no2) : W (f__law_times [x0, x1, x2] h) Q := by
  rw [← u__law_times] at w
  exact w_fnS2 (C := cs0) (n := 6) (np := 3) (b := b__law_times) rfl rfl w
theorem r__law_times {x0 x1 x2 : D} {h : Hh} : f__law_times [x0, x1, x2] h = endR (evSs cs0 t__law_times_1 [some x0, some x1, some x2, none, none, none] h) := by
  rw [← u__law_times]
  exact fnS_run2 (C := cs0) (n := 6) (np := 3) (b := b__law_times) rfl rfl
def b__law_rest : Ss := (.cons (.asg (.nm 3) (.bi .list true (.cons (.var 0) .nil)))
  (.cons (.asg (.nm 4) (.idx (.comp false [5] (.nm 5) (.rng (.cons (.int 1) (.cons (.var 2) .nil))) (.cons (.cmp .Eq (.bin false .Mod (.bin false .Mult (.var 5) (.idx (.var 1) (.neg (.int 1)))) (.var 2)) (.int 1)) .nil) (.var 5)) (.int 0)))
  (.cons (.whl (.cmp .GtE (.bi .len false (.cons (.var 3) .nil)) (.bi .len false (.cons (.var 1) .nil))) (.cons (.asg (.nm 5) (.bin false .Mod (.bin false .Mult (.idx (.var 3) (.neg (.int 1))) (.var 4)) (.var 2)))
  (.cons (.asg (.nm 6) (.bin false .Add (.bin false .Mult (.lst false (.cons (.int 0) .nil)) (.bin false .Sub (.bi .len false (.cons (.var 3) .nil)) (.bi .len false (.cons (.var 1) .nil)))) (.var 1)))
  (.cons (.asg (.nm 3) (.comp true [7, 8] (.tp [7, 8]) (.zip (.var 3) (.var 6)) .nil (.bin false .Mod (.bin false .Sub (.var 7) (.bin false .Mult (.var 5) (.var 8))) (.var 2))))
  (.cons (.asg (.nm 3) (.call .C "_law_trimmed" f__law_trimmed (.cons (.var 3) .nil)))
  .nil)))))
  (.cons (.ret (.var 3))
  .nil))))
def f__law_rest : Fn := fnS cs0 9 3 b__law_rest
def t__law_rest_8 : Ss := .cons (.ret (.var 3)) .nil
def t__law_rest_7 : Ss := .cons (.asg (.nm 3) (.call .C "_law_trimmed" f__law_trimmed (.cons (.var 3) .nil))) .nil
def t__law_rest_6 : Ss := .cons (.asg (.nm 3) (.comp true [7, 8] (.tp [7, 8]) (.zip (.var 3) (.var 6)) .nil (.bin false .Mod (.bin false .Sub (.var 7) (.bin false .Mult (.var 5) (.var 8))) (.var 2)))) t__law_rest_7
def t__law_rest_5 : Ss := .cons (.asg (.nm 6) (.bin false .Add (.bin false .Mult (.lst false (.cons (.int 0) .nil)) (.bin false .Sub (.bi .len false (.cons (.var 3) .nil)) (.bi .len false (.cons (.var 1) .nil)))) (.var 1))) t__law_rest_6
def t__law_rest_4 : Ss := .cons (.asg (.nm 5) (.bin false .Mod (.bin false .Mult (.idx (.var 3) (.neg (.int 1))) (.var 4)) (.var 2))) t__law_rest_5
def t__law_rest_3 : Ss := .cons (.whl (.cmp .GtE (.bi .len false (.cons (.var 3) .nil)) (.bi .len false (.cons (.var 1) .nil))) t__law_rest_4) t__law_rest_8
def t__law_rest_2 : Ss := .cons (.asg (.nm 4) (.idx (.comp false [5] (.nm 5) (.rng (.cons (.int 1) (.cons (.var 2) .nil))) (.cons (.cmp .Eq (.bin false .Mod (.bin false .Mult (.var 5) (.idx (.var 1) (.neg (.int 1)))) (.var 2)) (.int 1)) .nil) (.var 5)) (.int 0))) t__law_rest_3
def t__law_rest_1 : Ss := .cons (.asg (.nm 3) (.bi .list true (.cons (.var 0) .nil))) t__law_rest_2
theorem u__law_rest : b__law_rest = t__law_rest_1 := rfl
/-- one, other, p, rest, back, number, lower, a, b -/
theorem w__law_rest {x0 x1 x2 : D} {h : Hh} {Q : D → Hh → Prop} (w : WS (evSs cs0 t__law_rest_1 [some x0, some x1, some x2, none, none, none, none, none, none] h) (fun _ h1 => Q .non h1) Q no2 no2) : W (f__law_rest [x0, x1, x2] h) Q := by
  rw [← u__law_rest] at w
  exact w_fnS2 (C := cs0) (n := 9) (np := 3) (b := b__law_rest) rfl rfl w
theorem r__law_rest {x0 x1 x2 : D} {h : Hh} : f__law_rest [x0, x1, x2] h = endR (evSs cs0 t__law_rest_1 [some x0, some x1, some x2, none, none, none, none, none, none] h) := by
  rw [← u__law_rest]
  exact fnS_run2 (C := cs0) (n := 9) (np := 3) (b := b__law_rest) rfl rfl
def b__law_divisor : Ss := (.cons (.whl (.cmp .NotEq (.var 1) (.lst false .nil)) (.cons (.asg (.tp [0, 1]) (.tup (.cons (.var 1) (.cons (.call .P "_law_rest" f__law_rest (.cons (.var 0) (.cons (.var 1) (.cons (.var 2) .nil)))) .nil))))
  .nil))
  (.cons (.asg (.nm 3) (.idx (.comp false [4] (.nm 4) (.rng (.cons (.int 1) (.cons (.var 2) .nil))) (.cons (.cmp .Eq (.bin false .Mod (.bin false .Mult (.var 4) (.idx (.var 0) (.neg (.int 1)))) (.var 2)) (.int 1)) .nil) (.var 4)) (.int 0)))
  (.cons (.ret (.comp false [4] (.nm 4) (.seq (.var 0)) .nil (.bin false .Mod (.bin false .Mult (.var 4) (.var 3)) (.var 2))))
  .nil)))
def f__law_divisor : Fn := fnS cs0 5 3 b__law_divisor
def t__law_divisor_4 : Ss := .cons (.ret (.comp false [4] (.nm 4) (.seq (.var 0)) .nil (.bin false .Mod (.bin false .Mult (.var 4) (.var 3)) (.var 2)))) .nil
def t__law_divisor_3 : Ss := .cons (.asg (.nm 3) (.idx (.comp false [4] (.nm 4) (.rng (.cons (.int 1) (.cons (.var 2) .nil))) (.cons (.cmp .Eq (.bin false .Mod (.bin false .Mult (.var 4) (.idx (.var 0) (.neg (.int 1)))) (.var 2)) (.int 1)) .nil) (.var 4)) (.int 0))) t__law_divisor_4
def t__law_divisor_2 : Ss := .cons (.asg (.tp [0, 1]) (.tup (.cons (.var 1) (.cons (.call .P "_law_rest" f__law_rest (.cons (.var 0) (.cons (.var 1) (.cons (.var 2) .nil)))) .nil)))) .nil
def t__law_divisor_1 : Ss := .cons (.whl (.cmp .NotEq (.var 1) (.lst false .nil)) t__law_divisor_2) t__law_divisor_3
theorem u__law_divisor : b__law_divisor = t__law_divisor_1 := rfl
/-- one, other, p, back, number -/
theorem w__law_divisor {x0 x1 x2 : D} {h : Hh} {Q : D → Hh → Prop} (w : WS (evSs cs0 t__law_divisor_1 [some x0, some x1, some x2, none, none] h) (fun _ h1 => Q .non h1) Q no2 no2) : W (f__law_divisor [x0, x1, x2] h) Q := by
  rw [← u__law_divisor] at w
  exact w_fnS2 (C := cs0) (n := 5) (np := 3) (b := b__law_divisor) rfl rfl w
theorem r__law_divisor {x0 x1 x2 : D} {h : Hh} : f__law_divisor [x0, x1, x2] h = endR (evSs cs0 t__law_divisor_1 [some x0, some x1, some x2, none, none] h) := by
  rw [← u__law_divisor]
  exact fnS_run2 (C := cs0) (n := 5) (np := 3) (b := b__law_divisor) rfl rfl
def b__law_plus : Ss := (.cons (.asg (.nm 3) (.bin true .Mult (.lst false (.cons (.int 0) .nil)) (.bi .max false (.cons (.bi .len false (.cons (.var 0) .nil)) (.cons (.bi .len false (.cons (.var 1) .nil)) .nil)))))
  (.cons (.fr (.nm 4) (.seq (.lst false (.cons (.var 0) (.cons (.var 1) .nil)))) (.cons (.fr (.nm 5) (.rng (.cons (.bi .len false (.cons (.var 4) .nil)) .nil)) (.cons (.sub (.var 3) (.var 5) (.bin false .Mod (.bin false .Add (.idx (.var 3) (.var 5)) (.idx (.var 4) (.var 5))) (.var 2)))
  .nil))
  .nil))
  (.cons (.ret (.call .C "_law_trimmed" f__law_trimmed (.cons (.var 3) .nil)))
  .nil)))
def f__law_plus : Fn := fnS cs0 6 3 b__law_plus
def t__law_plus_5 : Ss := .cons (.ret (.call .C "_law_trimmed" f__law_trimmed (.cons (.var 3) .nil))) .nil
def t__law_plus_4 : Ss := .cons (.sub (.var 3) (.var 5) (.bin false .Mod (.bin false .Add (.idx (.var 3) (.var 5)) (.idx (.var 4) (.var 5))) (.var 2))) .nil
def t__law_plus_3 : Ss := .cons (.fr (.nm 5) (.rng (.cons (.bi .len false (.cons (.var 4) .nil)) .nil)) t__law_plus_4) .nil
def t__law_plus_2 : Ss := .cons (.fr (.nm 4) (.seq (.lst false (.cons (.var 0) (.cons (.var 1) .nil)))) t__law_plus_3) t__law_plus_5
def t__law_plus_1 : Ss := .cons (.asg (.nm 3) (.bin true .Mult (.lst false (.cons (.int 0) .nil)) (.bi .max false (.cons (.bi .len false (.cons (.var 0) .nil)) (.cons (.bi .len false (.cons (.var 1) .nil)) .nil))))) t__law_plus_2
theorem u__law_plus : b__law_plus = t__law_plus_1 := rfl
/-- one, other, p, found, poly, k -/
theorem w__law_plus {x0 x1 x2 : D} {h : Hh} {Q : D → Hh → Prop} (w : WS (evSs cs0 t__law_plus_1 [some x0, some x1, some x2, none, none, none] h) (fun _ h1 => Q .non h1) Q no2 no2) : W (f__law_plus [x0, x1, x2] h) Q := by
  rw [← u__law_plus] at w
  exact w_fnS2 (C := cs0) (n := 6) (np := 3) (b := b__law_plus) rfl rfl w
theorem r__law_plus {x0 x1 x2 : D} {h : Hh} : f__law_plus [x0, x1, x2] h = endR (evSs cs0 t__law_plus_1 [some x0, some x1, some x2, none, none, none] h) := by
  rw [← u__law_plus]
  exact fnS_run2 (C := cs0) (n := 6) (np := 3) (b := b__law_plus) rfl rfl
def b__law_whole : Ss := (.cons (.ret (.bop .And (.cons (.isi (.var 0) (.bty "int")) (.cons (.not (.isi (.var 0) (.bty "bool"))) (.cons (.chn .LtE .Lt (.int 0) (.var 0) (.var 1)) .nil)))))
  .nil)
def f__law_whole : Fn := fnS cs0 2 2 b__law_whole
def t__law_whole_1 : Ss := .cons (.ret (.bop .And (.cons (.isi (.var 0) (.bty "int")) (.cons (.not (.isi (.var 0) (.bty "bool"))) (.cons (.chn .LtE .Lt (.int 0) (.var 0) (.var 1)) .nil))))) .nil
theorem u__law_whole : b__law_whole = t__law_whole_1 := rfl
/-- thing, beyond -/
theorem w__law_whole {x0 x1 : D} {h : Hh} {Q : D → Hh → Prop} (w : WS (evSs cs0 t__law_whole_1 [some x0, some x1] h) (fun _ h1 => Q .non h1) Q no2 no2) : W (f__law_whole [x0, x1] h) Q := by
  rw [← u__law_whole] at w
  exact w_fnS2 (C := cs0) (n := 2) (np := 2) (b := b__law_whole) rfl rfl w
theorem r__law_whole {x0 x1 : D} {h : Hh} : f__law_whole [x0, x1] h = endR (evSs cs0 t__law_whole_1 [some x0, some x1] h) := by
  rw [← u__law_whole]
  exact fnS_run2 (C := cs0) (n := 2) (np := 2) (b := b__law_whole) rfl rfl
def b__law_is_poly : Ss := (.cons (.ifs (.bop .Or (.cons (.not (.isi (.var 0) (.bty "list"))) (.cons (.cmp .NotEq (.comp false [2] (.nm 2) (.seq (.var 0)) (.cons (.not (.call .P "_law_whole" f__law_whole (.cons (.var 2) (.cons (.var 1) .nil)))) .nil) (.var 2)) (.lst false .nil)) .nil))) (.cons (.ret (.bl false))
  .nil) .nil)
  (.cons (.ret (.bop .Or (.cons (.cmp .Eq (.var 0) (.lst false .nil)) (.cons (.cmp .NotEq (.idx (.var 0) (.neg (.int 1))) (.int 0)) .nil))))
  .nil))
def f__law_is_poly : Fn := fnS cs0 3 2 b__law_is_poly
def t__law_is_poly_3 : Ss := .cons (.ret (.bop .Or (.cons (.cmp .Eq (.var 0) (.lst false .nil)) (.cons (.cmp .NotEq (.idx (.var 0) (.neg (.int 1))) (.int 0)) .nil)))) .nil
def t__law_is_poly_2 : Ss := .cons (.ret (.bl false)) .nil
def t__law_is_poly_1 : Ss := .cons (.ifs (.bop .Or (.cons (.not (.isi (.var 0) (.bty "list"))) (.cons (.cmp .NotEq (.comp false [2] (.nm 2) (.seq (.var 0)) (.cons (.not (.call .P "_law_whole" f__law_whole (.cons (.var 2) (.cons (.var 1) .nil)))) .nil) (.var 2)) (.lst false .nil)) .nil))) t__law_is_poly_2 .nil) t__law_is_poly_3
theorem u__law_is_poly : b__law_is_poly = t__law_is_poly_1 := rfl
/-- thing, p, one -/
theorem w__law_is_poly {x0 x1 : D} {h : Hh} {Q : D → Hh → Prop} (w : WS (evSs cs0 t__law_is_poly_1 [some x0, some x1, none] h) (fun _ h1 => Q .non h1) Q no2 no2) : W (f__law_is_poly [x0, x1] h) Q := by
  rw [← u__law_is_poly] at w
  exact w_fnS2 (C := cs0) (n := 3) (np := 2) (b := b__law_is_poly) rfl rfl w
theorem r__law_is_poly {x0 x1 : D} {h : Hh} : f__law_is_poly [x0, x1] h = endR (evSs cs0 t__law_is_poly_1 [some x0, some x1, none] h) := by
  rw [← u__law_is_poly]
  exact fnS_run2 (C := cs0) (n := 3) (np := 2) (b := b__law_is_poly) rfl rfl
section
open Po
variable {p : Nat} [NeZero p]
theorem law_trimmed_gv {ns : List Int} (hl : ns.length ≤ 1000) : Gv f__law_trimmed [.lst (ns.map .int)] (trimL ns) := by
  refine Gv.of (w__law_trimmed ?_)
  generalize hQ : (fun (d : D) (h' : Hh) => ∃ i, d = .cel i ∧ h'[i]? = some (O.lst ((trimL ns).map .int))) = Q
  simp (disch := walk_at "ln") [-getElem?_pos, -max_ii, -min_ii, -max_t2, -abs_i, max_iO, min_iO, max_tO, abs_iO, List.getElem?_cons_zero, List.getElem?_append_left, t__law_trimmed_1, t__law_trimmed_2]
  refine w_while (fun m ls h => ∃ l : List Int, ls = [some (.lst (ns.map .int)), some (.cel 0)] ∧ h = [.lst (l.map .int)] ∧ l.length = m ∧ trimL l = trimL ns) (n := ns.length) ⟨ns, rfl, rfl, rfl, rfl⟩ (by unfold FUEL; omega) ?_
  rintro m _ _ hm ⟨l, rfl, rfl, hl, tl⟩
  have ne := ne_cel_nil (ns := l) (h := [O.lst (l.map .int)]) (i := 0) rfl
  by_cases he : l = []
  · subst he
    simp at ne
    simp (disch := walk_at "ln") [-getElem?_pos, -max_ii, -min_ii, -max_t2, -abs_i, max_iO, min_iO, max_tO, abs_iO, List.getElem?_cons_zero, List.getElem?_append_left, ne]
    simp (disch := walk_at "ln") [-getElem?_pos, -max_ii, -min_ii, -max_t2, -abs_i, max_iO, min_iO, max_tO, abs_iO, List.getElem?_cons_zero, List.getElem?_append_left, t__law_trimmed_4, ← hQ, ← tl]
    rw [trimL, dif_pos rfl]
  · have la := last_int he
    simp (disch := walk_at "ln") [-getElem?_pos, -max_ii, -min_ii, -max_t2, -abs_i, max_iO, min_iO, max_tO, abs_iO, List.getElem?_cons_zero, List.getElem?_append_left, ne, he, la]
    by_cases q : l.getLast he = 0
    · refine ⟨fun _ => ?_, fun z => absurd q z⟩
      have he2 : l.map D.int ≠ [] := by simpa using he
      have hp := List.length_pos_iff.mpr he
      have gl : (l.map D.int).getLast? = some (.int (l.getLast he)) := by
        rw [List.getLast?_map, List.getLast?_eq_some_getLast he]; rfl
      simp (disch := walk_at "ln") [-getElem?_pos, -max_ii, -min_ii, -max_t2, -abs_i, max_iO, min_iO, max_tO, abs_iO, List.getElem?_cons_zero, List.getElem?_append_left, t__law_trimmed_3, gl]
      refine ⟨l.length - 1, by omega, l.dropLast, ?_, by simp, ?_⟩
      · rw [List.map_dropLast]
      · rw [← tl]; conv => rhs; rw [trimL, dif_neg he, if_pos q]
    · refine ⟨fun z => absurd z q, fun _ => ?_⟩
      simp (disch := walk_at "ln") [-getElem?_pos, -max_ii, -min_ii, -max_t2, -abs_i, max_iO, min_iO, max_tO, abs_iO, List.getElem?_cons_zero, List.getElem?_append_left, t__law_trimmed_4, ← hQ, ← tl]
      rw [trimL, dif_neg he, if_neg q]
theorem law_times_gv {xs ys : List Int} (hx : Red p xs) (hy : Red p ys) (hl : xs.length ≤ 400) (hm : ys.length ≤ 400) (hp : p ≤ 100) : Gv f__law_times [.lst (xs.map .int), .lst (ys.map .int), .int (p : Nat)] (mulP p xs ys) := by
  refine Gv.of (w__law_times ?_)
  generalize hQ : (fun (d : D) (h' : Hh) => ∃ i, d = .cel i ∧ h'[i]? = some (O.lst ((mulP p xs ys).map .int))) = Q
  have p0 := p_pos (p := p)
  have e0 : ((xs.length : Int) + (ys.length : Int)).toNat = xs.length + ys.length := by omega
  simp (disch := walk_at "ln") [-getElem?_pos, -max_ii, -min_ii, -max_t2, -abs_i, max_iO, min_iO, max_tO, abs_iO, List.getElem?_cons_zero, List.getElem?_append_left, t__law_times_1, e0]
  obtain ⟨I, hI⟩ := opq fun (i : Nat) (ls : Ls) (h' : Hh) => ∃ (F : List Int) (o4 o5 : Option D), ls = [some (.lst (xs.map .int)), some (.lst (ys.map .int)), some (.int (p : Nat)), some (.cel 0), o4, o5] ∧ h' = [.lst (F.map .int)] ∧ F.length = xs.length + ys.length ∧ Red p F ∧ ser p F = ser p (xs.take i) * ser p ys
  simp (disch := walk_at "ln") [-getElem?_pos, -max_ii, -min_ii, -max_t2, -abs_i, max_iO, min_iO, max_tO, abs_iO, List.getElem?_cons_zero, List.getElem?_append_left, t__law_times_2]
  refine w_rng0 I (by rw [hI]; exact ⟨List.replicate (xs.length + ys.length) 0, _, _, rfl, by rw [List.map_replicate], by simp, fun a ha => by rw [(List.mem_replicate.mp ha).2]; omega, by rw [ser_rep0, List.take_zero, ser_nil]; grind⟩) ?_ ?_
  · intro i _ _ hi q
    rw [hI] at q
    obtain ⟨F, o4, o5, rfl, rfl, lF, rF, eF⟩ := q
    refine ⟨_, rfl, ?_⟩
    have xi := hx _ (List.getElem_mem hi)
    have ax := atI_ints (F := xs) (k := i) hi
    have gx : xs.getD i 0 = xs[i] := by rw [List.getD, List.getElem?_eq_getElem hi]; rfl
    rw [gx] at ax
    obtain ⟨J, hJ⟩ := opq fun (j : Nat) (ls : Ls) (h' : Hh) => ∃ (F : List Int) (o5 : Option D), ls = [some (.lst (xs.map .int)), some (.lst (ys.map .int)), some (.int (p : Nat)), some (.cel 0), some (.int (i : Nat)), o5] ∧ h' = [.lst (F.map .int)] ∧ F.length = xs.length + ys.length ∧ Red p F ∧ ser p F = ser p (xs.take i) * ser p ys + mono i (cz p xs[i]) * ser p (ys.take j)
    simp (disch := walk_at "ln") [-getElem?_pos, -max_ii, -min_ii, -max_t2, -abs_i, max_iO, min_iO, max_tO, abs_iO, List.getElem?_cons_zero, List.getElem?_append_left, t__law_times_3]
    refine w_rng0 J (by rw [hJ]; exact ⟨F, _, rfl, rfl, lF, rF, by rw [eF, List.take_zero, ser_nil]; grind⟩) ?_ ?_
    · intro j _ _ hj q
      rw [hJ] at q
      obtain ⟨F, o5, rfl, rfl, lF, rF, eF⟩ := q
      refine ⟨_, rfl, ?_⟩
      have yj := hy _ (List.getElem_mem hj)
      have ay := atI_ints (F := ys) (k := j) hj
      have gy : ys.getD j 0 = ys[j] := by rw [List.getD, List.getElem?_eq_getElem hj]; rfl
      rw [gy] at ay
      have st := prod_step hi hj lF rF eF
      have fb := getD_red rF (i + j)
      have ea := atI_ints (F := F) (k := i + j) (by omega)
      rw [show ((i + j : Nat) : Int) = (i : Int) + (j : Int) by omega] at ea
      have tn : ((i : Int) + (j : Int)).toNat = i + j := by omega
      generalize F.getD (i + j) 0 = v at *
      simp (disch := walk_at "ln") [-getElem?_pos, -max_ii, -min_ii, -max_t2, -abs_i, max_iO, min_iO, max_tO, abs_iO, List.getElem?_cons_zero, List.getElem?_append_left, t__law_times_4, ea, tn, ax, ay]
      rw [hJ]
      exact ⟨F.set (i + j) ((v + xs[i] * ys[j]) % p), _, rfl, by rw [List.map_set], by simpa using lF, st.1, st.2⟩
    · intro _ _ q
      rw [hJ] at q
      obtain ⟨F, o5, rfl, rfl, lF, rF, eF⟩ := q
      try simp (disch := walk_at "ln") [-getElem?_pos, -max_ii, -min_ii, -max_t2, -abs_i, max_iO, min_iO, max_tO, abs_iO, List.getElem?_cons_zero, List.getElem?_append_left]
      rw [hI]
      refine ⟨F, _, _, rfl, rfl, lF, rF, ?_⟩
      rw [eF, List.take_length, ser_take_succ xs i hi]; grind
  · intro _ _ q
    rw [hI] at q
    obtain ⟨F, o4, o5, rfl, rfl, lF, rF, eF⟩ := q
    rw [List.take_length] at eF
    have t := (law_trimmed_gv (ns := F) (by omega)).C1 (h := [.lst (F.map .int)]) (i := 0) rfl
    rw [trim_is rF (mulP_can xs ys) (by rw [eF, mulP_ser])] at t
    simp (disch := walk_at "ln") [-getElem?_pos, -max_ii, -min_ii, -max_t2, -abs_i, max_iO, min_iO, max_tO, abs_iO, List.getElem?_cons_zero, List.getElem?_append_left, t__law_times_5, t, ← hQ]
theorem plus_step {F ys : List Int} {j : Nat} {s : Ser (Fin p)} (hj : j < ys.length) (lF : ys.length ≤ F.length) (hF : Red p F) (e : ser p F = s + ser p (ys.take j)) :
    Red p (F.set j ((F.getD j 0 + ys[j]) % p)) ∧ ser p (F.set j ((F.getD j 0 + ys[j]) % p)) = s + ser p (ys.take (j + 1)) := by
  have p0 := p_pos (p := p)
  have hk : j < F.length := by omega
  have eg : F.getD j 0 = F[j] := by rw [List.getD, List.getElem?_eq_getElem hk]; rfl
  refine ⟨fun a ha => ?_, ?_⟩
  · rcases List.mem_or_eq_of_mem_set ha with z | z
    · exact hF a z
    · rw [z]; exact ⟨Int.emod_nonneg _ (by omega), Int.emod_lt_of_pos _ (by omega)⟩
  · rw [ser_set _ _ _ hk, e, ser_take_succ ys j hj, cz_mod, eg, cz_add]
    have e2 : cz p F[j] + cz p ys[j] - cz p F[j] = cz p ys[j] := by grind
    rw [e2]
    grind
theorem law_plus_gv {xs ys : List Int} (hx : Red p xs) (hy : Red p ys) (hl : xs.length ≤ 400) (hm : ys.length ≤ 400) (hp : p ≤ 100) : Gv f__law_plus [.lst (xs.map .int), .lst (ys.map .int), .int (p : Nat)] (sumP p xs ys) := by
  refine Gv.of (w__law_plus ?_)
  generalize hQ : (fun (d : D) (h' : Hh) => ∃ i, d = .cel i ∧ h'[i]? = some (O.lst ((sumP p xs ys).map .int))) = Q
  have p0 := p_pos (p := p)
  obtain ⟨m, hm2⟩ : ∃ m, m = max xs.length ys.length := ⟨_, rfl⟩
  have e0 : (max (xs.length : Int) (ys.length : Int)).toNat = m := by omega
  simp (disch := walk_at "ln") [-getElem?_pos, -max_ii, -min_ii, -max_t2, -abs_i, max_iO, min_iO, max_tO, abs_iO, List.getElem?_cons_zero, List.getElem?_append_left, t__law_plus_1, e0]
  have inner : ∀ (zs F : List Int) (s : Ser (Fin p)) (o4 o5 : Option D) (N B K : Ls → Hh → Prop), Red p zs → zs.length ≤ m → F.length = m → Red p F → ser p F = s → (∀ o5 F', F'.length = m → Red p F' → ser p F' = s + ser p zs → N [some (.lst (xs.map .int)), some (.lst (ys.map .int)), some (.int (p : Nat)), some (.cel 0), some (.lst (zs.map .int)), o5] [.lst (F'.map .int)]) → WS (evSs cs0 t__law_plus_3 [some (.lst (xs.map .int)), some (.lst (ys.map .int)), some (.int (p : Nat)), some (.cel 0), some (.lst (zs.map .int)), o5] [.lst (F.map .int)]) N Q B K := by
    intro zs F s o4 o5 N B K hz zl lF rF eF fin
    obtain ⟨J, hJ⟩ := opq fun (j : Nat) (ls : Ls) (h' : Hh) => ∃ (F : List Int) (o5 : Option D), ls = [some (.lst (xs.map .int)), some (.lst (ys.map .int)), some (.int (p : Nat)), some (.cel 0), some (.lst (zs.map .int)), o5] ∧ h' = [.lst (F.map .int)] ∧ F.length = m ∧ Red p F ∧ ser p F = s + ser p (zs.take j)
    simp (disch := walk_at "ln") [-getElem?_pos, -max_ii, -min_ii, -max_t2, -abs_i, max_iO, min_iO, max_tO, abs_iO, List.getElem?_cons_zero, List.getElem?_append_left, t__law_plus_3]
    refine w_rng0 J (by rw [hJ]; exact ⟨F, _, rfl, rfl, lF, rF, by rw [eF, List.take_zero, ser_nil]; grind⟩) ?_ ?_
    · intro j _ _ hj q
      rw [hJ] at q
      obtain ⟨F, o5, rfl, rfl, lF, rF, eF⟩ := q
      refine ⟨_, rfl, ?_⟩
      have yj := hz _ (List.getElem_mem hj)
      have ay := atI_ints (F := zs) (k := j) hj
      have gy : zs.getD j 0 = zs[j] := by rw [List.getD, List.getElem?_eq_getElem hj]; rfl
      rw [gy] at ay
      have st := plus_step hj (by omega) rF eF
      have fb := getD_red rF j
      have ea := atI_ints (F := F) (k := j) (by omega)
      generalize F.getD j 0 = v at *
      simp (disch := walk_at "ln") [-getElem?_pos, -max_ii, -min_ii, -max_t2, -abs_i, max_iO, min_iO, max_tO, abs_iO, List.getElem?_cons_zero, List.getElem?_append_left, t__law_plus_4, ea, ay]
      rw [hJ]
      exact ⟨F.set j ((v + zs[j]) % p), _, rfl, by rw [List.map_set], by simpa using lF, st.1, st.2⟩
    · intro _ _ q
      rw [hJ] at q
      obtain ⟨F, o5, rfl, rfl, lF, rF, eF⟩ := q
      rw [List.take_length] at eF
      try simp (disch := walk_at "ln") [-getElem?_pos, -max_ii, -min_ii, -max_t2, -abs_i, max_iO, min_iO, max_tO, abs_iO, List.getElem?_cons_zero, List.getElem?_append_left]
      exact fin _ F lF rF eF
  obtain ⟨I, hI⟩ := opq fun (i : Nat) (ls : Ls) (h' : Hh) => ∃ (F : List Int) (o4 o5 : Option D), ls = [some (.lst (xs.map .int)), some (.lst (ys.map .int)), some (.int (p : Nat)), some (.cel 0), o4, o5] ∧ h' = [.lst (F.map .int)] ∧ F.length = m ∧ Red p F ∧ ser p F = (if i = 0 then 0 else if i = 1 then ser p xs else ser p xs + ser p ys)
  simp (disch := walk_at "ln") [-getElem?_pos, -max_ii, -min_ii, -max_t2, -abs_i, max_iO, min_iO, max_tO, abs_iO, List.getElem?_cons_zero, List.getElem?_append_left, t__law_plus_2]
  refine w_lst I (by rw [hI]; exact ⟨List.replicate m 0, _, _, rfl, by rw [List.map_replicate], by simp, fun a ha => by rw [(List.mem_replicate.mp ha).2]; omega, by rw [ser_rep0, if_pos rfl]⟩) ?_ ?_
  · intro j x _ _ ex q
    rw [hI] at q
    obtain ⟨F, o4, o5, rfl, rfl, lF, rF, eF⟩ := q
    have hj : j = 0 ∨ j = 1 := by have := (List.getElem?_eq_some_iff.mp ex).1; simp at this; omega
    refine ⟨_, rfl, ?_⟩
    rcases hj with rfl | rfl
    · cases ex
      refine inner xs F 0 none o5 _ _ _ hx (by omega) lF rF (by rw [eF, if_pos rfl]) fun o5 F' l r e => ?_
      rw [hI]
      exact ⟨F', _, _, rfl, rfl, l, r, by rw [e, if_neg (by omega), if_pos (by omega)]; grind⟩
    · cases ex
      refine inner ys F (ser p xs) none o5 _ _ _ hy (by omega) lF rF (by rw [eF, if_neg (by omega), if_pos rfl]) fun o5 F' l r e => ?_
      rw [hI]
      exact ⟨F', _, _, rfl, rfl, l, r, by rw [e, if_neg (by omega), if_neg (by omega)]⟩
  · intro _ _ q
    rw [hI] at q
    obtain ⟨F, o4, o5, rfl, rfl, lF, rF, eF⟩ := q
    simp only [List.length_cons, List.length_nil] at eF
    rw [if_neg (by omega), if_neg (by omega)] at eF
    have t := (law_trimmed_gv (ns := F) (by omega)).C1 (h := [.lst (F.map .int)]) (i := 0) rfl
    rw [trim_is rF (sumP_can xs ys) (by rw [eF, sumP_ser])] at t
    simp (disch := walk_at "ln") [-getElem?_pos, -max_ii, -min_ii, -max_t2, -abs_i, max_iO, min_iO, max_tO, abs_iO, List.getElem?_cons_zero, List.getElem?_append_left, t__law_plus_5, t, ← hQ]
@[simp] theorem law_whole5_ok {x p : Int} {h : Hh} : callM .P f__law_whole [.int x, .int p] h = .ok (.bl (decide (0 ≤ x ∧ x < p))) h := by
  refine callPP rfl (d := .bl (decide (0 ≤ x ∧ x < p))) (h' := []) (r__law_whole.trans ?_) rfl
  by_cases h0 : 0 ≤ x <;> simp [t__law_whole_1, h0]
theorem law_is_poly_ok {xs : List Int} {h : Hh} (hx : Can p xs) (hl : xs.length ≤ 1000) : callM .P f__law_is_poly [.lst (xs.map .int), .int (p : Nat)] h = .ok (.bl true) h := by
  refine callPP (by simp [pures, D.pure, pures_ints]) (d := .bl true) (h' := []) (eq_of_W (w__law_is_poly ?_)) rfl
  generalize hQ : (fun (x : D) (k : Hh) => x = D.bl true ∧ k = []) = Q
  simp (disch := walk_at "ln") [-getElem?_pos, -max_ii, -min_ii, -max_t2, -abs_i, max_iO, min_iO, max_tO, abs_iO, List.getElem?_cons_zero, List.getElem?_append_left, t__law_is_poly_1, wipeL]
  refine w_cA D.int xs (fun _ => false) D.int rfl (by omega) (fun a ha => ⟨_, rfl, ?_, fun z => (by cases z)⟩) ?_
  · have := hx.1 a ha
    simp [this.1, this.2]
  rw [List.filter_eq_nil_iff.mpr (by simp)]
  by_cases he : xs = []
  · subst he
    simp (disch := walk_at "ln") [-getElem?_pos, -max_ii, -min_ii, -max_t2, -abs_i, max_iO, min_iO, max_tO, abs_iO, List.getElem?_cons_zero, List.getElem?_append_left, t__law_is_poly_3, ← hQ]
  · have l := last_int he
    have n := hx.2 he
    simp (disch := walk_at "ln") [-getElem?_pos, -max_ii, -min_ii, -max_t2, -abs_i, max_iO, min_iO, max_tO, abs_iO, List.getElem?_cons_zero, List.getElem?_append_left, t__law_is_poly_3, eq_ints0, he, l, n, ← hQ]
end
end U
namespace U
open PySem PySem.Spec PyProof.Rows L2 Tb
/-! what repr shows of plain data -/
def keyW : Key → Nat
  | .inl _ => 1921
  | .inr x => 10 * x.length + 2
def keyOk : Key → Bool
  | .inl i => small i
  | .inr x => PyData.strOk x
mutual
/-- how long the text may be -/
def wtD : D → Nat
  | .str x => 10 * x.length + 2
  | .int _ => 1921
  | .tup xs => 3 + wtDs xs
  | .lst xs => 3 + wtDs xs
  | .kl xs => 3 + wtDs xs
  | .dic kvs => 3 + wtK kvs
  | _ => 5
def wtDs : List D → Nat
  | [] => 0
  | d :: ds => wtD d + 2 + wtDs ds
def wtK : List (Key × D) → Nat
  | [] => 0
  | (k, d) :: ds => keyW k + 2 + wtD d + 2 + wtK ds
end
mutual
/-- plain data of so many levels -/
def D.rs : Nat → D → Bool
  | _, .non => true
  | _, .bl _ => true
  | _, .int i => small i
  | _, .str x => PyData.strOk x
  | n + 1, .tup xs => rss n xs
  | n + 1, .lst xs => rss n xs
  | n + 1, .kl xs => rss n xs
  | n + 1, .dic kvs => rsk n kvs
  | _, _ => false
def rss : Nat → List D → Bool
  | _, [] => true
  | n, d :: ds => D.rs n d && rss n ds
def rsk : Nat → List (Key × D) → Bool
  | _, [] => true
  | n, (k, d) :: ds => keyOk k && D.rs n d && rsk n ds
end
theorem int_len {i : Int} (h : small i = true) : (PySem.Str.ofString (toString i)).length ≤ 1921 ∧ i.natAbs.log2 < 1920 := by
  have := small_log h
  exact ⟨PyProof.Rows.int_text_len_1921 (by omega), by omega⟩
theorem str_len {x : Str} (h : PyData.strOk x = true) : (reprText x).length ≤ 10 * x.length + 2 := by
  refine PySem.StrLaws.reprText_len x fun c hc => ?_
  unfold PyData.strOk at h
  rw [Array.all_eq_true'] at h
  have := h c (by simpa using hc)
  have : c < 0x110000 := of_decide_eq_true this
  omega
theorem piled_le {ts : List Str} : (Str.join ", " ts).length ≤ piled ts := by
  cases ts with
  | nil => exact Nat.zero_le _
  | cons a r => have := join_length_add (a :: r) (by simp); omega
theorem tup_len (ts : List Str) : (tupleText ts).length ≤ 3 + piled ts := by
  unfold tupleText
  rw [strLen_append, strLen_append]
  have := piled_le (ts := ts)
  have e1 : ((("(" : String) : Str)).length = 1 := rfl
  have e3 : (((if ts.length == 1 then ",)" else ")" : String) : Str)).length ≤ 2 := by split <;> decide
  omega
theorem dict_len (ts : List Str) : (dictText ts).length ≤ 3 + piled ts := by
  unfold dictText
  rw [strLen_append, strLen_append]
  have := piled_le (ts := ts)
  have e1 : ((("{" : String) : Str)).length = 1 := rfl
  have e3 : ((("}" : String) : Str)).length = 1 := rfl
  omega
theorem from_len : ∀ (ts : List Str) (k : Nat) (acc : Str), (textFrom k acc ts).length ≤ acc.length + piled ts
  | [], k, acc => by show acc.length ≤ _; omega
  | t :: r, k, acc => by
    have ih := from_len r (k + 1) (acc ++ (if k > 0 then ", " else "" : String) ++ t)
    have e : (acc ++ (if k > 0 then ", " else "" : String) ++ t).length ≤ acc.length + 2 + t.length := by
      rw [strLen_append, strLen_append]
      have : (((if k > 0 then ", " else "" : String) : Str)).length ≤ 2 := by split <;> decide
      omega
    show (textFrom (k + 1) _ r).length ≤ _
    rw [piled_cons]
    omega
theorem list_len (ts : List Str) : (listText ts).length ≤ 3 + piled ts := by
  unfold listText
  rw [strLen_append]
  have := from_len ts 0 "["
  have e1 : ((("[" : String) : Str)).length = 1 := rfl
  have e3 : ((("]" : String) : Str)).length = 1 := rfl
  omega
theorem key_shown {k : Key} (h : keyOk k = true) : (keyPy k).showable = true ∧ (keyPy k).depth = 0 ∧ (keyPy k).shown.length ≤ keyW k := by
  cases k with
  | inl i => exact ⟨decide_eq_true (int_len h).2, rfl, (int_len h).1⟩
  | inr x => exact ⟨rfl, rfl, str_len h⟩
mutual
theorem rs_py : ∀ (n : Nat) (d : D), D.rs n d = true → ∃ p, pyR d = some p ∧ p.showable = true ∧ p.depth ≤ n ∧ p.shown.length ≤ wtD d
  | _, .non, _ => ⟨.none, rfl, rfl, Nat.zero_le _, by decide⟩
  | _, .bl b, _ => ⟨.bool b, rfl, rfl, Nat.zero_le _, by cases b <;> decide⟩
  | _, .int i, h => by
    have h : small i = true := by cases ‹Nat› <;> simpa [D.rs] using h
    exact ⟨.int i, rfl, decide_eq_true (int_len h).2, Nat.zero_le _, (int_len h).1⟩
  | _, .str x, h => by
    have h : PyData.strOk x = true := by cases ‹Nat› <;> simpa [D.rs] using h
    exact ⟨.str x, rfl, rfl, Nat.zero_le _, str_len h⟩
  | 0, .tup _, h => by simp [D.rs] at h
  | 0, .lst _, h => by simp [D.rs] at h
  | 0, .kl _, h => by simp [D.rs] at h
  | 0, .dic _, h => by simp [D.rs] at h
  | n + 1, .tup xs, h => by
    obtain ⟨ps, e, s, d, l⟩ := rss_py n xs (by simpa [D.rs] using h)
    exact ⟨.tuple ps, by show (pysR xs).map _ = _; rw [e]; rfl, s, Nat.succ_le_succ d, Nat.le_trans (tup_len _) (by show _ ≤ 3 + wtDs xs; omega)⟩
  | n + 1, .lst xs, h => by
    obtain ⟨ps, e, s, d, l⟩ := rss_py n xs (by simpa [D.rs] using h)
    exact ⟨.list ps, by show (pysR xs).map _ = _; rw [e]; rfl, s, Nat.succ_le_succ d, Nat.le_trans (list_len _) (by show _ ≤ 3 + wtDs xs; omega)⟩
  | n + 1, .kl xs, h => by
    obtain ⟨ps, e, s, d, l⟩ := rss_py n xs (by simpa [D.rs] using h)
    exact ⟨.list ps, by show (pysR xs).map _ = _; rw [e]; rfl, s, Nat.succ_le_succ d, Nat.le_trans (list_len _) (by show _ ≤ 3 + wtDs xs; omega)⟩
  | n + 1, .dic kvs, h => by
    obtain ⟨ps, e, s, d, l⟩ := rsk_py n kvs (by simpa [D.rs] using h)
    exact ⟨.dict ps, by show (pykR kvs).map _ = _; rw [e]; rfl, s, Nat.succ_le_succ d, Nat.le_trans (dict_len _) (by show _ ≤ 3 + wtK kvs; omega)⟩
  | n, .cel _, h => by cases n <;> simp [D.rs] at h
  | n, .cls _, h => by cases n <;> simp [D.rs] at h
  | n, .ty _, h => by cases n <;> simp [D.rs] at h
  | n, .exc _, h => by cases n <;> simp [D.rs] at h
theorem rss_py : ∀ (n : Nat) (ds : List D), rss n ds = true → ∃ ps, pysR ds = some ps ∧ PyData.showableAll ps = true ∧ PyData.depthAll ps ≤ n ∧ piled (PyData.shownAll ps) ≤ wtDs ds
  | _, [], _ => ⟨[], rfl, rfl, Nat.zero_le _, Nat.le_refl _⟩
  | n, d :: ds, h => by
    simp only [rss, Bool.and_eq_true] at h
    obtain ⟨p, e1, s1, d1, l1⟩ := rs_py n d h.1
    obtain ⟨ps, e2, s2, d2, l2⟩ := rss_py n ds h.2
    refine ⟨p :: ps, by show (pyR d).bind _ = _; rw [e1]; show (pysR ds).map _ = _; rw [e2]; rfl, by show (p.showable && PyData.showableAll ps) = true; rw [s1, s2]; rfl, Nat.max_le.mpr ⟨d1, d2⟩, ?_⟩
    show piled (p.shown :: PyData.shownAll ps) ≤ wtD d + 2 + wtDs ds
    rw [piled_cons]; omega
theorem rsk_py : ∀ (n : Nat) (ds : List (Key × D)), rsk n ds = true → ∃ ps, pykR ds = some ps ∧ PyData.showableKv ps = true ∧ PyData.depthKv ps ≤ n ∧ piled (PyData.shownKv ps) ≤ wtK ds
  | _, [], _ => ⟨[], rfl, rfl, Nat.zero_le _, Nat.le_refl _⟩
  | n, (k, d) :: ds, h => by
    simp only [rsk, Bool.and_eq_true] at h
    obtain ⟨p, e1, s1, d1, l1⟩ := rs_py n d h.1.2
    obtain ⟨ps, e2, s2, d2, l2⟩ := rsk_py n ds h.2
    obtain ⟨ks, kd, kl⟩ := key_shown h.1.1
    refine ⟨(keyPy k, p) :: ps, by show (pyR d).bind _ = _; rw [e1]; show (pykR ds).map _ = _; rw [e2]; rfl, by show ((keyPy k).showable && p.showable && PyData.showableKv ps) = true; rw [ks, s1, s2]; rfl, Nat.max_le.mpr ⟨Nat.max_le.mpr ⟨by omega, d1⟩, d2⟩, ?_⟩
    show piled (((keyPy k).shown ++ ": " ++ p.shown) :: PyData.shownKv ps) ≤ keyW k + 2 + wtD d + 2 + wtK ds
    rw [piled_cons, strLen_append, strLen_append]
    have e1 : (((": " : String) : Str)).length = 2 := rfl
    omega
end
/-- repr(d) tells a text -/
theorem repr_ok {d : D} {n : Nat} (hd : D.rs n d = true) (hn : n ≤ 20) (hw : wtD d ≤ 1000000) : ∃ x, ∀ c h, biD .repr c [d] h = .ok (.str x) h := by
  obtain ⟨p, e, s, dp, l⟩ := rs_py n d hd
  refine ⟨p.shown, fun c h => ?_⟩
  show optD (shownD h d) h = _
  have t : toPyR h d = some p := by
    have : toPyR0 h d = some p := by
      cases d with
      | cel i => cases n <;> simp [D.rs] at hd
      | _ => exact e
    unfold toPyR
    rw [this]
  unfold shownD
  rw [t]
  show optD (if p.showable = true ∧ p.depth ≤ 20 ∧ p.shown.length ≤ LIM then some (.str p.shown) else none) h = _
  rw [if_pos ⟨s, by omega, by unfold LIM; omega⟩]
  rfl
/-- .. of a list in a cell -/
theorem repr_cel {i : Nat} {xs : List D} {n : Nat} (hd : rss n xs = true) (hn : n ≤ 19) (hw : wtDs xs ≤ 999000) : ∃ x, ∀ c (h : Hh), h[i]? = some (.lst xs) → biD .repr c [.cel i] h = .ok (.str x) h := by
  obtain ⟨ps, e, s, dp, l⟩ := rss_py n xs hd
  refine ⟨(PyData.list ps).shown, fun c h eh => ?_⟩
  show optD (shownD h (.cel i)) h = _
  have t : toPyR h (.cel i) = some (.list ps) := by
    have : toPyR0 h (.cel i) = some (.list ps) := by
      show (asO h[i]?).bind _ = _
      rw [eh]
      show (pysR xs).map _ = _
      rw [e]; rfl
    unfold toPyR
    rw [this]
  unfold shownD
  rw [t]
  have sl : (PyData.list ps).shown.length ≤ 3 + wtDs xs := Nat.le_trans (list_len _) (by omega)
  have dl : (PyData.list ps).depth ≤ n + 1 := Nat.succ_le_succ dp
  show optD (if (PyData.list ps).showable = true ∧ (PyData.list ps).depth ≤ 20 ∧ (PyData.list ps).shown.length ≤ LIM then some (.str (PyData.list ps).shown) else none) h = _
  rw [if_pos ⟨s, by omega, by unfold LIM; omega⟩]
  rfl
end U
namespace U
open PySem PySem.Spec PyProof.Rows L2 Tb
/-! things of any kind (what C2 and E5 have, without the laws k01 to k14) -/
namespace Rg
mutual
theorem rs_pure : ∀ (n : Nat) (d : D), D.rs n d = true → d.pure = true
  | _, .non, _ => rfl
  | _, .bl _, _ => rfl
  | _, .int _, _ => rfl
  | _, .str _, _ => rfl
  | 0, .tup _, h => by simp [D.rs] at h
  | 0, .lst _, h => by simp [D.rs] at h
  | 0, .kl _, h => by simp [D.rs] at h
  | 0, .dic _, h => by simp [D.rs] at h
  | n + 1, .tup xs, h => by simp only [D.pure]; exact rss_pure n xs (by simpa [D.rs] using h)
  | n + 1, .lst xs, h => by simp only [D.pure]; exact rss_pure n xs (by simpa [D.rs] using h)
  | n + 1, .kl xs, h => by simp only [D.pure]; exact rss_pure n xs (by simpa [D.rs] using h)
  | n + 1, .dic kvs, h => by simp only [D.pure]; exact rsk_pure n kvs (by simpa [D.rs] using h)
  | n, .cel _, h => by cases n <;> simp [D.rs] at h
  | n, .cls _, h => by cases n <;> simp [D.rs] at h
  | n, .ty _, h => by cases n <;> simp [D.rs] at h
  | n, .exc _, h => by cases n <;> simp [D.rs] at h
theorem rss_pure : ∀ (n : Nat) (ds : List D), rss n ds = true → pures ds = true
  | _, [], _ => rfl
  | n, d :: ds, h => by
    simp only [rss, Bool.and_eq_true] at h
    simp only [pures, Bool.and_eq_true]
    exact ⟨rs_pure n d h.1, rss_pure n ds h.2⟩
theorem rsk_pure : ∀ (n : Nat) (ds : List (Key × D)), rsk n ds = true → pureK ds = true
  | _, [], _ => rfl
  | n, (k, d) :: ds, h => by
    simp only [rsk, Bool.and_eq_true] at h
    simp only [pureK, Bool.and_eq_true]
    exact ⟨rs_pure n d h.1.2, rsk_pure n ds h.2⟩
end
/-- a list against none -/
theorem eq_nils {xs : List D} {h : Hh} : cmpD .Eq h (.lst xs) (.lst []) = some xs.isEmpty ∧ cmpD .NotEq h (.lst xs) (.lst []) = some (!xs.isEmpty) := by
  have e : eqD h (.lst xs) (.lst []) = some xs.isEmpty := by
    cases xs with
    | nil => rfl
    | cons x r =>
      show (match eqP (toPy h (.lst (x :: r))) (toPy h (.lst [])) with | some r => some r | none => neLen h (.lst (x :: r)) (.lst [])) = _
      cases t : toPy h (.lst (x :: r)) with
      | none => rfl
      | some p =>
        obtain ⟨ps, e1, rfl⟩ := Option.map_eq_some_iff.mp (show (pys (x :: r)).map PyData.list = some p from t)
        obtain ⟨q, e2, e3⟩ := Option.bind_eq_some_iff.mp (show (py x).bind _ = some ps from e1)
        obtain ⟨qs, e4, rfl⟩ := Option.map_eq_some_iff.mp e3
        show (match (if SeqAt.shaped (.list (q :: qs)) = true ∧ SeqAt.shaped (.list []) = true then some (PyData.eqv (.list (q :: qs)) (.list [])) else none) with | some r => some r | none => some false) = _
        split
        · rename_i r' e5
          split at e5
          · cases e5; rfl
          · cases e5
        · rfl
  exact ⟨e, by show (eqD h (.lst xs) (.lst [])).map not = _; rw [e]; rfl⟩
theorem rss_mem {n : Nat} : ∀ {xs : List D}, rss n xs = true → ∀ x ∈ xs, D.rs n x = true
  | [], _, x, hx => by cases hx
  | y :: r, h, x, hx => by
    simp only [rss, Bool.and_eq_true] at h
    rcases List.mem_cons.mp hx with rfl | hx
    · exact h.1
    · exact rss_mem h.2 x hx
theorem rss_iff {n : Nat} {xs : List D} : rss n xs = true ↔ ∀ x ∈ xs, D.rs n x = true := by
  refine ⟨rss_mem, fun h => ?_⟩
  induction xs with
  | nil => rfl
  | cons y r ih =>
    simp only [rss, Bool.and_eq_true]
    exact ⟨h y List.mem_cons_self, ih fun x hx => h x (List.mem_cons_of_mem _ hx)⟩
theorem not_all {xs : List D} {p : D → Bool} : (xs.filter fun x => !p x).isEmpty = xs.all p := by
  induction xs with
  | nil => rfl
  | cons x r ih => rw [List.filter_cons]; cases q : p x <;> simp [q, ih]
theorem strOk_of (s : String) : PyData.strOk (Str.ofString s) = true := by
  rw [Str.ofString_eq_toList]
  unfold PyData.strOk
  simp only [List.all_toArray, List.all_map, List.all_eq_true]
  intro c _
  have := c.valid
  simp only [Function.comp_apply, decide_eq_true_eq]
  rcases this with v | v
  · have : c.toNat < 0xd800 := v; omega
  · have : c.toNat < 0x110000 := v.2; omega
theorem eq_bls {a b : Bool} {h : Hh} : cmpD .Eq h (.bl a) (.bl b) = some (decide (a = b)) := by cases a <;> cases b <;> rfl
/-- so much at most at each place -/
theorem wtDs_le {m : Nat} : ∀ {xs : List D}, (∀ x ∈ xs, wtD x ≤ m) → wtDs xs ≤ (m + 2) * xs.length
  | [], _ => by simp [wtDs]
  | x :: r, h => by
    have h1 := h x List.mem_cons_self
    have h2 := wtDs_le fun y hy => h y (List.mem_cons_of_mem _ hy)
    simp only [wtDs, List.length_cons, Nat.mul_add, Nat.mul_one]; omega
end Rg
end U
namespace U
open PySem PySem.Spec PyProof.Rows L2 Tb
def b__law_odd_poly : Ss := (.cons (.asg (.nm 3) (.call .S "_law_draw" f__law_draw (.cons (.var 0) (.cons (.bin false .Add (.bi .len false (.cons (.var 1) .nil)) (.int 1)) .nil))))
  (.cons (.asg (.nm 4) (.lst false (.cons (.var 2) (.cons (.bin false .Add (.var 2) (.int 1)) (.cons (.neg (.int 1)) (.cons (.bl true) (.cons (.bl false) (.cons .non (.cons (.str "1") (.cons (.lst false (.cons (.int 1) .nil)) (.cons (.tup (.cons (.int 0) .nil)) (.cons (.dic []) (.cons (.bin false .Pow (.int 10) (.int 25)) (.cons (.int 0) (.cons (.int 1) (.cons (.call .S "_law_draw" f__law_draw (.cons (.var 0) (.cons (.var 2) .nil))) .nil))))))))))))))))
  (.cons (.asg (.nm 4) (.idx (.var 4) (.call .S "_law_draw" f__law_draw (.cons (.var 0) (.cons (.int 14) .nil)))))
  (.cons (.asg (.nm 5) (.lst true (.cons (.bin false .Add (.bin false .Add (.slU false (.var 1) (.var 3)) (.lst false (.cons (.var 4) .nil))) (.slL false (.var 1) (.bin false .Add (.var 3) (.int 1)))) (.cons (.bin false .Add (.bin false .Add (.slU false (.var 1) (.var 3)) (.lst false (.cons (.var 4) .nil))) (.slL false (.var 1) (.var 3))) (.cons (.bin false .Add (.var 1) (.lst false (.cons (.int 0) .nil))) (.cons (.bin false .Add (.var 1) (.lst false (.cons (.var 4) .nil))) .nil))))))
  (.cons (.asg (.nm 5) (.bin true .Add (.var 5) (.lst false (.cons (.slU false (.var 1) (.neg (.int 1))) (.cons (.bi .tuple false (.cons (.var 1) .nil)) (.cons (.lst false (.cons (.var 1) .nil)) (.cons .non (.cons (.str "") (.cons (.int 3) (.cons (.dic []) (.cons (.bl true) (.cons (.denu (.var 1)) (.cons (.rvl false (.var 1)) .nil)))))))))))))
  (.cons (.ex (.me .append false (.var 5) (.cons (.bin false .Mult (.lst false (.cons (.int 0) .nil)) (.bi .len false (.cons (.var 1) .nil))) .nil)))
  (.cons (.ret (.idx (.var 5) (.idx (.lst false (.cons (.int 0) (.cons (.int 0) (.cons (.int 0) (.cons (.int 0) (.cons (.int 1) (.cons (.int 1) (.cons (.int 1) (.cons (.int 2) (.cons (.int 3) (.cons (.int 4) (.cons (.int 5) (.cons (.int 6) (.cons (.int 7) (.cons (.int 8) (.cons (.int 9) (.cons (.int 10) (.cons (.int 11) (.cons (.int 12) (.cons (.int 13) (.cons (.int 14) .nil))))))))))))))))))))) (.call .S "_law_draw" f__law_draw (.cons (.var 0) (.cons (.int 20) .nil))))))
  .nil)))))))
def f__law_odd_poly : Fn := fnS cs0 6 3 b__law_odd_poly
def t__law_odd_poly_7 : Ss := .cons (.ret (.idx (.var 5) (.idx (.lst false (.cons (.int 0) (.cons (.int 0) (.cons (.int 0) (.cons (.int 0) (.cons (.int 1) (.cons (.int 1) (.cons (.int 1) (.cons (.int 2) (.cons (.int 3) (.cons (.int 4) (.cons (.int 5) (.cons (.int 6) (.cons (.int 7) (.cons (.int 8) (.cons (.int 9) (.cons (.int 10) (.cons (.int 11) (.cons (.int 12) (.cons (.int 13) (.cons (.int 14) .nil))))))))))))))))))))) (.call .S "_law_draw" f__law_draw (.cons (.var 0) (.cons (.int 20) .nil)))))) .nil
def t__law_odd_poly_6 : Ss := .cons (.ex (.me .append false (.var 5) (.cons (.bin false .Mult (.lst false (.cons (.int 0) .nil)) (.bi .len false (.cons (.var 1) .nil))) .nil))) t__law_odd_poly_7
def t__law_odd_poly_5 : Ss := .cons (.asg (.nm 5) (.bin true .Add (.var 5) (.lst false (.cons (.slU false (.var 1) (.neg (.int 1))) (.cons (.bi .tuple false (.cons (.var 1) .nil)) (.cons (.lst false (.cons (.var 1) .nil)) (.cons .non (.cons (.str "") (.cons (.int 3) (.cons (.dic []) (.cons (.bl true) (.cons (.denu (.var 1)) (.cons (.rvl false (.var 1)) .nil))))))))))))) t__law_odd_poly_6
def t__law_odd_poly_4 : Ss := .cons (.asg (.nm 5) (.lst true (.cons (.bin false .Add (.bin false .Add (.slU false (.var 1) (.var 3)) (.lst false (.cons (.var 4) .nil))) (.slL false (.var 1) (.bin false .Add (.var 3) (.int 1)))) (.cons (.bin false .Add (.bin false .Add (.slU false (.var 1) (.var 3)) (.lst false (.cons (.var 4) .nil))) (.slL false (.var 1) (.var 3))) (.cons (.bin false .Add (.var 1) (.lst false (.cons (.int 0) .nil))) (.cons (.bin false .Add (.var 1) (.lst false (.cons (.var 4) .nil))) .nil)))))) t__law_odd_poly_5
def t__law_odd_poly_3 : Ss := .cons (.asg (.nm 4) (.idx (.var 4) (.call .S "_law_draw" f__law_draw (.cons (.var 0) (.cons (.int 14) .nil))))) t__law_odd_poly_4
def t__law_odd_poly_2 : Ss := .cons (.asg (.nm 4) (.lst false (.cons (.var 2) (.cons (.bin false .Add (.var 2) (.int 1)) (.cons (.neg (.int 1)) (.cons (.bl true) (.cons (.bl false) (.cons .non (.cons (.str "1") (.cons (.lst false (.cons (.int 1) .nil)) (.cons (.tup (.cons (.int 0) .nil)) (.cons (.dic []) (.cons (.bin false .Pow (.int 10) (.int 25)) (.cons (.int 0) (.cons (.int 1) (.cons (.call .S "_law_draw" f__law_draw (.cons (.var 0) (.cons (.var 2) .nil))) .nil)))))))))))))))) t__law_odd_poly_3
def t__law_odd_poly_1 : Ss := .cons (.asg (.nm 3) (.call .S "_law_draw" f__law_draw (.cons (.var 0) (.cons (.bin false .Add (.bi .len false (.cons (.var 1) .nil)) (.int 1)) .nil)))) t__law_odd_poly_2
theorem u__law_odd_poly : b__law_odd_poly = t__law_odd_poly_1 := rfl
/-- deck, poly, p, at, new, some -/
theorem w__law_odd_poly {x0 x1 x2 : D} {h : Hh} {Q : D → Hh → Prop} (w : WS (evSs cs0 t__law_odd_poly_1 [some x0, some x1, some x2, none, none, none] h) (fun _ h1 => Q .non h1) Q no2 no2) : W (f__law_odd_poly [x0, x1, x2] h) Q := by
  rw [← u__law_odd_poly] at w
  exact w_fnS2 (C := cs0) (n := 6) (np := 3) (b := b__law_odd_poly) rfl rfl w
theorem r__law_odd_poly {x0 x1 x2 : D} {h : Hh} : f__law_odd_poly [x0, x1, x2] h = endR (evSs cs0 t__law_odd_poly_1 [some x0, some x1, some x2, none, none, none] h) := by
  rw [← u__law_odd_poly]
  exact fnS_run2 (C := cs0) (n := 6) (np := 3) (b := b__law_odd_poly) rfl rfl
section
open Po
/-! what is a polynomial, among things of any kind -/
def plc (p : Nat) : D → Bool
  | .int i => decide (0 ≤ i ∧ i < p)
  | _ => false
def lastNz (xs : List D) : Bool := match xs.getLast? with
  | some (.int i) => decide (i ≠ 0)
  | _ => true
def plB (p : Nat) : D → Bool
  | .lst xs => xs.all (plc p) && lastNz xs
  | _ => false
theorem is_place_gen {p : Nat} {x : D} {n : Nat} {h : Hh} (r : D.rs n x = true) : callM .P f_is_place [x, .int (p : Nat)] h = .ok (.bl (plc p x)) h := by
  refine callPP (by simp [pures, D.pure, Rg.rs_pure n x r]) (d := .bl (plc p x)) (h' := []) (r_is_place.trans ?_) rfl
  cases x <;> first | (cases n <;> simp [D.rs] at r; done) | skip
  case int i => by_cases h0 : 0 ≤ i <;> simp [t_is_place_1, plc, h0]
  all_goals simp [t_is_place_1, plc]
theorem law_whole_gen {p : Nat} {x : D} {n : Nat} {h : Hh} (r : D.rs n x = true) : callM .P f__law_whole [x, .int (p : Nat)] h = .ok (.bl (plc p x)) h := by
  refine callPP (by simp [pures, D.pure, Rg.rs_pure n x r]) (d := .bl (plc p x)) (h' := []) (r__law_whole.trans ?_) rfl
  cases x <;> first | (cases n <;> simp [D.rs] at r; done) | skip
  case int i => by_cases h0 : 0 ≤ i <;> simp [t__law_whole_1, plc, h0]
  all_goals simp [t__law_whole_1, plc]
theorem last_gen {p : Nat} {xs : List D} (a : xs.all (plc p) = true) (ne : xs ≠ []) : ∃ i : Int, atI xs (-1) = some (.int i) ∧ lastNz xs = decide (i ≠ 0) := by
  obtain ⟨d, ed⟩ : ∃ d, xs.getLast? = some d := ⟨_, List.getLast?_eq_some_getLast ne⟩
  have m := List.all_eq_true.mp a d (List.mem_of_getLast? ed)
  cases d <;> first | (simp [plc] at m; done) | skip
  rename_i i
  exact ⟨i, by rw [Tb.atI_last, ← List.getLast?_eq_getElem?, ed], by simp [lastNz, ed]⟩
theorem is_poly_by_gen {p : Nat} {x : D} {n : Nat} {h : Hh} (r : D.rs n x = true) (nk : ∀ ys, x ≠ .kl ys) (hl : ∀ ys, x = .lst ys → ys.length ≤ 4000) : callM .P f_is_poly_by [x, .int (p : Nat)] h = .ok (.bl (plB p x)) h := by
  refine callPP (by simp [pures, D.pure, Rg.rs_pure _ _ r]) (d := .bl (plB p x)) (h' := []) (eq_of_W (w_is_poly_by ?_)) rfl
  generalize hQ : (fun (a : D) (k : Hh) => a = D.bl (plB p x) ∧ k = []) = Q
  cases x with
  | lst xs =>
    cases n with
    | zero => simp [D.rs] at r
    | succ n =>
      have rm := Rg.rss_mem (by simpa [D.rs] using r)
      have l4 := hl xs rfl
      simp (disch := walk_at "ln") [-getElem?_pos, -max_ii, -min_ii, -max_t2, -abs_i, max_iO, min_iO, max_tO, abs_iO, List.getElem?_cons_zero, List.getElem?_append_left, t_is_poly_by_1, wipeL]
      refine w_cA id xs (fun x => !plc p x) id (by simp [Tb.It.items, seqOf, asL, asT]) (by omega) (fun x hx => ?_) ?_
      · have e := is_place_gen (p := p) (h := []) (rm x hx)
        exact ⟨_, rfl, by simp (disch := walk_at "ln") [-getElem?_pos, -max_ii, -min_ii, -max_t2, -abs_i, max_iO, min_iO, max_tO, abs_iO, List.getElem?_cons_zero, List.getElem?_append_left, e], fun _ => by try simp (disch := walk_at "ln") [-getElem?_pos, -max_ii, -min_ii, -max_t2, -abs_i, max_iO, min_iO, max_tO, abs_iO, List.getElem?_cons_zero, List.getElem?_append_left]⟩
      · have en := (Rg.eq_nils (xs := (xs.filter fun x => !plc p x).map id) (h := [])).2
        rw [List.map_id, Rg.not_all (p := plc p)] at en
        have eq := (Rg.eq_nils (xs := xs) (h := [])).1
        generalize hL : xs.filter (fun x => !plc p x) = L at *
        cases qa : xs.all (plc p) with
        | false =>
          rw [qa] at en
          simp (disch := walk_at "ln") [-getElem?_pos, -max_ii, -min_ii, -max_t2, -abs_i, max_iO, min_iO, max_tO, abs_iO, List.getElem?_cons_zero, List.getElem?_append_left, en, t_is_poly_by_2, ← hQ, plB, qa]
        | true =>
          rw [qa] at en
          by_cases ne : xs = []
          · subst ne
            simp (disch := walk_at "ln") [-getElem?_pos, -max_ii, -min_ii, -max_t2, -abs_i, max_iO, min_iO, max_tO, abs_iO, List.getElem?_cons_zero, List.getElem?_append_left, en, t_is_poly_by_3, eq, ← hQ, plB, lastNz]
          · obtain ⟨i, ei, li⟩ := last_gen qa ne
            have e0 : xs.isEmpty = false := by simp [ne]
            rw [e0] at eq
            simp (disch := walk_at "ln") [-getElem?_pos, -max_ii, -min_ii, -max_t2, -abs_i, max_iO, min_iO, max_tO, abs_iO, List.getElem?_cons_zero, List.getElem?_append_left, en, t_is_poly_by_3, eq, ei, ← hQ, plB, li, qa]
  | kl ys => exact absurd rfl (nk ys)
  | cel _ => cases n <;> simp [D.rs] at r
  | cls _ => cases n <;> simp [D.rs] at r
  | ty _ => cases n <;> simp [D.rs] at r
  | exc _ => cases n <;> simp [D.rs] at r
  | _ => simp (disch := walk_at "ln") [-getElem?_pos, -max_ii, -min_ii, -max_t2, -abs_i, max_iO, min_iO, max_tO, abs_iO, List.getElem?_cons_zero, List.getElem?_append_left, t_is_poly_by_1, t_is_poly_by_2, ← hQ, plB]
theorem law_is_poly_gen {p : Nat} {x : D} {n : Nat} {h : Hh} (r : D.rs n x = true) (nk : ∀ ys, x ≠ .kl ys) (hl : ∀ ys, x = .lst ys → ys.length ≤ 4000) : callM .P f__law_is_poly [x, .int (p : Nat)] h = .ok (.bl (plB p x)) h := by
  refine callPP (by simp [pures, D.pure, Rg.rs_pure _ _ r]) (d := .bl (plB p x)) (h' := []) (eq_of_W (w__law_is_poly ?_)) rfl
  generalize hQ : (fun (a : D) (k : Hh) => a = D.bl (plB p x) ∧ k = []) = Q
  cases x with
  | lst xs =>
    cases n with
    | zero => simp [D.rs] at r
    | succ n =>
      have rm := Rg.rss_mem (by simpa [D.rs] using r)
      have l4 := hl xs rfl
      simp (disch := walk_at "ln") [-getElem?_pos, -max_ii, -min_ii, -max_t2, -abs_i, max_iO, min_iO, max_tO, abs_iO, List.getElem?_cons_zero, List.getElem?_append_left, t__law_is_poly_1, wipeL]
      refine w_cA id xs (fun x => !plc p x) id (by simp [Tb.It.items, seqOf, asL, asT]) (by omega) (fun x hx => ?_) ?_
      · have e := law_whole_gen (p := p) (h := []) (rm x hx)
        exact ⟨_, rfl, by simp (disch := walk_at "ln") [-getElem?_pos, -max_ii, -min_ii, -max_t2, -abs_i, max_iO, min_iO, max_tO, abs_iO, List.getElem?_cons_zero, List.getElem?_append_left, e], fun _ => by try simp (disch := walk_at "ln") [-getElem?_pos, -max_ii, -min_ii, -max_t2, -abs_i, max_iO, min_iO, max_tO, abs_iO, List.getElem?_cons_zero, List.getElem?_append_left]⟩
      · have en := (Rg.eq_nils (xs := (xs.filter fun x => !plc p x).map id) (h := [])).2
        rw [List.map_id, Rg.not_all (p := plc p)] at en
        have eq := (Rg.eq_nils (xs := xs) (h := [])).1
        generalize hL : xs.filter (fun x => !plc p x) = L at *
        cases qa : xs.all (plc p) with
        | false =>
          rw [qa] at en
          simp (disch := walk_at "ln") [-getElem?_pos, -max_ii, -min_ii, -max_t2, -abs_i, max_iO, min_iO, max_tO, abs_iO, List.getElem?_cons_zero, List.getElem?_append_left, en, t__law_is_poly_2, ← hQ, plB, qa]
        | true =>
          rw [qa] at en
          by_cases ne : xs = []
          · subst ne
            simp (disch := walk_at "ln") [-getElem?_pos, -max_ii, -min_ii, -max_t2, -abs_i, max_iO, min_iO, max_tO, abs_iO, List.getElem?_cons_zero, List.getElem?_append_left, en, t__law_is_poly_3, eq, ← hQ, plB, lastNz]
          · obtain ⟨i, ei, li⟩ := last_gen qa ne
            have e0 : xs.isEmpty = false := by simp [ne]
            rw [e0] at eq
            simp (disch := walk_at "ln") [-getElem?_pos, -max_ii, -min_ii, -max_t2, -abs_i, max_iO, min_iO, max_tO, abs_iO, List.getElem?_cons_zero, List.getElem?_append_left, en, t__law_is_poly_3, eq, ei, ← hQ, plB, li, qa]
  | kl ys => exact absurd rfl (nk ys)
  | cel _ => cases n <;> simp [D.rs] at r
  | cls _ => cases n <;> simp [D.rs] at r
  | ty _ => cases n <;> simp [D.rs] at r
  | exc _ => cases n <;> simp [D.rs] at r
  | _ => simp (disch := walk_at "ln") [-getElem?_pos, -max_ii, -min_ii, -max_t2, -abs_i, max_iO, min_iO, max_tO, abs_iO, List.getElem?_cons_zero, List.getElem?_append_left, t__law_is_poly_1, t__law_is_poly_2, ← hQ, plB]
end
section
open Po
/-- a thing of the laws k50, k57, k59, k60 -/
structure Tp (x : D) : Prop where
  rs : D.rs 4 x = true
  wt : wtD x ≤ 200000
  nk : ∀ ys, x ≠ .kl ys
  len : ∀ ys, x = .lst ys → ys.length ≤ 100
theorem Tp.is_poly_by {p : Nat} {x : D} {h : Hh} (t : Tp x) : callM .P f_is_poly_by [x, .int (p : Nat)] h = .ok (.bl (plB p x)) h := is_poly_by_gen t.rs t.nk fun ys e => by have := t.len ys e; omega
theorem Tp.law_is_poly {p : Nat} {x : D} {h : Hh} (t : Tp x) : callM .P f__law_is_poly [x, .int (p : Nat)] h = .ok (.bl (plB p x)) h := law_is_poly_gen t.rs t.nk fun ys e => by have := t.len ys e; omega
/-- an item of such a thing -/
structure Ti (x : D) : Prop where
  rs : D.rs 2 x = true
  wt : wtD x ≤ 1930
theorem rs_up {n m : Nat} (l : n ≤ m) : ∀ x, D.rs n x = true → D.rs m x = true := by
  have key : ∀ n, (∀ x, D.rs n x = true → D.rs (n + 1) x = true) := by
    intro n
    induction n with
    | zero => intro x; cases x <;> simp [D.rs]
    | succ n ih =>
      have ih2 : ∀ xs, rss n xs = true → rss (n + 1) xs = true := fun xs h => Rg.rss_iff.mpr fun x hx => ih x (Rg.rss_iff.mp h x hx)
      have ih3 : ∀ xs, rsk n xs = true → rsk (n + 1) xs = true := by
        intro xs
        induction xs with
        | nil => intro _; rfl
        | cons q r ih' =>
          obtain ⟨k, d⟩ := q
          intro h
          simp only [rsk, Bool.and_eq_true] at h ⊢
          exact ⟨⟨h.1.1, ih d h.1.2⟩, ih' h.2⟩
      intro x h
      cases x <;> simp only [D.rs] at h ⊢ <;> first | exact h | exact ih2 _ h | exact ih3 _ h | (cases h; done)
  induction l with
  | refl => exact fun x h => h
  | step _ ih => exact fun x h => key _ x (ih x h)
theorem Tp.lst {xs : List D} (h : ∀ x ∈ xs, Ti x) (hl : xs.length ≤ 100) : Tp (.lst xs) := by
  refine ⟨?_, ?_, (fun ys e => by cases e), fun ys e => by cases e; exact hl⟩
  · show rss 3 xs = true
    exact Rg.rss_iff.mpr fun x hx => rs_up (by omega) x (h x hx).rs
  · have := Rg.wtDs_le (m := 1930) fun x hx => (h x hx).wt
    have : (1930 + 2) * xs.length ≤ 1932 * 100 := Nat.mul_le_mul (Nat.le_refl _) hl
    simp only [wtD]; omega
theorem ti_int {i : Int} (h : small i = true) : Ti (.int i) := ⟨by simpa [D.rs] using h, by simp [wtD]⟩
theorem cut_mem {xs : List D} {a b : Option Int} : (∀ x ∈ cutD xs a b, x ∈ xs) ∧ (cutD xs a b).length ≤ xs.length :=
  ⟨fun x hx => ((List.take_sublist _ _).trans (List.drop_sublist _ _)).subset hx, ((List.take_sublist _ _).trans (List.drop_sublist _ _)).length_le⟩
theorem denD_lst {xs : List D} {h : Hh} : denD (.lst xs) h = .ok (.dic (enuKs 0 xs)) h := rfl
theorem rsk_enu {m : Nat} : ∀ (n : Nat) {xs : List D}, n + xs.length ≤ 1000 → (∀ x ∈ xs, D.rs m x = true) → rsk m (enuKs n xs) = true
  | _, [], _, _ => rfl
  | n, x :: r, hl, h => by
    have s : small (n : Int) = true := small_of (by omega) (by simp at hl; omega)
    simp only [enuKs, rsk, keyOk, s, h x List.mem_cons_self, Bool.true_and]
    exact rsk_enu (n + 1) (by simp at hl; omega) fun y hy => h y (List.mem_cons_of_mem _ hy)
theorem wtK_enu {m : Nat} : ∀ (n : Nat) {xs : List D}, (∀ x ∈ xs, wtD x ≤ m) → wtK (enuKs n xs) ≤ (m + 1925) * xs.length
  | _, [], _ => by simp [enuKs, wtK]
  | n, x :: r, h => by
    have h1 := h x List.mem_cons_self
    have h2 := wtK_enu (n + 1) fun y hy => h y (List.mem_cons_of_mem _ hy)
    simp only [enuKs, wtK, keyW, List.length_cons, Nat.mul_add, Nat.mul_one]; omega
def newL (p r : Int) : List D := [.int p, .int (p + 1), .int (-1), .bl true, .bl false, .non, .str "1", .lst [.int 1], .tup [.int 0], .dic [], .int 10000000000000000000000000, .int 0, .int 1, .int r]
theorem newL_ti {p r : Int} (p0 : 0 ≤ p) (p1 : p ≤ 1000) (r0 : 0 ≤ r) (r1 : r ≤ 1000) : ∀ x ∈ newL p r, Ti x := by
  intro x hx
  have s0 := small_of (n := p) (by omega) (by omega)
  have s1 := small_of (n := p + 1) (by omega) (by omega)
  have s2 := small_of (n := r) (by omega) (by omega)
  have s3 := small_of (n := 0) (by omega) (by omega)
  have s4 := small_of (n := 1) (by omega) (by omega)
  have s5 := small_of (n := -1) (by omega) (by omega)
  have s6 := small_of (n := 10000000000000000000000000) (by omega) (by omega)
  have o1 := Rg.strOk_of "1"
  have l1 : (Str.ofString "1").length ≤ 10 := by decide
  simp only [newL, List.mem_cons, List.not_mem_nil, or_false] at hx
  rcases hx with rfl | rfl | rfl | rfl | rfl | rfl | rfl | rfl | rfl | rfl | rfl | rfl | rfl | rfl
  all_goals exact ⟨by simp [D.rs, rss, rsk, s0, s1, s2, s3, s4, s5, s6, o1], by simp only [wtD, wtDs, wtK]; omega⟩
def someL (A B C E : List D) (xs : List Int) (w : D) : List D :=
  [.lst (A ++ w :: B), .lst (A ++ w :: C), .lst (xs.map .int ++ [.int 0]), .lst (xs.map .int ++ [w]), .lst E, .tup (xs.map .int), .lst [.lst (xs.map .int)], .non, .str "", .int 3, .dic [], .bl true, .dic (enuKs 0 (xs.map .int)), .lst (xs.map .int).reverse,
    .lst (List.replicate xs.length (.int 0))]
theorem someL_tp {A B C E : List D} {xs : List Int} {w : D} (hw : Ti w) (hx : ∀ x ∈ xs.map D.int, Ti x) (hl : xs.length ≤ 20) (a : (∀ x ∈ A, x ∈ xs.map D.int) ∧ A.length ≤ 20) (b : (∀ x ∈ B, x ∈ xs.map D.int) ∧ B.length ≤ 20) (c : (∀ x ∈ C, x ∈ xs.map D.int) ∧ C.length ≤ 20) (e : (∀ x ∈ E, x ∈ xs.map D.int) ∧ E.length ≤ 20) :
    ∀ x ∈ someL A B C E xs w, Tp x := by
  intro x h
  have z0 : Ti (.int 0) := ti_int (small_of (by omega) (by omega))
  have s3 := small_of (n := 3) (by omega) (by omega)
  have o1 := Rg.strOk_of ""
  have l1 : (Str.ofString "").length ≤ 10 := by decide
  have hl2 : (xs.map D.int).length = xs.length := List.length_map ..
  have tx : Tp (.lst (xs.map .int)) := Tp.lst hx (by omega)
  generalize hG : xs.map D.int = G at *
  simp only [someL, hG, List.mem_cons, List.not_mem_nil, or_false] at h
  rcases h with rfl | rfl | rfl | rfl | rfl | rfl | rfl | rfl | rfl | rfl | rfl | rfl | rfl | rfl | rfl
  · refine Tp.lst (fun x h => ?_) (by simp; omega)
    rcases List.mem_append.mp h with h | h
    · exact hx x (a.1 x h)
    · rcases List.mem_cons.mp h with h | h
      · rw [h]; exact hw
      · exact hx x (b.1 x h)
  · refine Tp.lst (fun x h => ?_) (by simp; omega)
    rcases List.mem_append.mp h with h | h
    · exact hx x (a.1 x h)
    · rcases List.mem_cons.mp h with h | h
      · rw [h]; exact hw
      · exact hx x (c.1 x h)
  · refine Tp.lst (fun x h => ?_) (by simp; omega)
    rcases List.mem_append.mp h with h | h
    · exact hx x h
    · rw [List.mem_singleton.mp h]; exact z0
  · refine Tp.lst (fun x h => ?_) (by simp; omega)
    rcases List.mem_append.mp h with h | h
    · exact hx x h
    · rw [List.mem_singleton.mp h]; exact hw
  · exact Tp.lst (fun x h => hx x (e.1 x h)) (by omega)
  · exact ⟨tx.rs, tx.wt, (fun ys e => by cases e), fun ys e => by cases e⟩
  · refine ⟨?_, ?_, (fun ys e => by cases e), fun ys e => by cases e; simp⟩
    · have : rss 2 G = true := Rg.rss_iff.mpr fun x h => (hx x h).rs
      show (D.rs 3 (.lst G) && true) = true
      rw [Bool.and_true]
      exact this
    · have := Rg.wtDs_le fun x h => (hx x h).wt
      have : (1930 + 2) * G.length ≤ 1932 * 20 := Nat.mul_le_mul (Nat.le_refl _) (by omega)
      simp only [wtD, wtDs]; omega
  · exact ⟨rfl, by simp [wtD], (fun ys e => by cases e), fun ys e => by cases e⟩
  · exact ⟨by simpa [D.rs] using o1, by simp only [wtD]; omega, (fun ys e => by cases e), fun ys e => by cases e⟩
  · exact ⟨by simpa [D.rs] using s3, by simp [wtD], (fun ys e => by cases e), fun ys e => by cases e⟩
  · exact ⟨rfl, by simp [wtD, wtK], (fun ys e => by cases e), fun ys e => by cases e⟩
  · exact ⟨rfl, by simp [wtD], (fun ys e => by cases e), fun ys e => by cases e⟩
  · refine ⟨rsk_enu (m := 3) 0 (by omega) fun x h => rs_up (by omega) x (hx x h).rs, ?_, (fun ys e => by cases e), fun ys e => by cases e⟩
    have := wtK_enu 0 fun x h => (hx x h).wt
    have : (1930 + 1925) * G.length ≤ 3855 * 20 := Nat.mul_le_mul (Nat.le_refl _) (by omega)
    simp only [wtD]; omega
  · exact Tp.lst (fun x h => hx x (List.mem_reverse.mp h)) (by simp; omega)
  · exact Tp.lst (fun x h => by rw [(List.mem_replicate.mp h).2]; exact z0) (by simp; omega)
theorem odd_polyW {B d p : Nat} {h : Hh} {T : Int} {xs : List Int} {Q : D → Hh → Prop} (s : DkA B d h T) (hB : B ≤ h.length) (hT : T < 400000) (hp : p ∈ FP) (hx : Can p xs) (hl : xs.length ≤ 20) (k : ∀ x h', Tp x → DkA B d h' (T + 4) → B ≤ h'.length → Q x h') :
    W (f__law_odd_poly [.cel d, .lst (xs.map .int), .int (p : Nat)] h) Q := by
  have pb := FP_le hp
  refine w__law_odd_poly ?_
  have hxs : ∀ x ∈ xs.map D.int, Ti x := fun x h => by
    obtain ⟨a, ha, rfl⟩ := List.mem_map.mp h
    have := hx.1 a ha
    exact ti_int (small_of (by omega) (by omega))
  have hl2 : (xs.map D.int).length = xs.length := List.length_map ..
  have p25 : ∀ hh : Hh, binD false .Pow (.int 10) (.int 25) hh = .ok (.int 10000000000000000000000000) hh := fun hh => rfl
  generalize hG : xs.map D.int = G at *
  simp (disch := walk_at "ln") [-getElem?_pos, -max_ii, -min_ii, -max_t2, -abs_i, max_iO, min_iO, max_tO, abs_iO, List.getElem?_cons_zero, List.getElem?_append_left, t__law_odd_poly_1]
  refine draw5W s (by omega) (by omega) (by omega) fun at_ h1 a0 a1 s l => ?_
  have hB : B ≤ h1.length := by rw [l.1]; exact hB
  simp (disch := walk_at "ln") [-getElem?_pos, -max_ii, -min_ii, -max_t2, -abs_i, max_iO, min_iO, max_tO, abs_iO, List.getElem?_cons_zero, List.getElem?_append_left, t__law_odd_poly_2, p25]
  refine draw5W s (by omega) (by omega) (by omega) fun r h2 r0 r1 s l => ?_
  have hB : B ≤ h2.length := by rw [l.1]; exact hB
  simp (disch := walk_at "ln") [-getElem?_pos, -max_ii, -min_ii, -max_t2, -abs_i, max_iO, min_iO, max_tO, abs_iO, List.getElem?_cons_zero, List.getElem?_append_left, t__law_odd_poly_3]
  refine draw5W s (by omega) (by omega) (by omega) fun j h3 j0 j1 s l => ?_
  have hB : B ≤ h3.length := by rw [l.1]; exact hB
  obtain ⟨w, ew, hw⟩ := atI_mem (xs := newL p r) (k := j) j0 (by simp [newL]; omega)
  have tw := newL_ti (by omega) (by omega) r0 (by omega) w hw
  clear hw
  simp only [newL] at ew
  simp (disch := walk_at "ln") [-getElem?_pos, -max_ii, -min_ii, -max_t2, -abs_i, max_iO, min_iO, max_tO, abs_iO, List.getElem?_cons_zero, List.getElem?_append_left, ew]
  obtain ⟨A, eA⟩ : ∃ A, cutD G none (some at_) = A := ⟨_, rfl⟩
  obtain ⟨A2, eB⟩ : ∃ A, cutD G (some (at_ + 1)) none = A := ⟨_, rfl⟩
  obtain ⟨A3, eC⟩ : ∃ A, cutD G (some at_) none = A := ⟨_, rfl⟩
  obtain ⟨A4, eE⟩ : ∃ A, cutD G none (some (-1)) = A := ⟨_, rfl⟩
  have mA := cut_mem (xs := G) (a := none) (b := some at_)
  have mB := cut_mem (xs := G) (a := some (at_ + 1)) (b := none)
  have mC := cut_mem (xs := G) (a := some at_) (b := none)
  have mE := cut_mem (xs := G) (a := none) (b := some (-1))
  rw [eA] at mA
  rw [eB] at mB
  rw [eC] at mC
  rw [eE] at mE
  simp (disch := walk_at "ln") [-getElem?_pos, -max_ii, -min_ii, -max_t2, -abs_i, max_iO, min_iO, max_tO, abs_iO, List.getElem?_cons_zero, List.getElem?_append_left, t__law_odd_poly_4, eA, eB, eC]
  simp (disch := walk_at "ln") [-getElem?_pos, -max_ii, -min_ii, -max_t2, -abs_i, max_iO, min_iO, max_tO, abs_iO, List.getElem?_cons_zero, List.getElem?_append_left, t__law_odd_poly_5, eE, denD_lst]
  have ad : ∀ (L M : List D), L.length + M.length ≤ 1000000 → binD true .Add (.cel h3.length) (.lst M) (h3 ++ [O.lst L]) = mkL true (L ++ M) (h3 ++ [O.lst L]) := fun L M q => by
    show addL true (asO (h3 ++ [O.lst L])[h3.length]?) (some M) _ = _
    rw [List.getElem?_concat_length]
    exact if_pos q
  simp (disch := walk_at "ln") [-getElem?_pos, -max_ii, -min_ii, -max_t2, -abs_i, max_iO, min_iO, max_tO, abs_iO, List.getElem?_cons_zero, List.getElem?_append_left, t__law_odd_poly_6, ad]
  have tp := someL_tp (A := A) (B := A2) (C := A3) (E := A4) (xs := xs) tw (by rw [hG]; exact hxs) hl (by rw [hG]; exact ⟨mA.1, by omega⟩) (by rw [hG]; exact ⟨mB.1, by omega⟩) (by rw [hG]; exact ⟨mC.1, by omega⟩) (by rw [hG]; exact ⟨mE.1, by omega⟩)
  have pu : ∀ L : List D, (∀ x ∈ L, D.rs 4 x = true) → pures L = true := fun L h => Rg.rss_pure 4 L (Rg.rss_iff.mpr h)
  have pu2 := pu _ fun x h => (tp x h).rs
  have pu1 : pures [D.lst (A ++ w :: A2), D.lst (A ++ w :: A3), D.lst (G ++ [D.int 0]), D.lst (G ++ [w])] = true := pu _ fun x h => by
    refine (tp x ?_).rs
    simp only [someL, hG, List.mem_cons, List.not_mem_nil, or_false] at h ⊢
    rcases h with h | h | h | h
    · exact .inl h
    · exact .inr (.inl h)
    · exact .inr (.inr (.inl h))
    · exact .inr (.inr (.inr (.inl h)))
  have s4 := dk_ext s (o := .lst [D.lst (A ++ w :: A2), D.lst (A ++ w :: A3), D.lst (G ++ [D.int 0]), D.lst (G ++ [w])]) (pures_under _ _ pu1) hB
  have s5 := dk_ext s4 (o := .lst (someL A A2 A3 A4 xs w)) (pures_under _ _ pu2) (by simp; omega)
  have lenL : (someL A A2 A3 A4 xs w).length = 15 := rfl
  have eL : someL A A2 A3 A4 xs w = [.lst (A ++ w :: A2), .lst (A ++ w :: A3), .lst (G ++ [.int 0]), .lst (G ++ [w]), .lst A4, .tup G, .lst [.lst G], .non, .str "", .int 3, .dic [], .bl true, .dic (enuKs 0 G), .lst G.reverse,
    .lst (List.replicate G.length (.int 0))] := by rw [← hG, List.length_map]; rfl
  generalize hS : someL A A2 A3 A4 xs w = L at *
  simp (disch := walk_at "ln") [-getElem?_pos, -max_ii, -min_ii, -max_t2, -abs_i, max_iO, min_iO, max_tO, abs_iO, List.getElem?_cons_zero, List.getElem?_append_left, t__law_odd_poly_7]
  rw [← eL]
  generalize O.lst [D.lst (A ++ w :: A2), D.lst (A ++ w :: A3), D.lst (G ++ [D.int 0]), D.lst (G ++ [w])] = o1 at *
  rw [List.append_assoc] at s5
  clear s4 eL pu2 pu1
  refine draw5W s5 (by omega) (by omega) (by omega) fun u h4 u0 u1 s l => ?_
  have hB4 : B ≤ h4.length := by rw [l.1]; simp; omega
  have e4 : h4[h3.length + 1]? = some (.lst L) := by
    rw [l.2 _ (by omega)]; simp
  obtain ⟨v, ev, v0, v1⟩ : ∃ v : Int, atI [D.int 0, D.int 0, D.int 0, D.int 0, D.int 1, D.int 1, D.int 1, D.int 2, D.int 3, D.int 4, D.int 5, D.int 6, D.int 7, D.int 8, D.int 9, D.int 10, D.int 11, D.int 12, D.int 13, D.int 14] u = some (.int v) ∧ 0 ≤ v ∧ v < 15 := by
    obtain ⟨x, ex, hx⟩ := atI_mem (xs := [D.int 0, D.int 0, D.int 0, D.int 0, D.int 1, D.int 1, D.int 1, D.int 2, D.int 3, D.int 4, D.int 5, D.int 6, D.int 7, D.int 8, D.int 9, D.int 10, D.int 11, D.int 12, D.int 13, D.int 14]) (k := u) u0 (by simp; omega)
    simp only [List.mem_cons, List.not_mem_nil, or_false] at hx
    rcases hx with rfl | rfl | rfl | rfl | rfl | rfl | rfl | rfl | rfl | rfl | rfl | rfl | rfl | rfl | rfl | rfl | rfl | rfl | rfl | rfl <;> exact ⟨_, ex, by omega, by omega⟩
  obtain ⟨x, ex, hx⟩ := atI_mem (xs := L) (k := v) v0 (by rw [lenL]; omega)
  simp (disch := walk_at "ln") [-getElem?_pos, -max_ii, -min_ii, -max_t2, -abs_i, max_iO, min_iO, max_tO, abs_iO, List.getElem?_cons_zero, List.getElem?_append_left, ev, e4, ex]
  exact k x h4 (tp x hx) (s.le (by omega)) hB4
end
end U
namespace U
open PySem PySem.Spec PyProof.Rows L2 Tb
section
variable {F : Fn} {ds es : List D} {ns ms : List Int} {h : Hh}
theorem own_ints {h' : Hh} {i : Nat} (e : h'[i]? = some (.lst (ns.map .int))) : ownD h' 8 (.cel i) = true := by
  show (match asO h'[i]? with | some xs => xs.all (ownD h' 7) | none => false) = true
  rw [e]
  show (ns.map D.int).all (ownD h' 7) = true
  rw [List.all_map, List.all_eq_true]
  intro n _; rfl
/-- a new list of numbers, of what stands in cells -/
theorem Gv.PE (g : Gv F es ns) (hf : frzL (fz 0 h) ds = some es) : callM .P F ds h = .ok (.lst (ns.map .int)) h := by
  obtain ⟨i, h', e, ei⟩ := g
  show callP F ds h = _
  unfold callP
  rw [hf]
  simp only [e, fz_ints ei]
  have o := own_ints ei
  by_cases q : pures ds = true ∨ (D.lst (ns.map .int)).nol = true
  · rw [if_pos q]
  · rw [if_neg q, if_pos ⟨rfl, o⟩]
@[simp] theorem fz_i {i : Int} : fz 0 h (.int i) = some (.int i) := rfl
@[simp] theorem fz_l {ns : List Int} : fz 0 h (.lst (ns.map .int)) = some (.lst (ns.map .int)) := fz_pure (pures_ints ns)
theorem pyN_ints {k i : Nat} (e : h[i]? = some (.lst (ns.map .int))) : pyN h (k + 2) (.cel i) = py (.lst (ns.map .int)) := by
  show (asO h[i]?).bind (fun xs => (mapO (pyN h (k + 1)) xs).map PyData.list) = _
  rw [e]
  show (mapO (pyN h (k + 1)) (ns.map .int)).map PyData.list = (pys (ns.map .int)).map PyData.list
  rw [mapO_py _ fun x hx => by obtain ⟨n, _, rfl⟩ := List.mem_map.mp hx; rfl]
theorem pyN_lst {k : Nat} : pyN h (k + 2) (.lst (ns.map .int)) = py (.lst (ns.map .int)) := by
  show (mapO (pyN h (k + 1)) (ns.map .int)).map PyData.list = (pys (ns.map .int)).map PyData.list
  rw [mapO_py _ fun x hx => by obtain ⟨n, _, rfl⟩ := List.mem_map.mp hx; rfl]
/-- tuples with cells within -/
theorem deepT {xs ys : List D} {a' b' : D} {n m : Nat} (ea : pyN h 8 (.tup xs) = py a') (eb : pyN h 8 (.tup ys) = py b') (ga : a'.gs n = true) (gb : b'.gs m = true) (hn : n ≤ 60) (hm : m ≤ 60) (nn : toPy h (.tup xs) = none ∨ toPy h (.tup ys) = none) : ∃ r : Bool, cmpD .Eq h (.tup xs) (.tup ys) = some r ∧ cmpD .NotEq h (.tup xs) (.tup ys) = some (!r) ∧ (r = true ↔ a' = b') := by
  obtain ⟨p, _, e1, s1⟩ := gs_shaped ga hn
  obtain ⟨q, _, e2, s2⟩ := gs_shaped gb hm
  have main : eqP (py a') (py b') = some (PyData.eqv p q) := by
    rw [e1, e2]
    show (if SeqAt.shaped p = true ∧ SeqAt.shaped q = true then some (PyData.eqv p q) else none) = _
    rw [if_pos ⟨s1, s2⟩]
  have z : eqP (toPy h (.tup xs)) (toPy h (.tup ys)) = none := by
    rcases nn with w | w
    · rw [w]; rfl
    · rw [w]; cases toPy h (.tup xs) <;> rfl
  have ee : eqD h (.tup xs) (.tup ys) = some (PyData.eqv p q) := by
    show (match eqP (toPy h (.tup xs)) (toPy h (.tup ys)) with | some r => some r | none => neLen h (.tup xs) (.tup ys)) = _
    rw [z]
    show eqP (pyN h 8 (.tup xs)) (pyN h 8 (.tup ys)) = _
    rw [ea, eb, main]
  refine ⟨PyData.eqv p q, ee, ?_, gs_inj n m a' b' p q ga gb e1 e2⟩
  show (eqD h (.tup xs) (.tup ys)).map not = _
  rw [ee]; rfl
theorem gs_ints (ns : List Int) (k : Nat) : D.gs (k + 1) (.lst (ns.map .int)) = true := by
  show (ns.map D.int).all (D.gs k) = true
  rw [List.all_map, List.all_eq_true]
  intro n _
  cases k <;> rfl
theorem callPW {v : D} (hp : pures ds = true) (w : W (F ds []) fun d _ => d = v) (hv : v.pure = true) : callM .P F ds h = .ok v h := by
  obtain ⟨d, h', e, rfl⟩ := w.ex
  exact callPP hp e hv
/-- what is no list, of what stands in cells -/
theorem callP_ix {v : D} (hf : frzL (fz 0 h) ds = some es) (ep : pures es = true) (k : ∀ h, callM .P F es h = .ok v h) (hn : v.nol = true) : callM .P F ds h = .ok v h := callP_as hf ep (k h) hn
def lp (q : List Int × List Int) : D := .tup [.lst (q.1.map .int), .lst (q.2.map .int)]
theorem gs_lp (q : List Int × List Int) : D.gs 2 (lp q) = true := by
  show ([D.lst (q.1.map .int), .lst (q.2.map .int)]).all (D.gs 1) = true
  simp [gs_ints]
theorem map_int_inj {a b : List Int} (e : a.map D.int = b.map D.int) : a = b := (List.map_inj_right fun x y z => by cases z; rfl).mp e
theorem lp_inj {a b : List Int × List Int} (e : lp a = lp b) : a = b := by
  simp only [lp, D.tup.injEq, List.cons.injEq, D.lst.injEq, and_true] at e
  exact Prod.ext (map_int_inj e.1) (map_int_inj e.2)
theorem lp_pure (q : List Int × List Int) : (lp q).pure = true := by simp [lp, D.pure, pures, pures_ints]
/-- what was told, against two lists in cells -/
theorem lp_cel {i j : Nat} {q q' : List Int × List Int} (ei : h[i]? = some (.lst (q'.1.map .int))) (ej : h[j]? = some (.lst (q'.2.map .int))) : cmpD .Eq h (lp q) (.tup [.cel i, .cel j]) = some (decide (q = q')) ∧ cmpD .NotEq h (lp q) (.tup [.cel i, .cel j]) = some (!decide (q = q')) := by
  obtain ⟨r, e1, e2, e3⟩ := deepT (h := h) (xs := [.lst (q.1.map .int), .lst (q.2.map .int)]) (ys := [.cel i, .cel j]) (a' := lp q) (b' := lp q') (n := 2) (m := 2) (by
    show (mapO (pyN h 7) [.lst (q.1.map .int), .lst (q.2.map .int)]).map PyData.tuple = (pys [.lst (q.1.map .int), .lst (q.2.map .int)]).map PyData.tuple
    rw [mapO_py _ fun x hx => by
      simp only [List.mem_cons, List.not_mem_nil, or_false] at hx
      rcases hx with rfl | rfl
      · exact pyN_lst (k := 5)
      · exact pyN_lst (k := 5)]) (by
    show (mapO (pyN h 7) [.cel i, .cel j]).map PyData.tuple = (pys [.lst (q'.1.map .int), .lst (q'.2.map .int)]).map PyData.tuple
    simp only [mapO, pyN_ints (k := 5) ei, pyN_ints (k := 5) ej, pys]) (gs_lp q) (gs_lp q') (by omega) (by omega) (.inr rfl)
  have : r = decide (q = q') := by
    rw [Bool.eq_iff_iff, e3, decide_eq_true_eq]
    exact ⟨lp_inj, fun e => by rw [e]⟩
  rw [← this]
  exact ⟨e1, e2⟩
theorem cel_lp {i j : Nat} {q q' : List Int × List Int} (ei : h[i]? = some (.lst (q'.1.map .int))) (ej : h[j]? = some (.lst (q'.2.map .int))) : cmpD .Eq h (.tup [.cel i, .cel j]) (lp q) = some (decide (q' = q)) ∧ cmpD .NotEq h (.tup [.cel i, .cel j]) (lp q) = some (!decide (q' = q)) := by
  obtain ⟨r, e1, e2, e3⟩ := deepT (h := h) (ys := [.lst (q.1.map .int), .lst (q.2.map .int)]) (xs := [.cel i, .cel j]) (a' := lp q') (b' := lp q) (n := 2) (m := 2) (by
    show (mapO (pyN h 7) [.cel i, .cel j]).map PyData.tuple = (pys [.lst (q'.1.map .int), .lst (q'.2.map .int)]).map PyData.tuple
    simp only [mapO, pyN_ints (k := 5) ei, pyN_ints (k := 5) ej, pys]) (by
    show (mapO (pyN h 7) [.lst (q.1.map .int), .lst (q.2.map .int)]).map PyData.tuple = (pys [.lst (q.1.map .int), .lst (q.2.map .int)]).map PyData.tuple
    rw [mapO_py _ fun x hx => by
      simp only [List.mem_cons, List.not_mem_nil, or_false] at hx
      rcases hx with rfl | rfl
      · exact pyN_lst (k := 5)
      · exact pyN_lst (k := 5)]) (gs_lp q') (gs_lp q) (by omega) (by omega) (.inl rfl)
  have : r = decide (q' = q) := by
    rw [Bool.eq_iff_iff, e3, decide_eq_true_eq]
    exact ⟨lp_inj, fun e => by rw [e]⟩
  rw [← this]
  exact ⟨e1, e2⟩
/-- a cell against a list -/
theorem cel_ints {i : Nat} (e : h[i]? = some (.lst (ns.map .int))) : cmpD .Eq h (.cel i) (.lst (ms.map .int)) = some (decide (ns = ms)) ∧ cmpD .NotEq h (.cel i) (.lst (ms.map .int)) = some (!decide (ns = ms)) := by
  rw [cmp_cel e _ (.inl rfl), cmp_cel e _ (.inr rfl), eq_ints, ne_ints]
  exact ⟨rfl, rfl⟩
/-- two lists -/
def ll2 (a b : List Int) : D := .lst [.lst (a.map .int), .lst (b.map .int)]
theorem ll2_eq {a b c d : List Int} : cmpD .Eq h (ll2 a b) (ll2 c d) = some (decide (a = c ∧ b = d)) ∧ cmpD .NotEq h (ll2 a b) (ll2 c d) = some (!decide (a = c ∧ b = d)) := by
  have g : ∀ a b, D.gs 2 (ll2 a b) = true := fun a b => by
    show ([D.lst (a.map .int), .lst (b.map .int)]).all (D.gs 1) = true
    simp [gs_ints]
  obtain ⟨r, e1, e2, e3⟩ := eq_gs (h := h) (g a b) (g c d) (by omega) (by omega)
  have : r = decide (a = c ∧ b = d) := by
    rw [Bool.eq_iff_iff, e3, decide_eq_true_eq]
    simp only [ll2, D.lst.injEq, List.cons.injEq, and_true]
    exact ⟨fun e => ⟨map_int_inj e.1, map_int_inj e.2⟩, fun e => ⟨by rw [e.1], by rw [e.2]⟩⟩
  rw [← this]
  exact ⟨e1, e2⟩
/-- from behind -/
theorem cut_back {xs : List D} {k : Nat} : Tb.cutD xs (some (-((k + 1 : Nat) : Int))) none = xs.drop (xs.length - (k + 1)) := by
  unfold Tb.cutD
  have e : HT.sIx xs.length 0 (some (-((k + 1 : Nat) : Int))) = xs.length - (k + 1) := by
    show (if (-((k + 1 : Nat) : Int)) < 0 then (-((k + 1 : Nat) : Int) + (xs.length : Int)).toNat else min (-((k + 1 : Nat) : Int)).toNat xs.length) = _
    rw [if_pos (by omega)]; omega
  rw [e, HT.sIx_none]
  rw [List.take_of_length_le (by simp)]
@[simp] theorem cut3 {xs : List D} : Tb.cutD xs (some (-3)) none = xs.drop (xs.length - 3) := cut_back (k := 2)
end
end U
namespace U
open PySem PySem.Spec PyProof.Rows L2 Tb
def b_is_quotient_by : Ss := (.cons (.ifs (.bop .Or (.cons (.not (.isi (.var 0) (.bty "tuple"))) (.cons (.cmp .NotEq (.bi .len false (.cons (.var 0) .nil)) (.int 2)) .nil))) (.cons (.ret (.bl false))
  .nil) .nil)
  (.cons (.ifs (.bop .Or (.cons (.not (.call .P "is_poly_by" f_is_poly_by (.cons (.idx (.var 0) (.int 0)) (.cons (.var 1) .nil)))) (.cons (.not (.call .P "is_poly_by" f_is_poly_by (.cons (.idx (.var 0) (.int 1)) (.cons (.var 1) .nil)))) .nil))) (.cons (.ret (.bl false))
  .nil) .nil)
  (.cons (.ret (.bop .And (.cons (.cmp .NotEq (.idx (.var 0) (.int 1)) (.lst false .nil)) (.cons (.cmp .Eq (.idx (.idx (.var 0) (.int 1)) (.neg (.int 1))) (.int 1)) (.cons (.cmp .Eq (.call .P "divisor_by" f_divisor_by (.cons (.idx (.var 0) (.int 0)) (.cons (.idx (.var 0) (.int 1)) (.cons (.var 1) .nil)))) (.lst false (.cons (.int 1) .nil))) .nil)))))
  .nil)))
def f_is_quotient_by : Fn := fnS cs0 2 2 b_is_quotient_by
def t_is_quotient_by_5 : Ss := .cons (.ret (.bop .And (.cons (.cmp .NotEq (.idx (.var 0) (.int 1)) (.lst false .nil)) (.cons (.cmp .Eq (.idx (.idx (.var 0) (.int 1)) (.neg (.int 1))) (.int 1)) (.cons (.cmp .Eq (.call .P "divisor_by" f_divisor_by (.cons (.idx (.var 0) (.int 0)) (.cons (.idx (.var 0) (.int 1)) (.cons (.var 1) .nil)))) (.lst false (.cons (.int 1) .nil))) .nil))))) .nil
def t_is_quotient_by_4 : Ss := .cons (.ret (.bl false)) .nil
def t_is_quotient_by_3 : Ss := .cons (.ifs (.bop .Or (.cons (.not (.call .P "is_poly_by" f_is_poly_by (.cons (.idx (.var 0) (.int 0)) (.cons (.var 1) .nil)))) (.cons (.not (.call .P "is_poly_by" f_is_poly_by (.cons (.idx (.var 0) (.int 1)) (.cons (.var 1) .nil)))) .nil))) t_is_quotient_by_4 .nil) t_is_quotient_by_5
def t_is_quotient_by_2 : Ss := .cons (.ret (.bl false)) .nil
def t_is_quotient_by_1 : Ss := .cons (.ifs (.bop .Or (.cons (.not (.isi (.var 0) (.bty "tuple"))) (.cons (.cmp .NotEq (.bi .len false (.cons (.var 0) .nil)) (.int 2)) .nil))) t_is_quotient_by_2 .nil) t_is_quotient_by_3
theorem u_is_quotient_by : b_is_quotient_by = t_is_quotient_by_1 := rfl
/-- thing, p -/
theorem w_is_quotient_by {x0 x1 : D} {h : Hh} {Q : D → Hh → Prop} (w : WS (evSs cs0 t_is_quotient_by_1 [some x0, some x1] h) (fun _ h1 => Q .non h1) Q no2 no2) : W (f_is_quotient_by [x0, x1] h) Q := by
  rw [← u_is_quotient_by] at w
  exact w_fnS2 (C := cs0) (n := 2) (np := 2) (b := b_is_quotient_by) rfl rfl w
theorem r_is_quotient_by {x0 x1 : D} {h : Hh} : f_is_quotient_by [x0, x1] h = endR (evSs cs0 t_is_quotient_by_1 [some x0, some x1] h) := by
  rw [← u_is_quotient_by]
  exact fnS_run2 (C := cs0) (n := 2) (np := 2) (b := b_is_quotient_by) rfl rfl
def b_need_quotient : Ss := (.cons (.ifs (.not (.call .P "is_quotient_by" f_is_quotient_by (.cons (.var 0) (.cons (.var 1) .nil)))) (.cons (.rais "NoQuotient")
  .nil) .nil)
  .nil)
def f_need_quotient : Fn := fnS cs0 2 2 b_need_quotient
def t_need_quotient_2 : Ss := .cons (.rais "NoQuotient") .nil
def t_need_quotient_1 : Ss := .cons (.ifs (.not (.call .P "is_quotient_by" f_is_quotient_by (.cons (.var 0) (.cons (.var 1) .nil)))) t_need_quotient_2 .nil) .nil
theorem u_need_quotient : b_need_quotient = t_need_quotient_1 := rfl
/-- thing, p -/
theorem w_need_quotient {x0 x1 : D} {h : Hh} {Q : D → Hh → Prop} (w : WS (evSs cs0 t_need_quotient_1 [some x0, some x1] h) (fun _ h1 => Q .non h1) Q no2 no2) : W (f_need_quotient [x0, x1] h) Q := by
  rw [← u_need_quotient] at w
  exact w_fnS2 (C := cs0) (n := 2) (np := 2) (b := b_need_quotient) rfl rfl w
theorem r_need_quotient {x0 x1 : D} {h : Hh} : f_need_quotient [x0, x1] h = endR (evSs cs0 t_need_quotient_1 [some x0, some x1] h) := by
  rw [← u_need_quotient]
  exact fnS_run2 (C := cs0) (n := 2) (np := 2) (b := b_need_quotient) rfl rfl
def b_worth_told : Ss := (.cons (.asg (.nm 3) (.call .P "worth_by" f_worth_by (.cons (.idx (.var 0) (.int 1)) (.cons (.var 1) (.cons (.var 2) .nil)))))
  (.cons (.ifs (.cmp .Eq (.var 3) (.int 0)) (.cons (.ret .non)
  .nil) .nil)
  (.cons (.ret (.bin false .Mod (.bin false .Mult (.call .P "worth_by" f_worth_by (.cons (.idx (.var 0) (.int 0)) (.cons (.var 1) (.cons (.var 2) .nil)))) (.call .P "inverse" f_inverse (.cons (.var 3) (.cons (.var 1) .nil)))) (.var 1)))
  .nil)))
def f_worth_told : Fn := fnS cs0 4 3 b_worth_told
def t_worth_told_4 : Ss := .cons (.ret (.bin false .Mod (.bin false .Mult (.call .P "worth_by" f_worth_by (.cons (.idx (.var 0) (.int 0)) (.cons (.var 1) (.cons (.var 2) .nil)))) (.call .P "inverse" f_inverse (.cons (.var 3) (.cons (.var 1) .nil)))) (.var 1))) .nil
def t_worth_told_3 : Ss := .cons (.ret .non) .nil
def t_worth_told_2 : Ss := .cons (.ifs (.cmp .Eq (.var 3) (.int 0)) t_worth_told_3 .nil) t_worth_told_4
def t_worth_told_1 : Ss := .cons (.asg (.nm 3) (.call .P "worth_by" f_worth_by (.cons (.idx (.var 0) (.int 1)) (.cons (.var 1) (.cons (.var 2) .nil))))) t_worth_told_2
theorem u_worth_told : b_worth_told = t_worth_told_1 := rfl
/-- q, p, x, below -/
theorem w_worth_told {x0 x1 x2 : D} {h : Hh} {Q : D → Hh → Prop} (w : WS (evSs cs0 t_worth_told_1 [some x0, some x1, some x2, none] h) (fun _ h1 => Q .non h1) Q no2 no2) : W (f_worth_told [x0, x1, x2] h) Q := by
  rw [← u_worth_told] at w
  exact w_fnS2 (C := cs0) (n := 4) (np := 3) (b := b_worth_told) rfl rfl w
theorem r_worth_told {x0 x1 x2 : D} {h : Hh} : f_worth_told [x0, x1, x2] h = endR (evSs cs0 t_worth_told_1 [some x0, some x1, some x2, none] h) := by
  rw [← u_worth_told]
  exact fnS_run2 (C := cs0) (n := 4) (np := 3) (b := b_worth_told) rfl rfl
def b_quotient_worth : Ss := (.cons (.ex (.call .P "need_field" f_need_field (.cons (.var 1) .nil)))
  (.cons (.ex (.call .P "need_quotient" f_need_quotient (.cons (.var 0) (.cons (.var 1) .nil))))
  (.cons (.ifs (.not (.call .P "is_place" f_is_place (.cons (.var 2) (.cons (.var 1) .nil)))) (.cons (.rais "NoNumber")
  .nil) .nil)
  (.cons (.ret (.call .P "worth_told" f_worth_told (.cons (.var 0) (.cons (.var 1) (.cons (.var 2) .nil)))))
  .nil))))
def f_quotient_worth : Fn := fnS cs0 3 3 b_quotient_worth
def t_quotient_worth_5 : Ss := .cons (.ret (.call .P "worth_told" f_worth_told (.cons (.var 0) (.cons (.var 1) (.cons (.var 2) .nil))))) .nil
def t_quotient_worth_4 : Ss := .cons (.rais "NoNumber") .nil
def t_quotient_worth_3 : Ss := .cons (.ifs (.not (.call .P "is_place" f_is_place (.cons (.var 2) (.cons (.var 1) .nil)))) t_quotient_worth_4 .nil) t_quotient_worth_5
def t_quotient_worth_2 : Ss := .cons (.ex (.call .P "need_quotient" f_need_quotient (.cons (.var 0) (.cons (.var 1) .nil)))) t_quotient_worth_3
def t_quotient_worth_1 : Ss := .cons (.ex (.call .P "need_field" f_need_field (.cons (.var 1) .nil))) t_quotient_worth_2
theorem u_quotient_worth : b_quotient_worth = t_quotient_worth_1 := rfl
/-- q, p, x -/
theorem w_quotient_worth {x0 x1 x2 : D} {h : Hh} {Q : D → Hh → Prop} (w : WS (evSs cs0 t_quotient_worth_1 [some x0, some x1, some x2] h) (fun _ h1 => Q .non h1) Q no2 no2) : W (f_quotient_worth [x0, x1, x2] h) Q := by
  rw [← u_quotient_worth] at w
  exact w_fnS2 (C := cs0) (n := 3) (np := 3) (b := b_quotient_worth) rfl rfl w
theorem r_quotient_worth {x0 x1 x2 : D} {h : Hh} : f_quotient_worth [x0, x1, x2] h = endR (evSs cs0 t_quotient_worth_1 [some x0, some x1, some x2] h) := by
  rw [← u_quotient_worth]
  exact fnS_run2 (C := cs0) (n := 3) (np := 3) (b := b_quotient_worth) rfl rfl
def b_is_worths_by : Ss := (.cons (.ifs (.bop .Or (.cons (.not (.isi (.var 0) (.bty "list"))) (.cons (.cmp .Gt (.bi .len false (.cons (.var 0) .nil)) (.glo "MOST_WORTHS" (.int 12))) .nil))) (.cons (.ret (.bl false))
  .nil) .nil)
  (.cons (.fr (.nm 2) (.seq (.var 0)) (.cons (.ifs (.bop .Or (.cons (.not (.isi (.var 2) (.bty "tuple"))) (.cons (.cmp .NotEq (.bi .len false (.cons (.var 2) .nil)) (.int 2)) (.cons (.not (.call .P "is_place" f_is_place (.cons (.idx (.var 2) (.int 0)) (.cons (.var 1) .nil)))) .nil)))) (.cons (.ret (.bl false))
  .nil) .nil)
  (.cons (.ifs (.bop .And (.cons (.cmp .IsNot (.idx (.var 2) (.int 1)) .non) (.cons (.not (.call .P "is_place" f_is_place (.cons (.idx (.var 2) (.int 1)) (.cons (.var 1) .nil)))) .nil))) (.cons (.ret (.bl false))
  .nil) .nil)
  .nil)))
  (.cons (.ret (.cmp .Eq (.lset (.comp false [3, 4] (.tp [3, 4]) (.seq (.var 0)) .nil (.var 3))) (.bi .len false (.cons (.var 0) .nil))))
  .nil)))
def f_is_worths_by : Fn := fnS cs0 5 2 b_is_worths_by
def t_is_worths_by_8 : Ss := .cons (.ret (.cmp .Eq (.lset (.comp false [3, 4] (.tp [3, 4]) (.seq (.var 0)) .nil (.var 3))) (.bi .len false (.cons (.var 0) .nil)))) .nil
def t_is_worths_by_7 : Ss := .cons (.ret (.bl false)) .nil
def t_is_worths_by_6 : Ss := .cons (.ifs (.bop .And (.cons (.cmp .IsNot (.idx (.var 2) (.int 1)) .non) (.cons (.not (.call .P "is_place" f_is_place (.cons (.idx (.var 2) (.int 1)) (.cons (.var 1) .nil)))) .nil))) t_is_worths_by_7 .nil) .nil
def t_is_worths_by_5 : Ss := .cons (.ret (.bl false)) .nil
def t_is_worths_by_4 : Ss := .cons (.ifs (.bop .Or (.cons (.not (.isi (.var 2) (.bty "tuple"))) (.cons (.cmp .NotEq (.bi .len false (.cons (.var 2) .nil)) (.int 2)) (.cons (.not (.call .P "is_place" f_is_place (.cons (.idx (.var 2) (.int 0)) (.cons (.var 1) .nil)))) .nil)))) t_is_worths_by_5 .nil) t_is_worths_by_6
def t_is_worths_by_3 : Ss := .cons (.fr (.nm 2) (.seq (.var 0)) t_is_worths_by_4) t_is_worths_by_8
def t_is_worths_by_2 : Ss := .cons (.ret (.bl false)) .nil
def t_is_worths_by_1 : Ss := .cons (.ifs (.bop .Or (.cons (.not (.isi (.var 0) (.bty "list"))) (.cons (.cmp .Gt (.bi .len false (.cons (.var 0) .nil)) (.glo "MOST_WORTHS" (.int 12))) .nil))) t_is_worths_by_2 .nil) t_is_worths_by_3
theorem u_is_worths_by : b_is_worths_by = t_is_worths_by_1 := rfl
/-- thing, p, pair, x, w -/
theorem w_is_worths_by {x0 x1 : D} {h : Hh} {Q : D → Hh → Prop} (w : WS (evSs cs0 t_is_worths_by_1 [some x0, some x1, none, none, none] h) (fun _ h1 => Q .non h1) Q no2 no2) : W (f_is_worths_by [x0, x1] h) Q := by
  rw [← u_is_worths_by] at w
  exact w_fnS2 (C := cs0) (n := 5) (np := 2) (b := b_is_worths_by) rfl rfl w
theorem r_is_worths_by {x0 x1 : D} {h : Hh} : f_is_worths_by [x0, x1] h = endR (evSs cs0 t_is_worths_by_1 [some x0, some x1, none, none, none] h) := by
  rw [← u_is_worths_by]
  exact fnS_run2 (C := cs0) (n := 5) (np := 2) (b := b_is_worths_by) rfl rfl
def b_need_worths : Ss := (.cons (.ifs (.not (.call .P "is_worths_by" f_is_worths_by (.cons (.var 0) (.cons (.var 1) .nil)))) (.cons (.rais "NoWorths")
  .nil) .nil)
  .nil)
def f_need_worths : Fn := fnS cs0 2 2 b_need_worths
def t_need_worths_2 : Ss := .cons (.rais "NoWorths") .nil
def t_need_worths_1 : Ss := .cons (.ifs (.not (.call .P "is_worths_by" f_is_worths_by (.cons (.var 0) (.cons (.var 1) .nil)))) t_need_worths_2 .nil) .nil
theorem u_need_worths : b_need_worths = t_need_worths_1 := rfl
/-- thing, p -/
theorem w_need_worths {x0 x1 : D} {h : Hh} {Q : D → Hh → Prop} (w : WS (evSs cs0 t_need_worths_1 [some x0, some x1] h) (fun _ h1 => Q .non h1) Q no2 no2) : W (f_need_worths [x0, x1] h) Q := by
  rw [← u_need_worths] at w
  exact w_fnS2 (C := cs0) (n := 2) (np := 2) (b := b_need_worths) rfl rfl w
theorem r_need_worths {x0 x1 : D} {h : Hh} : f_need_worths [x0, x1] h = endR (evSs cs0 t_need_worths_1 [some x0, some x1] h) := by
  rw [← u_need_worths]
  exact fnS_run2 (C := cs0) (n := 2) (np := 2) (b := b_need_worths) rfl rfl
def b_keeps : Ss := (.cons (.ret (.cmp .Eq (.call .P "worth_told" f_worth_told (.cons (.var 0) (.cons (.var 1) (.cons (.var 2) .nil)))) (.var 3)))
  .nil)
def f_keeps : Fn := fnS cs0 4 4 b_keeps
def t_keeps_1 : Ss := .cons (.ret (.cmp .Eq (.call .P "worth_told" f_worth_told (.cons (.var 0) (.cons (.var 1) (.cons (.var 2) .nil)))) (.var 3))) .nil
theorem u_keeps : b_keeps = t_keeps_1 := rfl
/-- q, p, x, w -/
theorem w_keeps {x0 x1 x2 x3 : D} {h : Hh} {Q : D → Hh → Prop} (w : WS (evSs cs0 t_keeps_1 [some x0, some x1, some x2, some x3] h) (fun _ h1 => Q .non h1) Q no2 no2) : W (f_keeps [x0, x1, x2, x3] h) Q := by
  rw [← u_keeps] at w
  exact w_fnS2 (C := cs0) (n := 4) (np := 4) (b := b_keeps) rfl rfl w
theorem r_keeps {x0 x1 x2 x3 : D} {h : Hh} : f_keeps [x0, x1, x2, x3] h = endR (evSs cs0 t_keeps_1 [some x0, some x1, some x2, some x3] h) := by
  rw [← u_keeps]
  exact fnS_run2 (C := cs0) (n := 4) (np := 4) (b := b_keeps) rfl rfl
def b_worths_not_kept : Ss := (.cons (.ex (.call .P "need_field" f_need_field (.cons (.var 1) .nil)))
  (.cons (.ex (.call .P "need_quotient" f_need_quotient (.cons (.var 0) (.cons (.var 1) .nil))))
  (.cons (.ex (.call .P "need_worths" f_need_worths (.cons (.var 2) (.cons (.var 1) .nil))))
  (.cons (.ret (.comp false [3, 4] (.tp [3, 4]) (.enu (.var 2)) (.cons (.not (.call .P "keeps" f_keeps (.cons (.var 0) (.cons (.var 1) (.cons (.idx (.var 4) (.int 0)) (.cons (.idx (.var 4) (.int 1)) .nil)))))) .nil) (.var 3)))
  .nil))))
def f_worths_not_kept : Fn := fnS cs0 5 3 b_worths_not_kept
def t_worths_not_kept_4 : Ss := .cons (.ret (.comp false [3, 4] (.tp [3, 4]) (.enu (.var 2)) (.cons (.not (.call .P "keeps" f_keeps (.cons (.var 0) (.cons (.var 1) (.cons (.idx (.var 4) (.int 0)) (.cons (.idx (.var 4) (.int 1)) .nil)))))) .nil) (.var 3))) .nil
def t_worths_not_kept_3 : Ss := .cons (.ex (.call .P "need_worths" f_need_worths (.cons (.var 2) (.cons (.var 1) .nil)))) t_worths_not_kept_4
def t_worths_not_kept_2 : Ss := .cons (.ex (.call .P "need_quotient" f_need_quotient (.cons (.var 0) (.cons (.var 1) .nil)))) t_worths_not_kept_3
def t_worths_not_kept_1 : Ss := .cons (.ex (.call .P "need_field" f_need_field (.cons (.var 1) .nil))) t_worths_not_kept_2
theorem u_worths_not_kept : b_worths_not_kept = t_worths_not_kept_1 := rfl
/-- q, p, worths, at, pair -/
theorem w_worths_not_kept {x0 x1 x2 : D} {h : Hh} {Q : D → Hh → Prop} (w : WS (evSs cs0 t_worths_not_kept_1 [some x0, some x1, some x2, none, none] h) (fun _ h1 => Q .non h1) Q no2 no2) : W (f_worths_not_kept [x0, x1, x2] h) Q := by
  rw [← u_worths_not_kept] at w
  exact w_fnS2 (C := cs0) (n := 5) (np := 3) (b := b_worths_not_kept) rfl rfl w
theorem r_worths_not_kept {x0 x1 x2 : D} {h : Hh} : f_worths_not_kept [x0, x1, x2] h = endR (evSs cs0 t_worths_not_kept_1 [some x0, some x1, some x2, none, none] h) := by
  rw [← u_worths_not_kept]
  exact fnS_run2 (C := cs0) (n := 5) (np := 3) (b := b_worths_not_kept) rfl rfl
def b_reduced : Ss := (.cons (.asg (.nm 3) (.call .P "divisor_by" f_divisor_by (.cons (.var 0) (.cons (.var 1) (.cons (.var 2) .nil)))))
  (.cons (.asg (.nm 4) (.idx (.call .P "parted_by" f_parted_by (.cons (.var 0) (.cons (.var 3) (.cons (.var 2) .nil)))) (.int 0)))
  (.cons (.asg (.nm 5) (.idx (.call .P "parted_by" f_parted_by (.cons (.var 1) (.cons (.var 3) (.cons (.var 2) .nil)))) (.int 0)))
  (.cons (.asg (.nm 6) (.call .P "inverse" f_inverse (.cons (.idx (.var 5) (.neg (.int 1))) (.cons (.var 2) .nil))))
  (.cons (.ret (.tup (.cons (.call .C "times_by" f_times_by (.cons (.var 4) (.cons (.var 6) (.cons (.var 2) .nil)))) (.cons (.call .C "times_by" f_times_by (.cons (.var 5) (.cons (.var 6) (.cons (.var 2) .nil)))) .nil))))
  .nil)))))
def f_reduced : Fn := fnS cs0 7 3 b_reduced
def t_reduced_5 : Ss := .cons (.ret (.tup (.cons (.call .C "times_by" f_times_by (.cons (.var 4) (.cons (.var 6) (.cons (.var 2) .nil)))) (.cons (.call .C "times_by" f_times_by (.cons (.var 5) (.cons (.var 6) (.cons (.var 2) .nil)))) .nil)))) .nil
def t_reduced_4 : Ss := .cons (.asg (.nm 6) (.call .P "inverse" f_inverse (.cons (.idx (.var 5) (.neg (.int 1))) (.cons (.var 2) .nil)))) t_reduced_5
def t_reduced_3 : Ss := .cons (.asg (.nm 5) (.idx (.call .P "parted_by" f_parted_by (.cons (.var 1) (.cons (.var 3) (.cons (.var 2) .nil)))) (.int 0))) t_reduced_4
def t_reduced_2 : Ss := .cons (.asg (.nm 4) (.idx (.call .P "parted_by" f_parted_by (.cons (.var 0) (.cons (.var 3) (.cons (.var 2) .nil)))) (.int 0))) t_reduced_3
def t_reduced_1 : Ss := .cons (.asg (.nm 3) (.call .P "divisor_by" f_divisor_by (.cons (.var 0) (.cons (.var 1) (.cons (.var 2) .nil))))) t_reduced_2
theorem u_reduced : b_reduced = t_reduced_1 := rfl
/-- one, other, p, divisor, top, bottom, lead -/
theorem w_reduced {x0 x1 x2 : D} {h : Hh} {Q : D → Hh → Prop} (w : WS (evSs cs0 t_reduced_1 [some x0, some x1, some x2, none, none, none, none] h) (fun _ h1 => Q .non h1) Q no2 no2) : W (f_reduced [x0, x1, x2] h) Q := by
  rw [← u_reduced] at w
  exact w_fnS2 (C := cs0) (n := 7) (np := 3) (b := b_reduced) rfl rfl w
theorem r_reduced {x0 x1 x2 : D} {h : Hh} : f_reduced [x0, x1, x2] h = endR (evSs cs0 t_reduced_1 [some x0, some x1, some x2, none, none, none, none] h) := by
  rw [← u_reduced]
  exact fnS_run2 (C := cs0) (n := 7) (np := 3) (b := b_reduced) rfl rfl
def b_quotient_of : Ss := (.cons (.ex (.call .P "need_two" f_need_two (.cons (.var 0) (.cons (.var 1) (.cons (.var 2) .nil)))))
  (.cons (.ifs (.cmp .Eq (.var 1) (.lst false .nil)) (.cons (.rais "NoPoly")
  .nil) .nil)
  (.cons (.ret (.call .L "reduced" f_reduced (.cons (.var 0) (.cons (.var 1) (.cons (.var 2) .nil)))))
  .nil)))
def f_quotient_of : Fn := fnS cs0 3 3 b_quotient_of
def t_quotient_of_4 : Ss := .cons (.ret (.call .L "reduced" f_reduced (.cons (.var 0) (.cons (.var 1) (.cons (.var 2) .nil))))) .nil
def t_quotient_of_3 : Ss := .cons (.rais "NoPoly") .nil
def t_quotient_of_2 : Ss := .cons (.ifs (.cmp .Eq (.var 1) (.lst false .nil)) t_quotient_of_3 .nil) t_quotient_of_4
def t_quotient_of_1 : Ss := .cons (.ex (.call .P "need_two" f_need_two (.cons (.var 0) (.cons (.var 1) (.cons (.var 2) .nil))))) t_quotient_of_2
theorem u_quotient_of : b_quotient_of = t_quotient_of_1 := rfl
/-- one, other, p -/
theorem w_quotient_of {x0 x1 x2 : D} {h : Hh} {Q : D → Hh → Prop} (w : WS (evSs cs0 t_quotient_of_1 [some x0, some x1, some x2] h) (fun _ h1 => Q .non h1) Q no2 no2) : W (f_quotient_of [x0, x1, x2] h) Q := by
  rw [← u_quotient_of] at w
  exact w_fnS2 (C := cs0) (n := 3) (np := 3) (b := b_quotient_of) rfl rfl w
theorem r_quotient_of {x0 x1 x2 : D} {h : Hh} : f_quotient_of [x0, x1, x2] h = endR (evSs cs0 t_quotient_of_1 [some x0, some x1, some x2] h) := by
  rw [← u_quotient_of]
  exact fnS_run2 (C := cs0) (n := 3) (np := 3) (b := b_quotient_of) rfl rfl
def b_is_quotient : Ss := (.cons (.ex (.call .P "need_field" f_need_field (.cons (.var 1) .nil)))
  (.cons (.ret (.call .P "is_quotient_by" f_is_quotient_by (.cons (.var 0) (.cons (.var 1) .nil))))
  .nil))
def f_is_quotient : Fn := fnS cs0 2 2 b_is_quotient
def t_is_quotient_2 : Ss := .cons (.ret (.call .P "is_quotient_by" f_is_quotient_by (.cons (.var 0) (.cons (.var 1) .nil)))) .nil
def t_is_quotient_1 : Ss := .cons (.ex (.call .P "need_field" f_need_field (.cons (.var 1) .nil))) t_is_quotient_2
theorem u_is_quotient : b_is_quotient = t_is_quotient_1 := rfl
/-- thing, p -/
theorem w_is_quotient {x0 x1 : D} {h : Hh} {Q : D → Hh → Prop} (w : WS (evSs cs0 t_is_quotient_1 [some x0, some x1] h) (fun _ h1 => Q .non h1) Q no2 no2) : W (f_is_quotient [x0, x1] h) Q := by
  rw [← u_is_quotient] at w
  exact w_fnS2 (C := cs0) (n := 2) (np := 2) (b := b_is_quotient) rfl rfl w
theorem r_is_quotient {x0 x1 : D} {h : Hh} : f_is_quotient [x0, x1] h = endR (evSs cs0 t_is_quotient_1 [some x0, some x1] h) := by
  rw [← u_is_quotient]
  exact fnS_run2 (C := cs0) (n := 2) (np := 2) (b := b_is_quotient) rfl rfl
section
open Po
variable {p : Nat} [NeZero p]
/-! quotients -/
structure Qu (p : Nat) [NeZero p] (t b : List Int) : Prop where
  ct : Can p t
  cb : Can p b
  one : ∃ he : b ≠ [], b.getLast he = 1
  cop : Gc (ser p t) (ser p b) 1
theorem Qu.ne {t b : List Int} (h : Qu p t b) : b ≠ [] := h.one.1
theorem Qu.uniq {t b t' b' : List Int} (q : p ∈ FP) (h : Qu p t b) (k : Qu p t' b') (e : ser p t * ser p b' = ser p t' * ser p b) : t = t' ∧ b = b' := by
  obtain ⟨h1, h2⟩ := h.one
  obtain ⟨k1, k2⟩ := k.one
  obtain ⟨x, y⟩ := quo_uniq (FP_fld q) (ser_pol t) (ser_pol t') (last_mon h1 h2) (last_mon k1 k2) h.cop k.cop e
  exact ⟨can_inj h.ct k.ct x, can_inj h.cb k.cb y⟩
theorem can_1 (q : p ∈ FP) : Can p [1] := ⟨fun a ha => by rw [List.mem_singleton.mp ha]; have := FP_le q; omega, fun _ => by rw [List.getLast_singleton]; omega⟩
theorem ser_1 : ser p [1] = 1 := by rw [ser_one, cz_1, C_1]
theorem Qu.gd {t b : List Int} (q : p ∈ FP) (h : Qu p t b) : Gd p t b [1] := ⟨can_1 q, by rw [ser_1]; exact h.cop, by simp, rfl⟩
theorem Gc.scale {a b : Ser (Fin p)} {x y : Fin p} (h : Gc a b 1) (e : x * y = 1) : Gc (a * C x) (b * C x) 1 := by
  obtain ⟨_, d1, d2, u, v, pu, pv, e1⟩ := h
  have e2 : (C x : Ser (Fin p)) * C y = 1 := by rw [← C_mul, e, C_1]
  exact ⟨Pol.one, d1.mulR Pol.C, d2.mulR Pol.C, u * C y, v * C y, pu.mul Pol.C, pv.mul Pol.C, by grind⟩
/-- what goes into it leaves nothing -/
theorem Dm.none {a g q r : List Int} (K : Fld (Fin p)) (hg : Can p g) (d : Dm p a g q r) (h : Dv (ser p g) (ser p a)) : r = [] ∧ ser p a = ser p g * ser p q := by
  obtain ⟨s, ps, e⟩ := h
  obtain ⟨q', cq, eq⟩ := can_of ps
  have gl : 0 < g.length := by have := d.2.2.2; omega
  have := d.uniq K hg (q' := q') (r' := []) ⟨cq, Can.nil, by rw [eq, ser_nil, e]; grind, by simpa using gl⟩
  refine ⟨this.2, ?_⟩
  rw [this.1, eq, e]
theorem inv_uniq (q : p ∈ FP) {a v w : Int} (v0 : 0 < v) (v1 : v < p) (w0 : 0 < w) (w1 : w < p) (ev : a * v % p = 1) (ew : a * w % p = 1) : v = w := by
  have pb := FP_le q
  have one : (1 : Int) = 1 % p := by rw [Int.emod_eq_of_lt (by omega) (by omega)]
  have e1 : cz p a * cz p v = 1 := by rw [← cz_mul, ← cz_1, cz_eq, ev, ← one]
  have e2 : cz p a * cz p w = 1 := by rw [← cz_mul, ← cz_1, cz_eq, ew, ← one]
  exact cz_inj (p := p) (by omega) v1 (by omega) w1 (by
    have : cz p v = cz p v * (cz p a * cz p w) := by rw [e2]; grind
    rw [this]
    have : cz p w = cz p w * (cz p a * cz p v) := by rw [e1]; grind
    grind)
open Classical in
/-- the number that times this one leaves 1 -/
noncomputable def inv (p : Nat) (a : Int) : Int := if h : ∃ v : Int, 0 < v ∧ v < p ∧ a * v % p = 1 then h.choose else 0
theorem inv_ok (q : p ∈ FP) {a : Int} (a0 : 0 < a) (a1 : a < p) : 0 < inv p a ∧ inv p a < p ∧ a * inv p a % p = 1 ∧ ∀ h, callM .P f_inverse [.int a, .int (p : Nat)] h = .ok (.int (inv p a)) h := by
  obtain ⟨v, v0, v1, ev, vk⟩ := inverse_ex q a0 a1
  have ex : ∃ v : Int, 0 < v ∧ v < p ∧ a * v % p = 1 := ⟨v, v0, v1, ev⟩
  have e : inv p a = ex.choose := by unfold inv; rw [dif_pos ex]
  obtain ⟨h1, h2, h3⟩ := ex.choose_spec
  have := inv_uniq q v0 v1 h1 h2 ev h3
  rw [e, ← this]
  exact ⟨v0, v1, ev, vk⟩
theorem reduced_pv {xs ys : List Int} (q : p ∈ FP) (hx : Can p xs) (hy : Can p ys) (ne : ys ≠ []) (hl : xs.length ≤ 200) (hm : ys.length ≤ 200) : ∃ t b, Qu p t b ∧ ser p t * ser p ys = ser p xs * ser p b ∧ t.length ≤ xs.length ∧ b.length ≤ ys.length ∧ Pv f_reduced [.lst (xs.map .int), .lst (ys.map .int), .int (p : Nat)] t b := by
  have K := FP_fld q
  have pb := FP_le q
  obtain ⟨g, gd, gl, gv⟩ := divisor_gv q hx hy (.inr ne) (by omega) (by omega)
  obtain ⟨cg, gc, ge, g1⟩ := gd
  obtain ⟨q1, r1, d1, l1, _, p1⟩ := parted_pv q hx cg ge (by omega) (by omega)
  obtain ⟨q2, r2, d2, l2, _, p2⟩ := parted_pv q hy cg ge (by omega) (by omega)
  obtain ⟨_, e1⟩ := Dm.none K cg d1 gc.2.1
  obtain ⟨_, e2⟩ := Dm.none K cg d2 gc.2.2.1
  have gl0 := List.length_pos_iff.mpr ge
  have n2 : q2 ≠ [] := fun z => ne (can_inj hy Can.nil (by rw [e2, z, ser_nil]; grind))
  have bl := d2.1.1 _ (List.getLast_mem n2)
  have bn := d2.1.2 n2
  obtain ⟨v0, v1, ev, vk⟩ := inv_ok (a := q2.getLast n2) q (by omega) (by omega)
  have cop : Gc (ser p q1) (ser p q2) 1 := Gc.quo K (ser_pol q1) (ser_pol q2) (cg.ne ge) (by rw [← e1, ← e2]; exact gc)
  have m := made_one q d2.1 n2 (Gc.last (ser_pol q2)) ev
  have la := last_int n2
  have ev' : cz p (inv p (q2.getLast n2)) * cz p (q2.getLast n2) = 1 := by
    rw [← cz_mul, ← cz_1, cz_eq, Int.mul_comm, ev, Int.emod_eq_of_lt (by omega) (by omega)]
  generalize inv p (q2.getLast n2) = v at *
  refine ⟨timP p q1 v, timP p q2 v, ⟨timP_can _ _, timP_can _ _, m.2.2, ?_⟩, by rw [timP_ser, timP_ser, e1, e2]; grind, ?_, ?_, Pv.of (w_reduced ?_)⟩
  · rw [timP_ser, timP_ser]; exact Gc.scale cop ev'
  · have := timP_len (p := p) q1 v; omega
  · have := timP_len (p := p) q2 v; omega
  · have gp := fun h => gv.P (h := h) (by simp [pures, D.pure, pures_ints])
    have pp1 := fun h => p1.P (h := h) (by simp [pures, D.pure, pures_ints])
    have pp2 := fun h => p2.P (h := h) (by simp [pures, D.pure, pures_ints])
    have t1 := fun h => (times_gv (xs := q1) (c := v) d1.1.1 (by omega) (by omega) (by omega) (by omega)).C (h := h) (by simp [pures, D.pure, pures_ints])
    have t2 := fun h => (times_gv (xs := q2) (c := v) d2.1.1 (by omega) (by omega) (by omega) (by omega)).C (h := h) (by simp [pures, D.pure, pures_ints])
    generalize hQ : (fun (d : D) (h' : Hh) => ∃ i j, d = D.tup [.cel i, .cel j] ∧ h'[i]? = some (O.lst ((timP p q1 v).map .int)) ∧ h'[j]? = some (O.lst ((timP p q2 v).map .int)) ∧ i ≠ j ∧ h'.all O.noI = true) = Q
    simp (disch := walk_at "ln") [-getElem?_pos, -max_ii, -min_ii, -max_t2, -abs_i, max_iO, min_iO, max_tO, abs_iO, List.getElem?_cons_zero, List.getElem?_append_left, t_reduced_1, gp, t_reduced_2, pp1, t_reduced_3, pp2, t_reduced_4, la, vk, t_reduced_5, t1, t2]
    rw [← hQ]
    exact ⟨0, 1, rfl, rfl, rfl, by decide, rfl⟩
theorem quotient_of_pv {xs ys : List Int} (q : p ∈ FP) (hx : Can p xs) (hy : Can p ys) (ne : ys ≠ []) (hl : xs.length ≤ 200) (hm : ys.length ≤ 200) : ∃ t b, Qu p t b ∧ ser p t * ser p ys = ser p xs * ser p b ∧ t.length ≤ xs.length ∧ b.length ≤ ys.length ∧ Pv f_quotient_of [.lst (xs.map .int), .lst (ys.map .int), .int (p : Nat)] t b := by
  obtain ⟨t, b, qu, e, l1, l2, pv⟩ := reduced_pv q hx hy ne hl hm
  refine ⟨t, b, qu, e, l1, l2, Pv.of (w_quotient_of ?_)⟩
  simp [t_quotient_of_1, t_quotient_of_2, t_quotient_of_4, need_two_ok q hx (by omega) hy (by omega), eq_ints0, ne]
  exact pv.L (by simp only [pures, D.pure, pures_ints, Bool.and_true]) fun i j g ij _ _ ng e1 e2 => ⟨i, j, rfl, e1, e2, ij, by simpa using ng⟩
/-- a quotient or not -/
theorem is_quotient_by_gen {t b : List Int} {h : Hh} (q : p ∈ FP) (ct : Can p t) (cb : Can p b) (hl : t.length ≤ 200) (hm : b.length ≤ 200) : ∃ r : Bool, (r = true ↔ Qu p t b) ∧ ∀ h, callM .P f_is_quotient_by [lp (t, b), .int (p : Nat)] h = .ok (.bl r) h := by
  have K := FP_fld q
  have pp : pures [lp (t, b), .int (p : Nat)] = true := by simp [pures, lp_pure, D.pure]
  have i1 := fun h => is_poly_by_ok (h := h) ct (by omega)
  have i2 := fun h => is_poly_by_ok (h := h) cb (by omega)
  by_cases z : b = []
  · refine ⟨false, ⟨fun w => (by cases w), fun w => absurd z (Qu.ne w)⟩, fun h => callPP (h' := []) pp (r_is_quotient_by.trans ?_) rfl⟩
    subst z
    rw [List.map_nil] at i2
    have e0 := fun h => ne_ints0 (ns := []) (h := h)
    simp only [List.map_nil, decide_true, Bool.not_true] at e0
    simp [lp, t_is_quotient_by_1, t_is_quotient_by_3, i1, i2, t_is_quotient_by_5, e0]
  · have la := last_int z
    obtain ⟨g, gd, gl, gv⟩ := divisor_gv q ct cb (.inr z) (by omega) (by omega)
    have gp := fun h => gv.P (h := h) (by simp [pures, D.pure, pures_ints])
    have e1 := fun h => eq_ints (ns := g) (ms := [1]) (h := h)
    simp only [List.map_cons, List.map_nil] at e1
    refine ⟨decide (b.getLast z = 1) && decide (g = [1]), ?_, fun h => callPP (h' := []) pp (r_is_quotient_by.trans ?_) rfl⟩
    · rw [Bool.and_eq_true, decide_eq_true_eq, decide_eq_true_eq]
      constructor
      · rintro ⟨a, c⟩
        have := gd.2.1
        rw [c, ser_1] at this
        exact ⟨ct, cb, ⟨z, a⟩, this⟩
      · intro w
        obtain ⟨_, o⟩ := w.one
        exact ⟨o, gd.uniq K (w.gd q)⟩
    · by_cases o : b.getLast z = 1
      · simp [lp, t_is_quotient_by_1, t_is_quotient_by_3, i1, i2, t_is_quotient_by_5, ne_ints0, z, la, o, gp, e1]
      · simp [lp, t_is_quotient_by_1, t_is_quotient_by_3, i1, i2, t_is_quotient_by_5, ne_ints0, z, la, o]
theorem is_quotient_by_ok {t b : List Int} {h : Hh} (q : p ∈ FP) (qu : Qu p t b) (hl : t.length ≤ 200) (hm : b.length ≤ 200) : callM .P f_is_quotient_by [lp (t, b), .int (p : Nat)] h = .ok (.bl true) h := by
  obtain ⟨r, e, k⟩ := is_quotient_by_gen (h := h) q qu.ct qu.cb hl hm
  rw [k, e.mpr qu]
theorem need_quotient_ok {t b : List Int} {h : Hh} (q : p ∈ FP) (qu : Qu p t b) (hl : t.length ≤ 200) (hm : b.length ≤ 200) : callM .P f_need_quotient [lp (t, b), .int (p : Nat)] h = .ok .non h := by
  refine callPP (by simp [pures, lp_pure, D.pure]) (d := .non) (h' := []) (r_need_quotient.trans ?_) rfl
  simp [t_need_quotient_1, is_quotient_by_ok q qu hl hm]
theorem is_quotient_gen {t b : List Int} {h : Hh} (q : p ∈ FP) (ct : Can p t) (cb : Can p b) (hl : t.length ≤ 200) (hm : b.length ≤ 200) : ∃ r : Bool, (r = true ↔ Qu p t b) ∧ ∀ h, callM .P f_is_quotient [lp (t, b), .int (p : Nat)] h = .ok (.bl r) h := by
  obtain ⟨r, e, k⟩ := is_quotient_by_gen (h := h) q ct cb hl hm
  refine ⟨r, e, fun h => callPP (by simp [pures, lp_pure, D.pure]) (d := .bl r) (h' := []) (r_is_quotient.trans ?_) rfl⟩
  simp [t_is_quotient_1, t_is_quotient_2, need_field_ok q, k]
end
end U
namespace U
open PySem PySem.Spec PyProof.Rows L2 Tb
section
open Po
variable {p : Nat} [NeZero p]
/-- the number that times this one leaves 1, found by a list -/
theorem back_ex {a : Int} (q : p ∈ FP) (a0 : 0 < a) (a1 : a < p) : ∃ (v : Int) (r : List Nat) (i : Nat), v = 1 + (i : Int) ∧ 0 < v ∧ v < p ∧ a * v % p = 1 ∧ ((List.range (p - 1)).filter fun (i : Nat) => decide ((1 + (i : Int)) * a % p = 1)) = i :: r := by
  obtain ⟨b, b0, b1, e⟩ := FP_inv (a := a.toNat) q (by omega) (by omega)
  have pb := FP_le q
  have e2 : (b : Int) * a % p = 1 := by
    have : ((a.toNat * b % p : Nat) : Int) = 1 := by rw [e]; rfl
    rw [Int.natCast_emod, Int.natCast_mul, show ((a.toNat : Nat) : Int) = a by omega, Int.mul_comm] at this
    exact this
  have ne : ((List.range (p - 1)).filter fun (i : Nat) => decide ((1 + (i : Int)) * a % p = 1)) ≠ [] := fun z => by
    have := List.filter_eq_nil_iff.mp z (b - 1) (List.mem_range.mpr (by omega))
    rw [show (1 + ((b - 1 : Nat) : Int)) = (b : Int) by omega] at this
    exact this (decide_eq_true e2)
  obtain ⟨i, r, er⟩ := List.exists_cons_of_ne_nil ne
  have mi : i ∈ (List.range (p - 1)).filter fun (i : Nat) => decide ((1 + (i : Int)) * a % p = 1) := by rw [er]; exact List.mem_cons_self
  obtain ⟨m1, m2⟩ := List.mem_filter.mp mi
  have m1 := List.mem_range.mp m1
  have m2 := of_decide_eq_true m2
  exact ⟨1 + (i : Int), r, i, rfl, by omega, by omega, by rw [Int.mul_comm]; exact m2, er⟩
theorem lower_ser (d : Nat) (ys : List Int) : ser p (List.replicate d 0 ++ ys) = mono d 1 * ser p ys := by
  induction d with
  | zero => rw [List.replicate_zero, List.nil_append, mono_0, C_1]; grind
  | succ d ih => rw [List.replicate_succ, List.cons_append, ser_cons, ih, cz_0, C_0, mono_succ]; grind
theorem zip_sub (c : Int) : ∀ (la lb : List Int), la.length = lb.length → ser p ((la.zip lb).map fun q => (q.1 - c * q.2) % p) = ser p la - C (cz p c) * ser p lb
  | [], [], _ => by rw [List.zip_nil_left, List.map_nil, ser_nil]; grind
  | a :: la, b :: lb, e => by
    rw [List.zip_cons_cons, List.map_cons, ser_cons, ser_cons, ser_cons, zip_sub c la lb (by simpa using e), cz_mod, cz_sub, C_sub, cz_mul, C_mul]; grind
  | [], b :: lb, e => by simp at e
  | a :: la, [], e => by simp at e
theorem rest_shorter {rs ys : List Int} {n : Nat} {v yL : Int} (hr : Can p rs) (hn : ys.length = n + 1) (hl : ys.length ≤ rs.length) (yg : ys.getD n 0 = yL) (cv : cz p yL * cz p v = 1) (ne : rs ≠ []) :
    (trimL ((rs.zip (List.replicate (rs.length - ys.length) 0 ++ ys)).map fun q => (q.1 - (rs.getLast ne * v % p) * q.2) % p)).length < rs.length ∧
    ser p (trimL ((rs.zip (List.replicate (rs.length - ys.length) 0 ++ ys)).map fun q => (q.1 - (rs.getLast ne * v % p) * q.2) % p)) = ser p rs - ser p ys * mono (rs.length - ys.length) (cz p (rs.getLast ne * v)) := by
  have red := mapmod_red (p := p) (rs.zip (List.replicate (rs.length - ys.length) 0 ++ ys)) fun q : Int × Int => q.1 - (rs.getLast ne * v % p) * q.2
  have rl := List.length_pos_iff.mpr ne
  have e1 : ser p (trimL ((rs.zip (List.replicate (rs.length - ys.length) 0 ++ ys)).map fun q => (q.1 - (rs.getLast ne * v % p) * q.2) % p)) = ser p rs - mono (rs.length - ys.length) (cz p (rs.getLast ne * v)) * ser p ys := by
    rw [trim_ser red, zip_sub _ _ _ (by simp; omega), lower_ser, cz_mod]
    have := mono_mul 0 (rs.length - ys.length) (cz p (rs.getLast ne * v)) 1
    rw [mono_0, Nat.zero_add, show cz p (rs.getLast ne * v) * 1 = cz p (rs.getLast ne * v) by grind] at this
    rw [← this]; grind
  refine ⟨?_, by rw [e1]; grind⟩
  have gl : rs.getD (rs.length - ys.length + n) 0 = rs.getLast ne := by
    rw [List.getD, List.getElem?_eq_getElem (by omega), List.getLast_eq_getElem]
    simp only [Option.getD_some]
    congr 1; omega
  have := dg_drop (s := ser p rs) (a := rs.length - ys.length) (c := cz p (rs.getLast ne * v)) hn ((ser_dg rs).le (by omega)) (by
    rw [ser_at, gl, yg, cz_mul]; grind)
  rw [← e1] at this
  have := len_of (trim_can red) this
  omega
theorem law_rest_gv {xs ys : List Int} (q : p ∈ FP) (hx : Can p xs) (hy : Can p ys) (ne : ys ≠ []) (hl : xs.length ≤ 400) (hm : ys.length ≤ 400) : ∃ qs rs, Dm p xs ys qs rs ∧ rs.length ≤ xs.length ∧ Gv f__law_rest [.lst (xs.map .int), .lst (ys.map .int), .int (p : Nat)] rs := by
  have pb := FP_le q
  obtain ⟨n, hn⟩ : ∃ n, ys.length = n + 1 := ⟨ys.length - 1, by have := List.length_pos_iff.mpr ne; omega⟩
  have yl := hy.1 _ (List.getLast_mem ne)
  have yn := hy.2 ne
  obtain ⟨v, r, i, ev, v0, v1, em, ef⟩ := back_ex (a := ys.getLast ne) q (by omega) (by omega)
  have la := last_int ne
  have yg : ys.getD n 0 = ys.getLast ne := by rw [List.getD, List.getElem?_eq_getElem (by omega), List.getLast_eq_getElem]; simp [hn]
  have cv : cz p (ys.getLast ne) * cz p v = 1 := by
    rw [← cz_mul, ← cz_1, cz_eq, em, Int.emod_eq_of_lt (by omega) (by omega)]
  generalize ys.getLast ne = yL at *
  suffices w : W (f__law_rest [.lst (xs.map .int), .lst (ys.map .int), .int (p : Nat)] []) fun d h' => ∃ rs : List Int, (∃ i, d = .cel i ∧ h'[i]? = some (.lst (rs.map .int))) ∧ Can p rs ∧ rs.length < ys.length ∧ rs.length ≤ xs.length ∧ ∃ s, Pol s ∧ ser p xs = ser p ys * s + ser p rs by
    obtain ⟨d, h', e, rs, ⟨i, rfl, ei⟩, cr, lt, le, s, ps, es⟩ := w.ex
    obtain ⟨qs, cq, eq⟩ := can_of ps
    exact ⟨qs, rs, ⟨cq, cr, by rw [eq, es], lt⟩, le, i, h', e, ei⟩
  refine w__law_rest ?_
  generalize hQ : (fun (d : D) (h' : Hh) => ∃ rs : List Int, (∃ i, d = .cel i ∧ h'[i]? = some (O.lst (rs.map .int))) ∧ Can p rs ∧ rs.length < ys.length ∧ rs.length ≤ xs.length ∧ ∃ s, Pol s ∧ ser p xs = ser p ys * s + ser p rs) = Q
  simp (disch := walk_at "ln") [-getElem?_pos, -max_ii, -min_ii, -max_t2, -abs_i, max_iO, min_iO, max_tO, abs_iO, List.getElem?_cons_zero, List.getElem?_append_left, t__law_rest_1, t__law_rest_2, wipeL]
  refine w_comp_rngA (fun i => decide ((1 + (i : Int)) * yL % p = 1)) (fun i => .int (1 + (i : Int))) (by unfold LIM; omega) ?_ ?_
  · intro j hj
    refine ⟨_, rfl, ?_, fun _ => ?_⟩
    · simp (disch := walk_at "ln") [-getElem?_pos, -max_ii, -min_ii, -max_t2, -abs_i, max_iO, min_iO, max_tO, abs_iO, List.getElem?_cons_zero, List.getElem?_append_left, la]
    · try simp (disch := walk_at "ln") [-getElem?_pos, -max_ii, -min_ii, -max_t2, -abs_i, max_iO, min_iO, max_tO, abs_iO, List.getElem?_cons_zero, List.getElem?_append_left]
  rw [ef]
  simp (disch := walk_at "ln") [-getElem?_pos, -max_ii, -min_ii, -max_t2, -abs_i, max_iO, min_iO, max_tO, abs_iO, List.getElem?_cons_zero, List.getElem?_append_left, mkL, t__law_rest_3]
  rw [← ev]
  refine w_while (fun m ls h => ∃ (rs : List Int) (i : Nat) (o5 o6 o7 o8 : Option D) (s : Ser (Fin p)), ls = [some (.lst (xs.map .int)), some (.lst (ys.map .int)), some (.int (p : Nat)), some (.cel i), some (.int v), o5, o6, o7, o8] ∧ h[i]? = some (.lst (rs.map .int)) ∧ rs.length = m ∧ Can p rs ∧ rs.length ≤ xs.length ∧ Pol s ∧ ser p xs = ser p ys * s + ser p rs) (n := xs.length) ⟨xs, 0, _, _, _, _, 0, rfl, rfl, rfl, hx, Nat.le_refl _, Pol.zero, by grind⟩ (by unfold FUEL; omega) ?_
  rintro m _ h hm ⟨rs, i, o5, o6, o7, o8, s, rfl, ei, rl, cr, le, ps, es⟩
  simp (disch := walk_at "ln") [-getElem?_pos, -max_ii, -min_ii, -max_t2, -abs_i, max_iO, min_iO, max_tO, abs_iO, List.getElem?_cons_zero, List.getElem?_append_left, ei]
  refine ⟨fun ge => ?_, fun lt => ?_⟩
  · have rne : rs ≠ [] := fun z => by rw [z, List.length_nil] at ge; omega
    have lr := last_int rne
    obtain ⟨sh, se⟩ := rest_shorter (v := v) cr hn ge yg cv rne
    have rb := cr.1 _ (List.getLast_mem rne)
    have c0 := Int.emod_nonneg (rs.getLast rne * v) (show (p : Int) ≠ 0 by omega)
    have c1 := Int.emod_lt_of_pos (rs.getLast rne * v) (show (0 : Int) < p by omega)
    have e0 : ((rs.length : Int) - (ys.length : Int)).toNat = rs.length - ys.length := by omega
    obtain ⟨L, hL⟩ : ∃ L, L = List.replicate (rs.length - ys.length) (0 : Int) ++ ys := ⟨_, rfl⟩
    have rf : List.replicate (rs.length - ys.length) (D.int 0) ++ ys.map D.int = L.map D.int := by rw [hL, List.map_append, List.map_replicate]
    have ll : L.length = rs.length := by rw [hL]; simp; omega
    have Lr : Red p L := fun a ha => by
      rw [hL] at ha
      rcases List.mem_append.mp ha with z | z
      · rw [(List.mem_replicate.mp z).2]; omega
      · exact hy.1 a z
    rw [← hL] at sh se
    clear hL
    generalize hg : rs.getLast rne = g at *
    simp (disch := walk_at "ln") [-getElem?_pos, -max_ii, -min_ii, -max_t2, -abs_i, max_iO, min_iO, max_tO, abs_iO, List.getElem?_cons_zero, List.getElem?_append_left, t__law_rest_4, ei, lr]
    generalize hc : g * v % (p : Int) = c at *
    simp (disch := walk_at "ln") [-getElem?_pos, -max_ii, -min_ii, -max_t2, -abs_i, max_iO, min_iO, max_tO, abs_iO, List.getElem?_cons_zero, List.getElem?_append_left, t__law_rest_5, ei, e0, mkL, rf]
    simp (disch := walk_at "ln") [-getElem?_pos, -max_ii, -min_ii, -max_t2, -abs_i, max_iO, min_iO, max_tO, abs_iO, List.getElem?_cons_zero, List.getElem?_append_left, t__law_rest_6, ei, wipeL]
    refine w_cA (fun q : Int × Int => D.tup [.int q.1, .int q.2]) (rs.zip L) (fun _ => true) (fun q => .int ((q.1 - c * q.2) % p)) (by
      show ((asO h[i]?).bind fun xs => (some (L.map D.int)).map fun ys => zipL xs ys) = _
      rw [ei]
      show some (zipL _ _) = _
      rw [zipD]) (by simp; omega) (fun q hq => ⟨_, rfl, ⟨rfl, rfl⟩, fun _ => ?_⟩) ?_
    · have := Lr _ (List.of_mem_zip hq).2
      try simp (disch := walk_at "ln") [-getElem?_pos, -max_ii, -min_ii, -max_t2, -abs_i, max_iO, min_iO, max_tO, abs_iO, List.getElem?_cons_zero, List.getElem?_append_left]
    rw [List.filter_eq_self.mpr (fun _ _ => rfl), show ((rs.zip L).map fun q => D.int ((q.1 - c * q.2) % p)) = ((rs.zip L).map fun q => (q.1 - c * q.2) % (p : Int)).map D.int by rw [List.map_map]; rfl]
    have t := (law_trimmed_gv (ns := (rs.zip L).map fun q => (q.1 - c * q.2) % (p : Int)) (by simp; omega)).C1 (h := h ++ [.lst (((rs.zip L).map fun q => (q.1 - c * q.2) % (p : Int)).map .int)]) (i := h.length) (by simp)
    have tc := trim_can (mapmod_red (p := p) (rs.zip L) fun q : Int × Int => q.1 - c * q.2)
    generalize trimL ((rs.zip L).map fun q => (q.1 - c * q.2) % (p : Int)) = R2 at *
    generalize ((rs.zip L).map fun q => (q.1 - c * q.2) % (p : Int)) = R1 at *
    simp (disch := walk_at "ln") [-getElem?_pos, -max_ii, -min_ii, -max_t2, -abs_i, max_iO, min_iO, max_tO, abs_iO, List.getElem?_cons_zero, List.getElem?_append_left, mkL, t__law_rest_7, t]
    exact ⟨R2.length, by omega, R2, rfl, rfl, tc, by omega, s + mono (rs.length - ys.length) (cz p (g * v)), ps.add ⟨_, mono_dg _ _⟩, by rw [se, es]; grind⟩
  · simp (disch := walk_at "ln") [-getElem?_pos, -max_ii, -min_ii, -max_t2, -abs_i, max_iO, min_iO, max_tO, abs_iO, List.getElem?_cons_zero, List.getElem?_append_left, t__law_rest_8]
    rw [← hQ]
    exact ⟨rs, ⟨i, rfl, ei⟩, cr, by omega, le, s, ps, es⟩
theorem law_rest_ok {xs ys : List Int} (q : p ∈ FP) (hx : Can p xs) (hy : Can p ys) (ne : ys ≠ []) (hl : xs.length ≤ 400) (hm : ys.length ≤ 400) : ∃ qs rs, Dm p xs ys qs rs ∧ rs.length ≤ xs.length ∧ ∀ h, callM .P f__law_rest [.lst (xs.map .int), .lst (ys.map .int), .int (p : Nat)] h = .ok (.lst (rs.map .int)) h := by
  obtain ⟨qs, rs, a, b, c⟩ := law_rest_gv q hx hy ne hl hm
  exact ⟨qs, rs, a, b, fun h => c.P (by simp [pures, D.pure, pures_ints])⟩
theorem can_times {xs : List Int} {v : Int} (q : p ∈ FP) (hx : Can p xs) (hv : ¬ v % p = 0) : Can p (xs.map fun a => a * v % p) := by
  have K := FP_fld q
  refine ⟨mapmod_red xs _, fun he => ?_⟩
  have hx0 : xs ≠ [] := fun z => he (by rw [z]; rfl)
  rw [List.getLast_map]
  intro z
  have r := hx.1 _ (List.getLast_mem hx0)
  have e : cz p (xs.getLast hx0) * cz p v = 0 := by rw [← cz_mul, cz_zero]; exact z
  refine K.mul ?_ (fun w => hv (cz_zero.mp w)) e
  intro w
  have := cz_inj (p := p) r.1 r.2 (b := 0) (by omega) (by have := p_pos (p := p); omega) (by rw [w, cz_0])
  exact hx.2 hx0 this
theorem map_timP {xs : List Int} {v : Int} (q : p ∈ FP) (hx : Can p xs) (hv : ¬ v % p = 0) : (xs.map fun a => a * v % p) = timP p xs v := can_inj (can_times q hx hv) (timP_can xs v) (by rw [ser_map_mul, timP_ser])
theorem law_divisor_ok {xs ys : List Int} (q : p ∈ FP) (hx : Can p xs) (hy : Can p ys) (ne : xs ≠ [] ∨ ys ≠ []) (hl : xs.length ≤ 400) (hm : ys.length ≤ 400) : ∃ g, Gd p xs ys g ∧ g.length ≤ max xs.length ys.length ∧ ∀ h, callM .P f__law_divisor [.lst (xs.map .int), .lst (ys.map .int), .int (p : Nat)] h = .ok (.lst (g.map .int)) h := by
  have pb := FP_le q
  suffices w : W (f__law_divisor [.lst (xs.map .int), .lst (ys.map .int), .int (p : Nat)] []) fun d h' => ∃ g : List Int, d = .lst (g.map .int) ∧ Gd p xs ys g ∧ g.length ≤ max xs.length ys.length by
    obtain ⟨d, h', e, g, rfl, gd, gl⟩ := w.ex
    exact ⟨g, gd, gl, fun h => callPP (by simp [pures, D.pure, pures_ints]) e (pures_ints g)⟩
  refine w__law_divisor ?_
  generalize hQ : (fun (d : D) (h' : Hh) => ∃ g : List Int, d = .lst (g.map .int) ∧ Gd p xs ys g ∧ g.length ≤ max xs.length ys.length) = P
  simp (disch := walk_at "ln") [-getElem?_pos, -max_ii, -min_ii, -max_t2, -abs_i, max_iO, min_iO, max_tO, abs_iO, List.getElem?_cons_zero, List.getElem?_append_left, t__law_divisor_1]
  refine w_while (fun m ls h => ∃ (a b : List Int) (o3 o4 : Option D), ls = [some (.lst (a.map .int)), some (.lst (b.map .int)), some (.int (p : Nat)), o3, o4] ∧ h = [] ∧ b.length = m ∧ Can p a ∧ Can p b ∧ (a ≠ [] ∨ b ≠ []) ∧ a.length ≤ max xs.length ys.length ∧ b.length ≤ max xs.length ys.length ∧ ∀ g, Gc (ser p a) (ser p b) g → Gc (ser p xs) (ser p ys) g) (n := ys.length) ⟨xs, ys, _, _, rfl, rfl, rfl, hx, hy, ne, by omega, by omega, fun g h => h⟩ (by unfold FUEL; omega) ?_
  rintro m _ _ hm ⟨a, b, o3, o4, rfl, rfl, lb, ca, cb, ne, la, lb2, gc⟩
  simp (disch := walk_at "ln") [-getElem?_pos, -max_ii, -min_ii, -max_t2, -abs_i, max_iO, min_iO, max_tO, abs_iO, List.getElem?_cons_zero, List.getElem?_append_left, ne_ints0]
  by_cases he : b = []
  · refine ⟨fun z => absurd he z, fun _ => ?_⟩
    subst he
    have na : a ≠ [] := by rcases ne with z | z; exact z; exact absurd rfl z
    have l := last_int na
    have yl := ca.1 _ (List.getLast_mem na)
    have yn := ca.2 na
    obtain ⟨v, r, i, ev, v0, v1, em, ef⟩ := back_ex (a := a.getLast na) q (by omega) (by omega)
    have g0 : Gc (ser p a) (ser p []) (ser p a) := by rw [ser_nil]; exact Gc.last (ser_pol a)
    obtain ⟨m1, m2, m3⟩ := made_one q ca na (gc _ g0) em
    have vn : ¬ v % p = 0 := by rw [Int.emod_eq_of_lt (by omega) v1]; omega
    have mt := map_timP q ca vn
    generalize a.getLast na = aL at *
    simp (disch := walk_at "ln") [-getElem?_pos, -max_ii, -min_ii, -max_t2, -abs_i, max_iO, min_iO, max_tO, abs_iO, List.getElem?_cons_zero, List.getElem?_append_left, t__law_divisor_3, wipeL]
    refine w_comp_rngA (fun i => decide ((1 + (i : Int)) * aL % p = 1)) (fun i => .int (1 + (i : Int))) (by unfold LIM; omega) ?_ ?_
    · intro j hj
      refine ⟨_, rfl, ?_, fun _ => ?_⟩
      · simp (disch := walk_at "ln") [-getElem?_pos, -max_ii, -min_ii, -max_t2, -abs_i, max_iO, min_iO, max_tO, abs_iO, List.getElem?_cons_zero, List.getElem?_append_left, l]
      · try simp (disch := walk_at "ln") [-getElem?_pos, -max_ii, -min_ii, -max_t2, -abs_i, max_iO, min_iO, max_tO, abs_iO, List.getElem?_cons_zero, List.getElem?_append_left]
    rw [ef]
    simp (disch := walk_at "ln") [-getElem?_pos, -max_ii, -min_ii, -max_t2, -abs_i, max_iO, min_iO, max_tO, abs_iO, List.getElem?_cons_zero, List.getElem?_append_left, mkL, ← ev, t__law_divisor_4, wipeL]
    refine w_cA D.int a (fun _ => true) (fun a => .int (a * v % p)) rfl (by omega) (fun x hx => ⟨_, rfl, ⟨rfl, rfl⟩, fun _ => ?_⟩) ?_
    · have := ca.1 x hx
      try simp (disch := walk_at "ln") [-getElem?_pos, -max_ii, -min_ii, -max_t2, -abs_i, max_iO, min_iO, max_tO, abs_iO, List.getElem?_cons_zero, List.getElem?_append_left]
    rw [List.filter_eq_self.mpr (fun _ _ => rfl), show (a.map fun a => D.int (a * v % p)) = (a.map fun a => a * v % p).map D.int by rw [List.map_map]; rfl, mt]
    have tl := timP_len (p := p) a v
    generalize timP p a v = G at *
    rw [← hQ]
    exact ⟨G, rfl, ⟨m2, m1, m3⟩, by omega⟩
  · refine ⟨fun _ => ?_, fun z => absurd z he⟩
    obtain ⟨qs, rs, dm, rl, pv⟩ := law_rest_ok q ca cb he (by omega) (by omega)
    obtain ⟨cq, cr, e, lt⟩ := dm
    simp (disch := walk_at "ln") [-getElem?_pos, -max_ii, -min_ii, -max_t2, -abs_i, max_iO, min_iO, max_tO, abs_iO, List.getElem?_cons_zero, List.getElem?_append_left, t__law_divisor_2, pv]
    exact ⟨rs.length, by omega, b, rs, ⟨rfl, rfl⟩, rfl, cb, cr, .inl he, by omega, by omega, fun g h => gc g (h.step (ser_pol qs) e)⟩
end
end U
namespace U
open PySem PySem.Spec PyProof.Rows L2 Tb
def b__law_is_quotient : Ss := (.cons (.ifs (.bop .Or (.cons (.not (.isi (.var 0) (.bty "tuple"))) (.cons (.cmp .NotEq (.bi .len false (.cons (.var 0) .nil)) (.int 2)) .nil))) (.cons (.ret (.bl false))
  .nil) .nil)
  (.cons (.ifs (.bop .Or (.cons (.not (.call .P "_law_is_poly" f__law_is_poly (.cons (.idx (.var 0) (.int 0)) (.cons (.var 1) .nil)))) (.cons (.not (.call .P "_law_is_poly" f__law_is_poly (.cons (.idx (.var 0) (.int 1)) (.cons (.var 1) .nil)))) .nil))) (.cons (.ret (.bl false))
  .nil) .nil)
  (.cons (.ret (.bop .And (.cons (.cmp .NotEq (.idx (.var 0) (.int 1)) (.lst false .nil)) (.cons (.cmp .Eq (.idx (.idx (.var 0) (.int 1)) (.neg (.int 1))) (.int 1)) (.cons (.cmp .Eq (.call .P "_law_divisor" f__law_divisor (.cons (.idx (.var 0) (.int 0)) (.cons (.idx (.var 0) (.int 1)) (.cons (.var 1) .nil)))) (.lst false (.cons (.int 1) .nil))) .nil)))))
  .nil)))
def f__law_is_quotient : Fn := fnS cs0 2 2 b__law_is_quotient
def t__law_is_quotient_5 : Ss := .cons (.ret (.bop .And (.cons (.cmp .NotEq (.idx (.var 0) (.int 1)) (.lst false .nil)) (.cons (.cmp .Eq (.idx (.idx (.var 0) (.int 1)) (.neg (.int 1))) (.int 1)) (.cons (.cmp .Eq (.call .P "_law_divisor" f__law_divisor (.cons (.idx (.var 0) (.int 0)) (.cons (.idx (.var 0) (.int 1)) (.cons (.var 1) .nil)))) (.lst false (.cons (.int 1) .nil))) .nil))))) .nil
def t__law_is_quotient_4 : Ss := .cons (.ret (.bl false)) .nil
def t__law_is_quotient_3 : Ss := .cons (.ifs (.bop .Or (.cons (.not (.call .P "_law_is_poly" f__law_is_poly (.cons (.idx (.var 0) (.int 0)) (.cons (.var 1) .nil)))) (.cons (.not (.call .P "_law_is_poly" f__law_is_poly (.cons (.idx (.var 0) (.int 1)) (.cons (.var 1) .nil)))) .nil))) t__law_is_quotient_4 .nil) t__law_is_quotient_5
def t__law_is_quotient_2 : Ss := .cons (.ret (.bl false)) .nil
def t__law_is_quotient_1 : Ss := .cons (.ifs (.bop .Or (.cons (.not (.isi (.var 0) (.bty "tuple"))) (.cons (.cmp .NotEq (.bi .len false (.cons (.var 0) .nil)) (.int 2)) .nil))) t__law_is_quotient_2 .nil) t__law_is_quotient_3
theorem u__law_is_quotient : b__law_is_quotient = t__law_is_quotient_1 := rfl
/-- thing, p -/
theorem w__law_is_quotient {x0 x1 : D} {h : Hh} {Q : D → Hh → Prop} (w : WS (evSs cs0 t__law_is_quotient_1 [some x0, some x1] h) (fun _ h1 => Q .non h1) Q no2 no2) : W (f__law_is_quotient [x0, x1] h) Q := by
  rw [← u__law_is_quotient] at w
  exact w_fnS2 (C := cs0) (n := 2) (np := 2) (b := b__law_is_quotient) rfl rfl w
theorem r__law_is_quotient {x0 x1 : D} {h : Hh} : f__law_is_quotient [x0, x1] h = endR (evSs cs0 t__law_is_quotient_1 [some x0, some x1] h) := by
  rw [← u__law_is_quotient]
  exact fnS_run2 (C := cs0) (n := 2) (np := 2) (b := b__law_is_quotient) rfl rfl
section
open Po
theorem fz_lp {h : Hh} {i j : Nat} {q r : List Int} (a : h[i]? = some (.lst (q.map .int))) (b : h[j]? = some (.lst (r.map .int))) : fz 0 h (.tup [.cel i, .cel j]) = some (lp (q, r)) := by
  have one : ∀ (k : Nat) (ns : List Int), h[k]? = some (.lst (ns.map .int)) → frz 0 h 7 (.cel k) = some (.lst (ns.map .int)) := fun k ns e => by
    show (if k < 0 then some (D.cel k) else (asO h[k]?).bind fun xs => (frzL (frz 0 h 6) xs).map .lst) = _
    rw [if_neg (Nat.not_lt_zero _), e]
    show (frzL (frz 0 h 6) (ns.map .int)).map D.lst = _
    rw [frz_ints]; rfl
  show (if (D.tup [.cel i, .cel j]).pure = true then _ else frz 0 h 8 (.tup [.cel i, .cel j])) = _
  rw [if_neg (by simp [D.pure, pures])]
  show (frzL (frz 0 h 7) [.cel i, .cel j]).map D.tup = _
  simp [frzL, one i q a, one j r b, lp]
@[simp] theorem fz_lpP {h : Hh} {q : List Int × List Int} : fz 0 h (lp q) = some (lp q) := fz_pure (lp_pure q)
variable {p : Nat} [NeZero p]
theorem law_is_quotient_ok {t b : List Int} {h : Hh} (q : p ∈ FP) (qu : Qu p t b) (hl : t.length ≤ 200) (hm : b.length ≤ 200) : callM .P f__law_is_quotient [lp (t, b), .int (p : Nat)] h = .ok (.bl true) h := by
  have K := FP_fld q
  have pp : pures [lp (t, b), .int (p : Nat)] = true := by simp [pures, lp_pure, D.pure]
  have i1 := fun h => law_is_poly_ok (h := h) qu.ct (by omega)
  have i2 := fun h => law_is_poly_ok (h := h) qu.cb (by omega)
  obtain ⟨z, o⟩ := qu.one
  have la := last_int z
  obtain ⟨g, gd, gl, gv⟩ := law_divisor_ok q qu.ct qu.cb (.inr z) (by omega) (by omega)
  have := gd.uniq K (qu.gd q)
  subst this
  have e1 := fun h => eq_ints (ns := [1]) (ms := [1]) (h := h)
  simp only [List.map_cons, List.map_nil, decide_true] at e1 gv
  rw [o] at la
  refine callPP (h' := []) pp (r__law_is_quotient.trans ?_) rfl
  simp [lp, t__law_is_quotient_1, t__law_is_quotient_3, i1, i2, t__law_is_quotient_5, ne_ints0, z, la, gv, e1]
end
end U
namespace U
open PySem PySem.Spec PyProof.Rows L2 Tb
def b__law_by : Ss := (.cons (.asg (.nm 3) (.bin true .Mult (.lst false (.cons (.int 0) .nil)) (.bi .max false (.cons (.int 0) (.cons (.bin false .Add (.bin false .Sub (.bi .len false (.cons (.var 0) .nil)) (.bi .len false (.cons (.var 1) .nil))) (.int 1)) .nil)))))
  (.cons (.asg (.nm 4) (.bi .list true (.cons (.var 0) .nil)))
  (.cons (.asg (.nm 5) (.idx (.comp false [9] (.nm 9) (.rng (.cons (.int 1) (.cons (.var 2) .nil))) (.cons (.cmp .Eq (.bin false .Mod (.bin false .Mult (.var 9) (.idx (.var 1) (.neg (.int 1)))) (.var 2)) (.int 1)) .nil) (.var 9)) (.int 0)))
  (.cons (.fr (.nm 6) (.rng (.cons (.bin false .Sub (.bi .len false (.cons (.var 3) .nil)) (.int 1)) (.cons (.neg (.int 1)) (.cons (.neg (.int 1)) .nil)))) (.cons (.sub (.var 3) (.var 6) (.bin false .Mod (.bin false .Mult (.idx (.var 4) (.bin false .Sub (.bin false .Add (.var 6) (.bi .len false (.cons (.var 1) .nil))) (.int 1))) (.var 5)) (.var 2)))
  (.cons (.fr (.nm 7) (.rng (.cons (.bi .len false (.cons (.var 1) .nil)) .nil)) (.cons (.asg (.nm 8) (.bin false .Mult (.idx (.var 3) (.var 6)) (.idx (.var 1) (.var 7))))
  (.cons (.sub (.var 4) (.bin false .Add (.var 6) (.var 7)) (.bin false .Mod (.bin false .Sub (.idx (.var 4) (.bin false .Add (.var 6) (.var 7))) (.var 8)) (.var 2)))
  .nil)))
  .nil)))
  (.cons (.ret (.call .C "_law_trimmed" f__law_trimmed (.cons (.var 3) .nil)))
  .nil)))))
def f__law_by : Fn := fnS cs0 10 3 b__law_by
def t__law_by_9 : Ss := .cons (.ret (.call .C "_law_trimmed" f__law_trimmed (.cons (.var 3) .nil))) .nil
def t__law_by_8 : Ss := .cons (.sub (.var 4) (.bin false .Add (.var 6) (.var 7)) (.bin false .Mod (.bin false .Sub (.idx (.var 4) (.bin false .Add (.var 6) (.var 7))) (.var 8)) (.var 2))) .nil
def t__law_by_7 : Ss := .cons (.asg (.nm 8) (.bin false .Mult (.idx (.var 3) (.var 6)) (.idx (.var 1) (.var 7)))) t__law_by_8
def t__law_by_6 : Ss := .cons (.fr (.nm 7) (.rng (.cons (.bi .len false (.cons (.var 1) .nil)) .nil)) t__law_by_7) .nil
def t__law_by_5 : Ss := .cons (.sub (.var 3) (.var 6) (.bin false .Mod (.bin false .Mult (.idx (.var 4) (.bin false .Sub (.bin false .Add (.var 6) (.bi .len false (.cons (.var 1) .nil))) (.int 1))) (.var 5)) (.var 2))) t__law_by_6
def t__law_by_4 : Ss := .cons (.fr (.nm 6) (.rng (.cons (.bin false .Sub (.bi .len false (.cons (.var 3) .nil)) (.int 1)) (.cons (.neg (.int 1)) (.cons (.neg (.int 1)) .nil)))) t__law_by_5) t__law_by_9
def t__law_by_3 : Ss := .cons (.asg (.nm 5) (.idx (.comp false [9] (.nm 9) (.rng (.cons (.int 1) (.cons (.var 2) .nil))) (.cons (.cmp .Eq (.bin false .Mod (.bin false .Mult (.var 9) (.idx (.var 1) (.neg (.int 1)))) (.var 2)) (.int 1)) .nil) (.var 9)) (.int 0))) t__law_by_4
def t__law_by_2 : Ss := .cons (.asg (.nm 4) (.bi .list true (.cons (.var 0) .nil))) t__law_by_3
def t__law_by_1 : Ss := .cons (.asg (.nm 3) (.bin true .Mult (.lst false (.cons (.int 0) .nil)) (.bi .max false (.cons (.int 0) (.cons (.bin false .Add (.bin false .Sub (.bi .len false (.cons (.var 0) .nil)) (.bi .len false (.cons (.var 1) .nil))) (.int 1)) .nil))))) t__law_by_2
theorem u__law_by : b__law_by = t__law_by_1 := rfl
/-- one, other, p, found, rest, back, at, k, less, number -/
theorem w__law_by {x0 x1 x2 : D} {h : Hh} {Q : D → Hh → Prop} (w : WS (evSs cs0 t__law_by_1 [some x0, some x1, some x2, none, none, none, none, none, none, none] h) (fun _ h1 => Q .non h1) Q no2 no2) : W (f__law_by [x0, x1, x2] h) Q := by
  rw [← u__law_by] at w
  exact w_fnS2 (C := cs0) (n := 10) (np := 3) (b := b__law_by) rfl rfl w
theorem r__law_by {x0 x1 x2 : D} {h : Hh} : f__law_by [x0, x1, x2] h = endR (evSs cs0 t__law_by_1 [some x0, some x1, some x2, none, none, none, none, none, none, none] h) := by
  rw [← u__law_by]
  exact fnS_run2 (C := cs0) (n := 10) (np := 3) (b := b__law_by) rfl rfl
def b__law_quotient : Ss := (.cons (.asg (.nm 4) (.call .F "_law_poly" f__law_poly (.cons (.var 0) (.cons (.var 1) (.cons (.var 2) .nil)))))
  (.cons (.asg (.nm 5) (.call .F "_law_poly" f__law_poly (.cons (.var 0) (.cons (.var 1) (.cons (.var 3) .nil)))))
  (.cons (.ifs (.bop .Or (.cons (.cmp .Eq (.var 5) (.lst false .nil)) (.cons (.cmp .Eq (.var 4) (.lst false .nil)) .nil))) (.cons (.asg (.nm 5) (.lst false (.cons (.int 1) .nil)))
  .nil) .nil)
  (.cons (.asg (.nm 6) (.call .P "_law_divisor" f__law_divisor (.cons (.var 4) (.cons (.var 5) (.cons (.var 1) .nil)))))
  (.cons (.asg (.nm 7) (.idx (.comp false [8] (.nm 8) (.rng (.cons (.int 1) (.cons (.var 1) .nil))) (.cons (.cmp .Eq (.bin false .Mod (.bin false .Mult (.var 8) (.idx (.var 5) (.neg (.int 1)))) (.var 1)) (.int 1)) .nil) (.var 8)) (.int 0)))
  (.cons (.asg (.nm 4) (.comp false [8] (.nm 8) (.seq (.call .P "_law_by" f__law_by (.cons (.var 4) (.cons (.var 6) (.cons (.var 1) .nil))))) .nil (.bin false .Mod (.bin false .Mult (.var 8) (.var 7)) (.var 1))))
  (.cons (.ret (.tup (.cons (.var 4) (.cons (.comp false [8] (.nm 8) (.seq (.call .P "_law_by" f__law_by (.cons (.var 5) (.cons (.var 6) (.cons (.var 1) .nil))))) .nil (.bin false .Mod (.bin false .Mult (.var 8) (.var 7)) (.var 1))) .nil))))
  .nil)))))))
def f__law_quotient : Fn := fnS cs0 9 4 b__law_quotient
def t__law_quotient_8 : Ss := .cons (.ret (.tup (.cons (.var 4) (.cons (.comp false [8] (.nm 8) (.seq (.call .P "_law_by" f__law_by (.cons (.var 5) (.cons (.var 6) (.cons (.var 1) .nil))))) .nil (.bin false .Mod (.bin false .Mult (.var 8) (.var 7)) (.var 1))) .nil)))) .nil
def t__law_quotient_7 : Ss := .cons (.asg (.nm 4) (.comp false [8] (.nm 8) (.seq (.call .P "_law_by" f__law_by (.cons (.var 4) (.cons (.var 6) (.cons (.var 1) .nil))))) .nil (.bin false .Mod (.bin false .Mult (.var 8) (.var 7)) (.var 1)))) t__law_quotient_8
def t__law_quotient_6 : Ss := .cons (.asg (.nm 7) (.idx (.comp false [8] (.nm 8) (.rng (.cons (.int 1) (.cons (.var 1) .nil))) (.cons (.cmp .Eq (.bin false .Mod (.bin false .Mult (.var 8) (.idx (.var 5) (.neg (.int 1)))) (.var 1)) (.int 1)) .nil) (.var 8)) (.int 0))) t__law_quotient_7
def t__law_quotient_5 : Ss := .cons (.asg (.nm 6) (.call .P "_law_divisor" f__law_divisor (.cons (.var 4) (.cons (.var 5) (.cons (.var 1) .nil))))) t__law_quotient_6
def t__law_quotient_4 : Ss := .cons (.asg (.nm 5) (.lst false (.cons (.int 1) .nil))) .nil
def t__law_quotient_3 : Ss := .cons (.ifs (.bop .Or (.cons (.cmp .Eq (.var 5) (.lst false .nil)) (.cons (.cmp .Eq (.var 4) (.lst false .nil)) .nil))) t__law_quotient_4 .nil) t__law_quotient_5
def t__law_quotient_2 : Ss := .cons (.asg (.nm 5) (.call .F "_law_poly" f__law_poly (.cons (.var 0) (.cons (.var 1) (.cons (.var 3) .nil))))) t__law_quotient_3
def t__law_quotient_1 : Ss := .cons (.asg (.nm 4) (.call .F "_law_poly" f__law_poly (.cons (.var 0) (.cons (.var 1) (.cons (.var 2) .nil))))) t__law_quotient_2
theorem u__law_quotient : b__law_quotient = t__law_quotient_1 := rfl
/-- deck, p, a, b, top, bottom, both, back, number -/
theorem w__law_quotient {x0 x1 x2 x3 : D} {h : Hh} {Q : D → Hh → Prop} (w : WS (evSs cs0 t__law_quotient_1 [some x0, some x1, some x2, some x3, none, none, none, none, none] h) (fun _ h1 => Q .non h1) Q no2 no2) : W (f__law_quotient [x0, x1, x2, x3] h) Q := by
  rw [← u__law_quotient] at w
  exact w_fnS2 (C := cs0) (n := 9) (np := 4) (b := b__law_quotient) rfl rfl w
theorem r__law_quotient {x0 x1 x2 x3 : D} {h : Hh} : f__law_quotient [x0, x1, x2, x3] h = endR (evSs cs0 t__law_quotient_1 [some x0, some x1, some x2, some x3, none, none, none, none, none] h) := by
  rw [← u__law_quotient]
  exact fnS_run2 (C := cs0) (n := 9) (np := 4) (b := b__law_quotient) rfl rfl
section
open Po
variable {p : Nat} [NeZero p]
theorem law_by_gv {xs ys : List Int} (q : p ∈ FP) (hx : Can p xs) (hy : Can p ys) (ne : ys ≠ []) (hl : xs.length ≤ 400) (hm : ys.length ≤ 400) : ∃ qs rs, Dm p xs ys qs rs ∧ qs.length ≤ xs.length + 1 - ys.length ∧ Gv f__law_by [.lst (xs.map .int), .lst (ys.map .int), .int (p : Nat)] qs := by
  have pb := FP_le q
  obtain ⟨n, hn⟩ : ∃ n, ys.length = n + 1 := ⟨ys.length - 1, by have := List.length_pos_iff.mpr ne; omega⟩
  have yl := hy.1 _ (List.getLast_mem ne)
  have yn := hy.2 ne
  obtain ⟨v, r0, i0, ev, v0, v1, em, ef⟩ := back_ex (a := ys.getLast ne) q (by omega) (by omega)
  have la := last_int ne
  have yg : ys.getD n 0 = ys.getLast ne := by rw [List.getD, List.getElem?_eq_getElem (by omega), List.getLast_eq_getElem]; simp [hn]
  have cv : cz p (ys.getLast ne) * cz p v = 1 := by
    rw [← cz_mul, ← cz_1, cz_eq, em, Int.emod_eq_of_lt (by omega) (by omega)]
  generalize ys.getLast ne = yL at *
  obtain ⟨m, hmm⟩ : ∃ m, m = xs.length + 1 - ys.length := ⟨_, rfl⟩
  have e0 : (max 0 ((xs.length : Int) - (ys.length : Int) + 1)).toNat = m := by omega
  have rf : (List.replicate m [D.int 0]).flatten = (List.replicate m (0 : Int)).map D.int := by induction m with | zero => rfl | succ n ih => rw [List.replicate_succ, List.flatten_cons, List.replicate_succ, List.map_cons]; simp
  suffices w : W (f__law_by [.lst (xs.map .int), .lst (ys.map .int), .int (p : Nat)] []) fun d h' => ∃ Q R : List Int, Q.length = m ∧ R.length = xs.length ∧ Red p Q ∧ Red p R ∧ ser p xs = ser p ys * ser p Q + ser p R ∧ Dg (ser p R) n ∧ ∃ i, d = .cel i ∧ h'[i]? = some (.lst ((trimL Q).map .int)) by
    obtain ⟨d, h', e, Q, R, lQ, lR, rQ, rR, es, dg, i, rfl, a⟩ := w.ex
    refine ⟨trimL Q, trimL R, ⟨trim_can rQ, trim_can rR, by rw [trim_ser rQ, trim_ser rR, es], ?_⟩, by have := trim_len rQ; omega, i, h', e, a⟩
    have := len_of (trim_can rR) (n := n) (by rw [trim_ser rR]; exact dg)
    omega
  refine w__law_by ?_
  generalize hQ : (fun (d : D) (h' : Hh) => ∃ Q R : List Int, Q.length = m ∧ R.length = xs.length ∧ Red p Q ∧ Red p R ∧ ser p xs = ser p ys * ser p Q + ser p R ∧ Dg (ser p R) n ∧ ∃ i, d = D.cel i ∧ h'[i]? = some (O.lst ((trimL Q).map .int))) = P
  simp (disch := walk_at "ln") [-getElem?_pos, -max_ii, -min_ii, -max_t2, -abs_i, max_iO, min_iO, max_tO, abs_iO, List.getElem?_cons_zero, List.getElem?_append_left, t__law_by_1, t__law_by_2, e0, rf, t__law_by_3, wipeL]
  refine w_comp_rngA (fun i => decide ((1 + (i : Int)) * yL % p = 1)) (fun i => .int (1 + (i : Int))) (by unfold LIM; omega) ?_ ?_
  · intro j hj
    refine ⟨_, rfl, ?_, fun _ => ?_⟩
    · simp (disch := walk_at "ln") [-getElem?_pos, -max_ii, -min_ii, -max_t2, -abs_i, max_iO, min_iO, max_tO, abs_iO, List.getElem?_cons_zero, List.getElem?_append_left, la]
    · try simp (disch := walk_at "ln") [-getElem?_pos, -max_ii, -min_ii, -max_t2, -abs_i, max_iO, min_iO, max_tO, abs_iO, List.getElem?_cons_zero, List.getElem?_append_left]
  rw [ef]
  have rg : rngOf [.int ((m : Int) - 1), .int (-1), .int (-1)] = some (.rng ((m : Int) - 1) m (-1)) := by
    rw [rng3O (by omega) (by omega) (by omega) (by omega)]
    congr 2; omega
  simp (disch := walk_at "ln") [-getElem?_pos, -max_ii, -min_ii, -max_t2, -abs_i, max_iO, min_iO, max_tO, abs_iO, List.getElem?_cons_zero, List.getElem?_append_left, mkL, ← ev, t__law_by_4, rg]
  obtain ⟨I, hI⟩ := opq fun (j : Nat) (ls : Ls) (h' : Hh) => ∃ (Q R : List Int) (o6 o7 o8 o9 : Option D), ls = [some (.lst (xs.map .int)), some (.lst (ys.map .int)), some (.int (p : Nat)), some (.cel 0), some (.cel 1), some (.int v), o6, o7, o8, o9] ∧ h' = [.lst (Q.map .int), .lst (R.map .int)] ∧ Q.length = m ∧ R.length = xs.length ∧ Red p Q ∧ Red p R ∧ ser p xs = ser p ys * ser p Q + ser p R ∧ Dg (ser p R) (m - j + n) ∧ ∀ i, i < m - j → Q.getD i 0 = 0
  refine w_for I (it := .rng ((m : Int) - 1) m (-1)) (xs := rngL ((m : Int) - 1) (-1) m) rfl rfl ?_ ?_ ?_
  · rw [hI]
    refine ⟨List.replicate m 0, xs, _, _, _, _, rfl, by rw [List.map_replicate], by simp, rfl, fun a ha => by rw [(List.mem_replicate.mp ha).2]; omega, hx.1, by rw [ser_rep0]; grind, ?_, fun i hi => ?_⟩
    · exact (ser_dg xs).le (by omega)
    · rw [List.getD, List.getElem?_replicate]; split <;> rfl
  · intro j x _ _ ex w
    have hj : j < m := by have := (List.getElem?_eq_some_iff.mp ex).1; rw [rngL_len] at this; exact this
    rw [rngL_get _ _ _ _ hj] at ex
    cases ex
    rw [hI] at w
    obtain ⟨Q, R, o6, o7, o8, o9, rfl, rfl, lQ, lR, rQ, rR, es, dg, zs⟩ := w
    obtain ⟨a, ha⟩ : ∃ a : Nat, a = m - 1 - j := ⟨_, rfl⟩
    have ea : (m : Int) - 1 + (j : Int) * -1 = (a : Int) := by omega
    rw [ea]
    refine ⟨_, rfl, ?_⟩
    have gb := getD_red rR (a + n)
    have at1 := atI_ints (F := R) (k := a + n) (by omega)
    have i1 : (a : Int) + (ys.length : Int) - 1 = ((a + n : Nat) : Int) := by omega
    have z0 := zs a (by omega)
    have c0 := Int.emod_nonneg (R.getD (a + n) 0 * v) (show (p : Int) ≠ 0 by omega)
    have c1 := Int.emod_lt_of_pos (R.getD (a + n) 0 * v) (show (0 : Int) < p by omega)
    have cc : cz p (R.getD (a + n) 0 * v % p) * cz p yL = cz p (R.getD (a + n) 0) := by
      rw [cz_mod, cz_mul]
      grind
    have dr := dg_drop (s := ser p R) (a := a) (c := cz p (R.getD (a + n) 0 * v % p)) hn (dg.le (by omega)) (by rw [yg, cc, ser_at])
    obtain ⟨rQ', eQ'⟩ := set_ok (k := a) (c := R.getD (a + n) 0 * v % p) (by omega) rQ z0 c0 c1
    clear z0
    generalize hr : R.getD (a + n) 0 = r at *
    generalize hc : r * v % p = c at *
    rw [Int.natCast_add] at at1 i1
    simp (disch := walk_at "ln") [-getElem?_pos, -max_ii, -min_ii, -max_t2, -abs_i, max_iO, min_iO, max_tO, abs_iO, List.getElem?_cons_zero, List.getElem?_append_left, t__law_by_5, i1, at1, hc]
    have ln2 : ((Q.map D.int).set a (D.int c)) = (Q.set a c).map D.int := by rw [List.map_set]
    rw [ln2]
    have ql : (Q.set a c).length = m := by simpa using lQ
    have qa : (Q.set a c).getD a 0 = c := by rw [List.getD, List.getElem?_set_self (by omega)]; rfl
    have zs2 : ∀ i, i < a → (Q.set a c).getD i 0 = 0 := fun i hi => by
      rw [List.getD, List.getElem?_set_ne (by omega)]; exact zs i (by omega)
    generalize Q.set a c = Q2 at *
    have aq := atI_ints (F := Q2) (k := a) (by omega)
    rw [qa] at aq
    obtain ⟨J, hJ⟩ := opq fun (k : Nat) (ls : Ls) (h' : Hh) => ∃ (R2 : List Int) (o7 o8 : Option D), ls = [some (.lst (xs.map .int)), some (.lst (ys.map .int)), some (.int (p : Nat)), some (.cel 0), some (.cel 1), some (.int v), some (.int (a : Nat)), o7, o8, o9] ∧ h' = [.lst (Q2.map .int), .lst (R2.map .int)] ∧ R2.length = xs.length ∧ Red p R2 ∧ ser p R2 = ser p R - mono a (cz p c) * ser p (ys.take k)
    simp (disch := walk_at "ln") [-getElem?_pos, -max_ii, -min_ii, -max_t2, -abs_i, max_iO, min_iO, max_tO, abs_iO, List.getElem?_cons_zero, List.getElem?_append_left, t__law_by_6]
    refine w_rng0 J (by rw [hJ]; exact ⟨R, _, _, rfl, rfl, lR, rR, by rw [List.take_zero, ser_nil]; grind⟩) ?_ ?_
    · intro k _ _ hk w
      rw [hJ] at w
      obtain ⟨R2, o7, o8, rfl, rfl, lR2, rR2, eR2⟩ := w
      refine ⟨_, rfl, ?_⟩
      have yk := hy.1 _ (List.getElem_mem hk)
      have ay := atI_ints (F := ys) (k := k) hk
      have gy : ys.getD k 0 = ys[k] := by rw [List.getD, List.getElem?_eq_getElem hk]; rfl
      rw [gy] at ay
      have fb := getD_red rR2 (a + k)
      have ea := atI_ints (F := R2) (k := a + k) (by omega)
      rw [Int.natCast_add] at ea
      have tn : ((a : Int) + (k : Int)).toNat = a + k := by omega
      have st := part_in (c * ys[k]) (k := a + k) (by omega) rR2
      generalize R2.getD (a + k) 0 = r2 at *
      simp (disch := walk_at "ln") [-getElem?_pos, -max_ii, -min_ii, -max_t2, -abs_i, max_iO, min_iO, max_tO, abs_iO, List.getElem?_cons_zero, List.getElem?_append_left, t__law_by_7, ea, tn, aq, ay, t__law_by_8]
      rw [hJ]
      refine ⟨R2.set (a + k) ((r2 - c * ys[k]) % p), _, _, rfl, by rw [List.map_set], by simpa using lR2, st.1, ?_⟩
      rw [st.2, eR2, ser_take_succ ys k hk, mono_split]; grind
    · intro _ _ w
      rw [hJ] at w
      obtain ⟨R2, o7, o8, rfl, rfl, lR2, rR2, eR2⟩ := w
      rw [List.take_length] at eR2
      try simp (disch := walk_at "ln") [-getElem?_pos, -max_ii, -min_ii, -max_t2, -abs_i, max_iO, min_iO, max_tO, abs_iO, List.getElem?_cons_zero, List.getElem?_append_left]
      rw [hI]
      refine ⟨Q2, R2, _, _, _, _, rfl, rfl, ql, lR2, rQ', rR2, ?_, ?_, fun i hi => zs2 i (by omega)⟩
      · rw [eR2, eQ', es]; grind
      · rw [eR2, show m - (j + 1) + n = a + n by omega]; exact dr
  · intro _ _ w
    rw [rngL_len, hI] at w
    obtain ⟨Q, R, o6, o7, o8, o9, rfl, rfl, lQ, lR, rQ, rR, es, dg, zs⟩ := w
    rw [Nat.sub_self, Nat.zero_add] at dg
    have t1 := (law_trimmed_gv (ns := Q) (by omega)).C1 (h := [.lst (Q.map .int), .lst (R.map .int)]) (i := 0) rfl
    simp (disch := walk_at "ln") [-getElem?_pos, -max_ii, -min_ii, -max_t2, -abs_i, max_iO, min_iO, max_tO, abs_iO, List.getElem?_cons_zero, List.getElem?_append_left, t__law_by_9, t1]
    rw [← hQ]
    exact ⟨Q, R, lQ, lR, rQ, rR, es, dg, 2, rfl, rfl⟩
/-- the last number of a product with one whose last is 1 -/
theorem last_mul {g qs ys : List Int} (q : p ∈ FP) (cg : Can p g) (ge : g ≠ []) (g1 : g.getLast ge = 1) (cq : Can p qs) (nq : qs ≠ []) (cy : Can p ys) (ny : ys ≠ []) (e : ser p ys = ser p g * ser p qs) : ys.getLast ny = qs.getLast nq := by
  have K := FP_fld q
  have l1 := List.length_pos_iff.mpr ge
  have l2 := List.length_pos_iff.mpr nq
  have l3 := List.length_pos_iff.mpr ny
  have s1 := cg.sz
  have s2 := cq.sz
  rw [show g.length = (g.length - 1) + 1 by omega] at s1
  rw [show qs.length = (qs.length - 1) + 1 by omega] at s2
  have s3 := Sz.mul K s1 s2
  rw [← e] at s3
  have ll := s3.uniq cy.sz
  have := (lead s1.1 s2.1).1
  rw [← e] at this
  have gl : ∀ (l : List Int) (hl : l ≠ []), l.getD (l.length - 1) 0 = l.getLast hl := fun l hl => by
    have := List.length_pos_iff.mpr hl
    rw [List.getD, List.getElem?_eq_getElem (by omega), List.getLast_eq_getElem]; rfl
  rw [ser_at, ser_at, ser_at, gl g ge, gl qs nq, show g.length - 1 + (qs.length - 1) = ys.length - 1 by omega, gl ys ny, g1, cz_1] at this
  have y := cy.1 _ (List.getLast_mem ny)
  have z := cq.1 _ (List.getLast_mem nq)
  exact cz_inj (p := p) y.1 y.2 z.1 z.2 (by rw [this]; grind)
theorem quotient5W {B d : Nat} {h : Hh} {T a b : Int} {Q : D → Hh → Prop} (s : DkA B d h T) (hB : B ≤ h.length) (hT : T < 400000) (q : p ∈ FP) (a0 : 0 ≤ a) (a1 : a ≤ 100) (b0 : 1 ≤ b) (b1 : b ≤ 100) (k : ∀ t u h', Qu p t u → (t.length : Int) ≤ a → (u.length : Int) ≤ b → DkA B d h' (T + 10 + 2 * a + 2 * b) → Keep B h h' → Q (lp (t, u)) h') : W (f__law_quotient [.cel d, .int (p : Nat), .int a, .int b] h) Q := by
  have pb := FP_le q
  have K := FP_fld q
  refine w__law_quotient ?_
  simp (disch := walk_at "ln") [-getElem?_pos, -max_ii, -min_ii, -max_t2, -abs_i, max_iO, min_iO, max_tO, abs_iO, List.getElem?_cons_zero, List.getElem?_append_left, t__law_quotient_1]
  refine poly5W s hB (by omega) q (by omega) (by omega) fun xs h1 cx xl s l1 => ?_
  have hB1 : B ≤ h1.length := by rw [l1.1]; exact hB
  simp (disch := walk_at "ln") [-getElem?_pos, -max_ii, -min_ii, -max_t2, -abs_i, max_iO, min_iO, max_tO, abs_iO, List.getElem?_cons_zero, List.getElem?_append_left, t__law_quotient_2]
  refine poly5W s hB1 (by omega) q (by omega) (by omega) fun ys h2 cy yl s l2 => ?_
  have l := l1.trans l2
  simp (disch := walk_at "ln") [-getElem?_pos, -max_ii, -min_ii, -max_t2, -abs_i, max_iO, min_iO, max_tO, abs_iO, List.getElem?_cons_zero, List.getElem?_append_left, t__law_quotient_3, eq_ints0]
  have go : ∀ (ys : List Int) (N : Ls → Hh → Prop), Can p ys → ys ≠ [] → (ys.length : Int) ≤ b → WS (evSs cs0 t__law_quotient_5 [some (.cel d), some (.int (p : Nat)), some (.int a), some (.int b), some (.lst (xs.map .int)), some (.lst (ys.map .int)), none, none, none] h2) N Q no2 no2 := by
    intro ys N cy ny yl
    obtain ⟨g, gd, gl, gp⟩ := law_divisor_ok q cx cy (.inr ny) (by omega) (by omega)
    obtain ⟨cg, gc, ge, g1⟩ := gd
    have yL := cy.1 _ (List.getLast_mem ny)
    have yn := cy.2 ny
    have la := last_int ny
    obtain ⟨v, r0, i0, ev, v0, v1, em, ef⟩ := back_ex (a := ys.getLast ny) q (by omega) (by omega)
    obtain ⟨q1, r1, d1, ql1, gv1⟩ := law_by_gv q cx cg ge (by omega) (by omega)
    obtain ⟨q2, r2, d2, ql2, gv2⟩ := law_by_gv q cy cg ge (by omega) (by omega)
    obtain ⟨_, e1⟩ := Dm.none K cg d1 gc.2.1
    obtain ⟨_, e2⟩ := Dm.none K cg d2 gc.2.2.1
    have gl0 := List.length_pos_iff.mpr ge
    have n2 : q2 ≠ [] := fun z => ny (can_inj cy Can.nil (by rw [e2, z, ser_nil]; grind))
    have lm := last_mul q cg ge g1 d2.1 n2 cy ny e2
    have cop : Gc (ser p q1) (ser p q2) 1 := Gc.quo K (ser_pol q1) (ser_pol q2) (cg.ne ge) (by rw [← e1, ← e2]; exact gc)
    have em2 := em
    rw [lm] at em2
    have m := made_one q d2.1 n2 (Gc.last (ser_pol q2)) em2
    have ev' : cz p v * cz p (ys.getLast ny) = 1 := by
      rw [← cz_mul, ← cz_1, cz_eq, Int.mul_comm, em, Int.emod_eq_of_lt (by omega) (by omega)]
    have vn : ¬ v % p = 0 := by rw [Int.emod_eq_of_lt (by omega) v1]; omega
    have mt1 := map_timP q d1.1 vn
    have mt2 := map_timP q d2.1 vn
    have qu : Qu p (timP p q1 v) (timP p q2 v) := ⟨timP_can _ _, timP_can _ _, m.2.2, by rw [timP_ser, timP_ser]; exact Gc.scale cop ev'⟩
    have t1 := timP_len (p := p) q1 v
    have t2 := timP_len (p := p) q2 v
    have b1 := fun h => gv1.P (h := h) (by simp [pures, D.pure, pures_ints])
    have b2 := fun h => gv2.P (h := h) (by simp [pures, D.pure, pures_ints])
    have r1 := d1.1.1
    have r2 := d2.1.1
    clear m em2
    generalize timP p q1 v = A at *
    generalize timP p q2 v = C1 at *
    generalize ys.getLast ny = yLL at *
    simp (disch := walk_at "ln") [-getElem?_pos, -max_ii, -min_ii, -max_t2, -abs_i, max_iO, min_iO, max_tO, abs_iO, List.getElem?_cons_zero, List.getElem?_append_left, t__law_quotient_5, gp, t__law_quotient_6, wipeL]
    refine w_comp_rngA (fun i => decide ((1 + (i : Int)) * yLL % p = 1)) (fun i => .int (1 + (i : Int))) (by unfold LIM; omega) ?_ ?_
    · intro j hj
      refine ⟨_, rfl, ?_, fun _ => ?_⟩
      · simp (disch := walk_at "ln") [-getElem?_pos, -max_ii, -min_ii, -max_t2, -abs_i, max_iO, min_iO, max_tO, abs_iO, List.getElem?_cons_zero, List.getElem?_append_left, la]
      · try simp (disch := walk_at "ln") [-getElem?_pos, -max_ii, -min_ii, -max_t2, -abs_i, max_iO, min_iO, max_tO, abs_iO, List.getElem?_cons_zero, List.getElem?_append_left]
    rw [ef]
    simp (disch := walk_at "ln") [-getElem?_pos, -max_ii, -min_ii, -max_t2, -abs_i, max_iO, min_iO, max_tO, abs_iO, List.getElem?_cons_zero, List.getElem?_append_left, mkL, ← ev, t__law_quotient_7, b1, wipeL]
    refine w_cA D.int q1 (fun _ => true) (fun a => .int (a * v % p)) rfl (by omega) (fun x hx => ⟨_, rfl, ⟨rfl, rfl⟩, fun _ => ?_⟩) ?_
    · have := r1 x hx
      try simp (disch := walk_at "ln") [-getElem?_pos, -max_ii, -min_ii, -max_t2, -abs_i, max_iO, min_iO, max_tO, abs_iO, List.getElem?_cons_zero, List.getElem?_append_left]
    rw [List.filter_eq_self.mpr (fun _ _ => rfl), show (q1.map fun a => D.int (a * v % p)) = (q1.map fun a => a * v % (p : Int)).map D.int by rw [List.map_map]; rfl, mt1]
    simp (disch := walk_at "ln") [-getElem?_pos, -max_ii, -min_ii, -max_t2, -abs_i, max_iO, min_iO, max_tO, abs_iO, List.getElem?_cons_zero, List.getElem?_append_left, mkL, t__law_quotient_8, b2, wipeL]
    refine w_cA D.int q2 (fun _ => true) (fun a => .int (a * v % p)) rfl (by omega) (fun x hx => ⟨_, rfl, ⟨rfl, rfl⟩, fun _ => ?_⟩) ?_
    · have := r2 x hx
      try simp (disch := walk_at "ln") [-getElem?_pos, -max_ii, -min_ii, -max_t2, -abs_i, max_iO, min_iO, max_tO, abs_iO, List.getElem?_cons_zero, List.getElem?_append_left]
    rw [List.filter_eq_self.mpr (fun _ _ => rfl), show (q2.map fun a => D.int (a * v % p)) = (q2.map fun a => a * v % (p : Int)).map D.int by rw [List.map_map]; rfl, mt2]
    exact k A C1 _ qu (by omega) (by omega) (s.le (by omega)) l
  by_cases z : ys = []
  · simp (disch := walk_at "ln") [-getElem?_pos, -max_ii, -min_ii, -max_t2, -abs_i, max_iO, min_iO, max_tO, abs_iO, List.getElem?_cons_zero, List.getElem?_append_left, z, t__law_quotient_4]
    exact go [1] _ (can_1 q) (by simp) (by simpa using b0)
  · by_cases z2 : xs = []
    · simp (disch := walk_at "ln") [-getElem?_pos, -max_ii, -min_ii, -max_t2, -abs_i, max_iO, min_iO, max_tO, abs_iO, List.getElem?_cons_zero, List.getElem?_append_left, z, z2, t__law_quotient_4]
      have := go [1] (fun _ h1 => Q .non h1) (can_1 q) (by simp) (by simpa using b0)
      subst z2
      simpa using this
    · simp (disch := walk_at "ln") [-getElem?_pos, -max_ii, -min_ii, -max_t2, -abs_i, max_iO, min_iO, max_tO, abs_iO, List.getElem?_cons_zero, List.getElem?_append_left, z, z2]
      exact go ys _ cy z yl
end
end U
namespace U
open PySem PySem.Spec PyProof.Rows L2 Tb
def b__law_odd_quotient : Ss := (.cons (.asg (.tp [6, 7]) (.var 1))
  (.cons (.asg (.nm 3) (.lst false (.cons (.bin false .Mod (.bin false .Sub (.var 2) (.call .S "_law_draw" f__law_draw (.cons (.var 0) (.cons (.var 2) .nil)))) (.var 2)) (.cons (.int 1) .nil))))
  (.cons (.asg (.nm 4) (.bin false .Add (.int 2) (.call .S "_law_draw" f__law_draw (.cons (.var 0) (.cons (.bin false .Sub (.var 2) (.int 2)) .nil)))))
  (.cons (.asg (.nm 5) (.lst true (.cons (.tup (.cons (.call .S "_law_odd_poly" f__law_odd_poly (.cons (.var 0) (.cons (.var 6) (.cons (.var 2) .nil)))) (.cons (.var 7) .nil))) (.cons (.tup (.cons (.var 6) (.cons (.call .S "_law_odd_poly" f__law_odd_poly (.cons (.var 0) (.cons (.var 7) (.cons (.var 2) .nil)))) .nil))) (.cons (.tup (.cons (.var 6) (.cons (.lst false .nil) .nil))) .nil)))))
  (.cons (.asg (.nm 5) (.bin true .Add (.var 5) (.lst false (.cons (.tup (.cons (.call .P "_law_times" f__law_times (.cons (.var 6) (.cons (.var 3) (.cons (.var 2) .nil)))) (.cons (.call .P "_law_times" f__law_times (.cons (.var 7) (.cons (.var 3) (.cons (.var 2) .nil)))) .nil))) (.cons (.tup (.cons (.var 6) (.cons (.lst false (.cons (.int 1) .nil)) .nil))) (.cons (.tup (.cons (.lst false .nil) (.cons (.var 7) .nil))) .nil))))))
  (.cons (.asg (.nm 5) (.bin true .Add (.var 5) (.lst false (.cons (.tup (.cons (.var 6) (.cons (.comp false [8] (.nm 8) (.seq (.var 7)) .nil (.bin false .Mod (.bin false .Mult (.var 8) (.var 4)) (.var 2))) .nil))) (.cons (.tup (.cons (.comp false [8] (.nm 8) (.seq (.var 6)) .nil (.bin false .Mod (.bin false .Mult (.var 8) (.var 4)) (.var 2))) (.cons (.var 7) .nil))) .nil)))))
  (.cons (.asg (.nm 5) (.bin true .Add (.var 5) (.lst false (.cons (.tup (.cons (.var 7) (.cons (.var 6) .nil))) (.cons (.lst false (.cons (.var 6) (.cons (.var 7) .nil))) (.cons (.tup (.cons (.var 6) .nil)) (.cons (.tup (.cons (.var 6) (.cons (.var 7) (.cons (.lst false (.cons (.int 1) .nil)) .nil)))) (.cons .non (.cons (.var 6) (.cons (.dic []) (.cons (.str "") (.cons (.bl true) .nil))))))))))))
  (.cons (.ex (.me .append false (.var 5) (.cons (.tup (.cons (.var 6) (.cons .non .nil))) .nil)))
  (.cons (.ret (.idx (.bin false .Add (.var 5) (.lst false (.cons (.tup (.cons (.bi .tuple false (.cons (.var 6) .nil)) (.cons (.var 7) .nil))) (.cons (.tup (.cons (.var 6) (.cons (.bi .tuple false (.cons (.var 7) .nil)) .nil))) (.cons (.tup (.cons .non (.cons (.var 7) .nil))) .nil))))) (.call .S "_law_draw" f__law_draw (.cons (.var 0) (.cons (.int 21) .nil)))))
  .nil)))))))))
def f__law_odd_quotient : Fn := fnS cs0 9 3 b__law_odd_quotient
def t__law_odd_quotient_9 : Ss := .cons (.ret (.idx (.bin false .Add (.var 5) (.lst false (.cons (.tup (.cons (.bi .tuple false (.cons (.var 6) .nil)) (.cons (.var 7) .nil))) (.cons (.tup (.cons (.var 6) (.cons (.bi .tuple false (.cons (.var 7) .nil)) .nil))) (.cons (.tup (.cons .non (.cons (.var 7) .nil))) .nil))))) (.call .S "_law_draw" f__law_draw (.cons (.var 0) (.cons (.int 21) .nil))))) .nil
def t__law_odd_quotient_8 : Ss := .cons (.ex (.me .append false (.var 5) (.cons (.tup (.cons (.var 6) (.cons .non .nil))) .nil))) t__law_odd_quotient_9
def t__law_odd_quotient_7 : Ss := .cons (.asg (.nm 5) (.bin true .Add (.var 5) (.lst false (.cons (.tup (.cons (.var 7) (.cons (.var 6) .nil))) (.cons (.lst false (.cons (.var 6) (.cons (.var 7) .nil))) (.cons (.tup (.cons (.var 6) .nil)) (.cons (.tup (.cons (.var 6) (.cons (.var 7) (.cons (.lst false (.cons (.int 1) .nil)) .nil)))) (.cons .non (.cons (.var 6) (.cons (.dic []) (.cons (.str "") (.cons (.bl true) .nil)))))))))))) t__law_odd_quotient_8
def t__law_odd_quotient_6 : Ss := .cons (.asg (.nm 5) (.bin true .Add (.var 5) (.lst false (.cons (.tup (.cons (.var 6) (.cons (.comp false [8] (.nm 8) (.seq (.var 7)) .nil (.bin false .Mod (.bin false .Mult (.var 8) (.var 4)) (.var 2))) .nil))) (.cons (.tup (.cons (.comp false [8] (.nm 8) (.seq (.var 6)) .nil (.bin false .Mod (.bin false .Mult (.var 8) (.var 4)) (.var 2))) (.cons (.var 7) .nil))) .nil))))) t__law_odd_quotient_7
def t__law_odd_quotient_5 : Ss := .cons (.asg (.nm 5) (.bin true .Add (.var 5) (.lst false (.cons (.tup (.cons (.call .P "_law_times" f__law_times (.cons (.var 6) (.cons (.var 3) (.cons (.var 2) .nil)))) (.cons (.call .P "_law_times" f__law_times (.cons (.var 7) (.cons (.var 3) (.cons (.var 2) .nil)))) .nil))) (.cons (.tup (.cons (.var 6) (.cons (.lst false (.cons (.int 1) .nil)) .nil))) (.cons (.tup (.cons (.lst false .nil) (.cons (.var 7) .nil))) .nil)))))) t__law_odd_quotient_6
def t__law_odd_quotient_4 : Ss := .cons (.asg (.nm 5) (.lst true (.cons (.tup (.cons (.call .S "_law_odd_poly" f__law_odd_poly (.cons (.var 0) (.cons (.var 6) (.cons (.var 2) .nil)))) (.cons (.var 7) .nil))) (.cons (.tup (.cons (.var 6) (.cons (.call .S "_law_odd_poly" f__law_odd_poly (.cons (.var 0) (.cons (.var 7) (.cons (.var 2) .nil)))) .nil))) (.cons (.tup (.cons (.var 6) (.cons (.lst false .nil) .nil))) .nil))))) t__law_odd_quotient_5
def t__law_odd_quotient_3 : Ss := .cons (.asg (.nm 4) (.bin false .Add (.int 2) (.call .S "_law_draw" f__law_draw (.cons (.var 0) (.cons (.bin false .Sub (.var 2) (.int 2)) .nil))))) t__law_odd_quotient_4
def t__law_odd_quotient_2 : Ss := .cons (.asg (.nm 3) (.lst false (.cons (.bin false .Mod (.bin false .Sub (.var 2) (.call .S "_law_draw" f__law_draw (.cons (.var 0) (.cons (.var 2) .nil)))) (.var 2)) (.cons (.int 1) .nil)))) t__law_odd_quotient_3
def t__law_odd_quotient_1 : Ss := .cons (.asg (.tp [6, 7]) (.var 1)) t__law_odd_quotient_2
theorem u__law_odd_quotient : b__law_odd_quotient = t__law_odd_quotient_1 := rfl
/-- deck, q, p, root, number, some, top, bottom, one -/
theorem w__law_odd_quotient {x0 x1 x2 : D} {h : Hh} {Q : D → Hh → Prop} (w : WS (evSs cs0 t__law_odd_quotient_1 [some x0, some x1, some x2, none, none, none, none, none, none] h) (fun _ h1 => Q .non h1) Q no2 no2) : W (f__law_odd_quotient [x0, x1, x2] h) Q := by
  rw [← u__law_odd_quotient] at w
  exact w_fnS2 (C := cs0) (n := 9) (np := 3) (b := b__law_odd_quotient) rfl rfl w
theorem r__law_odd_quotient {x0 x1 x2 : D} {h : Hh} : f__law_odd_quotient [x0, x1, x2] h = endR (evSs cs0 t__law_odd_quotient_1 [some x0, some x1, some x2, none, none, none, none, none, none] h) := by
  rw [← u__law_odd_quotient]
  exact fnS_run2 (C := cs0) (n := 9) (np := 3) (b := b__law_odd_quotient) rfl rfl
section
open Po
variable {p : Nat} [NeZero p]
/-- a quotient or not -/
theorem law_is_quotient_gen {t b : List Int} (q : p ∈ FP) (ct : Can p t) (cb : Can p b) (hl : t.length ≤ 200) (hm : b.length ≤ 200) : ∃ r : Bool, (r = true ↔ Qu p t b) ∧ ∀ h, callM .P f__law_is_quotient [lp (t, b), .int (p : Nat)] h = .ok (.bl r) h := by
  have K := FP_fld q
  have pp : pures [lp (t, b), .int (p : Nat)] = true := by simp [pures, lp_pure, D.pure]
  have i1 := fun h => law_is_poly_ok (h := h) ct (by omega)
  have i2 := fun h => law_is_poly_ok (h := h) cb (by omega)
  by_cases z : b = []
  · refine ⟨false, ⟨fun w => (by cases w), fun w => absurd z (Qu.ne w)⟩, fun h => callPP (h' := []) pp (r__law_is_quotient.trans ?_) rfl⟩
    subst z
    rw [List.map_nil] at i2
    have e0 := fun h => ne_ints0 (ns := []) (h := h)
    simp only [List.map_nil, decide_true, Bool.not_true] at e0
    simp [lp, t__law_is_quotient_1, t__law_is_quotient_3, i1, i2, t__law_is_quotient_5, e0]
  · have la := last_int z
    obtain ⟨g, gd, gl, gp⟩ := law_divisor_ok q ct cb (.inr z) (by omega) (by omega)
    have e1 := fun h => eq_ints (ns := g) (ms := [1]) (h := h)
    simp only [List.map_cons, List.map_nil] at e1
    refine ⟨decide (b.getLast z = 1) && decide (g = [1]), ?_, fun h => callPP (h' := []) pp (r__law_is_quotient.trans ?_) rfl⟩
    · rw [Bool.and_eq_true, decide_eq_true_eq, decide_eq_true_eq]
      constructor
      · rintro ⟨a, c⟩
        have := gd.2.1
        rw [c, ser_1] at this
        exact ⟨ct, cb, ⟨z, a⟩, this⟩
      · intro w
        obtain ⟨_, o⟩ := w.one
        exact ⟨o, gd.uniq K (w.gd q)⟩
    · by_cases o : b.getLast z = 1
      · simp [lp, t__law_is_quotient_1, t__law_is_quotient_3, i1, i2, t__law_is_quotient_5, ne_ints0, z, la, o, gp, e1]
      · simp [lp, t__law_is_quotient_1, t__law_is_quotient_3, i1, i2, t__law_is_quotient_5, ne_ints0, z, la, o]
theorem plB_can {p : Nat} {x : D} (e : plB p x = true) : ∃ t : List Int, x = .lst (t.map .int) ∧ Can p t := by
  cases x with
  | lst xs =>
    have e : (xs.all (plc p) && lastNz xs) = true := e
    rw [Bool.and_eq_true] at e
    obtain ⟨a, l⟩ := e
    have key : ∀ xs : List D, xs.all (plc p) = true → ∃ t : List Int, xs = t.map .int ∧ ∀ i ∈ t, 0 ≤ i ∧ i < p := by
      intro xs a
      induction xs with
      | nil => exact ⟨[], rfl, fun i hi => by cases hi⟩
      | cons x r ih =>
        rw [List.all_cons, Bool.and_eq_true] at a
        obtain ⟨t, et, bt⟩ := ih a.2
        have a1 := a.1
        cases x <;> first | (simp [plc] at a1; done) | skip
        rename_i i
        refine ⟨i :: t, by rw [List.map_cons, et], fun j hj => ?_⟩
        rcases List.mem_cons.mp hj with rfl | hj
        · exact of_decide_eq_true a1
        · exact bt j hj
    have this := key xs a
    obtain ⟨t, rfl, bt⟩ := this
    refine ⟨t, rfl, bt, fun he => ?_⟩
    have : (t.map D.int).getLast? = some (.int (t.getLast he)) := by rw [List.getLast?_map, List.getLast?_eq_some_getLast he]; rfl
    simpa [lastNz, this] using l
  | _ => cases e
structure Tk (x : D) : Prop where
  rs : D.rs 5 x = true
  wt : wtD x ≤ 900000
  nk : ∀ ys, x ≠ .kl ys
  two : ∀ a b, x = .tup [a, b] → Tp a ∧ Tp b
theorem quot_gen {x : D} (q : p ∈ FP) (t : Tk x) : ∃ r : Bool, ∀ h, callM .P f_is_quotient_by [x, .int (p : Nat)] h = .ok (.bl r) h ∧ callM .P f__law_is_quotient [x, .int (p : Nat)] h = .ok (.bl r) h := by
  have pp : pures [x, .int (p : Nat)] = true := by simp [pures, D.pure, Rg.rs_pure _ _ t.rs]
  by_cases ex : ∃ a b, x = .tup [a, b]
  · obtain ⟨a, b, rfl⟩ := ex
    obtain ⟨ta, tb⟩ := t.two a b rfl
    have a1 := fun h => ta.is_poly_by (p := p) (h := h)
    have a2 := fun h => ta.law_is_poly (p := p) (h := h)
    have b1 := fun h => tb.is_poly_by (p := p) (h := h)
    have b2 := fun h => tb.law_is_poly (p := p) (h := h)
    cases qa : plB p a with
    | false =>
      rw [qa] at a1 a2
      refine ⟨false, fun h => ⟨callPP (h' := []) pp (r_is_quotient_by.trans ?_) rfl, callPP (h' := []) pp (r__law_is_quotient.trans ?_) rfl⟩⟩
      · simp [t_is_quotient_by_1, t_is_quotient_by_3, a1, t_is_quotient_by_4]
      · simp [t__law_is_quotient_1, t__law_is_quotient_3, a2, t__law_is_quotient_4]
    | true =>
      rw [qa] at a1 a2
      cases qb : plB p b with
      | false =>
        rw [qb] at b1 b2
        refine ⟨false, fun h => ⟨callPP (h' := []) pp (r_is_quotient_by.trans ?_) rfl, callPP (h' := []) pp (r__law_is_quotient.trans ?_) rfl⟩⟩
        · simp [t_is_quotient_by_1, t_is_quotient_by_3, a1, b1, t_is_quotient_by_4]
        · simp [t__law_is_quotient_1, t__law_is_quotient_3, a2, b2, t__law_is_quotient_4]
      | true =>
        obtain ⟨t, rfl, ct⟩ := plB_can qa
        obtain ⟨b, rfl, cb⟩ := plB_can qb
        have l1 := ta.len _ rfl
        have l2 := tb.len _ rfl
        rw [List.length_map] at l1 l2
        obtain ⟨r1, e1, k1⟩ := is_quotient_by_gen (h := []) q ct cb (by omega) (by omega)
        obtain ⟨r2, e2, k2⟩ := law_is_quotient_gen q ct cb (by omega) (by omega)
        have : r2 = r1 := by rw [Bool.eq_iff_iff, e1, e2]
        subst this
        exact ⟨r2, fun h => ⟨k1 h, k2 h⟩⟩
  · refine ⟨false, fun h => ⟨callPP (h' := []) pp (r_is_quotient_by.trans ?_) rfl, callPP (h' := []) pp (r__law_is_quotient.trans ?_) rfl⟩⟩
    all_goals
      have rs := t.rs
      cases x with
      | tup xs =>
        match xs, ex with
        | [], _ => simp [t_is_quotient_by_1, t_is_quotient_by_2, t__law_is_quotient_1, t__law_is_quotient_2]
        | [a], _ => simp [t_is_quotient_by_1, t_is_quotient_by_2, t__law_is_quotient_1, t__law_is_quotient_2]
        | [a, b], ex => exact absurd ⟨a, b, rfl⟩ ex
        | a :: b :: c :: l, _ =>
          have : ¬ ((l.length : Int) + 1 + 1 + 1 = 2) := by omega
          have : ¬ ((l.length : Int) + 3 = 2) := by omega
          simp [t_is_quotient_by_1, t_is_quotient_by_2, t__law_is_quotient_1, t__law_is_quotient_2, *]
      | kl ys => exact absurd rfl (t.nk ys)
      | cel _ => simp [D.rs] at rs
      | cls _ => simp [D.rs] at rs
      | ty _ => simp [D.rs] at rs
      | exc _ => simp [D.rs] at rs
      | _ => simp [t_is_quotient_by_1, t_is_quotient_by_2, t__law_is_quotient_1, t__law_is_quotient_2]
theorem Tk.two' {a b : D} (ta : Tp a) (tb : Tp b) : Tk (.tup [a, b]) := by
  refine ⟨by simp [D.rs, rss, ta.rs, tb.rs], ?_, (fun ys e => by cases e), fun x y e => by cases e; exact ⟨ta, tb⟩⟩
  have := ta.wt
  have := tb.wt
  simp only [wtD, wtDs]; omega
theorem Tk.tp {a : D} (t : Tp a) (n : ∀ x y, a ≠ .tup [x, y]) : Tk a := ⟨rs_up (by omega) a t.rs, by have := t.wt; omega, t.nk, fun x y e => absurd e (n x y)⟩
theorem add_cl {c : Bool} {i : Nat} {ys : List D} {h : Hh} : binD c .Add (.cel i) (.lst ys) h = addL c (asO h[i]?) (some ys) h := rfl
theorem addL_s {c : Bool} {xs ys : List D} {h : Hh} (q : xs.length + ys.length ≤ 1000000) : addL c (some xs) (some ys) h = mkL c (xs ++ ys) h := if_pos q
theorem dk_app {B d : Nat} {T : Int} : ∀ (g : Hh) {h : Hh}, DkA B d h T → B ≤ h.length → (∀ o ∈ g, ∃ L, o = .lst L ∧ pures L = true) → DkA B d (h ++ g) T
  | [], h, s, _, _ => by rw [List.append_nil]; exact s
  | o :: g, h, s, hB, a => by
    obtain ⟨L, rfl, pL⟩ := a o List.mem_cons_self
    have := dk_app g (dk_ext s (o := .lst L) (pures_under _ _ pL) hB) (by simp; omega) fun o ho => a o (List.mem_cons_of_mem _ ho)
    rwa [List.append_assoc] at this
def oqL (o1 o2 : D) (T C TR CR CN TN : List D) : List D :=
  [.tup [o1, .lst C], .tup [.lst T, o2], .tup [.lst T, .lst []], .tup [.lst TR, .lst CR], .tup [.lst T, .lst [.int 1]], .tup [.lst [], .lst C], .tup [.lst T, .lst CN], .tup [.lst TN, .lst C],
    .tup [.lst C, .lst T], .lst [.lst T, .lst C], .tup [.lst T], .tup [.lst T, .lst C, .lst [.int 1]], .non, .lst T, .dic [], .str "", .bl true, .tup [.lst T, .non],
    .tup [.tup T, .lst C], .tup [.lst T, .tup C], .tup [.non, .lst C]]
theorem oqL_tk {o1 o2 : D} {T C TR CR CN TN : List D} (h1 : Tp o1) (h2 : Tp o2) (hT : Tp (.lst T)) (hC : Tp (.lst C)) (hTR : Tp (.lst TR)) (hCR : Tp (.lst CR)) (hCN : Tp (.lst CN)) (hTN : Tp (.lst TN)) : ∀ x ∈ oqL o1 o2 T C TR CR CN TN, Tk x := by
  intro x hx
  have t0 : Tp (.lst []) := Tp.lst (fun _ h => by cases h) (by simp)
  have t1 : Tp (.lst [.int 1]) := Tp.lst (fun x h => by rw [List.mem_singleton.mp h]; exact ti_int (small_of (by omega) (by omega))) (by simp)
  have tn : Tp .non := ⟨rfl, by simp [wtD], (fun ys e => by cases e), fun ys e => by cases e⟩
  have tup : ∀ X, Tp (.lst X) → Tp (.tup X) := fun X t => ⟨t.rs, t.wt, (fun ys e => by cases e), fun ys e => by cases e⟩
  have o1' := Rg.strOk_of ""
  have l1 : (Str.ofString "").length ≤ 10 := by decide
  have rT := rs_up (m := 4) (by omega) _ hT.rs
  have rC := rs_up (m := 4) (by omega) _ hC.rs
  have r1 := t1.rs
  have wT := hT.wt
  have wC := hC.wt
  have w1 := t1.wt
  simp only [oqL, List.mem_cons, List.not_mem_nil, or_false] at hx
  rcases hx with rfl | rfl | rfl | rfl | rfl | rfl | rfl | rfl | rfl | rfl | rfl | rfl | rfl | rfl | rfl | rfl | rfl | rfl | rfl | rfl | rfl
  · exact .two' h1 hC
  · exact .two' hT h2
  · exact .two' hT t0
  · exact .two' hTR hCR
  · exact .two' hT t1
  · exact .two' t0 hC
  · exact .two' hT hCN
  · exact .two' hTN hC
  · exact .two' hC hT
  · refine ⟨?_, ?_, (fun ys e => by cases e), fun x y e => by cases e⟩
    · show (D.rs 4 (.lst T) && (D.rs 4 (.lst C) && true)) = true
      rw [rT, rC]; rfl
    · rw [wtD, wtDs, wtDs, wtDs]; omega
  · refine ⟨?_, ?_, (fun ys e => by cases e), fun x y e => by cases e⟩
    · show (D.rs 4 (.lst T) && true) = true
      rw [rT]; rfl
    · rw [wtD, wtDs, wtDs]; omega
  · refine ⟨?_, ?_, (fun ys e => by cases e), fun x y e => by cases e⟩
    · show (D.rs 4 (.lst T) && (D.rs 4 (.lst C) && (D.rs 4 (.lst [.int 1]) && true))) = true
      rw [rT, rC, r1]; rfl
    · rw [wtD, wtDs, wtDs, wtDs, wtDs]; omega
  · exact .tp tn fun _ _ e => by cases e
  · exact .tp hT fun _ _ e => by cases e
  · exact ⟨rfl, by simp [wtD, wtK], (fun ys e => by cases e), fun x y e => by cases e⟩
  · exact ⟨by simpa [D.rs] using o1', by simp only [wtD]; omega, (fun ys e => by cases e), fun x y e => by cases e⟩
  · exact ⟨rfl, by simp [wtD], (fun ys e => by cases e), fun x y e => by cases e⟩
  · exact .two' hT tn
  · exact .two' (tup _ hT) hC
  · exact .two' hT (tup _ hC)
  · exact .two' tn hC
theorem ti_red {xs : List Int} (q : p ∈ FP) (hx : Red p xs) : ∀ x ∈ xs.map D.int, Ti x := fun x h => by
  have := FP_le q
  obtain ⟨a, ha, rfl⟩ := List.mem_map.mp h
  have := hx a ha
  exact ti_int (small_of (by omega) (by omega))
theorem tp_red {xs : List Int} (q : p ∈ FP) (hx : Red p xs) (hl : xs.length ≤ 100) : Tp (.lst (xs.map .int)) := Tp.lst (ti_red q hx) (by rw [List.length_map]; exact hl)
theorem odd_quotientW {B d : Nat} {h : Hh} {T : Int} {xs ys : List Int} {Q : D → Hh → Prop} (s : DkA B d h T) (hB : B ≤ h.length) (hT : T < 300000) (q : p ∈ FP) (hx : Can p xs) (hy : Can p ys) (hl : xs.length ≤ 20) (hm : ys.length ≤ 20) (k : ∀ x h', Tk x → DkA B d h' (T + 12) → B ≤ h'.length → Q x h') :
    W (f__law_odd_quotient [.cel d, lp (xs, ys), .int (p : Nat)] h) Q := by
  have pb := FP_le q
  refine w__law_odd_quotient ?_
  simp (disch := walk_at "ln") [-getElem?_pos, -max_ii, -min_ii, -max_t2, -abs_i, max_iO, min_iO, max_tO, abs_iO, List.getElem?_cons_zero, List.getElem?_append_left, lp, t__law_odd_quotient_1, t__law_odd_quotient_2]
  refine draw5W s (by omega) (by omega) (by omega) fun r h1 r0 r1 s l => ?_
  have hB : B ≤ h1.length := by rw [l.1]; exact hB
  simp (disch := walk_at "ln") [-getElem?_pos, -max_ii, -min_ii, -max_t2, -abs_i, max_iO, min_iO, max_tO, abs_iO, List.getElem?_cons_zero, List.getElem?_append_left, t__law_odd_quotient_3]
  refine draw5W s (by omega) (by omega) (by omega) fun v h2 v0 v1 s l => ?_
  have hB : B ≤ h2.length := by rw [l.1]; exact hB
  simp (disch := walk_at "ln") [-getElem?_pos, -max_ii, -min_ii, -max_t2, -abs_i, max_iO, min_iO, max_tO, abs_iO, List.getElem?_cons_zero, List.getElem?_append_left, t__law_odd_quotient_4]
  refine odd_polyW s hB (by omega) q hx hl fun o1 h3 t1 s hB => ?_
  try simp (disch := walk_at "ln") [-getElem?_pos, -max_ii, -min_ii, -max_t2, -abs_i, max_iO, min_iO, max_tO, abs_iO, List.getElem?_cons_zero, List.getElem?_append_left]
  refine odd_polyW s hB (by omega) q hy hm fun o2 h4 t2 s hB => ?_
  have rr : Red p [-r % (p : Int), 1] := by
    intro a ha
    simp only [List.mem_cons, List.not_mem_nil, or_false] at ha
    rcases ha with rfl | rfl
    · exact ⟨Int.emod_nonneg _ (by omega), Int.emod_lt_of_pos _ (by omega)⟩
    · omega
  have g1 := fun h => (law_times_gv hx.1 rr (by omega) (by simp) (by omega)).P (h := h) (by simp [pures, D.pure, pures_ints])
  have g2 := fun h => (law_times_gv hy.1 rr (by omega) (by simp) (by omega)).P (h := h) (by simp [pures, D.pure, pures_ints])
  have m1 := mulP_len (p := p) xs [-r % (p : Int), 1]
  have m2 := mulP_len (p := p) ys [-r % (p : Int), 1]
  have tTR := tp_red q (mulP_can xs [-r % (p : Int), 1]).1 (by simp at m1; omega)
  have tCR := tp_red q (mulP_can ys [-r % (p : Int), 1]).1 (by simp at m2; omega)
  simp only [List.map_cons, List.map_nil] at g1 g2
  generalize mulP p xs [-r % (p : Int), 1] = TR at *
  generalize mulP p ys [-r % (p : Int), 1] = CR at *
  generalize -r % (p : Int) = R at *
  have tx := tp_red q hx.1 (by omega)
  have ty := tp_red q hy.1 (by omega)
  have mm : ∀ l : List Int, Red p l → Red p (l.map fun a => a * (2 + v) % (p : Int)) := fun l _ a ha => by
    obtain ⟨b, _, rfl⟩ := List.mem_map.mp ha
    exact ⟨Int.emod_nonneg _ (by omega), Int.emod_lt_of_pos _ (by omega)⟩
  have tTN := tp_red q (mm xs hx.1) (by rw [List.length_map]; omega)
  have tCN := tp_red q (mm ys hy.1) (by rw [List.length_map]; omega)
  simp (disch := walk_at "ln") [-getElem?_pos, -max_ii, -min_ii, -max_t2, -abs_i, max_iO, min_iO, max_tO, abs_iO, List.getElem?_cons_zero, List.getElem?_append_left, t__law_odd_quotient_5, g1, g2, add_cl, addL_s]
  simp (disch := walk_at "ln") [-getElem?_pos, -max_ii, -min_ii, -max_t2, -abs_i, max_iO, min_iO, max_tO, abs_iO, List.getElem?_cons_zero, List.getElem?_append_left, t__law_odd_quotient_6, wipeL]
  refine w_cA D.int ys (fun _ => true) (fun a => .int (a * (2 + v) % p)) rfl (by omega) (fun x hxx => ⟨_, rfl, ⟨rfl, rfl⟩, fun _ => ?_⟩) ?_
  · have := hy.1 x hxx
    try simp (disch := walk_at "ln") [-getElem?_pos, -max_ii, -min_ii, -max_t2, -abs_i, max_iO, min_iO, max_tO, abs_iO, List.getElem?_cons_zero, List.getElem?_append_left]
  rw [List.filter_eq_self.mpr (fun _ _ => rfl), show (ys.map fun a => D.int (a * (2 + v) % p)) = (ys.map fun a => a * (2 + v) % (p : Int)).map D.int by rw [List.map_map]; rfl]
  generalize (ys.map fun a => a * (2 + v) % (p : Int)) = CN at *
  refine w_cA D.int xs (fun _ => true) (fun a => .int (a * (2 + v) % p)) rfl (by omega) (fun x hxx => ⟨_, rfl, ⟨rfl, rfl⟩, fun _ => ?_⟩) ?_
  · have := hx.1 x hxx
    try simp (disch := walk_at "ln") [-getElem?_pos, -max_ii, -min_ii, -max_t2, -abs_i, max_iO, min_iO, max_tO, abs_iO, List.getElem?_cons_zero, List.getElem?_append_left]
  rw [List.filter_eq_self.mpr (fun _ _ => rfl), show (xs.map fun a => D.int (a * (2 + v) % p)) = (xs.map fun a => a * (2 + v) % (p : Int)).map D.int by rw [List.map_map]; rfl]
  generalize (xs.map fun a => a * (2 + v) % (p : Int)) = TN at *
  have tp := oqL_tk t1 t2 tx ty tTR tCR tCN tTN
  have ap : ∀ x, Tp x → x.pure = true := fun x t => Rg.rs_pure _ _ t.rs
  have u1 := ap _ t1
  have u2 := ap _ t2
  have u3 := ap _ tx
  have u4 := ap _ ty
  have u5 := ap _ tTR
  have u6 := ap _ tCR
  have u7 := ap _ tCN
  have u8 := ap _ tTN
  simp only [D.pure] at u3 u4 u5 u6 u7 u8
  generalize xs.map D.int = G at *
  generalize ys.map D.int = C at *
  generalize TR.map D.int = GR at *
  generalize CR.map D.int = CC at *
  generalize CN.map D.int = CM at *
  generalize TN.map D.int = GN at *
  simp (disch := walk_at "ln") [-getElem?_pos, -max_ii, -min_ii, -max_t2, -abs_i, max_iO, min_iO, max_tO, abs_iO, List.getElem?_cons_zero, List.getElem?_append_left, mkL, add_cl, addL_s]
  simp (disch := walk_at "ln") [-getElem?_pos, -max_ii, -min_ii, -max_t2, -abs_i, max_iO, min_iO, max_tO, abs_iO, List.getElem?_cons_zero, List.getElem?_append_left, t__law_odd_quotient_7, add_cl, addL_s]
  simp (disch := walk_at "ln") [-getElem?_pos, -max_ii, -min_ii, -max_t2, -abs_i, max_iO, min_iO, max_tO, abs_iO, List.getElem?_cons_zero, List.getElem?_append_left, t__law_odd_quotient_8]
  simp (disch := walk_at "ln") [-getElem?_pos, -max_ii, -min_ii, -max_t2, -abs_i, max_iO, min_iO, max_tO, abs_iO, List.getElem?_cons_zero, List.getElem?_append_left, t__law_odd_quotient_9, add_cl, addL_s]
  refine draw5W (dk_app [_, _, _, _] s hB fun o ho => ?_) (by omega) (by omega) (by omega) fun u h5 u0 u1 s l => ?_
  · simp only [List.mem_cons, List.not_mem_nil, or_false] at ho
    rcases ho with rfl | rfl | rfl | rfl <;> exact ⟨_, rfl, by simp [pures, D.pure, pureK, u1, u2, u3, u4, u5, u6, u7, u8]⟩
  have hB5 : B ≤ h5.length := by rw [l.1]; simp; omega
  obtain ⟨x, ex, hx⟩ := atI_mem (xs := oqL o1 o2 G C GR CC CM GN) (k := u) u0 (by simp [oqL]; omega)
  have tk := tp x hx
  clear hx
  simp only [oqL] at ex
  simp (disch := walk_at "ln") [-getElem?_pos, -max_ii, -min_ii, -max_t2, -abs_i, max_iO, min_iO, max_tO, abs_iO, List.getElem?_cons_zero, List.getElem?_append_left, ex]
  exact k x h5 tk (s.le (by omega)) hB5
end
end U
namespace K57
open PySem PySem.Spec PyProof.Rows L2 Tb U
def b__law_right : Ss := (.cons (.asg (.nm 2) (.bi .repr false (.cons (.var 0) .nil)))
  (.cons (.asg (.nm 3) (.call .P "is_quotient" f_is_quotient (.cons (.var 0) (.cons (.var 1) .nil))))
  (.cons (.ret (.bop .And (.cons (.isi (.var 3) (.bty "bool")) (.cons (.cmp .Eq (.var 3) (.call .P "_law_is_quotient" f__law_is_quotient (.cons (.var 0) (.cons (.var 1) .nil)))) (.cons (.cmp .Eq (.bi .repr false (.cons (.var 0) .nil)) (.var 2)) .nil)))))
  .nil)))
def f__law_right : Fn := fnS cs0 4 2 b__law_right
def t__law_right_3 : Ss := .cons (.ret (.bop .And (.cons (.isi (.var 3) (.bty "bool")) (.cons (.cmp .Eq (.var 3) (.call .P "_law_is_quotient" f__law_is_quotient (.cons (.var 0) (.cons (.var 1) .nil)))) (.cons (.cmp .Eq (.bi .repr false (.cons (.var 0) .nil)) (.var 2)) .nil))))) .nil
def t__law_right_2 : Ss := .cons (.asg (.nm 3) (.call .P "is_quotient" f_is_quotient (.cons (.var 0) (.cons (.var 1) .nil)))) t__law_right_3
def t__law_right_1 : Ss := .cons (.asg (.nm 2) (.bi .repr false (.cons (.var 0) .nil))) t__law_right_2
theorem u__law_right : b__law_right = t__law_right_1 := rfl
/-- thing, p, kept, found -/
theorem w__law_right {x0 x1 : D} {h : Hh} {Q : D → Hh → Prop} (w : WS (evSs cs0 t__law_right_1 [some x0, some x1, none, none] h) (fun _ h1 => Q .non h1) Q no2 no2) : W (f__law_right [x0, x1] h) Q := by
  rw [← u__law_right] at w
  exact w_fnS2 (C := cs0) (n := 4) (np := 2) (b := b__law_right) rfl rfl w
theorem r__law_right {x0 x1 : D} {h : Hh} : f__law_right [x0, x1] h = endR (evSs cs0 t__law_right_1 [some x0, some x1, none, none] h) := by
  rw [← u__law_right]
  exact fnS_run2 (C := cs0) (n := 4) (np := 2) (b := b__law_right) rfl rfl
def b_law : Ss := (.cons (.asg (.nm 1) (.call .S "_law_deck" f__law_deck (.cons (.var 0) .nil)))
  (.cons (.fr (.nm 2) (.rng (.cons (.int 8) .nil)) (.cons (.asg (.nm 3) (.call .S "_law_prime" f__law_prime (.cons (.var 1) .nil)))
  (.cons (.asg (.nm 4) (.call .S "_law_quotient" f__law_quotient (.cons (.var 1) (.cons (.var 3) (.cons (.int 13) (.cons (.int 13) .nil))))))
  (.cons (.ifs (.cmp .IsNot (.call .P "is_quotient" f_is_quotient (.cons (.tup (.cons (.bi .list false (.cons (.idx (.var 4) (.int 0)) .nil)) (.cons (.bi .list false (.cons (.idx (.var 4) (.int 1)) .nil)) .nil))) (.cons (.var 3) .nil))) (.bl true)) (.cons (.ret (.bl false))
  .nil) .nil)
  (.cons (.fr (.nm 5) (.rng (.cons (.int 10) .nil)) (.cons (.ifs (.not (.call .P "_law_right" f__law_right (.cons (.call .S "_law_odd_quotient" f__law_odd_quotient (.cons (.var 1) (.cons (.var 4) (.cons (.var 3) .nil)))) (.cons (.var 3) .nil)))) (.cons (.ret (.bl false))
  .nil) .nil)
  .nil))
  (.cons (.fr (.nm 6) (.seq (.lst false (.cons .non (.cons (.int 0) (.cons (.str "") (.cons (.tup .nil) (.cons (.lst false .nil) (.cons (.dic []) (.cons (.tup (.cons (.lst false .nil) (.cons (.lst false .nil) .nil))) (.cons (.tup (.cons (.lst false .nil) (.cons (.lst false (.cons (.int 1) .nil)) .nil))) (.cons (.tup (.cons (.lst false (.cons (.int 1) .nil)) (.cons (.lst false (.cons (.int 1) .nil)) .nil))) (.cons (.tup (.cons (.lst false .nil) (.cons (.lst false (.cons (.int 0) (.cons (.int 1) .nil))) .nil))) (.cons (.tup (.cons (.lst false (.cons (.int 1) .nil)) (.cons (.lst false (.cons (.int 2) .nil)) .nil))) (.cons (.tup (.cons (.lst false (.cons (.int 1) .nil)) (.cons (.int 1) .nil))) .nil)))))))))))))) (.cons (.ifs (.not (.call .P "_law_right" f__law_right (.cons (.var 6) (.cons (.var 3) .nil)))) (.cons (.ret (.bl false))
  .nil) .nil)
  .nil))
  .nil))))))
  (.cons (.ret (.bl true))
  .nil)))
def f_law : Fn := fnS cs0 7 1 b_law
def t_law_13 : Ss := .cons (.ret (.bl true)) .nil
def t_law_12 : Ss := .cons (.ret (.bl false)) .nil
def t_law_11 : Ss := .cons (.ifs (.not (.call .P "_law_right" f__law_right (.cons (.var 6) (.cons (.var 3) .nil)))) t_law_12 .nil) .nil
def t_law_10 : Ss := .cons (.fr (.nm 6) (.seq (.lst false (.cons .non (.cons (.int 0) (.cons (.str "") (.cons (.tup .nil) (.cons (.lst false .nil) (.cons (.dic []) (.cons (.tup (.cons (.lst false .nil) (.cons (.lst false .nil) .nil))) (.cons (.tup (.cons (.lst false .nil) (.cons (.lst false (.cons (.int 1) .nil)) .nil))) (.cons (.tup (.cons (.lst false (.cons (.int 1) .nil)) (.cons (.lst false (.cons (.int 1) .nil)) .nil))) (.cons (.tup (.cons (.lst false .nil) (.cons (.lst false (.cons (.int 0) (.cons (.int 1) .nil))) .nil))) (.cons (.tup (.cons (.lst false (.cons (.int 1) .nil)) (.cons (.lst false (.cons (.int 2) .nil)) .nil))) (.cons (.tup (.cons (.lst false (.cons (.int 1) .nil)) (.cons (.int 1) .nil))) .nil)))))))))))))) t_law_11) .nil
def t_law_9 : Ss := .cons (.ret (.bl false)) .nil
def t_law_8 : Ss := .cons (.ifs (.not (.call .P "_law_right" f__law_right (.cons (.call .S "_law_odd_quotient" f__law_odd_quotient (.cons (.var 1) (.cons (.var 4) (.cons (.var 3) .nil)))) (.cons (.var 3) .nil)))) t_law_9 .nil) .nil
def t_law_7 : Ss := .cons (.fr (.nm 5) (.rng (.cons (.int 10) .nil)) t_law_8) t_law_10
def t_law_6 : Ss := .cons (.ret (.bl false)) .nil
def t_law_5 : Ss := .cons (.ifs (.cmp .IsNot (.call .P "is_quotient" f_is_quotient (.cons (.tup (.cons (.bi .list false (.cons (.idx (.var 4) (.int 0)) .nil)) (.cons (.bi .list false (.cons (.idx (.var 4) (.int 1)) .nil)) .nil))) (.cons (.var 3) .nil))) (.bl true)) t_law_6 .nil) t_law_7
def t_law_4 : Ss := .cons (.asg (.nm 4) (.call .S "_law_quotient" f__law_quotient (.cons (.var 1) (.cons (.var 3) (.cons (.int 13) (.cons (.int 13) .nil)))))) t_law_5
def t_law_3 : Ss := .cons (.asg (.nm 3) (.call .S "_law_prime" f__law_prime (.cons (.var 1) .nil))) t_law_4
def t_law_2 : Ss := .cons (.fr (.nm 2) (.rng (.cons (.int 8) .nil)) t_law_3) t_law_13
def t_law_1 : Ss := .cons (.asg (.nm 1) (.call .S "_law_deck" f__law_deck (.cons (.var 0) .nil))) t_law_2
theorem u_law : b_law = t_law_1 := rfl
/-- script, deck, k, p, q, turn, thing -/
theorem w_law {x0 : D} {h : Hh} {Q : D → Hh → Prop} (w : WS (evSs cs0 t_law_1 [some x0, none, none, none, none, none, none] h) (fun _ h1 => Q .non h1) Q no2 no2) : W (f_law [x0] h) Q := by
  rw [← u_law] at w
  exact w_fnS2 (C := cs0) (n := 7) (np := 1) (b := b_law) rfl rfl w
theorem r_law {x0 : D} {h : Hh} : f_law [x0] h = endR (evSs cs0 t_law_1 [some x0, none, none, none, none, none, none] h) := by
  rw [← u_law]
  exact fnS_run2 (C := cs0) (n := 7) (np := 1) (b := b_law) rfl rfl
def top (i : Nat) : Stmt := PySem.Challenge.pw_toldback_k57_what_is_a_quotient.main.body.getD i (.Pass ⟨0, 0, 0, 0⟩)
def exL : Xl := ⟨["NoPrime"], [], []⟩
abbrev zn (K : PySem.W.Frag) : Zn := znOf K exL.xs
def d__law_deck : He.DefD := ⟨("_law_deck", none), "_law_deck", "_law_deck", defArgs (top 16), defBody (top 16), defScope (top 16), [], []⟩
def d__law_draw : He.DefD := ⟨("_law_draw", none), "_law_draw", "_law_draw", defArgs (top 17), defBody (top 17), defScope (top 17), [], []⟩
def d__law_prime : He.DefD := ⟨("_law_prime", none), "_law_prime", "_law_prime", defArgs (top 18), defBody (top 18), defScope (top 18), [], []⟩
def d__law_poly : He.DefD := ⟨("_law_poly", none), "_law_poly", "_law_poly", defArgs (top 19), defBody (top 19), defScope (top 19), [], []⟩
def d__law_trimmed : He.DefD := ⟨("_law_trimmed", none), "_law_trimmed", "_law_trimmed", defArgs (top 20), defBody (top 20), defScope (top 20), [], []⟩
def d__law_rest : He.DefD := ⟨("_law_rest", none), "_law_rest", "_law_rest", defArgs (top 24), defBody (top 24), defScope (top 24), [], []⟩
def d__law_divisor : He.DefD := ⟨("_law_divisor", none), "_law_divisor", "_law_divisor", defArgs (top 25), defBody (top 25), defScope (top 25), [], []⟩
def d__law_by : He.DefD := ⟨("_law_by", none), "_law_by", "_law_by", defArgs (top 26), defBody (top 26), defScope (top 26), [], []⟩
def d__law_quotient : He.DefD := ⟨("_law_quotient", none), "_law_quotient", "_law_quotient", defArgs (top 27), defBody (top 27), defScope (top 27), [], []⟩
def d_need_field : He.DefD := ⟨("need_field", none), "need_field", "need_field", defArgs (top 4), defBody (top 4), defScope (top 4), [], []⟩
def d_is_place : He.DefD := ⟨("is_place", none), "is_place", "is_place", defArgs (top 5), defBody (top 5), defScope (top 5), [], []⟩
def d_is_poly_by : He.DefD := ⟨("is_poly_by", none), "is_poly_by", "is_poly_by", defArgs (top 11), defBody (top 11), defScope (top 11), [], []⟩
def d_trimmed : He.DefD := ⟨("trimmed", none), "trimmed", "trimmed", defArgs (top 6), defBody (top 6), defScope (top 6), [], []⟩
def d_times_by : He.DefD := ⟨("times_by", none), "times_by", "times_by", defArgs (top 7), defBody (top 7), defScope (top 7), [], []⟩
def d_inverse : He.DefD := ⟨("inverse", none), "inverse", "inverse", defArgs (top 8), defBody (top 8), defScope (top 8), [], []⟩
def d_parted_by : He.DefD := ⟨("parted_by", none), "parted_by", "parted_by", defArgs (top 9), defBody (top 9), defScope (top 9), [], []⟩
def d_divisor_by : He.DefD := ⟨("divisor_by", none), "divisor_by", "divisor_by", defArgs (top 10), defBody (top 10), defScope (top 10), [], []⟩
def d_is_quotient_by : He.DefD := ⟨("is_quotient_by", none), "is_quotient_by", "is_quotient_by", defArgs (top 13), defBody (top 13), defScope (top 13), [], []⟩
def d_is_quotient : He.DefD := ⟨("is_quotient", none), "is_quotient", "is_quotient", defArgs (top 14), defBody (top 14), defScope (top 14), [], []⟩
def d__law_whole : He.DefD := ⟨("_law_whole", none), "_law_whole", "_law_whole", defArgs (top 22), defBody (top 22), defScope (top 22), [], []⟩
def d__law_is_poly : He.DefD := ⟨("_law_is_poly", none), "_law_is_poly", "_law_is_poly", defArgs (top 23), defBody (top 23), defScope (top 23), [], []⟩
def d__law_is_quotient : He.DefD := ⟨("_law_is_quotient", none), "_law_is_quotient", "_law_is_quotient", defArgs (top 28), defBody (top 28), defScope (top 28), [], []⟩
def d__law_right : He.DefD := ⟨("_law_right", none), "_law_right", "_law_right", defArgs (top 31), defBody (top 31), defScope (top 31), [], []⟩
def d__law_odd_poly : He.DefD := ⟨("_law_odd_poly", none), "_law_odd_poly", "_law_odd_poly", defArgs (top 29), defBody (top 29), defScope (top 29), [], []⟩
def d__law_times : He.DefD := ⟨("_law_times", none), "_law_times", "_law_times", defArgs (top 21), defBody (top 21), defScope (top 21), [], []⟩
def d__law_odd_quotient : He.DefD := ⟨("_law_odd_quotient", none), "_law_odd_quotient", "_law_odd_quotient", defArgs (top 30), defBody (top 30), defScope (top 30), [], []⟩
def d_law : He.DefD := ⟨("law", none), "law", "law", defArgs (top 32), defBody (top 32), defScope (top 32), [], []⟩
def fnL : List He.DefD := [d__law_deck, d__law_draw, d__law_prime, d__law_poly, d__law_trimmed, d__law_rest, d__law_divisor, d__law_by, d__law_quotient, d_need_field, d_is_place, d_is_poly_by, d_trimmed, d_times_by, d_inverse, d_parted_by, d_divisor_by, d_is_quotient_by, d_is_quotient, d__law_whole, d__law_is_poly, d__law_is_quotient, d__law_right, d__law_odd_poly, d__law_times, d__law_odd_quotient, d_law]
def faL : List He.Fa := faFree ++ [.glo "_law_deck", .glo "_law_draw", .glo "_law_prime", .glo "_law_poly", .glo "_law_trimmed", .glo "_law_rest", .glo "_law_divisor", .glo "_law_by", .glo "_law_quotient", .glo "need_field", .glo "is_place", .glo "is_poly_by", .glo "trimmed", .glo "times_by", .glo "inverse", .glo "parted_by", .glo "divisor_by", .glo "is_quotient_by", .glo "is_quotient", .glo "_law_whole", .glo "_law_is_poly", .glo "_law_is_quotient", .glo "_law_right", .glo "_law_odd_poly", .glo "_law_times", .glo "_law_odd_quotient", .glo "law", .glo "NoPrime", .exc "NoPrime"]
theorem sc__law_deck : FnScope ["script", "pools", "k", "cell"] ["script"] (defScope (top 16)) := ⟨rfl, rfl, rfl, by decide +kernel, rfl, by decide +kernel, by decide +kernel⟩
theorem ok__law_deck : okSs ⟨["script", "pools", "k", "cell"], defScope (top 16), fun _ => true⟩ b__law_deck (defBody (top 16)) = true := by decide +kernel
theorem ask__law_deck {R : Str → Fn → Nat → Prop} {G : Str → D → Prop} {Q : Bool → Str → Prop} : AskSs R G Q b__law_deck := by
  unfold b__law_deck
  repeat' first | assumption | exact True.intro | refine ⟨?_, ?_⟩
theorem sc__law_draw : FnScope ["deck", "many", "pool", "number", "found"] ["deck", "many"] (defScope (top 17)) := ⟨rfl, rfl, rfl, by decide +kernel, rfl, by decide +kernel, by decide +kernel⟩
theorem ok__law_draw : okSs ⟨["deck", "many", "pool", "number", "found"], defScope (top 17), fun _ => true⟩ b__law_draw (defBody (top 17)) = true := by decide +kernel
theorem ask__law_draw {R : Str → Fn → Nat → Prop} {G : Str → D → Prop} {Q : Bool → Str → Prop} : AskSs R G Q b__law_draw := by
  unfold b__law_draw
  repeat' first | assumption | exact True.intro | refine ⟨?_, ?_⟩
theorem sc__law_prime : FnScope ["deck", "primes"] ["deck"] (defScope (top 18)) := ⟨rfl, rfl, rfl, by decide +kernel, rfl, by decide +kernel, by decide +kernel⟩
theorem ok__law_prime : okSs ⟨["deck", "primes"], defScope (top 18), fun _ => true⟩ b__law_prime (defBody (top 18)) = true := by decide +kernel
theorem ask__law_prime {R : Str → Fn → Nat → Prop} {G : Str → D → Prop} {Q : Bool → Str → Prop} (h__law_draw : R "_law_draw" f__law_draw 2) : AskSs R G Q b__law_prime := by
  unfold b__law_prime
  repeat' first | assumption | exact True.intro | refine ⟨?_, ?_⟩
theorem sc__law_poly : FnScope ["deck", "p", "most", "many", "often", "found", "k"] ["deck", "p", "most"] (defScope (top 19)) := ⟨rfl, rfl, rfl, by decide +kernel, rfl, by decide +kernel, by decide +kernel⟩
theorem ok__law_poly : okSs ⟨["deck", "p", "most", "many", "often", "found", "k"], defScope (top 19), fun _ => true⟩ b__law_poly (defBody (top 19)) = true := by decide +kernel
theorem ask__law_poly {R : Str → Fn → Nat → Prop} {G : Str → D → Prop} {Q : Bool → Str → Prop} (h__law_draw : R "_law_draw" f__law_draw 2) : AskSs R G Q b__law_poly := by
  unfold b__law_poly
  repeat' first | assumption | exact True.intro | refine ⟨?_, ?_⟩
theorem sc__law_trimmed : FnScope ["numbers", "found"] ["numbers"] (defScope (top 20)) := ⟨rfl, rfl, rfl, by decide +kernel, rfl, by decide +kernel, by decide +kernel⟩
theorem ok__law_trimmed : okSs ⟨["numbers", "found"], defScope (top 20), fun _ => true⟩ b__law_trimmed (defBody (top 20)) = true := by decide +kernel
theorem ask__law_trimmed {R : Str → Fn → Nat → Prop} {G : Str → D → Prop} {Q : Bool → Str → Prop} : AskSs R G Q b__law_trimmed := by
  unfold b__law_trimmed
  repeat' first | assumption | exact True.intro | refine ⟨?_, ?_⟩
theorem sc__law_rest : FnScope ["one", "other", "p", "rest", "back", "number", "lower", "a", "b"] ["one", "other", "p"] (defScope (top 24)) := ⟨rfl, rfl, rfl, by decide +kernel, rfl, by decide +kernel, by decide +kernel⟩
theorem ok__law_rest : okSs ⟨["one", "other", "p", "rest", "back", "number", "lower", "a", "b"], defScope (top 24), fun _ => true⟩ b__law_rest (defBody (top 24)) = true := by decide +kernel
theorem ask__law_rest {R : Str → Fn → Nat → Prop} {G : Str → D → Prop} {Q : Bool → Str → Prop} (h__law_trimmed : R "_law_trimmed" f__law_trimmed 1) : AskSs R G Q b__law_rest := by
  unfold b__law_rest
  repeat' first | assumption | exact True.intro | refine ⟨?_, ?_⟩
theorem sc__law_divisor : FnScope ["one", "other", "p", "back", "number"] ["one", "other", "p"] (defScope (top 25)) := ⟨rfl, rfl, rfl, by decide +kernel, rfl, by decide +kernel, by decide +kernel⟩
theorem ok__law_divisor : okSs ⟨["one", "other", "p", "back", "number"], defScope (top 25), fun _ => true⟩ b__law_divisor (defBody (top 25)) = true := by decide +kernel
theorem ask__law_divisor {R : Str → Fn → Nat → Prop} {G : Str → D → Prop} {Q : Bool → Str → Prop} (h__law_rest : R "_law_rest" f__law_rest 3) : AskSs R G Q b__law_divisor := by
  unfold b__law_divisor
  repeat' first | assumption | exact True.intro | refine ⟨?_, ?_⟩
theorem sc__law_by : FnScope ["one", "other", "p", "found", "rest", "back", "at", "k", "less", "number"] ["one", "other", "p"] (defScope (top 26)) := ⟨rfl, rfl, rfl, by decide +kernel, rfl, by decide +kernel, by decide +kernel⟩
theorem ok__law_by : okSs ⟨["one", "other", "p", "found", "rest", "back", "at", "k", "less", "number"], defScope (top 26), fun _ => true⟩ b__law_by (defBody (top 26)) = true := by decide +kernel
theorem ask__law_by {R : Str → Fn → Nat → Prop} {G : Str → D → Prop} {Q : Bool → Str → Prop} (h__law_trimmed : R "_law_trimmed" f__law_trimmed 1) : AskSs R G Q b__law_by := by
  unfold b__law_by
  repeat' first | assumption | exact True.intro | refine ⟨?_, ?_⟩
theorem sc__law_quotient : FnScope ["deck", "p", "a", "b", "top", "bottom", "both", "back", "number"] ["deck", "p", "a", "b"] (defScope (top 27)) := ⟨rfl, rfl, rfl, by decide +kernel, rfl, by decide +kernel, by decide +kernel⟩
theorem ok__law_quotient : okSs ⟨["deck", "p", "a", "b", "top", "bottom", "both", "back", "number"], defScope (top 27), fun _ => true⟩ b__law_quotient (defBody (top 27)) = true := by decide +kernel
theorem ask__law_quotient {R : Str → Fn → Nat → Prop} {G : Str → D → Prop} {Q : Bool → Str → Prop} (h__law_poly : R "_law_poly" f__law_poly 3) (h__law_divisor : R "_law_divisor" f__law_divisor 3) (h__law_by : R "_law_by" f__law_by 3) : AskSs R G Q b__law_quotient := by
  unfold b__law_quotient
  repeat' first | assumption | exact True.intro | refine ⟨?_, ?_⟩
theorem sc_need_field : FnScope ["p", "number"] ["p"] (defScope (top 4)) := ⟨rfl, rfl, rfl, by decide +kernel, rfl, by decide +kernel, by decide +kernel⟩
theorem ok_need_field : okSs ⟨["p", "number"], defScope (top 4), fun _ => true⟩ b_need_field (defBody (top 4)) = true := by decide +kernel
theorem ask_need_field {R : Str → Fn → Nat → Prop} {G : Str → D → Prop} {Q : Bool → Str → Prop} (r_NoPrime : Q false "NoPrime") : AskSs R G Q b_need_field := by
  unfold b_need_field
  repeat' first | assumption | exact True.intro | refine ⟨?_, ?_⟩
theorem sc_is_place : FnScope ["thing", "p"] ["thing", "p"] (defScope (top 5)) := ⟨rfl, rfl, rfl, by decide +kernel, rfl, by decide +kernel, by decide +kernel⟩
theorem ok_is_place : okSs ⟨["thing", "p"], defScope (top 5), fun _ => true⟩ b_is_place (defBody (top 5)) = true := by decide +kernel
theorem ask_is_place {R : Str → Fn → Nat → Prop} {G : Str → D → Prop} {Q : Bool → Str → Prop} : AskSs R G Q b_is_place := by
  unfold b_is_place
  repeat' first | assumption | exact True.intro | refine ⟨?_, ?_⟩
theorem sc_is_poly_by : FnScope ["thing", "p", "number"] ["thing", "p"] (defScope (top 11)) := ⟨rfl, rfl, rfl, by decide +kernel, rfl, by decide +kernel, by decide +kernel⟩
theorem ok_is_poly_by : okSs ⟨["thing", "p", "number"], defScope (top 11), fun _ => true⟩ b_is_poly_by (defBody (top 11)) = true := by decide +kernel
theorem ask_is_poly_by {R : Str → Fn → Nat → Prop} {G : Str → D → Prop} {Q : Bool → Str → Prop} (h_is_place : R "is_place" f_is_place 2) : AskSs R G Q b_is_poly_by := by
  unfold b_is_poly_by
  repeat' first | assumption | exact True.intro | refine ⟨?_, ?_⟩
theorem sc_trimmed : FnScope ["numbers", "found"] ["numbers"] (defScope (top 6)) := ⟨rfl, rfl, rfl, by decide +kernel, rfl, by decide +kernel, by decide +kernel⟩
theorem ok_trimmed : okSs ⟨["numbers", "found"], defScope (top 6), fun _ => true⟩ b_trimmed (defBody (top 6)) = true := by decide +kernel
theorem ask_trimmed {R : Str → Fn → Nat → Prop} {G : Str → D → Prop} {Q : Bool → Str → Prop} : AskSs R G Q b_trimmed := by
  unfold b_trimmed
  repeat' first | assumption | exact True.intro | refine ⟨?_, ?_⟩
theorem sc_times_by : FnScope ["poly", "number", "p", "one"] ["poly", "number", "p"] (defScope (top 7)) := ⟨rfl, rfl, rfl, by decide +kernel, rfl, by decide +kernel, by decide +kernel⟩
theorem ok_times_by : okSs ⟨["poly", "number", "p", "one"], defScope (top 7), fun _ => true⟩ b_times_by (defBody (top 7)) = true := by decide +kernel
theorem ask_times_by {R : Str → Fn → Nat → Prop} {G : Str → D → Prop} {Q : Bool → Str → Prop} (h_trimmed : R "trimmed" f_trimmed 1) : AskSs R G Q b_times_by := by
  unfold b_times_by
  repeat' first | assumption | exact True.intro | refine ⟨?_, ?_⟩
theorem sc_inverse : FnScope ["number", "p", "other"] ["number", "p"] (defScope (top 8)) := ⟨rfl, rfl, rfl, by decide +kernel, rfl, by decide +kernel, by decide +kernel⟩
theorem ok_inverse : okSs ⟨["number", "p", "other"], defScope (top 8), fun _ => true⟩ b_inverse (defBody (top 8)) = true := by decide +kernel
theorem ask_inverse {R : Str → Fn → Nat → Prop} {G : Str → D → Prop} {Q : Bool → Str → Prop} : AskSs R G Q b_inverse := by
  unfold b_inverse
  repeat' first | assumption | exact True.intro | refine ⟨?_, ?_⟩
theorem sc_parted_by : FnScope ["one", "other", "p", "rest", "quotient", "lead", "at", "k", "number"] ["one", "other", "p"] (defScope (top 9)) := ⟨rfl, rfl, rfl, by decide +kernel, rfl, by decide +kernel, by decide +kernel⟩
theorem ok_parted_by : okSs ⟨["one", "other", "p", "rest", "quotient", "lead", "at", "k", "number"], defScope (top 9), fun _ => true⟩ b_parted_by (defBody (top 9)) = true := by decide +kernel
theorem ask_parted_by {R : Str → Fn → Nat → Prop} {G : Str → D → Prop} {Q : Bool → Str → Prop} (h_inverse : R "inverse" f_inverse 2) (h_trimmed : R "trimmed" f_trimmed 1) : AskSs R G Q b_parted_by := by
  unfold b_parted_by
  repeat' first | assumption | exact True.intro | refine ⟨?_, ?_⟩
theorem sc_divisor_by : FnScope ["one", "other", "p"] ["one", "other", "p"] (defScope (top 10)) := ⟨rfl, rfl, rfl, by decide +kernel, rfl, by decide +kernel, by decide +kernel⟩
theorem ok_divisor_by : okSs ⟨["one", "other", "p"], defScope (top 10), fun _ => true⟩ b_divisor_by (defBody (top 10)) = true := by decide +kernel
theorem ask_divisor_by {R : Str → Fn → Nat → Prop} {G : Str → D → Prop} {Q : Bool → Str → Prop} (h_times_by : R "times_by" f_times_by 3) (h_inverse : R "inverse" f_inverse 2) (h_parted_by : R "parted_by" f_parted_by 3) : AskSs R G Q b_divisor_by := by
  unfold b_divisor_by
  repeat' first | assumption | exact True.intro | refine ⟨?_, ?_⟩
theorem sc_is_quotient_by : FnScope ["thing", "p"] ["thing", "p"] (defScope (top 13)) := ⟨rfl, rfl, rfl, by decide +kernel, rfl, by decide +kernel, by decide +kernel⟩
theorem ok_is_quotient_by : okSs ⟨["thing", "p"], defScope (top 13), fun _ => true⟩ b_is_quotient_by (defBody (top 13)) = true := by decide +kernel
theorem ask_is_quotient_by {R : Str → Fn → Nat → Prop} {G : Str → D → Prop} {Q : Bool → Str → Prop} (h_is_poly_by : R "is_poly_by" f_is_poly_by 2) (h_divisor_by : R "divisor_by" f_divisor_by 3) : AskSs R G Q b_is_quotient_by := by
  unfold b_is_quotient_by
  repeat' first | assumption | exact True.intro | refine ⟨?_, ?_⟩
theorem sc_is_quotient : FnScope ["thing", "p"] ["thing", "p"] (defScope (top 14)) := ⟨rfl, rfl, rfl, by decide +kernel, rfl, by decide +kernel, by decide +kernel⟩
theorem ok_is_quotient : okSs ⟨["thing", "p"], defScope (top 14), fun _ => true⟩ b_is_quotient (defBody (top 14)) = true := by decide +kernel
theorem ask_is_quotient {R : Str → Fn → Nat → Prop} {G : Str → D → Prop} {Q : Bool → Str → Prop} (h_need_field : R "need_field" f_need_field 1) (h_is_quotient_by : R "is_quotient_by" f_is_quotient_by 2) : AskSs R G Q b_is_quotient := by
  unfold b_is_quotient
  repeat' first | assumption | exact True.intro | refine ⟨?_, ?_⟩
theorem sc__law_whole : FnScope ["thing", "beyond"] ["thing", "beyond"] (defScope (top 22)) := ⟨rfl, rfl, rfl, by decide +kernel, rfl, by decide +kernel, by decide +kernel⟩
theorem ok__law_whole : okSs ⟨["thing", "beyond"], defScope (top 22), fun _ => true⟩ b__law_whole (defBody (top 22)) = true := by decide +kernel
theorem ask__law_whole {R : Str → Fn → Nat → Prop} {G : Str → D → Prop} {Q : Bool → Str → Prop} : AskSs R G Q b__law_whole := by
  unfold b__law_whole
  repeat' first | assumption | exact True.intro | refine ⟨?_, ?_⟩
theorem sc__law_is_poly : FnScope ["thing", "p", "one"] ["thing", "p"] (defScope (top 23)) := ⟨rfl, rfl, rfl, by decide +kernel, rfl, by decide +kernel, by decide +kernel⟩
theorem ok__law_is_poly : okSs ⟨["thing", "p", "one"], defScope (top 23), fun _ => true⟩ b__law_is_poly (defBody (top 23)) = true := by decide +kernel
theorem ask__law_is_poly {R : Str → Fn → Nat → Prop} {G : Str → D → Prop} {Q : Bool → Str → Prop} (h__law_whole : R "_law_whole" f__law_whole 2) : AskSs R G Q b__law_is_poly := by
  unfold b__law_is_poly
  repeat' first | assumption | exact True.intro | refine ⟨?_, ?_⟩
theorem sc__law_is_quotient : FnScope ["thing", "p"] ["thing", "p"] (defScope (top 28)) := ⟨rfl, rfl, rfl, by decide +kernel, rfl, by decide +kernel, by decide +kernel⟩
theorem ok__law_is_quotient : okSs ⟨["thing", "p"], defScope (top 28), fun _ => true⟩ b__law_is_quotient (defBody (top 28)) = true := by decide +kernel
theorem ask__law_is_quotient {R : Str → Fn → Nat → Prop} {G : Str → D → Prop} {Q : Bool → Str → Prop} (h__law_is_poly : R "_law_is_poly" f__law_is_poly 2) (h__law_divisor : R "_law_divisor" f__law_divisor 3) : AskSs R G Q b__law_is_quotient := by
  unfold b__law_is_quotient
  repeat' first | assumption | exact True.intro | refine ⟨?_, ?_⟩
theorem sc__law_right : FnScope ["thing", "p", "kept", "found"] ["thing", "p"] (defScope (top 31)) := ⟨rfl, rfl, rfl, by decide +kernel, rfl, by decide +kernel, by decide +kernel⟩
theorem ok__law_right : okSs ⟨["thing", "p", "kept", "found"], defScope (top 31), fun _ => true⟩ b__law_right (defBody (top 31)) = true := by decide +kernel
theorem ask__law_right {R : Str → Fn → Nat → Prop} {G : Str → D → Prop} {Q : Bool → Str → Prop} (h_is_quotient : R "is_quotient" f_is_quotient 2) (h__law_is_quotient : R "_law_is_quotient" f__law_is_quotient 2) : AskSs R G Q b__law_right := by
  unfold b__law_right
  repeat' first | assumption | exact True.intro | refine ⟨?_, ?_⟩
theorem sc__law_odd_poly : FnScope ["deck", "poly", "p", "at", "new", "some"] ["deck", "poly", "p"] (defScope (top 29)) := ⟨rfl, rfl, rfl, by decide +kernel, rfl, by decide +kernel, by decide +kernel⟩
theorem ok__law_odd_poly : okSs ⟨["deck", "poly", "p", "at", "new", "some"], defScope (top 29), fun _ => true⟩ b__law_odd_poly (defBody (top 29)) = true := by decide +kernel
theorem ask__law_odd_poly {R : Str → Fn → Nat → Prop} {G : Str → D → Prop} {Q : Bool → Str → Prop} (h__law_draw : R "_law_draw" f__law_draw 2) : AskSs R G Q b__law_odd_poly := by
  unfold b__law_odd_poly
  repeat' first | assumption | exact True.intro | refine ⟨?_, ?_⟩
theorem sc__law_times : FnScope ["one", "other", "p", "found", "i", "j"] ["one", "other", "p"] (defScope (top 21)) := ⟨rfl, rfl, rfl, by decide +kernel, rfl, by decide +kernel, by decide +kernel⟩
theorem ok__law_times : okSs ⟨["one", "other", "p", "found", "i", "j"], defScope (top 21), fun _ => true⟩ b__law_times (defBody (top 21)) = true := by decide +kernel
theorem ask__law_times {R : Str → Fn → Nat → Prop} {G : Str → D → Prop} {Q : Bool → Str → Prop} (h__law_trimmed : R "_law_trimmed" f__law_trimmed 1) : AskSs R G Q b__law_times := by
  unfold b__law_times
  repeat' first | assumption | exact True.intro | refine ⟨?_, ?_⟩
theorem sc__law_odd_quotient : FnScope ["deck", "q", "p", "root", "number", "some", "top", "bottom", "one"] ["deck", "q", "p"] (defScope (top 30)) := ⟨rfl, rfl, rfl, by decide +kernel, rfl, by decide +kernel, by decide +kernel⟩
theorem ok__law_odd_quotient : okSs ⟨["deck", "q", "p", "root", "number", "some", "top", "bottom", "one"], defScope (top 30), fun _ => true⟩ b__law_odd_quotient (defBody (top 30)) = true := by decide +kernel
theorem ask__law_odd_quotient {R : Str → Fn → Nat → Prop} {G : Str → D → Prop} {Q : Bool → Str → Prop} (h__law_draw : R "_law_draw" f__law_draw 2) (h__law_odd_poly : R "_law_odd_poly" f__law_odd_poly 3) (h__law_times : R "_law_times" f__law_times 3) : AskSs R G Q b__law_odd_quotient := by
  unfold b__law_odd_quotient
  repeat' first | assumption | exact True.intro | refine ⟨?_, ?_⟩
theorem sc_law : FnScope ["script", "deck", "k", "p", "q", "turn", "thing"] ["script"] (defScope (top 32)) := ⟨rfl, rfl, rfl, by decide +kernel, rfl, by decide +kernel, by decide +kernel⟩
theorem ok_law : okSs ⟨["script", "deck", "k", "p", "q", "turn", "thing"], defScope (top 32), fun _ => true⟩ b_law (defBody (top 32)) = true := by decide +kernel
theorem ask_law {R : Str → Fn → Nat → Prop} {G : Str → D → Prop} {Q : Bool → Str → Prop} (h__law_deck : R "_law_deck" f__law_deck 1) (h__law_prime : R "_law_prime" f__law_prime 1) (h__law_quotient : R "_law_quotient" f__law_quotient 4) (h_is_quotient : R "is_quotient" f_is_quotient 2) (h__law_right : R "_law_right" f__law_right 2) (h__law_odd_quotient : R "_law_odd_quotient" f__law_odd_quotient 3) : AskSs R G Q b_law := by
  unfold b_law
  repeat' first | assumption | exact True.intro | refine ⟨?_, ?_⟩
theorem all_ok {P : Program} {w : World} {K : PySem.W.Frag} {h : Heap} {mg : Str → Option Value} (X : K.In h) (G : h.Ns mainGlobals mg) (sy0 : (sysB K && excB K exL) = true) (c : He.SaysD faL fnL K) :
    ∃ fd, (∀ base : Heap, FnG P w K mg base 7 (He.ga K "law") fd ["script"] (spF (zn K) 1 f_law)) ∧ (∀ (s : Shared) (v : Value), BindsTo s fd ⟨[v], []⟩ [("script", v)]) ∧ mg "law" = some (.ref (He.ga K "law")) := by
  obtain ⟨sy, eb⟩ := Bool.and_eq_true_iff.mp sy0
  obtain ⟨fd__law_deck, F__law_deck⟩ := c.def_ 0 (d := d__law_deck) rfl
  have m__law_deck := He.glo_ok X G (fact_of c 0 (f := .glo "_law_deck") rfl)
  obtain ⟨fd__law_draw, F__law_draw⟩ := c.def_ 1 (d := d__law_draw) rfl
  have m__law_draw := He.glo_ok X G (fact_of c 1 (f := .glo "_law_draw") rfl)
  obtain ⟨fd__law_prime, F__law_prime⟩ := c.def_ 2 (d := d__law_prime) rfl
  have m__law_prime := He.glo_ok X G (fact_of c 2 (f := .glo "_law_prime") rfl)
  obtain ⟨fd__law_poly, F__law_poly⟩ := c.def_ 3 (d := d__law_poly) rfl
  have m__law_poly := He.glo_ok X G (fact_of c 3 (f := .glo "_law_poly") rfl)
  obtain ⟨fd__law_trimmed, F__law_trimmed⟩ := c.def_ 4 (d := d__law_trimmed) rfl
  have m__law_trimmed := He.glo_ok X G (fact_of c 4 (f := .glo "_law_trimmed") rfl)
  obtain ⟨fd__law_rest, F__law_rest⟩ := c.def_ 5 (d := d__law_rest) rfl
  have m__law_rest := He.glo_ok X G (fact_of c 5 (f := .glo "_law_rest") rfl)
  obtain ⟨fd__law_divisor, F__law_divisor⟩ := c.def_ 6 (d := d__law_divisor) rfl
  have m__law_divisor := He.glo_ok X G (fact_of c 6 (f := .glo "_law_divisor") rfl)
  obtain ⟨fd__law_by, F__law_by⟩ := c.def_ 7 (d := d__law_by) rfl
  have m__law_by := He.glo_ok X G (fact_of c 7 (f := .glo "_law_by") rfl)
  obtain ⟨fd__law_quotient, F__law_quotient⟩ := c.def_ 8 (d := d__law_quotient) rfl
  have m__law_quotient := He.glo_ok X G (fact_of c 8 (f := .glo "_law_quotient") rfl)
  obtain ⟨fd_need_field, F_need_field⟩ := c.def_ 9 (d := d_need_field) rfl
  have m_need_field := He.glo_ok X G (fact_of c 9 (f := .glo "need_field") rfl)
  obtain ⟨fd_is_place, F_is_place⟩ := c.def_ 10 (d := d_is_place) rfl
  have m_is_place := He.glo_ok X G (fact_of c 10 (f := .glo "is_place") rfl)
  obtain ⟨fd_is_poly_by, F_is_poly_by⟩ := c.def_ 11 (d := d_is_poly_by) rfl
  have m_is_poly_by := He.glo_ok X G (fact_of c 11 (f := .glo "is_poly_by") rfl)
  obtain ⟨fd_trimmed, F_trimmed⟩ := c.def_ 12 (d := d_trimmed) rfl
  have m_trimmed := He.glo_ok X G (fact_of c 12 (f := .glo "trimmed") rfl)
  obtain ⟨fd_times_by, F_times_by⟩ := c.def_ 13 (d := d_times_by) rfl
  have m_times_by := He.glo_ok X G (fact_of c 13 (f := .glo "times_by") rfl)
  obtain ⟨fd_inverse, F_inverse⟩ := c.def_ 14 (d := d_inverse) rfl
  have m_inverse := He.glo_ok X G (fact_of c 14 (f := .glo "inverse") rfl)
  obtain ⟨fd_parted_by, F_parted_by⟩ := c.def_ 15 (d := d_parted_by) rfl
  have m_parted_by := He.glo_ok X G (fact_of c 15 (f := .glo "parted_by") rfl)
  obtain ⟨fd_divisor_by, F_divisor_by⟩ := c.def_ 16 (d := d_divisor_by) rfl
  have m_divisor_by := He.glo_ok X G (fact_of c 16 (f := .glo "divisor_by") rfl)
  obtain ⟨fd_is_quotient_by, F_is_quotient_by⟩ := c.def_ 17 (d := d_is_quotient_by) rfl
  have m_is_quotient_by := He.glo_ok X G (fact_of c 17 (f := .glo "is_quotient_by") rfl)
  obtain ⟨fd_is_quotient, F_is_quotient⟩ := c.def_ 18 (d := d_is_quotient) rfl
  have m_is_quotient := He.glo_ok X G (fact_of c 18 (f := .glo "is_quotient") rfl)
  obtain ⟨fd__law_whole, F__law_whole⟩ := c.def_ 19 (d := d__law_whole) rfl
  have m__law_whole := He.glo_ok X G (fact_of c 19 (f := .glo "_law_whole") rfl)
  obtain ⟨fd__law_is_poly, F__law_is_poly⟩ := c.def_ 20 (d := d__law_is_poly) rfl
  have m__law_is_poly := He.glo_ok X G (fact_of c 20 (f := .glo "_law_is_poly") rfl)
  obtain ⟨fd__law_is_quotient, F__law_is_quotient⟩ := c.def_ 21 (d := d__law_is_quotient) rfl
  have m__law_is_quotient := He.glo_ok X G (fact_of c 21 (f := .glo "_law_is_quotient") rfl)
  obtain ⟨fd__law_right, F__law_right⟩ := c.def_ 22 (d := d__law_right) rfl
  have m__law_right := He.glo_ok X G (fact_of c 22 (f := .glo "_law_right") rfl)
  obtain ⟨fd__law_odd_poly, F__law_odd_poly⟩ := c.def_ 23 (d := d__law_odd_poly) rfl
  have m__law_odd_poly := He.glo_ok X G (fact_of c 23 (f := .glo "_law_odd_poly") rfl)
  obtain ⟨fd__law_times, F__law_times⟩ := c.def_ 24 (d := d__law_times) rfl
  have m__law_times := He.glo_ok X G (fact_of c 24 (f := .glo "_law_times") rfl)
  obtain ⟨fd__law_odd_quotient, F__law_odd_quotient⟩ := c.def_ 25 (d := d__law_odd_quotient) rfl
  have m__law_odd_quotient := He.glo_ok X G (fact_of c 25 (f := .glo "_law_odd_quotient") rfl)
  obtain ⟨fd_law, F_law⟩ := c.def_ 26 (d := d_law) rfl
  have m_law := He.glo_ok X G (fact_of c 26 (f := .glo "law") rfl)
  have b := FunD.bindsA (ps := ["script"]) F_law fun _ _ _ _ _ _ us hl => match us, hl with | [_], _ => rfl
  refine ⟨fd_law, fun base => ?_, fun s v => b s [v] rfl, m_law⟩
  let M : Mz := ⟨P, w, K, mg, base⟩
  have B : Base (zn K) M := ⟨rfl, free_of X G c, sysB_ok sy⟩
  have r_NoPrime : RxM (zn K) M false "NoPrime" := rai_of (xs := exL.xs) (P := P) (w := w) (base := base) X G (fact_of c 27 rfl) (fact_of c 28 rfl) (by decide)
  have h__law_deck : FnM (zn K) 1 M "_law_deck" f__law_deck 1 := fn_def B F__law_deck sc__law_deck ok__law_deck (ask__law_deck (R := FnM (zn K) 0 M) (G := GloM (zn K) M) (Q := RxM (zn K) M) ) m__law_deck (FunD.bindsN (ps := ["script"]) F__law_deck fun _ _ _ _ _ _ us hl => match us, hl with | [_], _ => rfl)
  have h__law_draw : FnM (zn K) 1 M "_law_draw" f__law_draw 2 := fn_def B F__law_draw sc__law_draw ok__law_draw (ask__law_draw (R := FnM (zn K) 0 M) (G := GloM (zn K) M) (Q := RxM (zn K) M) ) m__law_draw (FunD.bindsN (ps := ["deck", "many"]) F__law_draw fun _ _ _ _ _ _ us hl => match us, hl with | [_, _], _ => rfl)
  have h__law_prime : FnM (zn K) 2 M "_law_prime" f__law_prime 1 := fn_def B F__law_prime sc__law_prime ok__law_prime (ask__law_prime (R := FnM (zn K) 1 M) (G := GloM (zn K) M) (Q := RxM (zn K) M) (h__law_draw.up (by decide))) m__law_prime (FunD.bindsN (ps := ["deck"]) F__law_prime fun _ _ _ _ _ _ us hl => match us, hl with | [_], _ => rfl)
  have h__law_poly : FnM (zn K) 2 M "_law_poly" f__law_poly 3 := fn_def B F__law_poly sc__law_poly ok__law_poly (ask__law_poly (R := FnM (zn K) 1 M) (G := GloM (zn K) M) (Q := RxM (zn K) M) (h__law_draw.up (by decide))) m__law_poly (FunD.bindsN (ps := ["deck", "p", "most"]) F__law_poly fun _ _ _ _ _ _ us hl => match us, hl with | [_, _, _], _ => rfl)
  have h__law_trimmed : FnM (zn K) 1 M "_law_trimmed" f__law_trimmed 1 := fn_def B F__law_trimmed sc__law_trimmed ok__law_trimmed (ask__law_trimmed (R := FnM (zn K) 0 M) (G := GloM (zn K) M) (Q := RxM (zn K) M) ) m__law_trimmed (FunD.bindsN (ps := ["numbers"]) F__law_trimmed fun _ _ _ _ _ _ us hl => match us, hl with | [_], _ => rfl)
  have h__law_rest : FnM (zn K) 2 M "_law_rest" f__law_rest 3 := fn_def B F__law_rest sc__law_rest ok__law_rest (ask__law_rest (R := FnM (zn K) 1 M) (G := GloM (zn K) M) (Q := RxM (zn K) M) (h__law_trimmed.up (by decide))) m__law_rest (FunD.bindsN (ps := ["one", "other", "p"]) F__law_rest fun _ _ _ _ _ _ us hl => match us, hl with | [_, _, _], _ => rfl)
  have h__law_divisor : FnM (zn K) 3 M "_law_divisor" f__law_divisor 3 := fn_def B F__law_divisor sc__law_divisor ok__law_divisor (ask__law_divisor (R := FnM (zn K) 2 M) (G := GloM (zn K) M) (Q := RxM (zn K) M) (h__law_rest.up (by decide))) m__law_divisor (FunD.bindsN (ps := ["one", "other", "p"]) F__law_divisor fun _ _ _ _ _ _ us hl => match us, hl with | [_, _, _], _ => rfl)
  have h__law_by : FnM (zn K) 2 M "_law_by" f__law_by 3 := fn_def B F__law_by sc__law_by ok__law_by (ask__law_by (R := FnM (zn K) 1 M) (G := GloM (zn K) M) (Q := RxM (zn K) M) (h__law_trimmed.up (by decide))) m__law_by (FunD.bindsN (ps := ["one", "other", "p"]) F__law_by fun _ _ _ _ _ _ us hl => match us, hl with | [_, _, _], _ => rfl)
  have h__law_quotient : FnM (zn K) 4 M "_law_quotient" f__law_quotient 4 := fn_def B F__law_quotient sc__law_quotient ok__law_quotient (ask__law_quotient (R := FnM (zn K) 3 M) (G := GloM (zn K) M) (Q := RxM (zn K) M) (h__law_poly.up (by decide)) (h__law_divisor.up (by decide)) (h__law_by.up (by decide))) m__law_quotient (FunD.bindsN (ps := ["deck", "p", "a", "b"]) F__law_quotient fun _ _ _ _ _ _ us hl => match us, hl with | [_, _, _, _], _ => rfl)
  have h_need_field : FnM (zn K) 1 M "need_field" f_need_field 1 := fn_def B F_need_field sc_need_field ok_need_field (ask_need_field (R := FnM (zn K) 0 M) (G := GloM (zn K) M) (Q := RxM (zn K) M) r_NoPrime) m_need_field (FunD.bindsN (ps := ["p"]) F_need_field fun _ _ _ _ _ _ us hl => match us, hl with | [_], _ => rfl)
  have h_is_place : FnM (zn K) 1 M "is_place" f_is_place 2 := fn_def B F_is_place sc_is_place ok_is_place (ask_is_place (R := FnM (zn K) 0 M) (G := GloM (zn K) M) (Q := RxM (zn K) M) ) m_is_place (FunD.bindsN (ps := ["thing", "p"]) F_is_place fun _ _ _ _ _ _ us hl => match us, hl with | [_, _], _ => rfl)
  have h_is_poly_by : FnM (zn K) 2 M "is_poly_by" f_is_poly_by 2 := fn_def B F_is_poly_by sc_is_poly_by ok_is_poly_by (ask_is_poly_by (R := FnM (zn K) 1 M) (G := GloM (zn K) M) (Q := RxM (zn K) M) (h_is_place.up (by decide))) m_is_poly_by (FunD.bindsN (ps := ["thing", "p"]) F_is_poly_by fun _ _ _ _ _ _ us hl => match us, hl with | [_, _], _ => rfl)
  have h_trimmed : FnM (zn K) 1 M "trimmed" f_trimmed 1 := fn_def B F_trimmed sc_trimmed ok_trimmed (ask_trimmed (R := FnM (zn K) 0 M) (G := GloM (zn K) M) (Q := RxM (zn K) M) ) m_trimmed (FunD.bindsN (ps := ["numbers"]) F_trimmed fun _ _ _ _ _ _ us hl => match us, hl with | [_], _ => rfl)
  have h_times_by : FnM (zn K) 2 M "times_by" f_times_by 3 := fn_def B F_times_by sc_times_by ok_times_by (ask_times_by (R := FnM (zn K) 1 M) (G := GloM (zn K) M) (Q := RxM (zn K) M) (h_trimmed.up (by decide))) m_times_by (FunD.bindsN (ps := ["poly", "number", "p"]) F_times_by fun _ _ _ _ _ _ us hl => match us, hl with | [_, _, _], _ => rfl)
  have h_inverse : FnM (zn K) 1 M "inverse" f_inverse 2 := fn_def B F_inverse sc_inverse ok_inverse (ask_inverse (R := FnM (zn K) 0 M) (G := GloM (zn K) M) (Q := RxM (zn K) M) ) m_inverse (FunD.bindsN (ps := ["number", "p"]) F_inverse fun _ _ _ _ _ _ us hl => match us, hl with | [_, _], _ => rfl)
  have h_parted_by : FnM (zn K) 2 M "parted_by" f_parted_by 3 := fn_def B F_parted_by sc_parted_by ok_parted_by (ask_parted_by (R := FnM (zn K) 1 M) (G := GloM (zn K) M) (Q := RxM (zn K) M) (h_inverse.up (by decide)) (h_trimmed.up (by decide))) m_parted_by (FunD.bindsN (ps := ["one", "other", "p"]) F_parted_by fun _ _ _ _ _ _ us hl => match us, hl with | [_, _, _], _ => rfl)
  have h_divisor_by : FnM (zn K) 3 M "divisor_by" f_divisor_by 3 := fn_def B F_divisor_by sc_divisor_by ok_divisor_by (ask_divisor_by (R := FnM (zn K) 2 M) (G := GloM (zn K) M) (Q := RxM (zn K) M) (h_times_by.up (by decide)) (h_inverse.up (by decide)) (h_parted_by.up (by decide))) m_divisor_by (FunD.bindsN (ps := ["one", "other", "p"]) F_divisor_by fun _ _ _ _ _ _ us hl => match us, hl with | [_, _, _], _ => rfl)
  have h_is_quotient_by : FnM (zn K) 4 M "is_quotient_by" f_is_quotient_by 2 := fn_def B F_is_quotient_by sc_is_quotient_by ok_is_quotient_by (ask_is_quotient_by (R := FnM (zn K) 3 M) (G := GloM (zn K) M) (Q := RxM (zn K) M) (h_is_poly_by.up (by decide)) (h_divisor_by.up (by decide))) m_is_quotient_by (FunD.bindsN (ps := ["thing", "p"]) F_is_quotient_by fun _ _ _ _ _ _ us hl => match us, hl with | [_, _], _ => rfl)
  have h_is_quotient : FnM (zn K) 5 M "is_quotient" f_is_quotient 2 := fn_def B F_is_quotient sc_is_quotient ok_is_quotient (ask_is_quotient (R := FnM (zn K) 4 M) (G := GloM (zn K) M) (Q := RxM (zn K) M) (h_need_field.up (by decide)) (h_is_quotient_by.up (by decide))) m_is_quotient (FunD.bindsN (ps := ["thing", "p"]) F_is_quotient fun _ _ _ _ _ _ us hl => match us, hl with | [_, _], _ => rfl)
  have h__law_whole : FnM (zn K) 1 M "_law_whole" f__law_whole 2 := fn_def B F__law_whole sc__law_whole ok__law_whole (ask__law_whole (R := FnM (zn K) 0 M) (G := GloM (zn K) M) (Q := RxM (zn K) M) ) m__law_whole (FunD.bindsN (ps := ["thing", "beyond"]) F__law_whole fun _ _ _ _ _ _ us hl => match us, hl with | [_, _], _ => rfl)
  have h__law_is_poly : FnM (zn K) 2 M "_law_is_poly" f__law_is_poly 2 := fn_def B F__law_is_poly sc__law_is_poly ok__law_is_poly (ask__law_is_poly (R := FnM (zn K) 1 M) (G := GloM (zn K) M) (Q := RxM (zn K) M) (h__law_whole.up (by decide))) m__law_is_poly (FunD.bindsN (ps := ["thing", "p"]) F__law_is_poly fun _ _ _ _ _ _ us hl => match us, hl with | [_, _], _ => rfl)
  have h__law_is_quotient : FnM (zn K) 4 M "_law_is_quotient" f__law_is_quotient 2 := fn_def B F__law_is_quotient sc__law_is_quotient ok__law_is_quotient (ask__law_is_quotient (R := FnM (zn K) 3 M) (G := GloM (zn K) M) (Q := RxM (zn K) M) (h__law_is_poly.up (by decide)) (h__law_divisor.up (by decide))) m__law_is_quotient (FunD.bindsN (ps := ["thing", "p"]) F__law_is_quotient fun _ _ _ _ _ _ us hl => match us, hl with | [_, _], _ => rfl)
  have h__law_right : FnM (zn K) 6 M "_law_right" f__law_right 2 := fn_def B F__law_right sc__law_right ok__law_right (ask__law_right (R := FnM (zn K) 5 M) (G := GloM (zn K) M) (Q := RxM (zn K) M) (h_is_quotient.up (by decide)) (h__law_is_quotient.up (by decide))) m__law_right (FunD.bindsN (ps := ["thing", "p"]) F__law_right fun _ _ _ _ _ _ us hl => match us, hl with | [_, _], _ => rfl)
  have h__law_odd_poly : FnM (zn K) 2 M "_law_odd_poly" f__law_odd_poly 3 := fn_def B F__law_odd_poly sc__law_odd_poly ok__law_odd_poly (ask__law_odd_poly (R := FnM (zn K) 1 M) (G := GloM (zn K) M) (Q := RxM (zn K) M) (h__law_draw.up (by decide))) m__law_odd_poly (FunD.bindsN (ps := ["deck", "poly", "p"]) F__law_odd_poly fun _ _ _ _ _ _ us hl => match us, hl with | [_, _, _], _ => rfl)
  have h__law_times : FnM (zn K) 2 M "_law_times" f__law_times 3 := fn_def B F__law_times sc__law_times ok__law_times (ask__law_times (R := FnM (zn K) 1 M) (G := GloM (zn K) M) (Q := RxM (zn K) M) (h__law_trimmed.up (by decide))) m__law_times (FunD.bindsN (ps := ["one", "other", "p"]) F__law_times fun _ _ _ _ _ _ us hl => match us, hl with | [_, _, _], _ => rfl)
  have h__law_odd_quotient : FnM (zn K) 3 M "_law_odd_quotient" f__law_odd_quotient 3 := fn_def B F__law_odd_quotient sc__law_odd_quotient ok__law_odd_quotient (ask__law_odd_quotient (R := FnM (zn K) 2 M) (G := GloM (zn K) M) (Q := RxM (zn K) M) (h__law_draw.up (by decide)) (h__law_odd_poly.up (by decide)) (h__law_times.up (by decide))) m__law_odd_quotient (FunD.bindsN (ps := ["deck", "q", "p"]) F__law_odd_quotient fun _ _ _ _ _ _ us hl => match us, hl with | [_, _, _], _ => rfl)
  have z := fn_defG (M := M) (C := cs0) B F_law sc_law ok_law (ask_law (R := FnM (zn K) 6 M) (G := GloM (zn K) M) (Q := RxM (zn K) M) (h__law_deck.up (by decide)) (h__law_prime.up (by decide)) (h__law_quotient.up (by decide)) (h_is_quotient.up (by decide)) (h__law_right.up (by decide)) (h__law_odd_quotient.up (by decide)))
  exact z
end K57
namespace K57
open PySem PySem.Spec PyProof.Rows L2 Tb U
open Po
theorem right_ok {p : Nat} [NeZero p] {x : D} {h : Hh} (q : p ∈ FP) (t : Tk x) : callM .P f__law_right [x, .int (p : Nat)] h = .ok (.bl true) h := by
  refine callPP (by simp [pures, D.pure, Rg.rs_pure _ _ t.rs]) (d := .bl true) (h' := []) (eq_of_W (w__law_right ?_)) rfl
  obtain ⟨z, ez⟩ := repr_ok t.rs (by omega) (by have := t.wt; omega)
  obtain ⟨b, e⟩ := quot_gen q t
  have e0 : ∀ h : Hh, callM .P f_is_quotient [x, .int (p : Nat)] h = .ok (.bl b) h := fun h => by
    refine callPP (by simp [pures, D.pure, Rg.rs_pure _ _ t.rs]) (d := .bl b) (h' := []) (r_is_quotient.trans ?_) rfl
    simp [t_is_quotient_1, t_is_quotient_2, need_field_ok q, (e _).1]
  have e2 := fun h => (e h).2
  simp (disch := walk_at "ln") [-getElem?_pos, -max_ii, -min_ii, -max_t2, -abs_i, max_iO, min_iO, max_tO, abs_iO, List.getElem?_cons_zero, List.getElem?_append_left, t__law_right_1, ez, t__law_right_2, e0, t__law_right_3, e2, Rg.eq_bls, eq_strs]
def endL : List D := [.non, .int 0, .str "", .tup [], .lst [], .dic [], .tup [.lst [], .lst []], .tup [.lst [], .lst [.int 1]], .tup [.lst [.int 1], .lst [.int 1]], .tup [.lst [], .lst [.int 0, .int 1]], .tup [.lst [.int 1], .lst [.int 2]], .tup [.lst [.int 1], .int 1]]
theorem endL_tk : ∀ x ∈ endL, Tk x := by
  intro x hx
  have ti : ∀ i : Int, 0 ≤ i → i ≤ 5 → Ti (.int i) := fun i h1 h2 => ti_int (small_of (by omega) (by omega))
  have l0 : Tp (.lst []) := Tp.lst (fun _ h => by cases h) (by simp)
  have l1 : ∀ i : Int, 0 ≤ i → i ≤ 5 → Tp (.lst [.int i]) := fun i h1 h2 => Tp.lst (fun x h => by rw [List.mem_singleton.mp h]; exact ti i h1 h2) (by simp)
  have l2 : Tp (.lst [.int 0, .int 1]) := Tp.lst (fun x h => by
    simp only [List.mem_cons, List.not_mem_nil, or_false] at h
    rcases h with rfl | rfl
    · exact ti 0 (by omega) (by omega)
    · exact ti 1 (by omega) (by omega)) (by simp)
  have i1 : ∀ i : Int, 0 ≤ i → i ≤ 5 → Tp (.int i) := fun i h1 h2 => ⟨rs_up (by omega) _ (ti i h1 h2).rs, by simp [wtD], (fun ys e => by cases e), fun ys e => by cases e⟩
  have o1 := Rg.strOk_of ""
  have e1 : (Str.ofString "").length ≤ 10 := by decide
  simp only [endL, List.mem_cons, List.not_mem_nil, or_false] at hx
  rcases hx with rfl | rfl | rfl | rfl | rfl | rfl | rfl | rfl | rfl | rfl | rfl | rfl
  · exact ⟨rfl, by simp [wtD], (fun ys e => by cases e), fun x y e => by cases e⟩
  · exact .tp (i1 0 (by omega) (by omega)) fun _ _ e => by cases e
  · exact ⟨by simpa [D.rs] using o1, by simp only [wtD]; omega, (fun ys e => by cases e), fun x y e => by cases e⟩
  · exact ⟨rfl, by simp [wtD, wtDs], (fun ys e => by cases e), fun x y e => by cases e⟩
  · exact .tp l0 fun _ _ e => by cases e
  · exact ⟨rfl, by simp [wtD, wtK], (fun ys e => by cases e), fun x y e => by cases e⟩
  · exact .two' l0 l0
  · exact .two' l0 (l1 1 (by omega) (by omega))
  · exact .two' (l1 1 (by omega) (by omega)) (l1 1 (by omega) (by omega))
  · exact .two' l0 l2
  · exact .two' (l1 1 (by omega) (by omega)) (l1 2 (by omega) (by omega))
  · exact .two' (l1 1 (by omega) (by omega)) (i1 1 (by omega) (by omega))
theorem law_ok (ns : List Int) (hn : ns.length ≤ 63) (hb : ∀ i ∈ ns, Builtin.Int.intBits i ≤ 1048576) : ∃ h', f_law [.kl (ns.map .int)] [] = .ok (.bl true) h' := by
  suffices w : W (f_law [.kl (ns.map .int)] []) fun d _ => d = .bl true by
    obtain ⟨d, h', e, rfl⟩ := w.ex
    exact ⟨h', e⟩
  refine w_law ?_
  generalize hQ : (fun (d : D) (_ : Hh) => d = D.bl true) = Q
  simp (disch := walk_at "ln") [-getElem?_pos, -max_ii, -min_ii, -max_t2, -abs_i, max_iO, min_iO, max_tO, abs_iO, List.getElem?_cons_zero, List.getElem?_append_left, t_law_1]
  refine deckW hn fun d h0 s => ?_
  generalize hS : D.kl (ns.map D.int) = sc
  have hB : h0.length ≤ h0.length := Nat.le_refl _
  generalize hb : h0.length = B at s
  rw [hb] at hB
  simp (disch := walk_at "ln") [-getElem?_pos, -max_ii, -min_ii, -max_t2, -abs_i, max_iO, min_iO, max_tO, abs_iO, List.getElem?_cons_zero, List.getElem?_append_left, t_law_2]
  obtain ⟨I, hI⟩ := opq fun (j : Nat) (ls : Ls) (h' : Hh) => ∃ (o2 o3 o4 o5 o6 : Option D), ls = [some sc, some (.cel d), o2, o3, o4, o5, o6] ∧ DkA B d h' (400 * j) ∧ B ≤ h'.length
  refine w_rng0 I (by rw [hI]; exact ⟨_, _, _, _, _, rfl, s, by omega⟩) ?_ ?_
  · intro j _ h hj w
    rw [hI] at w
    obtain ⟨o2, o3, o4, o5, o6, rfl, s, hB⟩ := w
    refine ⟨_, rfl, ?_⟩
    simp (disch := walk_at "ln") [-getElem?_pos, -max_ii, -min_ii, -max_t2, -abs_i, max_iO, min_iO, max_tO, abs_iO, List.getElem?_cons_zero, List.getElem?_append_left, t_law_3]
    refine prime5W s (by omega) fun p h1 q s l => ?_
    have hB : B ≤ h1.length := by rw [l.1]; exact hB
    have pb := FP_le q
    haveI : NeZero p := ⟨by omega⟩
    simp (disch := walk_at "ln") [-getElem?_pos, -max_ii, -min_ii, -max_t2, -abs_i, max_iO, min_iO, max_tO, abs_iO, List.getElem?_cons_zero, List.getElem?_append_left, t_law_4]
    refine quotient5W s hB (by omega) q (by omega) (by omega) (by omega) (by omega) fun t u h2 qu tl ul s l => ?_
    have hB : B ≤ h2.length := by rw [l.1]; exact hB
    obtain ⟨r, er, kr⟩ := is_quotient_gen (h := []) q qu.ct qu.cb (by omega) (by omega)
    have r1 := kr
    rw [er.mpr qu] at r1
    have od : ∀ (T : Int) (h : Hh) (Q : D → Hh → Prop), DkA B d h T → B ≤ h.length → T < 300000 → (∀ x h', Tk x → DkA B d h' (T + 12) → B ≤ h'.length → Q x h') → W (f__law_odd_quotient [.cel d, lp (t, u), .int (p : Nat)] h) Q := fun T h Q s hB hT k => odd_quotientW s hB hT q qu.ct qu.cb (by omega) (by omega) k
    have ll : (t.map D.int).length = t.length := List.length_map ..
    have lu : (u.map D.int).length = u.length := List.length_map ..
    simp only [lp] at r1 od
    generalize hT : t.map D.int = T at *
    generalize hU : u.map D.int = U at *
    have i1 : ∀ h : Hh, cmpD .IsNot h (.bl true) (.bl true) = some false := fun _ => rfl
    simp (disch := walk_at "ln") [-getElem?_pos, -max_ii, -min_ii, -max_t2, -abs_i, max_iO, min_iO, max_tO, abs_iO, List.getElem?_cons_zero, List.getElem?_append_left, lp, hT, hU, t_law_5, r1, i1]
    simp (disch := walk_at "ln") [-getElem?_pos, -max_ii, -min_ii, -max_t2, -abs_i, max_iO, min_iO, max_tO, abs_iO, List.getElem?_cons_zero, List.getElem?_append_left, t_law_7]
    have hV : ∃ V : Int, DkA B d h2 V ∧ V ≤ 400 * j + 70 := ⟨_, s, by omega⟩
    obtain ⟨V, s, hV⟩ := hV
    obtain ⟨J, hJ⟩ := opq fun (i : Nat) (ls : Ls) (h' : Hh) => ∃ (o5 : Option D), ls = [some sc, some (.cel d), some (.int (j : Nat)), some (.int (p : Nat)), some (.tup [.lst T, .lst U]), o5, o6] ∧ DkA B d h' (V + 12 * i) ∧ B ≤ h'.length
    refine w_rng0 J (by rw [hJ]; exact ⟨_, rfl, s.le (by omega), hB⟩) ?_ ?_
    · intro i _ h hi w
      rw [hJ] at w
      obtain ⟨o5, rfl, s, hB⟩ := w
      refine ⟨_, rfl, ?_⟩
      simp (disch := walk_at "ln") [-getElem?_pos, -max_ii, -min_ii, -max_t2, -abs_i, max_iO, min_iO, max_tO, abs_iO, List.getElem?_cons_zero, List.getElem?_append_left, t_law_8]
      refine od _ _ _ s hB (by omega) fun x h3 t s hB => ?_
      have e := right_ok (h := h3) q t
      simp (disch := walk_at "ln") [-getElem?_pos, -max_ii, -min_ii, -max_t2, -abs_i, max_iO, min_iO, max_tO, abs_iO, List.getElem?_cons_zero, List.getElem?_append_left, e]
      rw [hJ]; exact ⟨_, rfl, s.le (by omega), hB⟩
    · intro _ h w
      rw [hJ] at w
      obtain ⟨o5, rfl, s, hB⟩ := w
      simp (disch := walk_at "ln") [-getElem?_pos, -max_ii, -min_ii, -max_t2, -abs_i, max_iO, min_iO, max_tO, abs_iO, List.getElem?_cons_zero, List.getElem?_append_left, t_law_10]
      obtain ⟨E, hE⟩ := opq fun (_ : Nat) (ls : Ls) (h' : Hh) => ∃ (o6 : Option D), ls = [some sc, some (.cel d), some (.int (j : Nat)), some (.int (p : Nat)), some (.tup [.lst T, .lst U]), o5, o6] ∧ h' = h
      refine w_lst (xs := endL) E (by rw [hE]; exact ⟨o6, rfl, rfl⟩) ?_ ?_
      · intro _ x _ h' hx w
        rw [hE] at w
        obtain ⟨o6, rfl, e⟩ := w
        have r := right_ok (h := h') q (endL_tk x (List.mem_of_getElem? hx))
        refine ⟨_, rfl, ?_⟩
        simp (disch := walk_at "ln") [-getElem?_pos, -max_ii, -min_ii, -max_t2, -abs_i, max_iO, min_iO, max_tO, abs_iO, List.getElem?_cons_zero, List.getElem?_append_left, t_law_11, r]
        rw [hE]; exact ⟨_, rfl, e⟩
      · intro _ h' w
        rw [hE] at w
        obtain ⟨o6, rfl, e⟩ := w
        subst e
        rw [hI]; exact ⟨_, _, _, _, _, rfl, s.le (by omega), hB⟩
  · intro _ h w
    rw [hI] at w
    obtain ⟨o2, o3, o4, o5, o6, rfl, s, hB⟩ := w
    simp (disch := walk_at "ln") [-getElem?_pos, -max_ii, -min_ii, -max_t2, -abs_i, max_iO, min_iO, max_tO, abs_iO, List.getElem?_cons_zero, List.getElem?_append_left, t_law_13, ← hQ]
end K57
set_option maxHeartbeats 0
namespace K57
open PySem PySem.Spec PyProof.Rows L2 Tb U
abbrev Rr : PySem.W.OpenRow := PySem.W.OpenLaw.row PySem.Challenge.rw_toldback_k57_what_is_a_quotient
abbrev lo0 : List PySem.Str := ["BackError", "NoPrime", "need_field", "is_place", "trimmed", "times_by", "inverse", "parted_by", "divisor_by", "is_poly_by", "is_quotient_by", "is_quotient", "_law_deck", "_law_draw", "_law_prime", "_law_poly", "_law_trimmed", "_law_times", "_law_whole", "_law_is_poly", "_law_rest", "_law_divisor", "_law_by", "_law_quotient", "_law_is_quotient", "_law_odd_poly", "_law_odd_quotient", "_law_right"]
abbrev loose : List PySem.Str := lo0
abbrev hk : PySem.W.Hook := hookT 4 faL fnL exL
def ob (s : PySem.W.SharedT) : AlT := obsT 4 faL fnL exL (HandSHeadRun.getT s)
theorem ob_eq (s : PySem.W.SharedT) : ob s = hk.obs s.abs := obsT_eq (HandSHeadRun.getT_eq s)
theorem run (w : World) : HandSHeadRun.RunEq Rr (PySem.W.view Rr.prog [32]) hk ob 12000 loose w := by
  intro os
  kernel_rfl
end K57
open PySem PySem.W PySem.Calls PyProof.Rows
theorem PySem.Challenge.cw_toldback_k57_what_is_a_quotient_holds : PySem.Challenge.rw_toldback_k57_what_is_a_quotient.Holds := by
  w_on; o_law
  refine HandSHeadRun.head_any (r := K57.Rr) (q := view K57.Rr.prog [32]) (H := K57.hk) (ob := K57.ob) (M := 12000) (loose := K57.loose) (d := HandSHeadRun.topDef K57.Rr.prog 32) (kwd := []) K57.ob_eq
    (by kernel_rfl) (fun s => by kernel_rfl) K57.run (by kernel_rfl) (by kernel_rfl) (by kernel_rfl) (by rfl) (by first | assumption | decide +kernel) (by decide +kernel) ⟨rfl, rfl, rfl, rfl, rfl, by decide +kernel⟩ ?hw ?hc
  case hw => w_witness2
  case hc =>
    refine Tb.walk_G (l := PySem.Challenge.rw_toldback_k57_what_is_a_quotient) (n := 63) (k := 7) (x := "script") rfl (by decide) (by kernel_rfl) ⟨rfl, by decide, by decide⟩ ?F
    intro w mg fa h Y G hmg0
    obtain ⟨K, KX, sy, c⟩ := Y
    obtain ⟨fd, hF, hb, em⟩ := K57.all_ok (P := (PySem.Challenge.rw_toldback_k57_what_is_a_quotient).prog) (w := w) KX G sy c
    have e : (HandSHeadRun.topDef K57.Rr.prog 32).name = ("law" : PySem.Str) := by kernel_rfl
    rw [e] at hmg0
    rw [hmg0] at em
    obtain rfl : fa = He.ga K "law" := by cases em; rfl
    exact ⟨K, fd, Tb.spF (K57.zn K) 1 K57.f_law, KX, hb, fun H a ns hl hbits hO hS => Tb.law_sp hO hS (K57.law_ok ns hl hbits), fun base _ _ => hF base⟩

