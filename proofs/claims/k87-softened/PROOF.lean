import PyProof.Rows.All
import Wide.All
import OpenK.AllK
import Wide.FinOn
import HandS.TupMul
import HandS.List
import HandS.Exc
import HandS.ExcOwn
import HandS.ExcInit
import HandS.ExcValue
import HandS.ExcField
import HandS.IsInst
import HandS.TryMany
import KE.KExcIs
import KE.KDictKeyed
import HandS.ExcSuper
import HandS.Dict
import HandS.More
import HandS.Codes
import PyProof.DictCopy
import HandS.ForMost
import HandS.Wide
import HandS.TupAny
import HandS.Zip
import HandS.Rev
import HandS.CallSlots
import HandS.RevTup
import KE.DatumOrd
import HandS.Flt
import PyProof.DictTruth
import HandS.NoneIn
import KE.KEqNest
import HandS.EndBits
import PySem.Challenge.RW_blamewise_k87_softened
set_option Elab.async false
set_option linter.all false
set_option maxRecDepth 100000
set_option maxHeartbeats 4000000
namespace L2
open PySem PySem.Spec PyProof.Rows
theorem tuple_mul1 (l : Addr) (items : Array Value) (n : Nat) (dd : Option Addr) (sl : Array (Option Value)) (x : Int) (u : Tok) (c0 : (decide (x < -(2 ^ 63)) || decide (x ≥ 2 ^ 63)) = false) (c1 : (items.isEmpty || x == 1) = true) :
    Meets (Builtin.«tuple.__mul__» ⟨[.ref l, .int x u], []⟩) (fun _ R s => s.heap.get? l = some { cls := .type "tuple", dict := dd, data := .seq items n, slots := sl } ∧
      R (.ok (.ret (Value.ref l))) s) :=
  .of_wp fun prog w A R s h => by
    obtain ⟨hp, g, d, tk, os⟩ := s
    obtain ⟨hl, h⟩ := h
    have f1 := AutoSeq1.idx_int
    wp_walk using wpAny_loadPart' hl
    repeat (first
      | (refine wpAny_ite_false (decide_eq_false (by rw [c0]; exact Bool.false_ne_true)) ?_; wp_walk using wpAny_loadPart' hl)
      | (refine wpAny_ite_true (decide_eq_true (by rw [c1])) ?_; wp_walk using wpAny_loadPart' hl))
    exact ⟨_, rfl, h⟩
theorem tuple_mul0 (l : Addr) (items : Array Value) (n : Nat) (dd : Option Addr) (sl : Array (Option Value)) (x : Int) (u : Tok) (c0 : (decide (x < -(2 ^ 63)) || decide (x ≥ 2 ^ 63)) = false) (c1 : (items.isEmpty || x == 1) = false) (c2 : (decide (x ≤ 0) || items.isEmpty) = true) :
    Meets (Builtin.«tuple.__mul__» ⟨[.ref l, .int x u], []⟩) (fun _ R s => s.heap.get? l = some { cls := .type "tuple", dict := dd, data := .seq items n, slots := sl } ∧
      R (.ok (.ret (Value.ref s.heap.objs.size))) { s with heap := s.heap.push { cls := Value.type "tuple", data := Data.seq #[] }, toks := s.toks }) :=
  .of_wp fun prog w A R s h => by
    obtain ⟨hp, g, d, tk, os⟩ := s
    obtain ⟨hl, h⟩ := h
    have f1 := AutoSeq1.idx_int
    wp_walk using wpAny_loadPart' hl
    repeat (first
      | (refine wpAny_ite_false (decide_eq_false (by rw [c0]; exact Bool.false_ne_true)) ?_; wp_walk using wpAny_loadPart' hl)
      | (refine wpAny_ite_false (decide_eq_false (by rw [c1]; exact Bool.false_ne_true)) ?_; wp_walk using wpAny_loadPart' hl)
      | (refine wpAny_ite_true (decide_eq_true (by rw [c2])) ?_; wp_walk using wpAny_loadPart' hl))
    exact ⟨_, rfl, h⟩
def rRepA (K : PySem.W.Frag) : R2 := fun x y H Q => ∃ l k xs, x = .ref l ∧ y = .int k ∧ SqT K H l xs ∧ xs ≠ [] ∧ 0 ≤ k ∧ k ≤ 1000 ∧ xs.length ≤ 1000 ∧ (k = 1 → Q (.ref l) H) ∧ (k ≠ 1 → ∀ p, H p = none → Q (.ref p) (upd H p (.tup (List.replicate k.toNat xs).flatten)))
section
variable {X : Cx}
theorem op_repA : OpR X (binaryOp .Mult) (rRepA X.K) := by
  intro pins s σ H x y v u Q I rx ry h
  obtain ⟨l, k, xs, rfl, rfl, hT, hne, h1, h2, hz, q1, q⟩ := h
  by_cases hk2 : 2 ≤ k
  · exact op_repT pins s σ H _ _ v u Q I rx ry ⟨l, k, xs, rfl, rfl, hT, hne, hk2, h2, hz, q (by omega)⟩
  cases rx
  obtain ⟨t, rfl⟩ := ry
  obtain ⟨its, r, ⟨⟨cls, dd, data, sl⟩, ho, hc, n, hd⟩, hs⟩ := I.tuple hT
  simp only at hc hd
  subst hc hd
  have hle : its.length = xs.length := r.length.symm
  have hn : its ≠ [] := fun e => hne (by
    rw [e] at hle
    exact List.eq_nil_of_length_eq_zero hle.symm)
  have hi : its.toArray.isEmpty = false := by
    cases its with
    | nil => exact absurd rfl hn
    | cons a b => rfl
  have c0 : (decide (k < -(2 ^ 63)) || decide (k ≥ 2 ^ 63)) = false := by
    rw [decide_eq_false (by omega), decide_eq_false (by omega)] <;> rfl
  by_cases hk : k = 1
  · have c1 : (its.toArray.isEmpty || k == 1) = true := by rw [hk]; simp
    refine wpAny_binaryOp_repeat_ref (T := "tuple") (U := "int") (by decide) ⟨_, ho, rfl⟩ (fun s' => typeIs_int s' k t) noFill_tuple_mul F.fills_int_mul F.slot_int_rmul repeat_tuple F.slot_int_index.lookup
      (call_meets F.slot_int_rmul (typeIs_int s k t) F.entry_int_rmul (F.args_int_rmul_2 _ _) (int_rmul_tuple k t l its.toArray n dd sl)
        ⟨ho, rfl, ⟨_, ho, rfl⟩, call_meets F.slot_tuple_mul ⟨_, ho, rfl⟩ F.entry_tuple_mul (F.args_tuple_mul_2 _ _) (tuple_mul1 l its.toArray n dd sl k t c0 c1) ⟨ho, ?_⟩⟩)
    exact ⟨.ref l, H, I, rfl, q1 hk⟩
  · have hk0 : k = 0 := by omega
    have c1 : (its.toArray.isEmpty || k == 1) = false := by
      rw [hi, Bool.false_or]
      exact beq_eq_false_iff_ne.mpr hk
    have c2 : (decide (k ≤ 0) || its.toArray.isEmpty) = true := by
      rw [decide_eq_true (by omega)]; rfl
    refine wpAny_binaryOp_repeat_ref (T := "tuple") (U := "int") (by decide) ⟨_, ho, rfl⟩ (fun s' => typeIs_int s' k t) noFill_tuple_mul F.fills_int_mul F.slot_int_rmul repeat_tuple F.slot_int_index.lookup
      (call_meets F.slot_int_rmul (typeIs_int s k t) F.entry_int_rmul (F.args_int_rmul_2 _ _) (int_rmul_tuple k t l its.toArray n dd sl)
        ⟨ho, rfl, ⟨_, ho, rfl⟩, call_meets F.slot_tuple_mul ⟨_, ho, rfl⟩ F.entry_tuple_mul (F.args_tuple_mul_2 _ _) (tuple_mul0 l its.toArray n dd sl k t c0 c1 c2) ⟨ho, ?_⟩⟩)
    have q := q hk
    rw [hk0] at q
    refine ⟨.ref s.heap.objs.size, _, I.laid (t' := s.toks) (o := .tup []) (fun b ob q => Heap.get?_push_of_some _ q) (Nat.le_refl _) ?_, rfl, q _ (I.hok.fresh (Nat.le_refl _))⟩
    exact ⟨by rw [sizeLine_eq]; exact Nat.zero_le _, [], .nil, IsTup.new _ _⟩
theorem count_eqU {x : V} : ∀ {xs : List V} {us : List Value}, Vals xs us → xs.all flatV = true → us.countP (eqU x) = xs.countP fun y => eqV y x
  | _, _, .nil, _ => rfl
  | y :: xs, u :: us, .cons r t, f => by
    rw [List.all_cons, Bool.and_eq_true] at f
    rw [List.countP_cons, List.countP_cons, eqU_of r f.1, count_eqU t f.2]
/-- list.count, flat items -/
def rCntF (K : PySem.W.Frag) : V → List V → Hp → VK → Prop := fun x xs H Q => ∃ (a : Addr) (ys : List V) (y : V), x = V.ref a ∧ xs = [y] ∧ SqL K H a ys ∧ flatV y = true ∧ ys.all flatV = true ∧ Q (.int ((ys.countP fun z => eqV z y : Nat) : Int)) H
theorem mt_lcntF : MtR X "list.count" (rCntF X.K) := by
  intro pins s σ H x xs v us Q I rx rxs h
  obtain ⟨a, ys, y, rfl, rfl, hs, fy, fys, q⟩ := h
  cases rx
  cases rxs with
  | cons ry rt =>
    rename_i uy ut
    cases rt
    obtain ⟨its, rv, ⟨⟨cls, dd, data, sl⟩, n, ho, hc, hdn, hd⟩, hlen⟩ := I.list hs
    simp only at hc hd
    subst hc hd
    refine call_meets PySem.F.slot_list_count ⟨_, ho, rfl⟩ PySem.F.entry_list_count (PySem.F.args_list_count_2 _ _)
      (SeqAt.list_countAt a its.toArray n dd sl uy (eqU y)) ⟨ho, fun u' hu' => mem_eqAt ry fy rv fys u' (by simpa using hu'), ?_⟩
    have ec : its.toArray.toList.countP (eqU y) = ys.countP fun z => eqV z y := count_eqU rv fys
    refine ⟨.int ((ys.countP fun z => eqV z y : Nat) : Int), H, I.tok _, ⟨s.toks, ?_⟩, q⟩
    show Value.int ((its.toArray.toList.countP (eqU y) : Nat) : Int) s.toks = Value.int ((ys.countP fun z => eqV z y : Nat) : Int) s.toks
    rw [ec]
end
end L2

/-! Ex1: a try with any clauses, names and else; the caught exception is tracked from there on. -/
namespace Bw
open PySem L2 PySem.Spec PyProof.Rows
/-- a caught exception of the class cls, its dict at d -/
def ExT (cls : Value) (d : Option Addr) (e : Addr) : HO := .ext fun h => ∃ (ob : Obj) (us : Array Value), h.get? e = some ob ∧ Zc cls d ob ∧ ob.data = .fields us
theorem exT_ok {P : Program} {w : World} {H : Hp} {h : Heap} {e : Addr} {cls : Value} {d : Option Addr} {ob : Obj} {us : Array Value} (q : h.get? e = some ob) (z : Zc cls d ob) (dd : ob.data = .fields us) : ObjOk P w H h e (ExT cls d e) :=
  ⟨⟨ob, us, q, z, dd⟩, ⟨ob, q⟩, fun _ _ ⟨o, v, q1, q2⟩ k => ⟨o, v, k o q1, q2⟩⟩
theorem exT_at {P : Program} {w : World} {H : Hp} {h : Heap} {e : Addr} {cls : Value} {d : Option Addr} (hok : HOk P w H h) (q : H e = some (ExT cls d e)) : ∃ (ob : Obj) (us : Array Value), h.get? e = some ob ∧ Zc cls d ob ∧ ob.data = .fields us := by
  have x : ObjOk P w H h e (.ext fun h => ∃ (ob : Obj) (us : Array Value), h.get? e = some ob ∧ Zc cls d ob ∧ ob.data = .fields us) := hok e _ q
  exact x.1
structure Hc where
  c : Value
  nm : Option Nat
  ts : TS
def endH (nm : Option Nat) (D : Ends) : Ends := match nm with
  | none => D
  | some i => { nx := fun σ' H' => D.nx (σ'.set i none) H', rt := D.rt, bk := fun σ' H' => D.bk (σ'.set i none) H', ct := fun σ' H' => D.ct (σ'.set i none) H' }
def setH (nm : Option Nat) (σ : L2.St) (a : Addr) : L2.St := match nm with
  | none => σ
  | some i => σ.set i (some (.ref a))
/-- what the clauses wish of an exception of the body -/
def wHc (K : PySem.W.Frag) (Wo : WX) (D : Ends) : List Hc → WX
  | [] => Wo
  | q :: r => fun cls d σ H => ∃ b, PySem.W.exmOne K cls q.c = some b ∧ (b = true → ∀ a, H a = none → q.ts (endH q.nm D) (setH q.nm σ a) (upd H a (ExT cls d a))) ∧ (b = false → wHc K Wo D r cls d σ H)
inductive HcOk (X : Cx) : List ExceptHandler → List Hc → Prop
  | nil : HcOk X [] []
  | cons {x : Str} {c : Value} {ts : TS} {st0 : Stmt} {sts : List Stmt} {np np2 : Pos} {hds : List ExceptHandler} {l : List Hc} (hc : Names X x c) (hsu : ∀ (a : Addr) (pn : List (Addr × Obj)), PSs (X.suite a pn) (st0 :: sts) ts) (r : HcOk X hds l) :
      HcOk X (.ExceptHandler (some (.Name x np)) none (st0 :: sts) np2 :: hds) (⟨c, none, ts⟩ :: l)
  | consN {x n : Str} {i : Nat} {c : Value} {ts : TS} {st0 : Stmt} {sts : List Stmt} {np np2 : Pos} {hds : List ExceptHandler} {l : List Hc} (hN : X.N.Nodup) (hi : X.N[i]? = some n) (hln : X.env.kindOf n = some .local) (hc : Names X x c)
      (hsu : ∀ (a : Addr) (pn : List (Addr × Obj)), PSs (X.suite a pn) (st0 :: sts) ts) (r : HcOk X hds l) :
      HcOk X (.ExceptHandler (some (.Name x np)) (some n) (st0 :: sts) np2 :: hds) (⟨c, some i, ts⟩ :: l)
section
variable {X : Cx} {pins : List (Addr × Obj)} {σ : L2.St} {H : Hp} {s : Shared}
theorem Inv.toSuite (I : Inv X pins σ H s) (a : Addr) : Inv (X.suite a (X.pn ++ pins)) [] σ H s :=
  ⟨I.ok.suite _ _, I.os, I.bare, I.base, I.loc, I.cell, I.free, I.freeC, fun p hp => I.pin p (by rw [List.append_nil] at hp; exact hp), I.hok, I.len⟩
theorem Inv.ofSuite {a : Addr} {pn' : List (Addr × Obj)} (I : Inv (X.suite a (X.pn ++ pins)) pn' σ H s) (ok : X.Ok) : Inv X pins σ H s :=
  ⟨ok, I.os, I.bare, I.base, I.loc, I.cell, I.free, I.freeC, fun p hp => I.pin p (List.mem_append_left _ hp), I.hok, I.len⟩
/-- the exception that landed is tracked from now on -/
theorem Inv.catch {sI : Shared} {B : Heap} {l : List Env} {e : Addr} {cls : Value} {d : Option Addr} {h3 : Heap} (J : Inv X pins σ H sI) (nb : ∀ b o, sI.heap.get? b = some o → b ∉ frs X.stack → B.get? b = some o) (fl : HandSPX.FlyingZ B l e (Zc cls d) h3)
    (up : sI.heap.UpToSlots h3) (os : s.os = sI.os) (ag : AllBare s.gens) (na : H e = none) (nfr : e ∉ frs X.stack) : Inv X pins σ (upd H e (ExT cls d e)) { s with heap := h3 } := by
  obtain ⟨ob, us, he, hz, hd⟩ := fl.there
  obtain ⟨G, g1, g2⟩ := restrict h3 fun b => decide (b ≠ e)
  have ge : G.get? e = none := g2 e (decide_eq_false fun z => z rfl)
  have gk : ∀ b, b ≠ e → G.get? b = h3.get? b := fun b hb => g1 b (decide_eq_true hb)
  have sIe : sI.heap.get? e = none := by
    cases q : sI.heap.get? e with
    | none => rfl
    | some o =>
      have q2 := nb e o q nfr
      rw [fl.2.1] at q2
      cases q2
  have st : B.StaysIn G := fun b o q => by
    have hb : b ≠ e := fun z => by rw [z, fl.2.1] at q; cases q
    exact (gk b hb).trans (fl.1 b o q)
  have up2 : sI.heap.UpToSlots G := fun b o q nf => by
    have hb : b ≠ e := fun z => by rw [z, sIe] at q; cases q
    obtain ⟨sl, q2⟩ := up b o q nf
    exact ⟨sl, (gk b hb).trans q2⟩
  have J2 : Inv X pins σ H { s with heap := G } := J.landed nb st up2 os ag
  exact J2.laidN (t' := s.toks) (fun b o q => by
    have hb : b ≠ e := fun z => by
      have q' : G.get? b = some o := q
      rw [z, ge] at q'
      cases q'
    exact (gk b hb).symm.trans q) ge na (exT_ok he hz hd)
end
section
variable {X : Cx} {body : List Stmt} {h0 : ExceptHandler} {hds : List ExceptHandler} {l : List Hc} {pos : Pos} {tb : WX → TS} {Wo : WX}
theorem ps_try_all {orelse : List Stmt} {u : TS} (ho : PSs X orelse u) (hst : X.stack = X.env :: X.outer) (hfm : X.env.frame = some X.env.locals) (tk : Takes X Wo)
    (hb : ∀ (W : WX) (pn : List (Addr × Obj)) (xe : Value → Shared → Prop), Takes (X.tr pn xe) W → PassesOwn (model X.prog X.w) X.A X.env xe → PSs (X.tr pn xe) body (tb W))
    (hh : HcOk X (h0 :: hds) l) : PS X (.Try body (h0 :: hds) orelse [] pos) (fun D σ H => tb (wHc X.K Wo D l) { D with nx := u D } σ H) := by
  refine ⟨fun pins s σ H D I hq => ?_⟩
  have okX := I.ok
  have frm : X.A.frames = some (X.env :: X.outer) := by rw [okX.frames, hst]
  refine wpAny_Try_except ?_
  have caught : ∀ (v : Value) (s' : Shared), XE (X.tr (X.pn ++ pins) (fun e s1 => wpAny (model X.prog X.w) X.A (noteFrame e X.env) (fun _ s2 => wpAny (model X.prog X.w) X.A (setFlight e none) (fun _ s3 => wpAny (model X.prog X.w) X.A (handleBy e X.env (h0 :: hds)) (SP X pins D) X.xe s3) X.xe s2) X.xe s1)) (wHc X.K Wo D l) v s' →
      wpAny (model X.prog X.w) X.A (noteFrame v X.env) (fun _ s2 => wpAny (model X.prog X.w) X.A (setFlight v none) (fun _ s3 => wpAny (model X.prog X.w) X.A (handleBy v X.env (h0 :: hds)) (SP X pins D) X.xe s3) X.xe s2) X.xe s' := by
    intro v s' xx
    obtain ⟨e, B, sI, pins', σ', H', cls, d, rfl, J', nb, up, sky, na, os, ag, w⟩ := xx
    have J : Inv X pins σ' H' sI := J'.ofTry okX
    have skyX : Sky B (X.env :: X.outer) e (Zc cls d) X.env.locals s'.heap := by rw [← hst]; exact sky
    refine Sky.land Zc.steady frm hfm skyX fun hA flA upA => ?_
    have JA : Inv X pins σ' H' { s' with heap := hA } := J.landed nb flA.1 (up.trans upA) os ag
    obtain ⟨obA, usA, heA, hzA, hdA⟩ := flA.there
    have nfr : e ∉ frs (X.env :: X.outer) := fun hm => by
      obtain ⟨_, o2, q2, hnf⟩ := flA.2.2.1.mem hm
      rw [heA] at q2
      cases q2
      exact hnf _ hdA
    have nL : e ≠ X.env.locals := fun z => nfr (List.mem_filterMap.mpr ⟨X.env, List.mem_cons_self, by rw [hfm, z]⟩)
    have nF : e ∉ X.fs := fun hm => by
      obtain ⟨en, hen, q⟩ := List.mem_filterMap.mp hm
      exact nfr (List.mem_filterMap.mpr ⟨en, List.mem_cons_of_mem _ hen, q⟩)
    have SA := JA.suite heA hdA na nL nF
    have LT : PySem.W.Looks (model X.prog X.w) hA (typeOf (.ref e)) cls := fun A Q E s k q => wpAny_typeOf_ref (k _ _ heA) (by rw [hzA.1]; exact q)
    have named : ∀ {x : Str} {c : Value} {np : Pos} {Q : Value → Shared → Prop} {E : Value → Shared → Prop}, Names X x c → Q c { s' with heap := hA } → wpAny (model X.prog X.w) (X.A.mark (some (.ref e))) (eval (.Name x np) X.env) Q E { s' with heap := hA } := fun {x c np Q E} hc q => by
      obtain ⟨hg, hdb, hm | ⟨hm, hv, hnn⟩⟩ := hc
      · exact ld_glob (X := X.suite e ((e, obA) :: (X.pn ++ pins))) SA hg hm q hdb
      · exact ld_blt (X := X.suite e ((e, obA) :: (X.pn ++ pins))) SA hg hm hv q hnn hdb
    have nst : e ∉ frs X.stack := by rw [hst]; exact nfr
    have go : ∀ {hs2 : List ExceptHandler} {l2 : List Hc}, HcOk X hs2 l2 → wHc X.K Wo D l2 cls d σ' H' → wpAny (model X.prog X.w) X.A (handleBy (.ref e) X.env hs2) (SP X pins D) X.xe { s' with heap := hA } := by
      intro hs2 l2 hk
      induction hk with
      | nil =>
        intro w
        refine wpAny_handleBy_nil ?_
        obtain ⟨_, _, _, ob2, us2, T2, oT2, ts2, g1, _, g3, g4, _⟩ := id flA
        unfold PySem.passOn
        refine wpAny_bind (wpAny_field g1 g3 g4 ?_)
        rw [if_neg (show ¬ ((Value.ref T2 == Value.none) = true) from by simp)]
        have up1 : wpAny (model X.prog X.w) X.A (setFlight (.ref e) X.env.frame) (fun _ s4 => wpAny (model X.prog X.w) X.A (throw (.ref e) : Sem Flow) (SP X pins D) X.xe s4) X.xe { s' with heap := hA } := by
          rw [hfm]
          refine HandSPX.setFlight_upZ flA fun hB hh4 upB => wpAny_throw (tk _ _ ?_)
          exact ⟨e, B, sI, pins, σ', H', cls, d, rfl, J, nb, (up.trans upA).trans upB, .inr (.inr (by rw [hst]; exact hh4)), na, os, ag, w⟩
        first
          | exact wpAny_bind (wpAny_pure (wpAny_bind up1))
          | exact wpAny_bind up1
      | @cons x c ts st0 sts np np2 hds2 l3 hc hsu r ih =>
        intro w
        obtain ⟨b, hb1, hyes, hno⟩ := w
        refine wpAny_handleBy_cons (codeAny_handlers_test ?_) (by intro q; cases q)
        have LM := PySem.W.exm_one (M := model X.prog X.w) JA.kIn LT hb1
        refine named hc (LM.here ?_)
        cases b with
        | true =>
          refine codeAny_handlers_suite ?_
          refine HandSPX.lands_againZ flA fun hB flB upB => ?_
          have JB := Inv.catch (s := s') J nb flB ((up.trans upA).trans upB) os ag na nst
          refine wpAny_mono ((hsu e (X.pn ++ pins)).run [] _ _ _ _ (Inv.toSuite JB e) (hyes rfl e na)) (fun f s6 hsp => ?_) (fun _ _ z => False.elim z)
          cases f with
          | next => obtain ⟨σ6, H6, S6, q6⟩ := hsp; exact ⟨_, _, Inv.ofSuite S6 okX, q6⟩
          | brk => obtain ⟨σ6, H6, S6, q6⟩ := hsp; exact ⟨_, _, Inv.ofSuite S6 okX, q6⟩
          | cont => obtain ⟨σ6, H6, S6, q6⟩ := hsp; exact ⟨_, _, Inv.ofSuite S6 okX, q6⟩
          | ret u => obtain ⟨v6, σ6, H6, S6, r6, q6⟩ := hsp; exact ⟨_, _, _, Inv.ofSuite S6 okX, r6, q6⟩
        | false =>
          show wpAny _ X.A (handleBy (.ref e) X.env hds2) _ _ _
          exact ih (hno rfl)
      | @consN x n i c ts st0 sts np np2 hds2 l3 hN hi hln hc hsu r ih =>
        intro w
        obtain ⟨b, hb1, hyes, hno⟩ := w
        refine wpAny_handleBy_cons (codeAny_handlers_test ?_) (by intro q; cases q)
        have LM := PySem.W.exm_one (M := model X.prog X.w) JA.kIn LT hb1
        refine named hc (LM.here ?_)
        cases b with
        | true =>
          refine codeAny_handlers_suite_as ?_
          refine HandSPX.lands_againZ flA fun hB flB upB => ?_
          have JB := Inv.catch (s := s') J nb flB ((up.trans upA).trans upB) os ag na nst
          refine store_ok (X := X.suite e (X.pn ++ pins)) (v := .ref e) (Inv.toSuite JB e) hN hi (.inl hln) rfl (fun s5 S5 => ?_) (.inr hln)
          refine wpAny_mono ((hsu e (X.pn ++ pins)).run [] s5 _ _ _ S5 (hyes rfl e na)) (fun f s6 hsp => ?_) (fun _ _ z => False.elim z)
          have fin : ∀ {σ6 : L2.St} {H6 : Hp} {Q : Shared → Prop}, Inv (X.suite e (X.pn ++ pins)) [] σ6 H6 s6 → (∀ s7, Inv X pins (σ6.set i none) H6 s7 → Q s7) →
              wpAny (model X.prog X.w) X.A (do bindName X.env n .none; unbindBehindTheSuite X.env n np2) (fun _ s7 => Q s7) X.xe s6 := fun {σ6 H6 Q} S6 k => gone_ok (Inv.ofSuite S6 okX) hN hi hln k
          cases f with
          | next => obtain ⟨σ6, H6, S6, q6⟩ := hsp; exact fin S6 fun s7 J7 => ⟨_, _, J7, q6⟩
          | brk => obtain ⟨σ6, H6, S6, q6⟩ := hsp; exact fin S6 fun s7 J7 => ⟨_, _, J7, q6⟩
          | cont => obtain ⟨σ6, H6, S6, q6⟩ := hsp; exact fin S6 fun s7 J7 => ⟨_, _, J7, q6⟩
          | ret u => obtain ⟨v6, σ6, H6, S6, r6, q6⟩ := hsp; exact fin S6 fun s7 J7 => ⟨_, _, _, J7, r6, q6⟩
        | false =>
          show wpAny _ X.A (handleBy (.ref e) X.env hds2) _ _ _
          exact ih (hno rfl)
    exact go hh w
  refine wpAny_mono ((hb (wHc X.K Wo D l) (X.pn ++ pins) _ caught PassesOwn.looking).run [] s σ H { D with nx := u D } (I.toTry _) hq) (fun f s1 hsp => ?_) (fun e s1 he => he)
  cases f with
  | next => obtain ⟨σ', H', J', q⟩ := hsp; exact ho.run pins s1 σ' H' D (J'.ofTry okX) q
  | brk => obtain ⟨σ', H', J', q⟩ := hsp; exact ⟨σ', H', J'.ofTry okX, q⟩
  | cont => obtain ⟨σ', H', J', q⟩ := hsp; exact ⟨σ', H', J'.ofTry okX, q⟩
  | ret u => obtain ⟨v, σ', H', J', r, q⟩ := hsp; exact ⟨v, σ', H', J'.ofTry okX, r, q⟩
end
end Bw

/-! Ex2: own exception classes over ValueError or over Exception: made by their __init__, their fields read, isinstance. -/
namespace Bw
open PySem L2 PySem.Spec PyProof.Rows
/-- what is asked of an own exception class that has an __init__; ve: over ValueError, else over Exception -/
structure OxC (K : PySem.W.Frag) (C : Addr) (ve : Bool) : Prop where
  cls : ∃ nm q N bs bm sn sub ab col dd k0 k1 k2 k3 k5, K.lookup C = some (excClassObj nm q C N bs bm true sn sub ab col dd k0 k1 k2 k3 k5 (if ve = true then "ValueError.__new__" else "Exception.__new__")) ∧ (if ve = true then PySem.HandSPX.refsVE bm = true else bm = PySem.ESX.exTail)
  sa : PySem.W.findIn K (.ref C) "__setattr__" = some (some (.builtin "object.__setattr__"))
  exC : PySem.W.subIn K (.ref C) (.type "BaseException") = some true
  tyC : PySem.W.typeIn K (.ref C) = some (.type "type")
  kC : PySem.W.keepIn K (.ref C) = true
section
variable {X : Cx} {pins : List (Addr × Obj)} {σ : L2.St} {H : Hp} {s : Shared} {a C dx : Addr} {ve : Bool} {f : Str} {y : V} {u : Value} {fs : List (Str × V)} {Q : Unit → Shared → Prop} {E : Value → Shared → Prop} {A : Around}
/-- self.f = y, the first one -/
theorem oxs_new (T : OxC X.K C ve) (I : Inv X pins σ H s) (ea : H a = some (exo a C none)) (hno : PySem.W.findIn X.K (.ref C) f = some none) (ry : RelV y u)
    (k : ∀ dx s', H dx = none → dx ≠ a → Inv X pins σ (upd (upd H dx (exd dx [(f, y)])) a (exo a C (some dx))) s' → Q () s') : wpAny (model X.prog X.w) A (setAttr (.ref a) f u) Q E s := by
  obtain ⟨nm, q, N, bs, bm, sn, sub, ab, col, dd, k0, k1, k2, k3, k5, hC, hbm⟩ := T.cls
  have clsC : PySem.W.clsIn X.K C = some { name := nm, bases := bs, mro := .ref C :: bm, ns := N, qualname := q, hasDict := true, slotNames := sn, subclasses := sub, abstract := ab, collection := col, hasDel := false } := by unfold PySem.W.clsIn; rw [hC] <;> rfl
  obtain ⟨t1, ho⟩ := exo_at I.hok ea
  obtain ⟨hp, g, d, t, os⟩ := s
  refine PySem.W.set_plain I.kIn (ox := { cls := .ref C, dict := none, data := .fields #[.ref t1, .none, .none, .none, .bool false, .none] }) (od := none) ⟨ho, rfl, rfl, trivial⟩ T.sa ?_
  have done : ∀ h' tk' dx, (∀ b o, b ≠ a → hp.get? b = some o → h'.get? b = some o) → hp.objs.size ≤ dx → dx ≠ a → h'.get? a = some ({ cls := .ref C, dict := some dx, data := .fields #[.ref t1, .none, .none, .none, .bool false, .none] } : Obj) →
      h'.Ns1 dx (fun z => if z = f then some u else none) → Q () ⟨h', g, d, tk', os⟩ := fun h' tk' dx kp dn dne hx hn => by
    have hnd : H dx = none := I.hok.fresh dn
    have nd : ∀ {b : Addr} {o : Obj}, hp.get? b = some o → b ≠ dx := fun {b o} q => Nat.ne_of_lt (Nat.lt_of_lt_of_le (Heap.lt_size q) dn)
    have nb : ∀ {b : Addr}, H b = none → b ≠ a := fun {b} n z => by rw [z, ea] at n; cases n
    refine k dx _ hnd dne ?_
    have U : Un X.fs [] H (upd (upd H dx (exd dx [(f, y)])) a (exo a C (some dx))) hp h' := {
      keep := fun b o q n _ _ => kp b o (nb n) q
      slot := fun b o q n _ _ => ⟨o.slots, kp b o (nb n) q⟩
      free := fun b o q n _ => by rw [upd_ne (nb n), upd_ne (nd q)]; exact n
      there := fun b o q _ => by
        by_cases z : b = a
        · rw [z]; exact ⟨_, hx⟩
        · exact ⟨o, kp b o z q⟩
      tups := fun b xs q => by rw [upd_ne (at_ne ea q exo_tup), upd_ne (ne_of_none q hnd)]; exact q
      frzs := fun b o v q => by rw [upd_ne (at_ne ea q exo_frz), upd_ne (ne_of_none q hnd)]; exact q
      tbls := fun b ps q => ⟨#[], by rw [upd_ne (at_ne ea q exo_tbl), upd_ne (ne_of_none q hnd), q]; simp⟩ }
    have hok2 : HOk X.prog X.w (upd (upd H dx (exd dx [(f, y)])) a (exo a C (some dx))) h' := fun b o q => by
      by_cases z : b = a
      · subst z
        rw [upd_same] at q
        cases q
        exact exo_ok hx
      · rw [upd_ne z] at q
        by_cases z2 : b = dx
        · subst z2
          rw [upd_same] at q
          cases q
          exact exd_ok hn (relO_put (fs := []) ry fun _ => trivial)
        · rw [upd_ne z2] at q
          refine (I.hok b o q).stay (fun c v hc w => kp c v ?_ w) (fun c hc => by rw [upd_ne (at_ne ea hc exo_own), upd_ne (ne_of_none hc hnd)]; exact hc) fun c xs hc => by rw [upd_ne (at_ne ea hc exo_tup), upd_ne (ne_of_none hc hnd)]; exact hc
          rcases hc with hc | hc
          · rw [hc]; exact z
          · exact at_ne ea hc exo_own
    exact I.un (t' := tk') U hok2
  cases ve with
  | true =>
    rw [if_pos rfl] at hbm
    exact PySem.HandSPX.exc_osa I.kIn ho clsC (show PySem.HandSPX.refsVE (.ref C :: bm) = true from hbm) rfl hno fun h' tk' dx kp dn dne hx hn => done h' tk' dx kp dn dne hx hn
  | false =>
    rw [if_neg (by decide)] at hbm
    exact PySem.ESX.osa_new I.kIn ho clsC (by rw [hbm]) rfl hno fun h' tk' dx kp dn dne hx hn => done h' tk' dx kp dn dne hx hn
/-- self.f = y, a further one -/
theorem oxs_old (T : OxC X.K C ve) (I : Inv X pins σ H s) (ea : H a = some (exo a C (some dx))) (ed : H dx = some (exd dx fs)) (hl : fs.length ≤ 900) (hno : PySem.W.findIn X.K (.ref C) f = some none) (ry : RelV y u)
    (k : ∀ s', Inv X pins σ (upd H dx (exd dx ((f, y) :: fs))) s' → Q () s') : wpAny (model X.prog X.w) A (setAttr (.ref a) f u) Q E s := by
  obtain ⟨nm, q, N, bs, bm, sn, sub, ab, col, dd, k0, k1, k2, k3, k5, hC, hbm⟩ := T.cls
  have clsC : PySem.W.clsIn X.K C = some { name := nm, bases := bs, mro := .ref C :: bm, ns := N, qualname := q, hasDict := true, slotNames := sn, subclasses := sub, abstract := ab, collection := col, hasDel := false } := by unfold PySem.W.clsIn; rw [hC] <;> rfl
  obtain ⟨t1, ho⟩ := exo_at I.hok ea
  obtain ⟨mA, hns, rel⟩ := exd_at I.hok ed
  have wi := within_of rel
  obtain ⟨hp, g, d, t, os⟩ := s
  obtain ⟨oD, _, _, hoD, _, _⟩ := hns.count wi
  refine PySem.W.set_plain I.kIn (ox := { cls := .ref C, dict := some dx, data := .fields #[.ref t1, .none, .none, .none, .bool false, .none] }) (od := some oD) ⟨ho, rfl, rfl, hoD⟩ T.sa ?_
  have done : ∀ h' tk', (∀ b o, b ≠ dx → hp.get? b = some o → h'.get? b = some o) → h'.Ns1 dx (fun z => if z = f then some u else mA z) → Q () ⟨h', g, d, tk', os⟩ := fun h' tk' kp hn => by
    have hd : ∃ o, h'.get? dx = some o := by
      obtain ⟨o, _, _, e', _⟩ := hn
      exact ⟨o, e'⟩
    exact k _ (I.write (t' := tk') (x := dx) (e := dx) (o := exd dx ((f, y) :: fs)) (by rw [ed]; exact True.intro) (.inl rfl) kp hd (exd_ok hn (relO_put ry rel)))
  cases ve with
  | true =>
    rw [if_pos rfl] at hbm
    exact PySem.OEX.osa_old I.kIn ho hns wi (by rw [List.length_map]; omega) clsC (show PySem.HandSPX.refsVE (.ref C :: bm) = true from hbm) rfl hno fun h' tk' kp hn => done h' tk' kp hn
  | false =>
    rw [if_neg (by decide)] at hbm
    exact PySem.ESX.osa_old I.kIn ho hns wi (by rw [List.length_map]; omega) clsC (by rw [hbm]) rfl hno fun h' tk' kp hn => done h' tk' kp hn
/-- the base's __init__, over ValueError -/
theorem oxi_ok {us : List Value} {Q : Value → Shared → Prop} (T : OxC X.K C true) (I : Inv X pins σ H s) (ea : H a = some (exo a C none)) (hl : us.length ≤ sizeLine) (k : ∀ s', Inv X pins σ H s' → Q .none s') :
    wpAny (model X.prog X.w) A (call (.builtin "ValueError.__init__") (.ref a :: us)) Q E s := by
  obtain ⟨nm, q, N, bs, bm, sn, sub, ab, col, dd, k0, k1, k2, k3, k5, hC, hbm⟩ := T.cls
  rw [if_pos rfl] at hbm
  rw [if_pos rfl] at hC
  obtain ⟨t1, ho⟩ := exo_at I.hok ea
  obtain ⟨hp, g, d, t, os⟩ := s
  refine wpAny_call (PySem.HandSPX.init_base F.excBase_ValueError (fun Y => PySem.HandSPX.refsVE_contains Y bm hbm) (I.kIn _ _ hC) ho hl fun h' t2 kp hx => ?_)
  have J := I.write (t' := t) (x := a) (e := a) (o := exo a C none) (by rw [ea]; exact True.intro) (.inl rfl) kp ⟨_, hx⟩ (exo_ok hx)
  have eu : upd H a (exo a C none) = H := by
    funext b
    by_cases hb : b = a
    · rw [hb, upd_same, ea]
    · rw [upd_ne hb]
  rw [eu] at J
  exact k _ J
end
/-- what is asked of a base class whose __init__ is called by its name -/
structure XbC (K : PySem.W.Frag) (B : Addr) : Prop where
  ga : PySem.W.specialIn K (.ref B) "__getattribute__" = some (some (.builtin "type.__getattribute__"))
  rd : PySem.W.readsIn K B (.type "type") = true
  fi : PySem.W.findCls K (.ref B) (.type "type") "__init__" = some (.val (.builtin "ValueError.__init__"))
section
variable {X : Cx} {C B : Addr} {ve : Bool} {f : Str} {o e : Expr} {es : List Expr} {to te : TE} {ta : TA} {p p1 p2 pos : Pos}
def tXi (K : PySem.W.Frag) (ta : TA) : TE := fun σ H Q => ta σ H fun vs H1 => ∃ (a C : Addr) (ws : List V), vs = .ref a :: ws ∧ ws.length ≤ 1000 ∧ OxC K C true ∧ H1 a = some (exo a C none) ∧ Q .non H1
/-- B.__init__(self, ..), B an own class over ValueError without an __init__ of its own -/
theorem pe_xinit {x : Str} {pl : Sem Bool} (Tb : XbC X.K B) (hg : Gl X x) (hm : X.mg x = some (.ref B)) (hdb : (x == ("__debug__" : Str)) = false) (ha : PA X (e :: es) ta)
    (hc : eval (.Call (.Attribute (.Name x p1) "__init__" p2) (e :: es) [] pos) X.env = (do
      let ov ← eval (.Name x p1) X.env
      standAt p2.atName
      let (f, first) ← holding [ov] (getMethod ov "__init__" pl)
      callWith pos f first (backTo pos (starEach (e :: es) X.env)) (backToKw pos (keywordEach [] X.env))) := by rfl)
    (he : starEach (e :: es) X.env = (false, eval e X.env) :: starEach es X.env := by rfl) (hpl : (backTo pos (starEach es X.env)).any (·.1) = false := by rfl) :
    PE X (.Call (.Attribute (.Name x p1) "__init__" p2) (e :: es) [] pos) (tXi X.K ta) := by
  refine ⟨fun pins s σ H Q I h => ?_⟩
  refine PySem.W.methodCall_KW (ld_glob I hg hm ?_ hdb) hc
  obtain ⟨m, fr⟩ := I.fr
  refine PySem.W.method_of_cls fr I.ok.mod.kin Tb.ga (PySem.W.cls_value I.kIn Tb.rd Tb.fi (by decide +kernel) ?_)
  show wpAny _ _ (callWith pos (Value.builtin "ValueError.__init__") [] (backTo pos (starEach (e :: es) X.env)) []) _ _ _
  refine PyProof.Rows.callWith_method1 (thn (ha.run pos pins _ σ H _ (I.tok _) h) fun us s1 ⟨vs, H1, I1, r1, a, C, ws, ev, hl, T, ea, q⟩ => ?_) he hpl
  subst ev
  cases r1 with
  | @cons _ u0 _ ur ra rw' =>
    obtain rfl : u0 = Value.ref a := ra
    have hlen : ur.length ≤ sizeLine := by
      rw [← Paired.length rw', sizeLine_eq]
      omega
    exact oxi_ok T I1 ea hlen fun s' J => ⟨.non, H1, J, rfl, q⟩
def tOxs (K : PySem.W.Frag) (f : Str) (to te : TE) : TS := fun D σ H => te σ H fun y H1 => to σ H1 fun x H2 => ∃ (a C : Addr) (ve : Bool), x = .ref a ∧ OxC K C ve ∧ PySem.W.findIn K (.ref C) f = some none ∧
  ((H2 a = some (exo a C none) ∧ ∀ dx, H2 dx = none → dx ≠ a → D.nx σ (upd (upd H2 dx (exd dx [(f, y)])) a (exo a C (some dx)))) ∨
    ∃ (dx : Addr) (fs : List (Str × V)), H2 a = some (exo a C (some dx)) ∧ H2 dx = some (exd dx fs) ∧ fs.length ≤ 900 ∧ D.nx σ (upd H2 dx (exd dx ((f, y) :: fs))))
theorem ps_oxs (ho : PE X o to) (he : PE X e te) (hs : swapsWith e (some (.Attribute o f p)) pos.line X.env = pure false := by rfl) : PS X (.Assign [.Attribute o f p] e pos) (tOxs X.K f to te) := by
  refine ⟨fun pins s σ H D I h => ?_⟩
  refine plainObj_wpAny_Assign_Attribute (thn (he.run pins s σ H _ I h) fun v s1 ⟨y, H1, I1, r1, q1⟩ => thn (ho.run pins s1 σ H1 _ I1 q1) fun u s2 ⟨x, H2, I2, r2, a, C, ve, ex, T, hno, q⟩ => ?_) hs
  subst ex
  obtain rfl : u = Value.ref a := r2
  rcases q with ⟨ea, q⟩ | ⟨dx, fs, ea, ed, hl, q⟩
  · exact oxs_new T I2 ea hno r1 fun dx s' n ne J => ⟨σ, _, J, q dx n ne⟩
  · exact oxs_old T I2 ea ed hl hno r1 fun s' J => ⟨σ, _, J, q⟩
def tMkX (C : Addr) (sp : Sp) (ta : TA) : L2.St → Hp → XK → Prop := fun σ H Q => ta σ H fun vs H1 => vs.length ≤ 1000 ∧ ∀ a, H1 a = none → sp (.ref a :: vs) (upd H1 a (exo a C none))
  (fun v H2 => v = .non ∧ ∃ (d : Addr) (fs : List (Str × V)), H2 a = some (exo a C (some d)) ∧ H2 d = some (exd d fs) ∧ H1 d = none ∧ Q (.ref C) (some d) (upd (L2.del H2 a) d (.xd fs))) (fun _ _ _ => False)
/-- C(e, ..), C an own exception class with an __init__ that keeps sp -/
theorem pmk_ox {CX : CXT} {x : Str} {fI : Addr} {k : Nat} {fd : FuncData} {ps : List Str} {sp : Sp} (T : OxC X.K C ve) (iC : PySem.W.findIn X.K (.ref C) "__init__" = some (some (.ref fI))) (tI : PySem.W.typeIn X.K (.ref fI) = some (.type "function"))
    (F1 : FnOk X.prog X.w X.K X.mg X.base CX k fI fd ps sp) (hr : Room (k + 1) X.A) (hb : Binds X.K fd ps []) (hx : Passes CX X (fun _ _ _ => False)) (hg : Gl X x) (hm : X.mg x = some (.ref C)) (ha : PA X (e :: es) ta)
    (hdb : (x == ("__debug__" : Str)) = false) (he : starEach (e :: es) X.env = (false, eval e X.env) :: starEach es X.env) (hpl : (backTo pos (starEach es X.env)).any (·.1) = false) :
    PMk X (.Call (.Name x p) (e :: es) [] pos) (tMkX C sp ta) := by
  intro pins s σ H Q I h
  obtain ⟨nm, q, N, bs, bm, sn, sub, ab, col, dd, k0, k1, k2, k3, k5, hC, hbm⟩ := T.cls
  refine wpAny_Call_Name_kw (ld_glob I hg hm ?_ hdb)
  refine PySem.W.callWith_K (h₀ := X.base) I.ok.mod.kin T.kC (thn (ha.run pos pins s σ H _ I h) fun us s1 ⟨vs, H1, I1, r1, hz, q1⟩ => ⟨I1.kIn, ?_⟩) he hpl
  show wpAny _ _ (call (.ref C) us) _ _ _
  obtain ⟨hp, g, dr, tk, os⟩ := s1
  have big : hp.objs.size ≤ hp.objs.size + 1 := Nat.le_succ _
  have hn : H1 (hp.objs.size + 1) = none := I1.hok.fresh big
  have hq := q1 (hp.objs.size + 1) hn
  have kk : ∀ b o, hp.get? b = some o → ((hp.push (PySem.W.kdv_tup us)).push (PySem.HandSPX.excO C hp.objs.size)).get? b = some o := fun b o z => Heap.get?_push_of_some _ (Heap.get?_push_of_some _ z)
  have there : ((hp.push (PySem.W.kdv_tup us)).push (PySem.HandSPX.excO C hp.objs.size)).get? (hp.objs.size + 1) = some (PySem.HandSPX.excO C hp.objs.size) := by heap_get
  have I2 : Inv X pins σ (upd H1 (hp.objs.size + 1) (exo (hp.objs.size + 1) C none)) ⟨(hp.push (PySem.W.kdv_tup us)).push (PySem.HandSPX.excO C hp.objs.size), g, dr, tk, os⟩ :=
    I1.laid (t' := tk) (a := hp.objs.size + 1) (o := exo (hp.objs.size + 1) C none) (h' := (hp.push (PySem.W.kdv_tup us)).push (PySem.HandSPX.excO C hp.objs.size)) kk big (exo_ok there)
  have r2 : Vals (V.ref (hp.objs.size + 1) :: vs) (Value.ref (hp.objs.size + 1) :: us) := .cons rfl r1
  have hl : (Value.ref (hp.objs.size + 1) :: us).length = ps.length := by
    have z := r2.length
    rw [F1.len _ _ _ _ hq] at z
    exact z.symm
  have hus : us.length ≤ sizeLine := by
    rw [← Paired.length r1, sizeLine_eq]
    omega
  have hb2 := hb _ (Value.ref (hp.objs.size + 1) :: us) I2.kIn (by rw [List.append_nil]; exact hl)
  rw [List.append_nil] at hb2
  have body : codeAny (model X.prog X.w) (X.A.under (.builtin "type.__call__" ⟨.ref C :: us, []⟩)) (.call (.ref fI) ⟨.ref (hp.objs.size + 1) :: us, []⟩)
      (PySem.W.InitBack (hp.objs.size + 1) fun r s' => match r with | .ok (.ret u) => MkP X pins σ Q u s' | .ok _ => False | .error u => X.xe u s') ⟨(hp.push (PySem.W.kdv_tup us)).push (PySem.HandSPX.excO C hp.objs.size), g, dr, tk, os⟩ := by
    refine codeAny_mono (F1.run _ X.stack _ _ ⟨Value.ref (hp.objs.size + 1) :: us, []⟩ (Value.ref (hp.objs.size + 1) :: us) _ _ (fun _ _ _ => False) (hr.make C us []) (I2.env0.make C us []) hb2 r2 hq) fun r s' hq' => ?_
    cases r with
    | error er => exact hx pins σ _ _ er s' I2 hq'
    | ok fl =>
      cases fl with
      | ret u =>
        obtain ⟨v, H2, os2, bare2, un2, hok2, rv, ev, d, fs, ea, ed, hd1, q2⟩ := hq'
        subst ev
        obtain ⟨h2, g2, d2, t2, os'⟩ := s'
        exact ⟨rv, mk_end (raises_own T.exC T.tyC) I1 big kk un2 hok2 os2 bare2 ea ed hd1 q2⟩
      | next => exact False.elim hq'
      | brk => exact False.elim hq'
      | cont => exact False.elim hq'
  cases ve with
  | true =>
    rw [if_pos rfl] at hbm
    rw [if_pos rfl] at hC
    exact wpAny_call (PySem.HandSPX.call_own F.excBase_ValueError (fun Y => PySem.HandSPX.refsVE_contains Y bm hbm) (I1.kIn _ _ hC) (PySem.W.looks_findIn I1.kIn iC) (fun self => PySem.W.bind_fn I1.kIn self tI) hus body)
  | false =>
    rw [if_neg (by decide)] at hbm
    rw [if_neg (by decide)] at hC
    exact wpAny_call (PySem.HandSPX.call_own F.excBase_Exception (fun Y => by rw [hbm]) (I1.kIn _ _ hC) (PySem.W.looks_findIn I1.kIn iC) (fun self => PySem.W.bind_fn I1.kIn self tI) hus body)
end
end Bw

/-! Ex3: dicts by values: d[k], k in d, d[k] = v, d.get, d.copy. -/
namespace Bw
open PySem L2 PySem.Spec PyProof.Rows
section
variable {X : Cx}
def rDIx : R2 := fun x y H Q => ∃ (a : Addr) (v : V), x = .ref a ∧ DGet H a y (some v) ∧ Q v H
theorem ix_dk (hu : X.A.units + 1 < cLine) : IxR X rDIx := by
  intro value slice pins s σ H x y v u Q I rx ry h hsub
  obtain ⟨a, w, rfl, g, q⟩ := h
  cases rx
  have hT := dict_typeIs I g
  unfold subscriptTail
  refine wpAny_bind ?_
  rw [getitemInPython_of_ne hT.not_modules]
  refine wpAny_bind (wpAny_specialOf hT PySem.F.slot_dict_getitem.lookup ?_)
  have rest : wpAny (model X.prog X.w) X.A (subscripted slice false (.ref a) u) (fun r s3 => wpAny (model X.prog X.w) X.A (letTemporaryGo value (.ref a) r >>= fun _ => pure r) (EP X pins σ Q) X.xe s3) X.xe s := by
    rw [hsub]
    exact wpAny_operating (d_getItem hu I g ry fun w' s3 I3 rw' => wpAny_bind (wpAny_letTemporaryGo (wpAny_pure ⟨w, H, I3, rw', q⟩)))
  first
    | exact wpAny_pure (wpAny_bind rest)
    | exact wpAny_bind (wpAny_pure (wpAny_bind rest))
    | exact wpAny_bind rest
def rDIn (neg : Bool) : R2 := fun y x H Q => ∃ (a : Addr) (o : Option V), x = .ref a ∧ DGet H a y o ∧ Q (.bl (o.isSome != neg)) H
theorem op_dkIn (hu : X.A.units + 1 < cLine) : OpR X (compareOp .In) (rDIn false) := by
  intro pins s σ H y x u v Q I ry rx h
  obtain ⟨a, o, rfl, g, q⟩ := h
  cases rx
  exact d_in hu I g ry fun s3 I3 => ⟨.bl o.isSome, H, I3, rfl, by simpa using q⟩
theorem op_dkNin (hu : X.A.units + 1 < cLine) : OpR X (compareOp .NotIn) (rDIn true) := by
  intro pins s σ H y x u v Q I ry rx h
  obtain ⟨a, o, rfl, g, q⟩ := h
  cases rx
  exact d_notIn hu I g ry fun s3 I3 => ⟨.bl (!o.isSome), H, I3, rfl, by simpa using q⟩
def rDSet : TSet := fun o i v H Q => ∃ (a : Addr) (H4 : Hp), o = .ref a ∧ DPut H a i v H4 ∧ Q H4
theorem set_dk (hu : X.A.units + 1 < cLine) : PSet X rDSet := by
  intro pins s σ H o i v ov iv u Q I ro ri rv h
  obtain ⟨a, H4, rfl, g, q⟩ := h
  cases ro
  exact d_setItem hu I g ri rv fun s4 I4 => ⟨H4, I4, q⟩
def rDGet1 : V → List V → Hp → VK → Prop := fun x ys H Q => ∃ (a : Addr) (y : V) (o : Option V), x = .ref a ∧ ys = [y] ∧ DGet H a y o ∧ Q (o.getD .non) H
theorem mt_dget1 (hu : X.A.units + 1 < cLine) : MtR X "dict.get" rDGet1 := by
  intro pins s σ H x xs v us Q I rx rxs h
  obtain ⟨a, y, o, rfl, rfl, g, q⟩ := h
  cases rx
  cases rxs with
  | cons r1 rt =>
    cases rt
    exact d_get1 hu I g r1 fun w' s4 I4 rw' => ⟨_, H, I4, rw', q⟩
def rDGet2 : V → List V → Hp → VK → Prop := fun x ys H Q => ∃ (a : Addr) (y z : V) (o : Option V), x = .ref a ∧ ys = [y, z] ∧ DGet H a y o ∧ Q (o.getD z) H
theorem mt_dget2 (hu : X.A.units + 1 < cLine) : MtR X "dict.get" rDGet2 := by
  intro pins s σ H x xs v us Q I rx rxs h
  obtain ⟨a, y, z, o, rfl, rfl, g, q⟩ := h
  cases rx
  cases rxs with
  | cons r1 rt =>
    cases rt with
    | cons r2 rt =>
      cases rt
      exact d_get2 hu I g r1 r2 fun w' s4 I4 rw' => ⟨_, H, I4, rw', q⟩
def rDCopy : V → List V → Hp → VK → Prop := fun x ys H Q => ∃ (a : Addr) (kvs : List (Key × V)), x = .ref a ∧ ys = [] ∧ Rd H a (.dK kvs) ∧ ∀ p, H p = none → Q (.ref p) (upd H p (.dK kvs))
theorem mt_dcopy : MtR X "dict.copy" rDCopy := by
  intro pins s σ H x xs v us Q I rx rxs h
  obtain ⟨a, kvs, rfl, rfl, e, q⟩ := h
  cases rx
  cases rxs
  obtain ⟨z, hd, vs, rel, dd⟩ := dk_rd I.hok e
  refine call_meetsIn PySem.F.slot_dict_copy dd.typeIs PySem.F.entry_dict_copy (PySem.F.args_dict_copy_1 _) (meets_dict_copy (mixKind X.prog X.w) a hd) ⟨vs, dd, by rw [← rel.length]; exact z, fun h' dd' _ k => ?_⟩
  refine ⟨.ref s.heap.objs.size, _, I.laid (a := s.heap.objs.size) (o := .dK kvs) (t' := s.toks) (fun b o hq => k b o hq) (Nat.le_refl _) (dk_new z (beq_eq_false_iff_ne.mpr (Ne.symm (Nat.ne_of_lt I.big))) rel dd'), rfl, q _ (I.hok.fresh (Nat.le_refl _))⟩
end
end Bw

/-! Ex4: calls with defaults, methods by the instance's class, new instances, fields, isinstance; what is raised is wished for at the caller's slots. -/
namespace Bw
open PySem L2 PySem.Spec PyProof.Rows
/-- not a call that might be super() -/
def plainO : Expr → Bool
  | .Call (.Name _ _) [] [] _ => false
  | _ => true
theorem base_of {o : Expr} {nm : Str} {env : PySem.Env} (h : plainO o = true) : attributeBase o nm env (eval o env) = eval o env := by
  cases o with
  | Call f as ks p => cases f <;> cases as <;> cases ks <;> first | rfl | (simp [plainO] at h)
  | _ => rfl
abbrev plOf (o : Expr) (env : PySem.Env) : Sem Bool := do return (← importBound o env).getD true
theorem mc_eq {o : Expr} {nm : Str} {apos pos : Pos} {args : List Expr} {env : PySem.Env} (h : plainO o = true) (hl : (apos.endLine == pos.line) = true) (hf : ((backTo pos (starEach args env)).all (fun x => !x.1)) = true) (hn : args.length < 30) :
    eval (.Call (.Attribute o nm apos) args [] pos) env = (do
      let ov ← eval o env
      standAt apos.atName
      let (f, first) ← holding [ov] (getMethod ov nm (plOf o env))
      callWith pos f first (backTo pos (starEach args env)) (backToKw pos (keywordEach [] env))) := by
  rw [PySem.arm_eval_Call, base_of h]
  have kz : backToKw pos (keywordEach [] env) = [] := rfl
  have form : methodCallForm (args.length + ([] : List Keyword).length) (backTo pos (starEach args env)) (backToKw pos (keywordEach [] env)) = true := by
    unfold methodCallForm
    rw [hf, kz]
    simp [hn]
  have hpos : methodCallPos true o env apos pos = pure pos := by unfold methodCallPos; simp [hl]
  unfold methodCall
  rw [form]
  unfold calleeOf
  simp only [hpos, if_true, pure_bind]
section
variable {X : Cx} {CX : CXT} {k : Nat} {f C : Addr} {fd : FuncData} {ps : List Str} {sp : Sp} {dvs : List V} {ds : List Value} {E : L2.St → XK} {x m : Str} {p pos apos : Pos} {e o : Expr} {es : List Expr} {ta : TE} {t : TA}
theorem run_fnD {pins : List (Addr × Obj)} {σ : L2.St} {H : Hp} {s : Shared} {Q : VK} {us : List Value} {vs : List V} (F : FnOk X.prog X.w X.K X.mg X.base CX k f fd ps sp) (hr : Room k X.A) (hb : Binds X.K fd ps ds) (hd : Vals dvs ds) (hx : PassesAt CX X σ (E σ))
    (I : Inv X pins σ H s) (r : Vals vs us) (h : sp (vs ++ dvs) H Q (E σ)) : wpAny (model X.prog X.w) X.A (call (.ref f) us) (EP X pins σ Q) X.xe s := by
  have r2 : Vals (vs ++ dvs) (us ++ ds) := r.append hd
  have hl : (us ++ ds).length = ps.length := by rw [← r2.length]; exact F.len _ _ _ _ h
  refine wpAny_call (codeAny_mono (F.run X.A X.stack s H ⟨us, []⟩ (us ++ ds) (vs ++ dvs) Q (E σ) hr I.env0 (hb s us I.kIn hl) r2 h) fun r s' hq => ?_)
  cases r with
  | error er => exact hx pins H s er s' I hq
  | ok fl => cases fl with
    | ret u => exact I.after hq
    | _ => exact False.elim hq
def tCallD (sp : Sp) (dvs : List V) (E : L2.St → XK) (t : TA) : TE := fun σ H Q => t σ H fun vs H1 => sp (vs ++ dvs) H1 Q (E σ)
theorem pe_callD (F : FnOk X.prog X.w X.K X.mg X.base CX k f fd ps sp) (hr : Room k X.A) (hg : Gl X x) (hm : X.mg x = some (.ref f)) (hk : PySem.W.keepIn X.K (.ref f) = true) (hb : Binds X.K fd ps ds) (hd : Vals dvs ds) (hx : ∀ σ, PassesAt CX X σ (E σ))
    (ha : PA X (e :: es) t) (hdb : (x == ("__debug__" : Str)) = false) (he : starEach (e :: es) X.env = (false, eval e X.env) :: starEach es X.env) (hpl : (backTo pos (starEach es X.env)).any (·.1) = false) :
    PE X (.Call (.Name x p) (e :: es) [] pos) (tCallD sp dvs E t) := by
  refine ⟨fun pins s σ H Q I h => ?_⟩
  refine wpAny_Call_Name_kw (ld_glob I hg hm ?_ hdb)
  refine PySem.W.callWith_K (h₀ := X.base) I.ok.mod.kin hk (thn (ha.run pos pins s σ H _ I h) fun us s1 ⟨vs, H1, I1, r, q⟩ => ⟨I1.kIn, ?_⟩) he hpl
  exact run_fnD F hr hb hd (hx σ) I1 r q
/-- a def that some names lead to: at f, at level k -/
def Fk (X : Cx) (CX : CXT) (k : Nat) (f : Addr) (sp : Sp) : Prop := ∃ fd ps, FnOk X.prog X.w X.K X.mg X.base CX k f fd ps sp ∧ Binds X.K fd ps []
/-- f(..), f a local name that holds a def -/
def tCallV (X : Cx) (CX : CXT) (i : Nat) (E : L2.St → XK) (t : TA) : TE := fun σ H Q => ∃ (k : Nat) (f : Addr) (sp : Sp), σ[i]? = some (some (.ref f)) ∧ Fk X CX k f sp ∧ Room k X.A ∧ PySem.W.keepIn X.K (.ref f) = true ∧ t σ H fun vs H1 => sp vs H1 Q (E σ)
theorem pe_callV {i : Nat} (hN : X.N[i]? = some x) (hv : Vis X.env.scope x) (hx : ∀ σ, PassesAt CX X σ (E σ)) (ha : PA X (e :: es) t) (hdb : (x == ("__debug__" : Str)) = false) (hcd : (x == ("__classdict__" : Str)) = false)
    (he : starEach (e :: es) X.env = (false, eval e X.env) :: starEach es X.env) (hpl : (backTo pos (starEach es X.env)).any (·.1) = false) : PE X (.Call (.Name x p) (e :: es) [] pos) (tCallV X CX i E t) := by
  refine ⟨fun pins s σ H Q I h => ?_⟩
  obtain ⟨k, f, sp, hs, ⟨fd, ps, F, hb⟩, hr, hk, ht⟩ := h
  refine wpAny_Call_Name_kw (thn ((pe_var (pos := p) hN hv hdb hcd).run pins s σ H (fun v H1 => v = .ref f ∧ H1 = H) I ⟨.ref f, hs, rfl, rfl⟩) fun u s1 ⟨v, H1, I1, r1, q1⟩ => ?_)
  obtain ⟨rfl, rfl⟩ := q1
  cases r1
  refine PySem.W.callWith_K (h₀ := X.base) I.ok.mod.kin hk (thn (ha.run pos pins s1 σ _ _ I1 ht) fun us s2 ⟨vs, H2, I2, r, q⟩ => ⟨I2.kIn, ?_⟩) he hpl
  exact run_fnD (dvs := []) F hr hb .nil (hx σ) I2 r (by rw [List.append_nil]; exact q)
/-- o.m(..): the def is found by the instance's class -/
def tMethD (X : Cx) (CX : CXT) (m : Str) (E : L2.St → XK) (ta : TE) (t : TA) : TE := fun σ H Q => ta σ H fun x H1 => ∃ (a C dx : Addr) (fs : List (Str × V)) (g : Addr) (k : Nat) (sp : Sp), x = .ref a ∧ H1 a = some (.ins C dx fs) ∧ Cls X.K C ∧ Meth X.K C m g ∧ fs.lookup m = none ∧
  Fk X CX k g sp ∧ Room k X.A ∧ t σ H1 fun vs H2 => sp (x :: vs) H2 Q (E σ)
theorem pe_methD (he : PE X o ta) (ho : plainO o = true) (hl : (apos.endLine == pos.line) = true) (hx : ∀ σ, PassesAt CX X σ (E σ)) (ha : PA X (e :: es) t) (hn : (e :: es).length < 30)
    (hst : starEach (e :: es) X.env = (false, eval e X.env) :: starEach es X.env) (hpl : (backTo pos (starEach es X.env)).any (·.1) = false) (hf : ((backTo pos (starEach (e :: es) X.env)).all (fun x => !x.1)) = true) :
    PE X (.Call (.Attribute o m apos) (e :: es) [] pos) (tMethD X CX m E ta t) := by
  refine ⟨fun pins s σ H Q I h => ?_⟩
  refine PySem.W.methodCall_KW (thn (he.run pins s σ H _ I h) fun u s1 ⟨x, H1, I1, rx, a, C, dx, fs, g, k, sp, ex, ea, c, hm, l, ⟨fd, ps, F, hb⟩, hr, q⟩ => ?_) (mc_eq ho hl hf hn)
  subst ex
  obtain rfl : u = Value.ref a := rx
  refine getmeth_ok I1 ea c hm l ?_
  refine PySem.W.callWith_K (first := [.ref a]) (h₀ := X.base) I1.ok.mod.kin hm.kp (thn (ha.run pos pins s1 σ H1 _ I1 q) fun us s2 ⟨vs, H2, I2, r, q2⟩ => ⟨I2.kIn, ?_⟩) hst hpl
  exact run_fnD (us := .ref a :: us) (vs := .ref a :: vs) (dvs := []) F hr hb .nil (hx σ) I2 (.cons rfl r) (by rw [List.append_nil]; exact q2)
theorem pe_methD0 (he : PE X o ta) (ho : plainO o = true) (hl : (apos.endLine == pos.line) = true) (hx : ∀ σ, PassesAt CX X σ (E σ)) :
    PE X (.Call (.Attribute o m apos) [] [] pos) (tMethD X CX m E ta tNil) := by
  refine ⟨fun pins s σ H Q I h => ?_⟩
  refine PySem.W.methodCall_KW (thn (he.run pins s σ H _ I h) fun u s1 ⟨x, H1, I1, rx, a, C, dx, fs, g, k, sp, ex, ea, c, hm, l, ⟨fd, ps, F, hb⟩, hr, q⟩ => ?_) (mc_eq ho hl rfl (by decide))
  subst ex
  obtain rfl : u = Value.ref a := rx
  refine getmeth_ok I1 ea c hm l ?_
  exact PySem.W.callWith_K0 (first := [.ref a]) I1.kIn hm.kp (run_fnD (us := [.ref a]) (vs := [.ref a]) (dvs := []) F hr hb .nil (hx σ) I1 (.cons rfl .nil) (by rw [List.append_nil]; exact q))
theorem run_makeD {pins : List (Addr × Obj)} {σ : L2.St} {H : Hp} {s : Shared} {Q : VK} {us : List Value} {vs : List V} (M : Mk X.K C f) (F : FnOk X.prog X.w X.K X.mg X.base CX k f fd ps sp) (hr : Room (k + 1) X.A) (hb : Binds X.K fd ps [])
    (hx : ∀ (H' : Hp) (s1 : Shared) (e : Value) (s' : Shared), Inv X pins σ H' s1 → CX X.stack H' s1 (E σ) e s' → X.xe e s') (I : Inv X pins σ H s) (r : Vals vs us)
    (h : ∀ x dx, H x = none → H dx = none → dx ≠ x → sp (.ref x :: vs) (upd (upd H dx (.own x)) x (.ins C dx [])) (fun v H2 => v = .non ∧ Q (.ref x) H2) (E σ)) :
    wpAny (model X.prog X.w) X.A (call (.ref C) us) (EP X pins σ Q) X.xe s := by
  have hq := h (s.heap.objs.size + 1) s.heap.objs.size (I.hok.fresh (Nat.le_succ _)) (I.hok.fresh (Nat.le_refl _)) (Nat.ne_of_lt (Nat.lt_succ_self _))
  have I2 := Inv.made (C := C) I
  have r2 : Vals (V.ref (s.heap.objs.size + 1) :: vs) (Value.ref (s.heap.objs.size + 1) :: us) := .cons rfl r
  have hl : (Value.ref (s.heap.objs.size + 1) :: us).length = ps.length := by
    have z := r2.length
    rw [F.len _ _ _ _ hq] at z
    exact z.symm
  have hb2 := hb _ (Value.ref (s.heap.objs.size + 1) :: us) I2.kIn (by rw [List.append_nil]; exact hl)
  rw [List.append_nil] at hb2
  refine wpAny_call (make_map (f := f) I.kIn M.makes M.init (beq_iff_eq.mp M.fn) (codeAny_mono (F.run _ X.stack _ _ ⟨Value.ref (s.heap.objs.size + 1) :: us, []⟩ (Value.ref (s.heap.objs.size + 1) :: us) _ _ (E σ) (hr.make C us [])
    (I2.env0.make C us []) hb2 r2 hq) fun r s' hq' => ?_))
  cases r with
  | error er => exact hx _ _ er s' I2 hq'
  | ok fl => cases fl with
    | ret u =>
      obtain ⟨v, H', I3, rv, ev, q3⟩ := I2.after hq'
      subst ev
      exact ⟨rv, ⟨V.ref (s.heap.objs.size + 1), H', I3, rfl, q3⟩⟩
    | _ => exact False.elim hq'
def tMakeD (C : Addr) (sp : Sp) (E : L2.St → XK) (t : TA) : TE := fun σ H Q => t σ H fun vs H1 => ∀ x dx, H1 x = none → H1 dx = none → dx ≠ x →
  sp (.ref x :: vs) (upd (upd H1 dx (.own x)) x (.ins C dx [])) (fun v H2 => v = .non ∧ Q (.ref x) H2) (E σ)
theorem pe_makeD (M : Mk X.K C f) (F : FnOk X.prog X.w X.K X.mg X.base CX k f fd ps sp) (hr : Room (k + 1) X.A) (hg : Gl X x) (hm : X.mg x = some (.ref C)) (hb : Binds X.K fd ps []) (hx : ∀ σ, PassesAt CX X σ (E σ)) (ha : PA X (e :: es) t)
    (hdb : (x == ("__debug__" : Str)) = false) (he : starEach (e :: es) X.env = (false, eval e X.env) :: starEach es X.env) (hpl : (backTo pos (starEach es X.env)).any (·.1) = false) : PE X (.Call (.Name x p) (e :: es) [] pos) (tMakeD C sp E t) := by
  refine ⟨fun pins s σ H Q I h => ?_⟩
  refine wpAny_Call_Name_kw (ld_glob I hg hm ?_ hdb)
  refine PySem.W.callWith_K (h₀ := X.base) I.ok.mod.kin M.kp (thn (ha.run pos pins s σ H _ I h) fun us s1 ⟨vs, H1, I1, r, q⟩ => ⟨I1.kIn, ?_⟩) he hpl
  exact run_makeD M F hr hb (fun H' s1 e s' I c => hx σ pins H' s1 e s' I c) I1 r q
theorem pe_makeD0 (M : Mk X.K C f) (F : FnOk X.prog X.w X.K X.mg X.base CX k f fd ps sp) (hr : Room (k + 1) X.A) (hg : Gl X x) (hm : X.mg x = some (.ref C)) (hb : Binds X.K fd ps []) (hx : ∀ σ, PassesAt CX X σ (E σ))
    (hdb : (x == ("__debug__" : Str)) = false) : PE X (.Call (.Name x p) [] [] pos) (tMakeD C sp E tNil) := by
  refine ⟨fun pins s σ H Q I h => ?_⟩
  refine wpAny_Call_Name_kw (ld_glob I hg hm ?_ hdb)
  exact PySem.W.callWith_K0 I.kIn M.kp (run_makeD (us := []) M F hr hb (fun H' s1 e s' I c => hx σ pins H' s1 e s' I c) I .nil h)
end
/-! ### fields, of an instance or of a caught exception -/
def rFldX (K : PySem.W.Frag) (f : Str) (x : V) (H : Hp) (Q : VK) : Prop :=
  (∃ a C dx fs v, x = .ref a ∧ H a = some (.ins C dx fs) ∧ Cls K C ∧ NoAttr K C f ∧ fs.lookup f = some v ∧ Q v H) ∨
  ∃ (a C dd : Addr) (fs : List (Str × V)) (v : V), x = .ref a ∧ H a = some (ExT (.ref C) (some dd) a) ∧ XfC K C ∧ PySem.W.findIn K (.ref C) f = some none ∧ H dd = some (.xd fs) ∧ fs.lookup f = some v ∧ Q v H
section
variable {X : Cx} {o e : Expr} {f : Str} {pos : Pos} {ta : TE}
theorem ext_inst {pins : List (Addr × Obj)} {σ : L2.St} {H : Hp} {s : Shared} {a C : Addr} {d : Option Addr} (I : Inv X pins σ H s) (ha : H a = some (ExT (.ref C) d a)) (od : Option Obj) (hd : match d, od with | none, none => True | some dd, some o => s.heap.get? dd = some o | _, _ => False) :
    ∃ ob, PySem.W.InstAt s.heap a ob C od := by
  obtain ⟨ob, us, h1, h2, h3⟩ := exT_at I.hok ha
  refine ⟨ob, h1, h2.1, by unfold PySem.W.notCls; rw [h3] <;> rfl, ?_⟩
  rw [h2.2]
  cases d <;> cases od <;> first | trivial | exact hd | exact hd.elim
theorem fldX_ok {pins : List (Addr × Obj)} {σ : L2.St} {H : Hp} {s : Shared} {x : V} {u : Value} {Q : VK} (I : Inv X pins σ H s) (rx : RelV x u) (h : rFldX X.K f x H Q) : wpAny (model X.prog X.w) X.A (getAttr u f true) (EP X pins σ Q) X.xe s := by
  rcases h with ⟨a, C, dx, fs, v, ex, ea, c, n, l, q⟩ | ⟨a, C, dd, fs, v, ex, ea, T, hno, ed, l, q⟩
  · subst ex
    obtain rfl : u = Value.ref a := rx
    exact getattr_ok I ea c n l fun u' s2 I2 ru => ⟨v, H, I2, ru, q⟩
  · subst ex
    obtain rfl : u = Value.ref a := rx
    obtain ⟨mA, hns, hr⟩ := (show ObjOk X.prog X.w H s.heap dd (.xd fs) from I.hok dd _ ed)
    obtain ⟨od, ho, hl⟩ := lookIn_ns hns
    obtain ⟨w, hw, rw⟩ := RelO.some_of (v := v) (o := mA f) (by rw [← l]; exact hr f)
    obtain ⟨ob, J⟩ := ext_inst I ea (some od) ho
    exact HandSPX.exc_get I.kIn J T.ga T.gg T.exC (PySem.W.findObj_own T.hdC hno rfl (by rw [hl, hw])) (handed_of rw) ⟨v, H, I.tok _, rw, q⟩
def tFldX (K : PySem.W.Frag) (ta : TE) (f : Str) : TE := fun σ H Q => ta σ H fun x H1 => rFldX K f x H1 Q
theorem pe_fldX (he : PE X e ta) (hb : attributeBase e f X.env (eval e X.env) = eval e X.env) : PE X (.Attribute e f pos) (tFldX X.K ta f) := by
  refine ⟨fun pins s σ H Q I h => ?_⟩
  exact attr_of hb (thn (he.run pins s σ H _ I h) fun u s1 ⟨x, H1, I1, rx, q⟩ => fldX_ok I1 rx q)
/-! ### isinstance -/
structure XisC (K : PySem.W.Frag) (C : Addr) : Prop where
  xf : XfC K C
  ha : PySem.W.findIn K (.ref C) "__class__" = some (some (.builtin "object.__class__"))
  hn : PySem.W.specialIn K (.builtin "object.__class__") "__get__" = some (some (.builtin "getset_descriptor.__get__"))
  ht : PySem.W.takesIn K (.builtin "object.__class__") = some true
  hm : PySem.W.mroIn K C (.type "object") = some true
/-- isinstance(x, c), x any value that is known, or a caught exception -/
def rIsX (K : PySem.W.Frag) : List V → Hp → VK → Prop := fun xs H Q => ∃ (x c : V) (u : Value) (b : Bool), xs = [x, c] ∧ ClsV c u ∧ Q (.bl b) H ∧
  ((∃ t, TyX K H x t ∧ PySem.W.kitOne K t u = some b) ∨ ∃ (a C : Addr) (d : Option Addr), x = .ref a ∧ H a = some (ExT (.ref C) d a) ∧ (∀ dd, d = some dd → ∃ fs, H dd = some (.xd fs)) ∧ XisC K C ∧ PySem.W.kitOne K (.ref C) u = some b)
theorem call_isX : CallR X (.builtin "isinstance") (rIsX X.K) := by
  intro pins s σ H xs us Q I r h
  obtain ⟨x, c, u, b, rfl, k, q, h⟩ := h
  rcases h with ⟨t, ty, e⟩ | ⟨a, C, d, ex, ea, hd, T, e⟩
  · exact call_isi pins s σ H _ us Q I r ⟨x, c, t, u, b, rfl, k, ty, e, q⟩
  · subst ex
    obtain ⟨u1, u2, rfl, r1, r2⟩ := vals2 r
    have e2 := k.eq r2
    subst e2
    obtain rfl : u1 = Value.ref a := r1
    have J : ∃ ob od, PySem.W.InstAt s.heap a ob C od := by
      cases d with
      | none =>
        obtain ⟨ob, J⟩ := ext_inst I ea none trivial
        exact ⟨ob, none, J⟩
      | some dd =>
        obtain ⟨fs, ed⟩ := hd dd rfl
        obtain ⟨mA, hns, hr⟩ := (show ObjOk X.prog X.w H s.heap dd (.xd fs) from I.hok dd _ ed)
        obtain ⟨od, ho, hl⟩ := lookIn_ns hns
        obtain ⟨ob, J⟩ := ext_inst I ea (some od) ho
        exact ⟨ob, some od, J⟩
    obtain ⟨ob, od, J⟩ := J
    have hc : (PySem.W.clsIn X.K C).isSome = true := by
      obtain ⟨cd, hc, _⟩ := PySem.W.any_some T.xf.hdC
      rw [hc]; rfl
    exact PySem.W.kia_one (PySem.W.kitx_exc hc T.xf.ga T.xf.gg T.xf.exC T.ha T.hn T.ht T.hm) I.kIn J e (fun z => nomatch z) fun tk => ⟨.bl b, H, I.tok tk, rfl, q⟩
/-! ### an exception made with a text, as a value -/
def tMkT (C : Addr) : TE := fun _ H Q => ∀ a, H a = none → Q (.ref a) (upd H a (ExT (.ref C) none a))
theorem pe_mkT {C : Addr} {bmB : List Value} {B newId initId : String} {x y : Str} {j : Nat} {p p2 pos : Pos} (F : ExcBaseFacts B newId initId bmB) (q : PySem.W.excIn X.K C bmB newId = true) (gC : X.mg x = some (.ref C)) (kC : PySem.W.keepIn X.K (.ref C) = true) (hg : Gl X x)
    (hdb : (x == ("__debug__" : Str)) = false) : PE X (.Call (.Name x p) [.Constant (.str y) j p2] [] pos) (tMkT C) := by
  refine ⟨fun pins s σ H Q I h => ?_⟩
  refine wpAny_Call_Name_kw (ld_glob I hg gC ?_ hdb)
  have ha : PA X [.Constant (.str y) j p2] (tCons (tC (.str y)) tNil) := pa_cons pe_str pa_nil
  refine PySem.W.callWith_K (h₀ := X.base) I.ok.mod.kin kC (thn (ha.run pos pins s σ H (fun vs H1 => vs = [V.str y] ∧ H = H1) I ⟨rfl, rfl⟩) fun us s1 hh => ?_) rfl rfl
  obtain ⟨vs, H1, I1, r1, ev, eH⟩ := hh
  subst ev
  rw [← eH] at I1
  refine ⟨I1.kIn, ?_⟩
  cases r1 with
  | cons ru rn =>
    rename_i u us'
    cases rn
    show wpAny _ _ (call (.ref C) [u]) _ _ _
    obtain ⟨bm, N, nm, qn, bs, hdct, sn, sub, ab, col, dd, k0, k1, k2, k3, k5, mN, hC, hN, hni, T⟩ := exc_obj I1.kIn q
    refine wpAny_call_exc_subT F T hC hN hni (fun h' a hm => ?_) (by show 1 ≤ sizeLine; rw [sizeLine_eq]; omega)
    have hn : H a = none := I1.hok.gone hm.new
    obtain ⟨t, ht, _, _⟩ := hm.there
    exact ⟨.ref a, upd H a (ExT (.ref C) none a), I1.laidN hm.keeps hm.new hn (exT_ok ht ⟨rfl, rfl⟩ rfl), rfl, h a hn⟩
end
end Bw

/-! Ev1: a small evaluator of Python by weakest preconditions: values by content, a store of lists. No model in it. -/
namespace Bw
open PySem (Addr)

/-- values: tuples (tup) and lists that nobody changes (rl, sc) by their content; ref: a list, a dict, an instance in the store; fn: a def -/
abbrev Ky := Sum Int (List Nat)
/-- obj: an instance that nobody changes; exn: a caught exception -/
inductive W where
  | non | bl (b : Bool) | int (i : Int) | str (x : List Nat) | tup (ws : List W) | rl (ws : List W) | sc (ws : List W) | ref (a : Addr) | fn (i : Nat) | dct (ks : List Ky) (ws : List W)
  | obj (c : Nat) (ks : List (List Nat)) (ws : List W) | exn (c : Nat) (ks : List (List Nat)) (ws : List W)
inductive O where
  | lst (ws : List W) | dic (ks : List Ky) (ws : List W) | ins (c : Nat) (ks : List (List Nat)) (ws : List W) | hid
abbrev Sto := Addr → Option O
def Sto.set (S : Sto) (a : Addr) (o : O) : Sto := fun b => if b = a then some o else S b
def Sto.del (S : Sto) (a : Addr) : Sto := fun b => if b = a then none else S b
/-- an exception: its class, its fields -/
structure Xn where
  c : Nat
  ks : List (List Nat)
  ws : List W
abbrev VQ := W → Sto → Prop
abbrev XQ := Xn → Sto → Prop
abbrev Env := List (Option W)

inductive BOp where
  | add (fz : Bool) | sub | mul (fz : Bool) | fdiv | mod | pow | shl | shr | band | bor | bxor
inductive COp where
  | eq | ne | lt | le | gt | ge | isin | notin
inductive Bi where
  | len | int1 | str1 | abs | max2 | max3 | min2 | max1 | maxd | min1 | sum1 | all1 | any1 | tuple1 | list1 (fz : Bool) | listrev (fz : Bool) | dict1 | ord1 | lenset
/-- methods of built-in types -/
inductive MB where
  | count | index | dget1 | dget2 | dcopy | join
  deriving DecidableEq
inductive Ty where
  | int | bool | str | tuple | list | dict
  deriving DecidableEq
inductive IK where
  | seq | rng1 | rng2 | enum | zip | rev
inductive Tg where
  | nm (i : Nat) | pr (is : List Nat)

inductive E where
  | var (i : Nat) | cst (w : W) | tup (es : List E) | lst (fz : Bool) (es : List E)
  | bin (o : BOp) (a b : E) | cmp (o : COp) (a b : E) | chain (o o' : COp) (a b c : E) | isN (neg : Bool) (a : E)
  | and (es : List E) | or (es : List E) | not (a : E) | neg (a : E) | ite (c a b : E)
  | idx (a i : E) | sl (fz : Bool) (a : E) (lo hi : List E)
  | call (f : Nat) (es : List E) | bi (b : Bi) (es : List E) | isi (t : Ty) (a : E)
  | comp (fz : Bool) (tg : Tg) (ik : IK) (its : List E) (cond : List E) (elt : E) (own : List Nat)
  | tab (kvs : List (List Nat × W)) (i : E) | app (a e : E) | pop (a : E)
  | dic (ks : List (List Nat)) (es : List E) | dicV (kvs : List E) | dEq (a b : E) | ext (a b : E) | dnew | fzv (e : E) | fits (i j k : Nat) | keysOf (i k : Nat)
  | meb (m : MB) (a : E) (es : List E) | fld (cs : List Nat) (a : E) (f : List Nat) | meth (tb : List (Nat × Nat)) (m : List Nat) (a : E) (es : List E)
  | mk (c fi : Nat) (es : List E) | mkx (c : Nat) (z : List Nat) | isC (yes no : List Nat) (a : E) | callV (i : Nat) (fs : List Nat) (es : List E) | callD (f : Nat) (es : List E) (ds : List W)

mutual
inductive St where
  | pass | ex (e : E) | ret (e : E) | retN | asg (i : Nat) (e : E) | asgT (is : List Nat) (e : E) | par (i j : Nat) (a b : E) | setIx (o i e : E)
  | ite (c : E) (a b : List St) | for (tg : Tg) (ik : IK) (its : List E) (body : List St) | whl (c : E) (body : List St) | brk | cnt
  | fldS (cs : List Nat) (o : E) (f : List Nat) (e : E) | augF (cs : List Nat) (o : E) (f : List Nat) (e : E) | rse (c : Nat) (fs : List (List Nat)) (es : List E) | trys (body : List St) (hs : List Hn) (orelse : List St)
/-- a clause: the classes that it takes, those that it lets by, its name's slot -/
inductive Hn where
  | mk (yes no : List Nat) (nm : Option Nat) (suite : List St)
end

/-! ### values -/
mutual
def eqv : W → W → Bool
  | .non, .non => true
  | .bl a, .bl b => a == b
  | .bl a, .int j => (if a then 1 else 0) == j
  | .int i, .bl b => i == (if b then 1 else 0)
  | .int i, .int j => i == j
  | .str x, .str y => x == y
  | .tup xs, .tup ys => eqvs xs ys
  | .rl xs, .rl ys => eqvs xs ys
  | .rl xs, .sc ys => eqvs xs ys
  | .sc xs, .rl ys => eqvs xs ys
  | .sc xs, .sc ys => eqvs xs ys
  | _, _ => false
def eqvs : List W → List W → Bool
  | [], [] => true
  | x :: xs, y :: ys => eqv x y && eqvs xs ys
  | _, _ => false
end
mutual
/-- plain data: nothing that stands in the store -/
def dataW : W → Bool
  | .non => true
  | .bl _ => true
  | .int _ => true
  | .str _ => true
  | .tup ws => dataWs ws
  | .rl ws => dataWs ws
  | .sc ws => dataWs ws
  | .ref _ => false
  | .fn _ => false
  | .dct _ _ => false
  | .obj _ _ _ => false
  | .exn _ _ _ => false
def dataWs : List W → Bool
  | [] => true
  | w :: ws => dataW w && dataWs ws
end
mutual
def depW : W → Nat
  | .tup ws => depWs ws + 1
  | .rl ws => depWs ws + 1
  | .sc ws => depWs ws + 1
  | _ => 0
def depWs : List W → Nat
  | [] => 0
  | w :: ws => max (depW w) (depWs ws)
end
def flatW : W → Bool
  | .non => true
  | .bl _ => true
  | .int _ => true
  | .str _ => true
  | _ => false
def deref (S : Sto) : W → W
  | .ref a => match S a with
    | some (.lst ws) => .rl ws
    | _ => .ref a
  | w => w
/-- what is walked or asked by places: the items -/
def seqOf (S : Sto) (w : W) : Option (List W) :=
  match deref S w with
  | .tup ws => some ws
  | .rl ws => some ws
  | .sc ws => some ws
  | _ => none
/-- a list's items -/
def lstOf (S : Sto) (w : W) : Option (List W) :=
  match deref S w with
  | .rl ws => some ws
  | _ => none
def intsOf : List W → Option (List Int)
  | [] => some []
  | .int i :: ws => (intsOf ws).map (i :: ·)
  | _ => none
def blsOf : List W → Option (List Bool)
  | [] => some []
  | .bl b :: ws => (blsOf ws).map (b :: ·)
  | _ => none
/-- a place, of either sign -/
def ixW (n : Nat) (i : Int) : Option Nat := if 0 ≤ i then (if i < n then some i.toNat else none) else if -(n : Int) ≤ i then some (i + n).toNat else none
def atW {α : Type} (xs : List α) (i : Int) : Option α := (ixW xs.length i).bind fun j => xs[j]?
def cutW {α : Type} (xs : List α) (lo hi : Option Int) : List α := (xs.drop (HT.sIx xs.length 0 lo)).take (HT.sIx xs.length xs.length hi - HT.sIx xs.length 0 lo)
def decW (i : Int) : List Nat := (toString i).toList.map Char.toNat
def inW (x : W) (xs : List W) : Bool := xs.any fun y => eqv y x

/-- a new list: known by content, or in the store -/
def mkL (fz : Bool) (ws : List W) (S : Sto) (Q : VQ) : Prop := if fz = true then Q (.rl ws) S else ∀ p, S p = none → Q (.ref p) (S.set p (.lst ws))

def wAdd (fz : Bool) (x y : W) (S : Sto) (Q : VQ) : Prop :=
  match x, y with
  | .int i, .int j => Q (.int (i + j)) S
  | .str a, .str b => a.length + b.length ≤ PySem.sizeLine ∧ Q (.str (a ++ b)) S
  | .tup a, .tup b => a.length + b.length ≤ PySem.sizeLine ∧ Q (.tup (a ++ b)) S
  | x, y => match lstOf S x, lstOf S y with
    | some a, some b => a.length + b.length ≤ PySem.sizeLine ∧ mkL fz (a ++ b) S Q
    | _, _ => False
def wInts (x y : W) (P : Int → Int → Prop) : Prop :=
  match x, y with
  | .int i, .int j => P i j
  | _, _ => False
def wMul (x y : W) (S : Sto) (Q : VQ) : Prop :=
  match x with
  | .tup ws => match y with
    | .int k => ws ≠ [] ∧ 0 ≤ k ∧ k ≤ 1000 ∧ ws.length ≤ 1000 ∧ Q (.tup (List.replicate k.toNat ws).flatten) S
    | _ => False
  | x => wInts x y fun i j => (L2.CMul i j ∨ L2.CMulW i j) ∧ Q (.int (i * j)) S
def wBin (o : BOp) (x y : W) (S : Sto) (Q : VQ) : Prop :=
  match o with
  | .add fz => wAdd fz x y S Q
  | .sub => wInts x y fun i j => Q (.int (i - j)) S
  | .mul _ => wMul x y S Q
  | .fdiv => wInts x y fun i j => (0 < j ∧ j.natAbs.log2 < 9000) ∧ Q (.int (i / j)) S
  | .mod => wInts x y fun i j => 0 < j ∧ Q (.int (i % j)) S
  | .pow => wInts x y fun i j => L2.CPow i j ∧ Q (.int (i ^ j.toNat)) S
  | .shl => wInts x y fun i j => L2.CPow i j ∧ Q (.int (i * 2 ^ j.toNat)) S
  | .shr => wInts x y fun i j => 0 ≤ j ∧ Q (.int (i / 2 ^ j.toNat)) S
  | .band => wInts x y fun i j => Q (.int (PySem.Builtin.bitAnd i j)) S
  | .bor => wInts x y fun i j => Q (.int (PySem.Builtin.bitOr i j)) S
  | .bxor => wInts x y fun i j => Q (.int (PySem.Builtin.bitXor i j)) S
def wEq (neg : Bool) (x y : W) (S : Sto) (Q : VQ) : Prop :=
  dataW (deref S x) = true ∧ dataW (deref S y) = true ∧ min (depW (deref S x)) (depW (deref S y)) ≤ 60 ∧ Q (.bl (eqv (deref S x) (deref S y) != neg)) S
/-! dicts, instances -/
def kyOf : W → Option Ky
  | .int i => some (.inl i)
  | .str z => some (.inr z)
  | _ => none
def lookD : List Ky → List W → Ky → Option W
  | k :: ks, w :: ws, z => if k = z then some w else lookD ks ws z
  | _, _, _ => none
def repD : List Ky → List W → Ky → W → List W
  | k :: ks, w :: ws, z, x => (if k = z then x else w) :: repD ks ws z x
  | _, _, _, _ => []
def putD (ks : List Ky) (ws : List W) (z : Ky) (x : W) : List Ky × List W := if (ks.any fun k => decide (k = z)) = true then (ks, repD ks ws z x) else (ks ++ [z], ws ++ [x])
def lookF : List (List Nat) → List W → List Nat → Option W
  | k :: ks, w :: ws, z => if k = z then some w else lookF ks ws z
  | _, _, _ => none
def putW : List (List Nat) → List W → List Nat → W → List (List Nat) × List W
  | k :: ks, w :: ws, z, x => if k = z then (k :: ks, x :: ws) else (k :: (putW ks ws z x).1, w :: (putW ks ws z x).2)
  | _, _, z, x => ([z], [x])
def dicOf (S : Sto) (x : W) : Option (List Ky × List W) :=
  match x with
  | .dct ks ws => some (ks, ws)
  | .ref a => match S a with
    | some (.dic ks ws) => some (ks, ws)
    | _ => none
  | _ => none
/-- an instance: its class, its fields -/
def objOf (S : Sto) (x : W) : Option (Nat × List (List Nat) × List W) :=
  match x with
  | .obj c ks ws => some (c, ks, ws)
  | .ref a => match S a with
    | some (.ins c ks ws) => some (c, ks, ws)
    | _ => none
  | _ => none
/-- an instance or a caught exception -/
def fldOf (S : Sto) (x : W) : Option (Nat × List (List Nat) × List W) :=
  match x with
  | .exn c ks ws => some (c, ks, ws)
  | x => objOf S x
/-- keys and values by turns -/
def pairUp : List W → Option (List Ky × List W)
  | [] => some ([], [])
  | k :: v :: r => (kyOf k).bind fun k => (pairUp r).map fun p => (k :: p.1, v :: p.2)
  | _ => none
/-- two dicts by their items -/
def dEqv (p q : List Ky × List W) : Bool := p.1.length == q.1.length && (p.1.zip p.2).all fun kw => match lookD q.1 q.2 kw.1 with
  | some w => eqv kw.2 w
  | none => false
/-- two dicts with like data -/
def wDPr (S : Sto) (x y : W) : Prop :=
  match dicOf S x with
  | some p => match dicOf S y with
    | some q => dataWs p.2 = true ∧ dataWs q.2 = true ∧ depWs p.2 ≤ 40 ∧ dEqv p q = true
    | none => False
  | none => False
def wDEq (x y : W) (S : Sto) (Q : VQ) : Prop :=
  match dicOf S x with
  | some p => match dicOf S y with
    | some q => dataWs p.2 = true ∧ dataWs q.2 = true ∧ depWs p.2 ≤ 40 ∧ Q (.bl (dEqv p q)) S
    | none => False
  | none => match x, y with
    | .tup [x1, x2], .tup [y1, y2] => wDPr S x1 y1 ∧ wDPr S x2 y2 ∧ Q (.bl true) S
    | _, _ => False
/-- what may be sought: plain things, or data -/
def inOk (S : Sto) (x : W) (ws : List W) : Bool := (flatW x && ws.all flatW) || (dataW (deref S x) && (dataWs ws && decide (min (depWs ws) (depW (deref S x)) ≤ 60)))
def wIn (neg : Bool) (x y : W) (S : Sto) (Q : VQ) : Prop :=
  match dicOf S y with
  | some p => match kyOf x with
    | some k => Q (.bl ((lookD p.1 p.2 k).isSome != neg)) S
    | none => False
  | none => match x, y with
    | .str [c], .str z => Q (.bl (decide (c ∈ z) != neg)) S
    | x, y => match seqOf S y with
      | some ws => inOk S x ws = true ∧ Q (.bl (inW (deref S x) ws != neg)) S
      | none => False
def wCmp (o : COp) (x y : W) (S : Sto) (Q : VQ) : Prop :=
  match o with
  | .eq => wEq false x y S Q
  | .ne => wEq true x y S Q
  | .lt => wInts x y fun i j => Q (.bl (decide (i < j))) S
  | .le => wInts x y fun i j => Q (.bl (decide (i ≤ j))) S
  | .gt => wInts x y fun i j => Q (.bl (decide (j < i))) S
  | .ge => wInts x y fun i j => Q (.bl (decide (j ≤ i))) S
  | .isin => wIn false x y S Q
  | .notin => wIn true x y S Q
def wIdx (x y : W) (S : Sto) (Q : VQ) : Prop :=
  match dicOf S x with
  | some p => match kyOf y with
    | some k => match lookD p.1 p.2 k with
      | some w => Q w S
      | none => False
    | none => False
  | none => match y with
    | .int i => match x with
      | .str z => z.length ≤ PySem.sizeLine ∧ match atW z i with
        | some c => Q (.str [c]) S
        | none => False
      | x => match seqOf S x with
        | some ws => match atW ws i with
          | some w => Q w S
          | none => False
        | none => False
    | _ => False
def optInt : List W → Option (Option Int)
  | [] => some none
  | [.int i] => some (some i)
  | _ => none
def wSl (fz : Bool) (x : W) (lo hi : List W) (S : Sto) (Q : VQ) : Prop :=
  match optInt lo, optInt hi with
  | some l, some h => match deref S x with
    | .tup ws => Q (.tup (cutW ws l h)) S
    | .rl ws => mkL fz (cutW ws l h) S Q
    | .sc ws => mkL fz (cutW ws l h) S Q
    | .str z => z.length ≤ PySem.sizeLine ∧ Q (.str (cutW z l h)) S
    | _ => False
  | _, _ => False
def isiW (t : Ty) (S : Sto) (w : W) : Option Bool :=
  match deref S w with
  | .ref a => match S a with
    | some (.dic _ _) => some (t == .dict)
    | some (.ins _ _ _) => some false
    | _ => none
  | .dct _ _ => some (t == .dict)
  | .obj _ _ _ => some false
  | .exn _ _ _ => none
  | .non => some false
  | .bl _ => some (t == .int || t == .bool)
  | .int _ => some (t == .int)
  | .str _ => some (t == .str)
  | .tup _ => some (t == .tuple)
  | .rl _ => some (t == .list)
  | .sc _ => some (t == .list)
  | .fn _ => none
def maxL : List Int → Int
  | [] => 0
  | [i] => i
  | i :: r => max i (maxL r)
def minL : List Int → Int
  | [] => 0
  | [i] => i
  | i :: r => min i (minL r)
/-! ### walks: the items, and the lists that stay locked meanwhile -/
abbrev Lk := List (Addr × List W)
/-- the lists that are walked stand as they stood -/
def liveS : Lk → Sto → Prop
  | [], _ => True
  | p :: r, S => S p.1 = some (.lst p.2) ∧ liveS r S
def walkOf (S : Sto) (w : W) : Option (List W × Lk) :=
  match w with
  | .tup ws => some (ws, [])
  | .rl ws => some (ws, [])
  | .sc ws => some (ws, [])
  | .str z => some (z.map fun c => .str [c], [])
  | .ref a => match S a with
    | some (.lst ws) => some (ws, [(a, ws)])
    | _ => none
  | _ => none
/-- list-like alone -/
def walkL (S : Sto) (w : W) : Option (List W × Lk) :=
  match w with
  | .rl ws => some (ws, [])
  | .sc ws => some (ws, [])
  | .ref a => match S a with
    | some (.lst ws) => some (ws, [(a, ws)])
    | _ => none
  | _ => none
def w1 (ws : List W) (P : W → Prop) : Prop :=
  match ws with
  | [x] => P x
  | _ => False
def wSome {α : Type} (o : Option α) (P : α → Prop) : Prop :=
  match o with
  | some x => P x
  | none => False
def wLen (x : W) (S : Sto) (Q : VQ) : Prop :=
  match x with
  | .str z => z.length ≤ PySem.sizeLine ∧ Q (.int z.length) S
  | x => match dicOf S x with
    | some p => Q (.int p.1.length) S
    | none => wSome (seqOf S x) fun ws => Q (.int ws.length) S
def wIntOf (x : W) (S : Sto) (Q : VQ) : Prop :=
  match x with
  | .int i => Q (.int i) S
  | .bl b => Q (.int (if b then 1 else 0)) S
  | _ => False
def wI1 (x : W) (P : Int → Prop) : Prop :=
  match x with
  | .int i => P i
  | _ => False
def wInts3 (ws : List W) (P : Int → Int → Int → Prop) : Prop :=
  match ws with
  | [.int i, .int j, .int k] => P i j k
  | _ => False
def wInts2 (ws : List W) (P : Int → Int → Prop) : Prop :=
  match ws with
  | [.int i, .int j] => P i j
  | _ => False
def wMaxd (ws : List W) (S : Sto) (Q : VQ) : Prop :=
  match ws with
  | [x, .int d] => wSome ((lstOf S x).bind intsOf) fun ns => Q (.int (if ns = [] then d else maxL ns)) S
  | _ => False
def wOrd (x : W) (S : Sto) (Q : VQ) : Prop :=
  match x with
  | .str [c] => Q (.int (c : Int)) S
  | _ => False
def wBi (b : Bi) (ws : List W) (S : Sto) (Q : VQ) : Prop :=
  match b with
  | .len => w1 ws fun x => wLen x S Q
  | .int1 => w1 ws fun x => wIntOf x S Q
  | .str1 => w1 ws fun x => wI1 x fun i => i.natAbs.log2 < 1920 ∧ Q (.str (decW i)) S
  | .abs => w1 ws fun x => wI1 x fun i => Q (.int (if i < 0 then -i else i)) S
  | .max2 => wInts2 ws fun i j => Q (.int (max i j)) S
  | .max3 => wInts3 ws fun i j k => Q (.int (max (max i j) k)) S
  | .min2 => wInts2 ws fun i j => Q (.int (min i j)) S
  | .max1 => w1 ws fun x => wSome ((lstOf S x).bind intsOf) fun ns => 0 < ns.length ∧ Q (.int (maxL ns)) S
  | .maxd => wMaxd ws S Q
  | .min1 => w1 ws fun x => wSome ((lstOf S x).bind intsOf) fun ns => 0 < ns.length ∧ Q (.int (minL ns)) S
  | .sum1 => w1 ws fun x => wSome ((lstOf S x).bind intsOf) fun ns => Q (.int ns.sum) S
  | .all1 => w1 ws fun x => wSome ((lstOf S x).bind blsOf) fun bs => Q (.bl (bs.all id)) S
  | .any1 => w1 ws fun x => wSome ((lstOf S x).bind blsOf) fun bs => Q (.bl (bs.any id)) S
  | .tuple1 => w1 ws fun x => wSome (seqOf S x) fun us => Q (.tup us) S
  | .list1 fz => w1 ws fun x => wSome (seqOf S x) fun us => mkL fz us S Q
  | .listrev fz => w1 ws fun x => wSome (walkL S x) fun p => mkL fz p.1.reverse S Q
  | .lenset => w1 ws fun x => wSome ((lstOf S x).bind intsOf) fun ns => ns.Nodup ∧ ns.length ≤ 4000 ∧ Q (.int (ns.length : Nat)) S
  | .ord1 => w1 ws fun x => wOrd x S Q
  | .dict1 => w1 ws fun x => wSome (dicOf S x) fun p => ∀ a, S a = none → Q (.ref a) (S.set a (.dic p.1 p.2))
/-- a dict's keys, those alone whose value is like another one -/
def kyW : Ky → W
  | .inl i => .int i
  | .inr z => .str z
def okKy : Ky → Bool
  | .inl _ => true
  | .inr z => z.all (· < 0x110000)
def fitB (ks : List Ky) (ws : List W) (y : W) (k : Ky) : Bool := match lookD ks ws k with
  | some w => eqv w y
  | none => false
def wFits (d y : W) (S : Sto) (Q : VQ) : Prop :=
  match d with
  | .dct ks ws => dataWs ws = true ∧ dataW y = true ∧ depW y ≤ 60 ∧ ks.all okKy = true ∧ ks.length ≤ PySem.sizeLine ∧ Q (.rl ((ks.filter (fitB ks ws y)).map kyW)) S
  | _ => False
def wKeys (d : W) (S : Sto) (Q : VQ) : Prop :=
  match d with
  | .dct ks ws => ks.all okKy = true ∧ ks.length ≤ PySem.sizeLine ∧ Q (.rl (ks.map kyW)) S
  | _ => False
def wTab (kvs : List (List Nat × W)) (x : W) (S : Sto) (Q : VQ) : Prop :=
  match x with
  | .str k => match kvs.lookup k with
    | some w => Q w S
    | none => False
  | _ => False
def wApp (x w : W) (S : Sto) (Q : VQ) : Prop :=
  match x with
  | .ref a => match S a with
    | some (.lst ws) => ws.length < PySem.sizeLine ∧ Q .non (S.set a (.lst (ws ++ [w])))
    | _ => False
  | _ => False
def wPop (x : W) (S : Sto) (Q : VQ) : Prop :=
  match x with
  | .ref a => match S a with
    | some (.lst ws) => match ws.getLast? with
      | some w => Q w (S.set a (.lst ws.dropLast))
      | none => False
    | _ => False
  | _ => False
def wExt (x y : W) (S : Sto) (Q : VQ) : Prop :=
  match x with
  | .ref a => match S a with
    | some (.lst ws) => match lstOf S y with
      | some us => ws.length + us.length ≤ PySem.sizeLine ∧ Q .non (S.set a (.lst (ws ++ us)))
      | none => False
    | _ => False
  | _ => False
def wSetIx (x y w : W) (S : Sto) (Q : Sto → Prop) : Prop :=
  match x with
  | .ref a => match S a with
    | some (.lst ws) => match y with
      | .int i => match ixW ws.length i with
        | some j => Q (S.set a (.lst (ws.set j w)))
        | none => False
      | _ => False
    | some (.dic ks ws) => match kyOf y with
      | some k => ws.length < PySem.sizeLine ∧ Q (S.set a (.dic (putD ks ws k w).1 (putD ks ws k w).2))
      | none => False
    | _ => False
  | _ => False
/-- from here on nobody changes it -/
def wFz (x : W) (S : Sto) (Q : VQ) : Prop :=
  match x with
  | .ref a => match S a with
    | some (.lst ws) => Q (.rl ws) (S.del a)
    | some (.dic ks ws) => Q (.dct ks ws) (S.del a)
    | some (.ins c ks ws) => Q (.obj c ks ws) (S.del a)
    | _ => Q (.ref a) S
  | x => Q x S
def strsOf : List W → Option (List (List Nat))
  | [] => some []
  | .str z :: ws => (strsOf ws).map (z :: ·)
  | _ => none
/-- the receiver's kind, before the arguments are reckoned -/
def recvOf (m : MB) (S : Sto) (x : W) : Bool :=
  match m with
  | .count => (lstOf S x).isSome
  | .index => (lstOf S x).isSome
  | .dget1 => (dicOf S x).isSome
  | .dget2 => (dicOf S x).isSome
  | .dcopy => (dicOf S x).isSome
  | .join => match x with
    | .str _ => true
    | _ => false
def ixOf (z : List Nat) : List (List Nat) → Option Nat
  | [] => none
  | y :: ys => if y = z then some 0 else (ixOf z ys).map (· + 1)
def wStr (x : W) (P : List Nat → Prop) : Prop :=
  match x with
  | .str z => P z
  | _ => False
def w2 (ws : List W) (P : W → W → Prop) : Prop :=
  match ws with
  | [x, y] => P x y
  | _ => False
def wMeb (m : MB) (x : W) (ws : List W) (S : Sto) (Q : VQ) : Prop :=
  match m with
  | .count => w1 ws fun y => wStr y fun z => wSome ((lstOf S x).bind strsOf) fun zs => Q (.int ((zs.countP (· == z) : Nat) : Int)) S
  | .index => w1 ws fun y => wStr y fun z => wSome ((lstOf S x).bind strsOf) fun zs => wSome (ixOf z zs) fun i => Q (.int (i : Nat)) S
  | .dget1 => w1 ws fun y => wSome (dicOf S x) fun p => wSome (kyOf y) fun k => Q ((lookD p.1 p.2 k).getD .non) S
  | .dget2 => w2 ws fun y d => wSome (dicOf S x) fun p => wSome (kyOf y) fun k => Q ((lookD p.1 p.2 k).getD d) S
  | .dcopy => ws = [] ∧ wSome (dicOf S x) fun p => ∀ a, S a = none → Q (.ref a) (S.set a (.dic p.1 p.2))
  | .join => False
def wFld (cs : List Nat) (x : W) (f : List Nat) (S : Sto) (Q : VQ) : Prop :=
  wSome (fldOf S x) fun p => wSome (lookF p.2.1 p.2.2 f) fun w => Q w S
def wFldS (cs : List Nat) (x : W) (f : List Nat) (w : W) (S : Sto) (Q : Sto → Prop) : Prop :=
  match x with
  | .ref a => match S a with
    | some (.ins c ks ws) => c ∈ cs ∧ ws.length < 900 ∧ Q (S.set a (.ins c (putW ks ws f w).1 (putW ks ws f w).2))
    | _ => False
  | _ => False
def clsOf (S : Sto) (x : W) : Option Nat := (fldOf S x).map (·.1)
/-- isinstance(x, an own class): by the instance's class; a number, a truth, None is none -/
def isCW (yes no : List Nat) (S : Sto) (x : W) : Option Bool :=
  match x with
  | .non => some false
  | .bl _ => some false
  | .int _ => some false
  | x => (clsOf S x).bind fun c => if c ∈ yes then some true else if c ∈ no then some false else none

def rngW (lo : Int) (n : Nat) : List W := (List.range n).map fun (i : Nat) => .int (lo + (i : Int))
def enumW : Nat → List W → List W
  | _, [] => []
  | i, w :: ws => .tup [.int i, w] :: enumW (i + 1) ws
def zipW : List W → List W → List W
  | x :: xs, y :: ys => .tup [x, y] :: zipW xs ys
  | _, _ => []
def fits (i : Int) : Bool := decide (-(2 ^ 62) ≤ i ∧ i < 2 ^ 62)
def o1 {α : Type} (ws : List W) (f : W → Option α) : Option α :=
  match ws with
  | [x] => f x
  | _ => none
def oI {α : Type} (x : W) (f : Int → Option α) : Option α :=
  match x with
  | .int i => f i
  | _ => none
def oRng2 (ws : List W) : Option (List W × Lk) :=
  match ws with
  | [.int a, .int b] => if (fits a && fits b) = true then some (rngW a (b - a).toNat, []) else none
  | _ => none
def oZip (ws : List W) (S : Sto) : Option (List W × Lk) :=
  match ws with
  | [.tup xs, .tup ys] => some (zipW xs ys, [])
  | [x, y] => (walkL S x).bind fun p => (walkL S y).map fun q => (zipW p.1 q.1, p.2 ++ q.2)
  | _ => none
def itemsOf (ik : IK) (ws : List W) (S : Sto) : Option (List W × Lk) :=
  match ik with
  | .seq => o1 ws (walkOf S)
  | .rng1 => o1 ws fun x => oI x fun n => if fits n = true then some (rngW 0 n.toNat, []) else none
  | .rng2 => oRng2 ws
  | .enum => o1 ws fun x => (walkL S x).map fun p => (enumW 0 p.1, p.2)
  | .zip => oZip ws S
  | .rev => o1 ws fun x => (walkL S x).map fun p => (p.1.reverse, p.2)
def bindIs : List Nat → List W → Env → Option Env
  | [], [], env => some env
  | i :: is, w :: ws, env => bindIs is ws (env.set i (some w))
  | _, _, _ => none
def bindTg (tg : Tg) (w : W) (env : Env) : Option Env :=
  match tg with
  | .nm i => some (env.set i (some w))
  | .pr is => match w with
    | .tup ws => bindIs is ws env
    | .rl ws => bindIs is ws env
    | _ => none
def wipeE (env : Env) : List Nat → Env
  | [] => env
  | v :: vs => (wipeE env vs).set v none
def wMap (lk : Lk) (f : W → Sto → (List W → Sto → Prop) → Prop) : List W → Sto → (List W → Sto → Prop) → Prop
  | [], S, Q => liveS lk S ∧ Q [] S
  | x :: xs, S, Q => liveS lk S ∧ f x S fun o S1 => wMap lk f xs S1 fun ys S2 => Q (o ++ ys) S2

def wB (x : W) (t f : Prop) : Prop :=
  match x with
  | .bl true => t
  | .bl false => f
  | _ => False
def wVar (o : Option (Option W)) (P : W → Prop) : Prop :=
  match o with
  | some (some w) => P w
  | _ => False
def wWalk (o : Option (List W × Lk)) (P : List W → Lk → Prop) : Prop :=
  match o with
  | some p => P p.1 p.2
  | none => False
def wNon (x : W) (t f : Prop) : Prop :=
  match x with
  | .non => t
  | _ => f
def wNot (x : W) (P : Bool → Prop) : Prop :=
  match x with
  | .bl b => P (!b)
  | _ => False
abbrev CT := Nat → List W → Sto → VQ → XQ → Prop
section
variable (C : CT)
mutual
def wE : E → Env → Sto → VQ → XQ → Prop
  | .var i, env, S, Q, _ => wVar env[i]? fun w => Q w S
  | .cst w, _, S, Q, _ => Q w S
  | .tup es, env, S, Q, X => wEs es env S (fun ws S1 => ws.length ≤ PySem.sizeLine ∧ Q (.tup ws) S1) X
  | .lst fz es, env, S, Q, X => wEs es env S (fun ws S1 => ws.length ≤ PySem.sizeLine ∧ mkL fz ws S1 Q) X
  | .bin o a b, env, S, Q, X => wE a env S (fun x S1 => wE b env S1 (fun y S2 => wBin o x y S2 Q) X) X
  | .cmp o a b, env, S, Q, X => wE a env S (fun x S1 => wE b env S1 (fun y S2 => wCmp o x y S2 Q) X) X
  | .chain o o' a b c, env, S, Q, X => wE a env S (fun x S1 => wE b env S1 (fun y S2 => wCmp o x y S2 fun z S3 => wB z (wE c env S3 (fun u S4 => wCmp o' y u S4 Q) X) (Q (.bl false) S3)) X) X
  | .isN neg a, env, S, Q, X => wE a env S (fun x S1 => wNon x (Q (.bl (!neg)) S1) (Q (.bl neg) S1)) X
  | .and es, env, S, Q, X => wAnd es env S Q X
  | .or es, env, S, Q, X => wOr es env S Q X
  | .not a, env, S, Q, X => wE a env S (fun x S1 => wNot x fun b => Q (.bl b) S1) X
  | .neg a, env, S, Q, X => wE a env S (fun x S1 => wI1 x fun i => Q (.int (-i)) S1) X
  | .ite c a b, env, S, Q, X => wE c env S (fun x S1 => wB x (wE a env S1 Q X) (wE b env S1 Q X)) X
  | .idx a i, env, S, Q, X => wE a env S (fun x S1 => wE i env S1 (fun y S2 => wIdx x y S2 Q) X) X
  | .sl fz a lo hi, env, S, Q, X => wE a env S (fun x S1 => wEs lo env S1 (fun l S2 => (optInt l).isSome = true ∧ wEs hi env S2 (fun h S3 => wSl fz x l h S3 Q) X) X) X
  | .call f es, env, S, Q, X => wEs es env S (fun ws S1 => C f ws S1 Q X) X
  | .bi b es, env, S, Q, X => wEs es env S (fun ws S1 => wBi b ws S1 Q) X
  | .isi t a, env, S, Q, X => wE a env S (fun x S1 => wSome (isiW t S1 x) fun b => Q (.bl b) S1) X
  | .comp fz tg ik its cond elt own, env, S, Q, X => wEs its env S (fun args S1 => wWalk (itemsOf ik args S1) fun items lk =>
      items.length ≤ PySem.sizeLine ∧ ∀ D, S1 D = none → wMap lk (fun w S2 R => wSome (bindTg tg w (wipeE env own)) fun env' =>
        wAnd cond env' S2 (fun b S3 => wB b (wE elt env' S3 (fun y S4 => R [y] S4) (fun _ _ => False)) (R [] S3)) (fun _ _ => False)) items (S1.set D .hid) (fun ys S2 => mkL fz ys (S2.del D) Q)) X
  | .tab kvs i, env, S, Q, X => wE i env S (fun x S1 => wTab kvs x S1 Q) X
  | .app a e, env, S, Q, X => wE a env S (fun x S1 => (lstOf S1 x).isSome = true ∧ wE e env S1 (fun w S2 => wApp x w S2 Q) X) X
  | .pop a, env, S, Q, X => wE a env S (fun x S1 => wPop x S1 Q) X
  | .dic ks es, env, S, Q, X => ∀ p, S p = none → wEs es env (S.set p .hid) (fun ws S1 => ks.length = ws.length ∧ Q (.dct (ks.map Sum.inr) ws) (S1.del p)) (fun _ _ => False)
  | .dicV kvs, env, S, Q, X => ∀ p, S p = none → wEs kvs env (S.set p .hid) (fun ws S1 => wSome (pairUp ws) fun d => d.1.Nodup ∧ d.1.length ≤ 15 ∧ Q (.dct d.1 d.2) (S1.del p)) (fun _ _ => False)
  | .dEq a b, env, S, Q, X => wE a env S (fun x S1 => wE b env S1 (fun y S2 => wDEq x y S2 Q) X) X
  | .dnew, _, S, Q, _ => ∀ a, S a = none → Q (.ref a) (S.set a (.dic [] []))
  | .fzv e, env, S, Q, X => wE e env S (fun x S1 => wFz x S1 Q) X
  | .fits i j k, env, S, Q, _ => k < env.length ∧ wVar env[i]? fun d => wVar env[j]? fun y => wFits d y S Q
  | .keysOf i k, env, S, Q, _ => k < env.length ∧ wVar env[i]? fun d => wKeys d S Q
  | .meb m a es, env, S, Q, X => wE a env S (fun x S1 => recvOf m S1 x = true ∧ wEs es env S1 (fun ws S2 => wMeb m x ws S2 Q) X) X
  | .fld cs a f, env, S, Q, X => wE a env S (fun x S1 => wFld cs x f S1 Q) X
  | .meth tb m a es, env, S, Q, X => wE a env S (fun x S1 => wSome (objOf S1 x) fun p => lookF p.2.1 p.2.2 m = none ∧ wSome (tb.lookup p.1) fun f => wEs es env S1 (fun ws S2 => C f (x :: ws) S2 Q X) X) X
  | .mk c fi es, env, S, Q, X => wEs es env S (fun ws S1 => ∀ a, S1 a = none → C fi (.ref a :: ws) (S1.set a (.ins c [] [])) (fun w S2 => w = .non ∧ Q (.ref a) S2) X) X
  | .mkx c _, _, S, Q, _ => Q (.exn c [] []) S
  | .isC yes no a, env, S, Q, X => wE a env S (fun x S1 => wSome (isCW yes no S1 x) fun b => Q (.bl b) S1) X
  | .callD f es ds, env, S, Q, X => wEs es env S (fun ws S1 => C f (ws ++ ds) S1 Q X) X
  | .callV i fs es, env, S, Q, X => wVar env[i]? fun v => match v with
    | .fn f => f ∈ fs ∧ wEs es env S (fun ws S1 => C f ws S1 Q X) X
    | _ => False
  | .ext a b, env, S, Q, X => wE a env S (fun x S1 => (lstOf S1 x).isSome = true ∧ wE b env S1 (fun y S2 => wExt x y S2 Q) X) X
def wEs : List E → Env → Sto → (List W → Sto → Prop) → XQ → Prop
  | [], _, S, Q, _ => Q [] S
  | e :: es, env, S, Q, X => wE e env S (fun w S1 => wEs es env S1 (fun ws S2 => Q (w :: ws) S2) X) X
/-- and: no item is yes -/
def wAnd : List E → Env → Sto → VQ → XQ → Prop
  | [], _, S, Q, _ => Q (.bl true) S
  | [e], env, S, Q, X => wE e env S Q X
  | e :: es, env, S, Q, X => wE e env S (fun x S1 => wB x (wAnd es env S1 Q X) (Q (.bl false) S1)) X
def wOr : List E → Env → Sto → VQ → XQ → Prop
  | [], _, _, _, _ => False
  | [e], env, S, Q, X => wE e env S Q X
  | e :: es, env, S, Q, X => wE e env S (fun x S1 => wB x (Q (.bl true) S1) (wOr es env S1 Q X)) X
end

structure Dn where
  nx : Env → Sto → Prop
  rt : VQ
  bk : Env → Sto → Prop
  ct : Env → Sto → Prop
  xc : Xn → Env → Sto → Prop
/-- a suite's slot, and how it ends -/
def bindH (nm : Option Nat) (x : Xn) (env : Env) : Env :=
  match nm with
  | none => env
  | some i => env.set i (some (.exn x.c x.ks x.ws))
def goneH (nm : Option Nat) (env : Env) : Env :=
  match nm with
  | none => env
  | some i => env.set i none
def sutD (nm : Option Nat) (D : Dn) : Dn where
  nx := fun e S => D.nx (goneH nm e) S
  rt := D.rt
  bk := fun e S => D.bk (goneH nm e) S
  ct := fun e S => D.ct (goneH nm e) S
  xc := fun _ _ _ => False
def wFor (lk : Lk) (tg : Tg) (body : Env → Sto → Dn → Prop) : List W → Env → Sto → Dn → Prop
  | [], env, S, D => liveS lk S ∧ D.nx env S
  | w :: ws, env, S, D => liveS lk S ∧ wSome (bindTg tg w env) fun env' =>
      body env' S { D with nx := fun e S => wFor lk tg body ws e S D, ct := fun e S => wFor lk tg body ws e S D, bk := D.nx }
def wWhl (c : Env → Sto → VQ → XQ → Prop) (body : Env → Sto → Dn → Prop) : Nat → Env → Sto → Dn → Prop
  | 0, _, _, _ => False
  | n + 1, env, S, D => c env S (fun x S1 => wB x (body env S1 { D with nx := fun e S => wWhl c body n e S D, ct := fun e S => wWhl c body n e S D, bk := D.nx }) (D.nx env S1)) (fun x S1 => D.xc x env S1)
mutual
def wS : St → Env → Sto → Dn → Prop
  | .pass, env, S, D => D.nx env S
  | .ex e, env, S, D => wE C e env S (fun _ S1 => D.nx env S1) (fun x S1 => D.xc x env S1)
  | .ret e, env, S, D => wE C e env S D.rt (fun x S1 => D.xc x env S1)
  | .retN, _, S, D => D.rt .non S
  | .asg i e, env, S, D => wE C e env S (fun w S1 => D.nx (env.set i (some w)) S1) (fun x S1 => D.xc x env S1)
  | .asgT is e, env, S, D => wE C e env S (fun w S1 => wSome (bindTg (.pr is) w env) fun env' => D.nx env' S1) (fun x S1 => D.xc x env S1)
  | .par i j a b, env, S, D => wE C a env S (fun v S1 => wE C b env S1 (fun w S2 => D.nx ((env.set i (some v)).set j (some w)) S2) (fun x S1 => D.xc x env S1)) (fun x S1 => D.xc x env S1)
  | .setIx o i e, env, S, D => wE C e env S (fun w S1 => wE C o env S1 (fun x S2 => wE C i env S2 (fun y S3 => wSetIx x y w S3 fun S4 => D.nx env S4) (fun x S1 => D.xc x env S1)) (fun x S1 => D.xc x env S1)) (fun x S1 => D.xc x env S1)
  | .ite c a b, env, S, D => wE C c env S (fun x S1 => wB x (wSs a env S1 D) (wSs b env S1 D)) (fun x S1 => D.xc x env S1)
  | .for tg ik its body, env, S, D => wEs C its env S (fun args S1 => wWalk (itemsOf ik args S1) fun items lk => wFor lk tg (fun e S D => wSs body e S D) items env S1 D) (fun x S1 => D.xc x env S1)
  | .whl c body, env, S, D => ∃ n, wWhl (fun e S Q X => wE C c e S Q X) (fun e S D => wSs body e S D) n env S D
  | .brk, env, S, D => D.bk env S
  | .cnt, env, S, D => D.ct env S
  | .fldS cs o f e, env, S, D => wE C e env S (fun w S1 => wE C o env S1 (fun x S2 => wFldS cs x f w S2 fun S3 => D.nx env S3) (fun x S1 => D.xc x env S1)) (fun x S1 => D.xc x env S1)
  | .augF cs o f e, env, S, D => wE C o env S (fun x S1 => wFld cs x f S1 fun v S2 => wE C e env S2 (fun w S3 => wInts v w fun i j => wFldS cs x f (.int (i + j)) S3 fun S4 => D.nx env S4) (fun x S1 => D.xc x env S1)) (fun x S1 => D.xc x env S1)
  | .rse c fs es, env, S, D => wEs C es env S (fun ws S1 => ws.length ≤ 20 ∧ (fs ≠ [] → fs.length = ws.length) ∧ D.xc ⟨c, fs.reverse, if fs = [] then [] else ws.reverse⟩ env S1) (fun x S1 => D.xc x env S1)
  | .trys body hs orelse, env, S, D => wSs body env S { D with nx := fun e S => wSs orelse e S D, xc := fun x e S => wHs hs x e S D }
def wSs : List St → Env → Sto → Dn → Prop
  | [], env, S, D => D.nx env S
  | s :: ss, env, S, D => wS s env S { D with nx := fun e S1 => wSs ss e S1 D }
def wHn : Hn → Xn → Env → Sto → Dn → Prop → Prop
  | .mk yes no nm suite, x, env, S, D, r => if x.c ∈ yes then wSs suite (bindH nm x env) S (sutD nm D) else x.c ∈ no ∧ r
def wHs : List Hn → Xn → Env → Sto → Dn → Prop
  | [], x, env, S, D => D.xc x env S
  | h :: hs, x, env, S, D => wHn h x env S D (wHs hs x env S D)
end
end

/-! ### calls -/
structure FD where
  ar : Nat
  slots : Nat
  body : List St
def Sub (S' S : Sto) : Prop := (∀ a o, S' a = some o → S a = some o) ∧ ∀ a, S a = some .hid → S' a = some .hid
/-- behind a return: what the caller needn't know is let go; a list may be known by content from there on -/
def Fz (S : Sto) (w w' : W) (S' : Sto) : Prop := Sub S' S ∧ (w' = w ∨ ∃ a, w = .ref a ∧ S' a = none ∧ ((∃ ws, S a = some (.lst ws) ∧ w' = .rl ws) ∨ (∃ ks ws, S a = some (.dic ks ws) ∧ w' = .dct ks ws) ∨ ∃ c ks ws, S a = some (.ins c ks ws) ∧ w' = .obj c ks ws))
def entry (d : FD) (ws : List W) : Env := ws.map some ++ List.replicate (d.slots - ws.length) none
def dnOf (Q : VQ) (X : XQ) : Dn where
  nx := fun _ S => ∃ S', Sub S' S ∧ Q .non S'
  rt := fun w S => ∃ w' S', Fz S w w' S' ∧ Q w' S'
  bk := fun _ _ => False
  ct := fun _ _ => False
  xc := fun x _ S => ∃ S', Sub S' S ∧ X x S'
def wF (T : Nat → Option FD) : Nat → CT
  | 0, _, _, _, _, _ => False
  | n + 1, f, ws, S, Q, X => wSome (T f) fun d => ws.length = d.ar ∧ wSs (wF T n) d.body (entry d ws) S (dnOf Q X)
end Bw

/-! Ev2: what a value and a store of the evaluator stand for in HandS's heap. -/
namespace Bw
open PySem L2 PySem.Spec PyProof.Rows

structure Gm where
  K : PySem.W.Frag
  fa : Nat → Addr
  ca : Nat → Addr

def KTup (K : PySem.W.Frag) (a : Addr) (xs : List V) : Prop :=
  ∃ (o : Obj) (its : Array Value) (n : Nat), K.lookup a = some o ∧ o.cls = .type "tuple" ∧ o.data = .seq its n ∧ its.size ≤ sizeLine ∧ Vals xs its.toList
def KLst (K : PySem.W.Frag) (a : Addr) (xs : List V) : Prop :=
  ∃ (o : Obj) (its : Array Value) (n : Nat), K.lookup a = some o ∧ o.cls = .type "list" ∧ o.dict = none ∧ o.data = .seq its n ∧ its.size ≤ sizeLine ∧ Vals xs its.toList
def TupA (Γ : Gm) (S : Sto) (H : Hp) (a : Addr) (vs : List V) : Prop := (S a = none ∧ Rd H a (.tup vs)) ∨ KTup Γ.K a vs
def RlA (S : Sto) (H : Hp) (a : Addr) (vs : List V) : Prop := S a = none ∧ H a = some (.lst vs)
def ScA (Γ : Gm) (S : Sto) (H : Hp) (a : Addr) (vs : List V) : Prop := (S a = none ∧ Rd H a (.lst vs)) ∨ KLst Γ.K a vs
def okStr (x : List Nat) : Bool := x.all (· < 0x110000)
def keyV : Ky → Key
  | .inl j => .inl j
  | .inr x => .inr ⟨x.toArray⟩
def strV (x : List Nat) : V := .str ⟨x.toArray⟩

def dkz (ks : List Ky) (vs : List V) : List (Key × V) := (ks.zip vs).map fun p => (keyV p.1, p.2)
def insz (ks : List (List Nat)) (vs : List V) : List (Str × V) := (ks.zip vs).map fun p => ((⟨p.1.toArray⟩ : Str), p.2)
/-- an exception's own dict -/
def xdR (S : Sto) (H : Hp) (ks : List (List Nat)) (d : Option Addr) (vs : List V) : Prop := (ks = [] ∧ d = none) ∨ ∃ dd, d = some dd ∧ S dd = none ∧ H dd = some (.xd (insz ks vs))
def tyAll : List String := ["int", "bool", "str", "tuple", "list", "dict"]
/-- what is asked of an own class whose instances are made -/
structure InsC (K : PySem.W.Frag) (C : Addr) : Prop where
  cl : Cls K C
  ha : PySem.W.findIn K (.ref C) "__class__" = some (some (.builtin "object.__class__"))
  hn : PySem.W.specialIn K (.builtin "object.__class__") "__get__" = some (some (.builtin "getset_descriptor.__get__"))
  ht : PySem.W.takesIn K (.builtin "object.__class__") = some true
  hm : PySem.W.mroIn K C (.type "object") = some true
  kt : ∀ n ∈ tyAll, PySem.W.kitOne K (.ref C) (.type n) = some false
abbrev XkC := XisC
def IC (Γ : Gm) (c : Nat) (ks : List (List Nat)) : Prop := InsC Γ.K (Γ.ca c) ∧ ∀ k ∈ ks, NoAttr Γ.K (Γ.ca c) ⟨k.toArray⟩
def XC (Γ : Gm) (c : Nat) (ks : List (List Nat)) : Prop := XkC Γ.K (Γ.ca c) ∧ ∀ k ∈ ks, PySem.W.findIn Γ.K (.ref (Γ.ca c)) ⟨k.toArray⟩ = some none
mutual
def rep (Γ : Gm) (S : Sto) (H : Hp) : W → V → Prop
  | .non, v => v = .non
  | .bl b, v => v = .bl b
  | .int i, v => v = .int i
  | .str x, v => v = strV x ∧ okStr x = true
  | .tup ws, v => ∃ a vs, v = .ref a ∧ TupA Γ S H a vs ∧ reps Γ S H ws vs
  | .rl ws, v => ∃ a vs, v = .ref a ∧ RlA S H a vs ∧ reps Γ S H ws vs
  | .sc ws, v => ∃ a vs, v = .ref a ∧ ScA Γ S H a vs ∧ reps Γ S H ws vs
  | .ref a, v => v = .ref a
  | .fn i, v => v = .ref (Γ.fa i)
  | .dct ks ws, v => ∃ a vs, v = .ref a ∧ (S a = none ∧ H a = some (.dK (dkz ks vs))) ∧ ks.length = ws.length ∧ reps Γ S H ws vs
  | .obj c ks ws, v => ∃ a dx vs, v = .ref a ∧ (S a = none ∧ H a = some (.ins (Γ.ca c) dx (insz ks vs))) ∧ (ks.length = ws.length ∧ IC Γ c ks) ∧ reps Γ S H ws vs
  | .exn c ks ws, v => ∃ a d vs, v = .ref a ∧ (S a = none ∧ H a = some (ExT (.ref (Γ.ca c)) d a)) ∧ xdR S H ks d vs ∧ (ks.length = ws.length ∧ XC Γ c ks) ∧ reps Γ S H ws vs
def reps (Γ : Gm) (S : Sto) (H : Hp) : List W → List V → Prop
  | [], vs => vs = []
  | w :: ws, vs => ∃ v r, vs = v :: r ∧ rep Γ S H w v ∧ reps Γ S H ws r
end

def Fr0 (S : Sto) (H : Hp) (S' : Sto) (H' : Hp) : Prop := ∀ a o, S a = none → H a = some o → S' a = none ∧ H' a = some o
/-- what the store doesn't know, and what it hides, stays -/
def Fr (S : Sto) (H : Hp) (S' : Sto) (H' : Hp) : Prop := Fr0 S H S' H' ∧ ∀ a o, S a = some .hid → H a = some o → S' a = some .hid ∧ H' a = some o
theorem Fr0.refl (S : Sto) (H : Hp) : Fr0 S H S H := fun _ _ h1 h2 => ⟨h1, h2⟩
theorem Fr.refl (S : Sto) (H : Hp) : Fr S H S H := ⟨Fr0.refl S H, fun _ _ h1 h2 => ⟨h1, h2⟩⟩
theorem Fr0.trans {S S1 S2 : Sto} {H H1 H2 : Hp} (a : Fr0 S H S1 H1) (b : Fr0 S1 H1 S2 H2) : Fr0 S H S2 H2 := fun p o h1 h2 => by
  obtain ⟨q1, q2⟩ := a p o h1 h2
  exact b p o q1 q2
theorem Fr.trans {S S1 S2 : Sto} {H H1 H2 : Hp} (a : Fr S H S1 H1) (b : Fr S1 H1 S2 H2) : Fr S H S2 H2 := ⟨a.1.trans b.1, fun p o h1 h2 => by
  obtain ⟨q1, q2⟩ := a.2 p o h1 h2
  exact b.2 p o q1 q2⟩

section
variable {Γ : Gm} {S S' S1 : Sto} {H H' H1 : Hp} {a p : Addr} {vs : List V}
theorem Rd.fr0 (f : Fr0 S H S' H') {u : HO} (h : S a = none ∧ Rd H a u) : S' a = none ∧ Rd H' a u := by
  obtain ⟨h0, h | ⟨o, h⟩⟩ := h
  · obtain ⟨q1, q2⟩ := f a _ h0 h
    exact ⟨q1, .inl q2⟩
  · obtain ⟨q1, q2⟩ := f a _ h0 h
    exact ⟨q1, .inr ⟨o, q2⟩⟩
theorem TupA.fr0 (f : Fr0 S H S' H') (h : TupA Γ S H a vs) : TupA Γ S' H' a vs := h.imp (Rd.fr0 f) id
theorem ScA.fr0 (f : Fr0 S H S' H') (h : ScA Γ S H a vs) : ScA Γ S' H' a vs := h.imp (Rd.fr0 f) id
theorem RlA.fr0 (f : Fr0 S H S' H') (h : RlA S H a vs) : RlA S' H' a vs := f a _ h.1 h.2
theorem Rd.fr (f : Fr S H S' H') {u : HO} (h : S a = none ∧ Rd H a u) : S' a = none ∧ Rd H' a u := Rd.fr0 f.1 h
theorem TupA.fr (f : Fr S H S' H') (h : TupA Γ S H a vs) : TupA Γ S' H' a vs := h.fr0 f.1
theorem ScA.fr (f : Fr S H S' H') (h : ScA Γ S H a vs) : ScA Γ S' H' a vs := h.fr0 f.1
theorem RlA.fr (f : Fr S H S' H') (h : RlA S H a vs) : RlA S' H' a vs := h.fr0 f.1
theorem TupA.sq (h : TupA Γ S H a vs) : SqT Γ.K H a vs := h.imp (fun q => q.2) id
theorem ScA.sq (h : ScA Γ S H a vs) : SqL Γ.K H a vs := h.imp (fun q => q.2) id
theorem RlA.sq (h : RlA S H a vs) : SqL Γ.K H a vs := .inl (.inl h.2)
theorem xdR.fr0 (f : Fr0 S H S' H') {ks : List (List Nat)} {d : Option Addr} (h : xdR S H ks d vs) : xdR S' H' ks d vs := by
  rcases h with h | ⟨dd, e, h1, h2⟩
  · exact .inl h
  · obtain ⟨q1, q2⟩ := f dd _ h1 h2
    exact .inr ⟨dd, e, q1, q2⟩
mutual
theorem rep.fr0 (f : Fr0 S H S' H') : ∀ (w : W) (v : V), rep Γ S H w v → rep Γ S' H' w v
  | .non, _, h => h
  | .bl _, _, h => h
  | .int _, _, h => h
  | .str _, _, h => h
  | .tup ws, v, ⟨a, vs, e, q, r⟩ => ⟨a, vs, e, q.fr0 f, reps.fr0 f ws vs r⟩
  | .rl ws, v, ⟨a, vs, e, q, r⟩ => ⟨a, vs, e, q.fr0 f, reps.fr0 f ws vs r⟩
  | .sc ws, v, ⟨a, vs, e, q, r⟩ => ⟨a, vs, e, q.fr0 f, reps.fr0 f ws vs r⟩
  | .ref _, _, h => h
  | .fn _, _, h => h
  | .dct ks ws, v, ⟨a, vs, e, q, l, r⟩ => ⟨a, vs, e, f a _ q.1 q.2, l, reps.fr0 f ws vs r⟩
  | .obj c ks ws, v, ⟨a, dx, vs, e, q, l, r⟩ => ⟨a, dx, vs, e, f a _ q.1 q.2, l, reps.fr0 f ws vs r⟩
  | .exn c ks ws, v, ⟨a, d, vs, e, q, x, l, r⟩ => ⟨a, d, vs, e, f a _ q.1 q.2, x.fr0 f, l, reps.fr0 f ws vs r⟩
theorem reps.fr0 (f : Fr0 S H S' H') : ∀ (ws : List W) (vs : List V), reps Γ S H ws vs → reps Γ S' H' ws vs
  | [], _, h => h
  | w :: ws, vs, ⟨v, r, e, q, t⟩ => ⟨v, r, e, rep.fr0 f w v q, reps.fr0 f ws r t⟩
end
theorem rep.fr (f : Fr S H S' H') (w : W) (v : V) (h : rep Γ S H w v) : rep Γ S' H' w v := rep.fr0 f.1 w v h
theorem reps.fr (f : Fr S H S' H') (ws : List W) (vs : List V) (h : reps Γ S H ws vs) : reps Γ S' H' ws vs := reps.fr0 f.1 ws vs h
theorem reps.len : ∀ {ws : List W} {vs : List V}, reps Γ S H ws vs → ws.length = vs.length
  | [], _, h => by cases h; rfl
  | w :: ws, _, ⟨v, r, rfl, _, t⟩ => by simp [reps.len t]
theorem reps.get : ∀ {ws : List W} {vs : List V} {i : Nat} {w : W}, reps Γ S H ws vs → ws[i]? = some w → ∃ v, vs[i]? = some v ∧ rep Γ S H w v
  | [], _, _, _, _, h => by simp at h
  | w :: ws, _, 0, w', ⟨v, r, rfl, q, t⟩, h => by simp at h; subst h; exact ⟨v, rfl, q⟩
  | w :: ws, _, i + 1, w', ⟨v, r, rfl, q, t⟩, h => by
    obtain ⟨u, h1, h2⟩ := reps.get (i := i) t (by simpa using h)
    exact ⟨u, by simpa using h1, h2⟩
theorem reps.app : ∀ {ws us : List W} {vs xs : List V}, reps Γ S H ws vs → reps Γ S H us xs → reps Γ S H (ws ++ us) (vs ++ xs)
  | [], _, _, _, h, q => by cases h; exact q
  | w :: ws, _, _, _, ⟨v, r, rfl, q, t⟩, h => ⟨v, _, rfl, q, reps.app t h⟩
theorem reps.one {w : W} {v : V} (h : rep Γ S H w v) : reps Γ S H [w] [v] := ⟨v, [], rfl, h, rfl⟩
theorem reps.take : ∀ (n : Nat) {ws : List W} {vs : List V}, reps Γ S H ws vs → reps Γ S H (ws.take n) (vs.take n)
  | 0, _, _, _ => rfl
  | n + 1, [], _, h => by cases h; rfl
  | n + 1, w :: ws, _, ⟨v, r, rfl, q, t⟩ => ⟨v, _, rfl, q, reps.take n t⟩
theorem reps.drop : ∀ (n : Nat) {ws : List W} {vs : List V}, reps Γ S H ws vs → reps Γ S H (ws.drop n) (vs.drop n)
  | 0, _, _, h => h
  | n + 1, [], _, h => by cases h; rfl
  | n + 1, w :: ws, _, ⟨v, r, rfl, q, t⟩ => reps.drop n t
theorem reps.cut {ws : List W} {vs : List V} (h : reps Γ S H ws vs) (lo hi : Option Int) : reps Γ S H (cutW ws lo hi) (cutV vs lo hi) := by
  unfold cutW cutV
  rw [h.len]
  exact reps.take _ (reps.drop _ h)
theorem reps.rev : ∀ {ws : List W} {vs : List V}, reps Γ S H ws vs → reps Γ S H ws.reverse vs.reverse
  | [], _, h => by cases h; rfl
  | w :: ws, _, ⟨v, r, rfl, q, t⟩ => by
    rw [List.reverse_cons, List.reverse_cons]
    exact (reps.rev t).app (reps.one q)
theorem reps.set : ∀ {ws : List W} {vs : List V} (i : Nat) {w : W} {v : V}, reps Γ S H ws vs → rep Γ S H w v → reps Γ S H (ws.set i w) (vs.set i v)
  | [], _, _, _, _, h, _ => by cases h; rfl
  | x :: ws, _, 0, w, v, ⟨u, r, rfl, q, t⟩, h => ⟨v, r, rfl, h, t⟩
  | x :: ws, _, i + 1, w, v, ⟨u, r, rfl, q, t⟩, h => ⟨u, _, rfl, q, reps.set i t h⟩
theorem reps.dropLast {ws : List W} {vs : List V} (h : reps Γ S H ws vs) : reps Γ S H ws.dropLast vs.dropLast := by
  rw [List.dropLast_eq_take, List.dropLast_eq_take, h.len]
  exact reps.take _ h

/-- an object of the store -/
def orep (Γ : Gm) (S : Sto) (H : Hp) (a : Addr) : O → Prop
  | .lst ws => ∃ vs, H a = some (.lst vs) ∧ reps Γ S H ws vs
  | .dic ks ws => ∃ vs, H a = some (.dK (dkz ks vs)) ∧ ks.length = ws.length ∧ reps Γ S H ws vs
  | .ins c ks ws => ∃ (dx : Addr) (vs : List V), H a = some (.ins (Γ.ca c) dx (insz ks vs)) ∧ (ks.length = ws.length ∧ IC Γ c ks) ∧ reps Γ S H ws vs
  | .hid => ∃ o, H a = some o
def SR (Γ : Gm) (S : Sto) (H : Hp) : Prop := ∀ a o, S a = some o → orep Γ S H a o
theorem orep.fr0 (f : Fr0 S H S' H') (e : H' a = H a) : ∀ {o : O}, orep Γ S H a o → orep Γ S' H' a o
  | .lst ws, ⟨vs, h, r⟩ => ⟨vs, e.trans h, reps.fr0 f ws vs r⟩
  | .dic ks ws, ⟨vs, h, l, r⟩ => ⟨vs, e.trans h, l, reps.fr0 f ws vs r⟩
  | .ins c ks ws, ⟨dx, vs, h, l, r⟩ => ⟨dx, vs, e.trans h, l, reps.fr0 f ws vs r⟩
  | .hid, ⟨vs, h⟩ => ⟨vs, e.trans h⟩
theorem orep.there : ∀ {o : O}, orep Γ S H a o → H a ≠ none
  | .lst ws, ⟨vs, h, r⟩ => by rw [h]; simp
  | .dic ks ws, ⟨vs, h, _⟩ => by rw [h]; simp
  | .ins c ks ws, ⟨dx, vs, h, _⟩ => by rw [h]; simp
  | .hid, ⟨vs, h⟩ => by rw [h]; simp
theorem SR.nil (h : SR Γ S H) (e : H p = none) : S p = none := by
  cases q : S p with
  | none => rfl
  | some o => exact absurd e (h p o q).there
theorem SR.step0 (h : SR Γ S H) (f : Fr0 S H S' H') (k : ∀ a o, S' a = some o → (S a = some o ∧ H' a = H a) ∨ orep Γ S' H' a o) : SR Γ S' H' := fun a o e => by
  rcases k a o e with ⟨e1, e2⟩ | q
  · exact (h a o e1).fr0 f e2
  · exact q
theorem SR.step (h : SR Γ S H) (f : Fr S H S' H') (k : ∀ a o, S' a = some o → (S a = some o ∧ H' a = H a) ∨ orep Γ S' H' a o) : SR Γ S' H' := h.step0 f.1 k
theorem Sto.set_same {o : O} : Sto.set S a o a = some o := by unfold Sto.set; rw [if_pos rfl]
theorem Sto.set_ne {o : O} {b : Addr} (h : b ≠ a) : Sto.set S a o b = S b := by unfold Sto.set; rw [if_neg h]
theorem Sto.set_set {o u : O} : Sto.set (Sto.set S a o) a u = Sto.set S a u := by funext b; unfold Sto.set; split <;> rfl
/-- a new object that the store doesn't know -/
theorem Fr.new {o : HO} (e : H p = none) : Fr S H S (upd H p o) := ⟨fun a u h1 h2 => ⟨h1, by rw [upd_ne (ne_of_none h2 e)]; exact h2⟩, fun a u h1 h2 => ⟨h1, by rw [upd_ne (ne_of_none h2 e)]; exact h2⟩⟩
theorem SR.new {o : HO} (h : SR Γ S H) (e : H p = none) : SR Γ S (upd H p o) := h.step (Fr.new e) fun a u q => .inl ⟨q, upd_ne fun z => by subst z; exact (h _ u q).there e⟩
/-- a new list in the store -/
theorem Fr.newS {o : HO} {u : O} (e : H p = none) : Fr S H (S.set p u) (upd H p o) := by
  refine ⟨fun a x h1 h2 => ?_, fun a x h1 h2 => ?_⟩
  · have n := ne_of_none h2 e
    exact ⟨by rw [Sto.set_ne n]; exact h1, by rw [upd_ne n]; exact h2⟩
  · have n := ne_of_none h2 e
    exact ⟨by rw [Sto.set_ne n]; exact h1, by rw [upd_ne n]; exact h2⟩
theorem SR.newL {ws : List W} (h : SR Γ S H) (e : H p = none) (r : reps Γ S H ws vs) : SR Γ (S.set p (.lst ws)) (upd H p (.lst vs)) := h.step (Fr.newS e) fun a u q => by
  by_cases n : a = p
  · subst n
    rw [Sto.set_same] at q
    cases q
    exact .inr ⟨vs, upd_same, reps.fr (Fr.newS e) _ _ r⟩
  · rw [Sto.set_ne n] at q
    exact .inl ⟨q, upd_ne n⟩
/-- a list of the store is changed -/
theorem Fr0.wr {o : HO} {u u' : O} (e : S p = some u) : Fr0 S H (S.set p u') (upd H p o) := fun a x h1 h2 => by
  have n : a ≠ p := fun z => by subst z; rw [e] at h1; cases h1
  exact ⟨by rw [Sto.set_ne n]; exact h1, by rw [upd_ne n]; exact h2⟩
theorem Fr.wr {o : HO} {u u' : O} (e : S p = some u) (hu : u ≠ .hid := by intro h; cases h) : Fr S H (S.set p u') (upd H p o) := ⟨Fr0.wr e, fun a x h1 h2 => by
  have n : a ≠ p := fun z => by subst z; rw [e] at h1; cases h1; exact hu rfl
  exact ⟨by rw [Sto.set_ne n]; exact h1, by rw [upd_ne n]; exact h2⟩⟩
theorem SR.wrL {u : O} {ws : List W} (h : SR Γ S H) (e : S p = some u) (r : reps Γ S H ws vs) : SR Γ (S.set p (.lst ws)) (upd H p (.lst vs)) := h.step0 (Fr0.wr e) fun a x q => by
  by_cases n : a = p
  · subst n
    rw [Sto.set_same] at q
    cases q
    exact .inr ⟨vs, upd_same, reps.fr0 (Fr0.wr e) _ _ r⟩
  · rw [Sto.set_ne n] at q
    exact .inl ⟨q, upd_ne n⟩
theorem orep.new {o : HO} {u : O} (h : SR Γ S H) (e : H p = none) (r : orep Γ (S.set p u) (upd H p o) p u) : SR Γ (S.set p u) (upd H p o) := h.step (Fr.newS e) fun a x q => by
  by_cases n : a = p
  · subst n
    rw [Sto.set_same] at q
    cases q
    exact .inr r
  · rw [Sto.set_ne n] at q
    exact .inl ⟨q, upd_ne n⟩
theorem orep.wr {o : HO} {u u' : O} (h : SR Γ S H) (e : S p = some u) (r : orep Γ (S.set p u') (upd H p o) p u') : SR Γ (S.set p u') (upd H p o) := h.step0 (Fr0.wr e) fun a x q => by
  by_cases n : a = p
  · subst n
    rw [Sto.set_same] at q
    cases q
    exact .inr r
  · rw [Sto.set_ne n] at q
    exact .inl ⟨q, upd_ne n⟩
/-- a list that is made meanwhile -/
theorem SR.hide {o : HO} (h : SR Γ S H) (e : H p = none) : SR Γ (S.set p .hid) (upd H p o) := h.step (Fr.newS e) fun a u q => by
  by_cases n : a = p
  · subst n
    rw [Sto.set_same] at q
    cases q
    exact .inr ⟨_, upd_same⟩
  · rw [Sto.set_ne n] at q
    exact .inl ⟨q, upd_ne n⟩
theorem Fr0.hid {o : HO} (e : S p = some .hid) : Fr0 S H S (upd H p o) := fun a x h1 h2 => by
  have n : a ≠ p := fun z => by subst z; rw [e] at h1; cases h1
  exact ⟨h1, by rw [upd_ne n]; exact h2⟩
theorem SR.hid {o : HO} (h : SR Γ S H) (e : S p = some .hid) : SR Γ S (upd H p o) := h.step0 (Fr0.hid e) fun a x q => by
  by_cases n : a = p
  · subst n
    rw [e] at q
    cases q
    exact .inr ⟨_, upd_same⟩
  · exact .inl ⟨q, upd_ne n⟩
theorem Sto.del_same : Sto.del S p p = none := by unfold Sto.del; rw [if_pos rfl]
/-- what is let go -/
theorem Fr.sub (s : Sub S' S) : Fr S H S' H := by
  refine ⟨fun a o h1 h2 => ⟨?_, h2⟩, fun a o h1 h2 => ⟨s.2 a h1, h2⟩⟩
  cases q : S' a with
  | none => rfl
  | some u => rw [s.1 a u q] at h1; cases h1
theorem SR.sub (h : SR Γ S H) (s : Sub S' S) : SR Γ S' H := h.step (Fr.sub s) fun a o q => .inl ⟨s.1 a o q, rfl⟩
theorem Fz.rep {w w' : W} {v : V} (z : Fz S w w' S') (h : SR Γ S H) (r : rep Γ S H w v) : rep Γ S' H w' v ∧ SR Γ S' H ∧ Fr S H S' H := by
  obtain ⟨s, e⟩ := z
  refine ⟨?_, h.sub s, Fr.sub s⟩
  rcases e with rfl | ⟨a, rfl, e2, ⟨ws, e1, rfl⟩ | ⟨ks, ws, e1, rfl⟩ | ⟨c, ks, ws, e1, rfl⟩⟩
  · exact rep.fr (Fr.sub s) _ _ r
  · obtain ⟨vs, h1, h2⟩ := h a _ e1
    exact ⟨a, vs, r, ⟨e2, h1⟩, reps.fr (Fr.sub s) _ _ h2⟩
  · obtain ⟨vs, h1, hl, h2⟩ := h a _ e1
    exact ⟨a, vs, r, ⟨e2, h1⟩, hl, reps.fr (Fr.sub s) _ _ h2⟩
  · obtain ⟨dx, vs, h1, hl, h2⟩ := h a _ e1
    exact ⟨a, dx, vs, r, ⟨e2, h1⟩, hl, reps.fr (Fr.sub s) _ _ h2⟩

/-! ### the names' values -/
def envR (Γ : Gm) (S : Sto) (H : Hp) (env : Env) (σ : L2.St) : Prop := env.length = σ.length ∧ ∀ (i : Nat) (w : W), env[i]? = some (some w) → ∃ v, σ[i]? = some (some v) ∧ rep Γ S H w v
variable {env : Env} {σ : L2.St}
theorem envR.fr (f : Fr S H S' H') (h : envR Γ S H env σ) : envR Γ S' H' env σ := ⟨h.1, fun i w e => let ⟨v, h1, h2⟩ := h.2 i w e; ⟨v, h1, rep.fr f _ _ h2⟩⟩
theorem envR.set (h : envR Γ S H env σ) (i : Nat) {w : W} {v : V} (r : rep Γ S H w v) : envR Γ S H (env.set i (some w)) (σ.set i (some v)) := by
  refine ⟨by simp [h.1], fun j x e => ?_⟩
  by_cases hj : i = j
  · subst hj
    have hi : i < env.length := by
      by_cases hi : i < env.length
      · exact hi
      · rw [List.getElem?_eq_none (by simpa using hi)] at e; cases e
    rw [List.getElem?_set_self hi] at e
    cases e
    exact ⟨v, by rw [List.getElem?_set_self (by rw [← h.1]; exact hi)], r⟩
  · rw [List.getElem?_set_ne hj] at e
    obtain ⟨u, h1, h2⟩ := h.2 j x e
    exact ⟨u, by rw [List.getElem?_set_ne hj]; exact h1, h2⟩
theorem envR.clr (h : envR Γ S H env σ) (i : Nat) : envR Γ S H (env.set i none) (σ.set i none) := by
  refine ⟨by simp [h.1], fun j x e => ?_⟩
  by_cases hj : i = j
  · subst hj
    by_cases hi : i < env.length
    · rw [List.getElem?_set_self hi] at e; cases e
    · rw [List.getElem?_eq_none (by simpa using hi)] at e; cases e
  · rw [List.getElem?_set_ne hj] at e
    obtain ⟨u, h1, h2⟩ := h.2 j x e
    exact ⟨u, by rw [List.getElem?_set_ne hj]; exact h1, h2⟩
theorem envR.wipe (h : envR Γ S H env σ) : ∀ vs : List Nat, envR Γ S H (wipeE env vs) (L2.wipe σ vs)
  | [] => h
  | v :: vs => (envR.wipe h vs).clr v
theorem reps.getS : ∀ {ws : List W} {vs : List V} {i : Nat} {w : W}, reps Γ S H ws vs → (ws.map some)[i]? = some (some w) → ∃ v, (vs.map some)[i]? = some (some v) ∧ rep Γ S H w v := fun {ws vs i w} h e => by
  rw [List.getElem?_map] at e
  cases q : ws[i]? with
  | none => rw [q] at e; cases e
  | some x =>
    rw [q] at e
    cases e
    obtain ⟨v, h1, h2⟩ := h.get q
    exact ⟨v, by rw [List.getElem?_map, h1]; rfl, h2⟩

/-! ### what is wanted behind -/
def KQ (Γ : Gm) (S : Sto) (H : Hp) (QW : VQ) (Q : VK) : Prop := ∀ w S' v H', rep Γ S' H' w v → SR Γ S' H' → Fr S H S' H' → QW w S' → Q v H'
def xrep (Γ : Gm) (S : Sto) (H : Hp) (x : Xn) (cls : Value) (d : Option Addr) : Prop :=
  cls = .ref (Γ.ca x.c) ∧ (x.ks.length = x.ws.length ∧ XC Γ x.c x.ks) ∧ ∃ vs, xdR S H x.ks d vs ∧ reps Γ S H x.ws vs
def KX (Γ : Gm) (S : Sto) (H : Hp) (XW : XQ) (X : XK) : Prop := ∀ x S' cls d H', xrep Γ S' H' x cls d → SR Γ S' H' → Fr S H S' H' → XW x S' → X cls d H'
theorem KQ.fr {QW : VQ} {Q : VK} (f : Fr S H S' H') (k : KQ Γ S H QW Q) : KQ Γ S' H' QW Q := fun w S2 v H2 r s f2 q => k w S2 v H2 r s (f.trans f2) q
theorem KX.fr {XW : XQ} {X : XK} (f : Fr S H S' H') (k : KX Γ S H XW X) : KX Γ S' H' XW X := fun x S2 c d H2 r s f2 q => k x S2 c d H2 r s (f.trans f2) q
end
end Bw

/-! Ev3: the operators, by HandS's rules. -/
namespace Bw
open PySem L2 PySem.Spec PyProof.Rows

theorem str_app (a b : List Nat) : ((⟨a.toArray⟩ : Str) ++ (⟨b.toArray⟩ : Str)) = ⟨(a ++ b).toArray⟩ := by
  show Str.append _ _ = _
  unfold Str.append
  simp
theorem str_len (a : List Nat) : (⟨a.toArray⟩ : Str).length = a.length := by simp [Str.length]
theorem okStr_app {a b : List Nat} (h : okStr a = true) (k : okStr b = true) : okStr (a ++ b) = true := by
  unfold okStr at *
  rw [List.all_append, h, k]; rfl

section
variable {X : Cx} {Γ : Gm} {S : Sto} {H : Hp} {QW : VQ} {Q : VK}

theorem mkL_ok {fz : Bool} {ws : List W} {vs : List V} (h : mkL fz ws S QW) (r : reps Γ S H ws vs) (s : SR Γ S H) (k : KQ Γ S H QW Q) : ∀ p, H p = none → Q (.ref p) (upd H p (.lst vs)) := fun p e => by
  unfold mkL at h
  split at h
  · exact k (.rl ws) S (.ref p) _ ⟨p, vs, rfl, ⟨s.nil e, upd_same⟩, reps.fr (Fr.new e) _ _ r⟩ (s.new e) (Fr.new e) h
  · exact k (.ref p) _ (.ref p) _ rfl (s.newL e r) (Fr.newS e) (h p (s.nil e))
theorem tup_ok {ws : List W} {vs : List V} (h : QW (.tup ws) S) (r : reps Γ S H ws vs) (s : SR Γ S H) (k : KQ Γ S H QW Q) : ∀ p, H p = none → Q (.ref p) (upd H p (.tup vs)) := fun p e =>
  k (.tup ws) S (.ref p) _ ⟨p, vs, rfl, .inl ⟨s.nil e, .inl upd_same⟩, reps.fr (Fr.new e) _ _ r⟩ (s.new e) (Fr.new e) h
theorem KQ.here {w : W} {v : V} (k : KQ Γ S H QW Q) (s : SR Γ S H) (r : rep Γ S H w v) (h : QW w S) : Q v H := k w S v H r s (Fr.refl _ _) h

theorem deref_ref {a : Addr} : deref S (.ref a) = (match S a with | some (.lst ws) => W.rl ws | _ => .ref a) := rfl
theorem lst_rep {x : W} {v : V} {ws : List W} (h : lstOf S x = some ws) (r : rep Γ S H x v) (s : SR Γ S H) : ∃ p vs, v = .ref p ∧ H p = some (.lst vs) ∧ reps Γ S H ws vs := by
  unfold lstOf at h
  cases x with
  | rl ws' =>
    simp only [deref] at h
    cases h
    obtain ⟨a, vs, e, q, t⟩ := r
    exact ⟨a, vs, e, q.2, t⟩
  | ref a =>
    rw [deref_ref] at h
    cases q : S a with
    | none => rw [q] at h; simp at h
    | some o =>
      cases o with
      | lst us =>
        rw [q] at h
        simp at h
        subst h
        obtain ⟨vs, h1, h2⟩ := s a _ q
        exact ⟨a, vs, r, h1, h2⟩
      | dic _ _ => rw [q] at h; simp at h
      | ins _ _ _ => rw [q] at h; simp at h
      | hid => rw [q] at h; simp at h
  | _ => simp [deref] at h
theorem seq_rep {x : W} {v : V} {ws : List W} (h : seqOf S x = some ws) (r : rep Γ S H x v) (s : SR Γ S H) : ∃ p vs, v = .ref p ∧ (SqL Γ.K H p vs ∨ SqT Γ.K H p vs) ∧ reps Γ S H ws vs := by
  unfold seqOf at h
  cases x with
  | tup ws' =>
    simp only [deref] at h
    cases h
    obtain ⟨a, vs, e, q, t⟩ := r
    exact ⟨a, vs, e, .inr q.sq, t⟩
  | sc ws' =>
    simp only [deref] at h
    cases h
    obtain ⟨a, vs, e, q, t⟩ := r
    exact ⟨a, vs, e, .inl q.sq, t⟩
  | rl ws' =>
    simp only [deref] at h
    cases h
    obtain ⟨a, vs, e, q, t⟩ := r
    exact ⟨a, vs, e, .inl q.sq, t⟩
  | ref a =>
    rw [deref_ref] at h
    cases q : S a with
    | none => rw [q] at h; simp at h
    | some o =>
      cases o with
      | lst us =>
        rw [q] at h
        simp at h
        subst h
        obtain ⟨vs, h1, h2⟩ := s a _ q
        exact ⟨a, vs, r, .inl (.inl (.inl h1)), h2⟩
      | dic _ _ => rw [q] at h; simp at h
      | ins _ _ _ => rw [q] at h; simp at h
      | hid => rw [q] at h; simp at h
  | _ => simp [deref] at h

/-! ### dicts -/
theorem keyV_inj {a b : Ky} (h : keyV a = keyV b) : a = b := by
  cases a with
  | inl i => cases b with
    | inl j => injection h with h; rw [h]
    | inr z => cases h
  | inr y => cases b with
    | inl j => cases h
    | inr z =>
      have h : (Sum.inr (⟨y.toArray⟩ : Str) : Key) = Sum.inr ⟨z.toArray⟩ := h
      injection h with h
      injection h with h
      have : y = z := by simpa using h
      rw [this]
theorem key_rep {y : W} {u : V} {k : Ky} (h : kyOf y = some k) (r : rep Γ S H y u) : u = kV (keyV k) := by
  cases y with
  | int i => cases h; cases r; rfl
  | str z => cases h; exact r.1
  | _ => cases h
theorem dkz_val : ∀ {ks : List Ky} {ws : List W} {vs : List V} {S : Sto} {H : Hp} (z : Ky), ks.length = ws.length → reps Γ S H ws vs →
    (∀ w, lookD ks ws z = some w → ∃ v, valV (dkz ks vs) (keyV z) = some v ∧ rep Γ S H w v) ∧ (lookD ks ws z = none → valV (dkz ks vs) (keyV z) = none)
  | [], [], vs, S, H, z, _, r => by cases r; exact ⟨fun w h => by simp [lookD] at h, fun _ => rfl⟩
  | [], _ :: _, _, _, _, _, h, _ => by simp at h
  | _ :: _, [], _, _, _, _, h, _ => by simp at h
  | k :: ks, w :: ws, _, S, H, z, hl, ⟨v, vr, rfl, q, t⟩ => by
    have ih := dkz_val (ks := ks) (ws := ws) z (by simpa using hl) t
    by_cases e : k = z
    · subst e
      refine ⟨fun w' h => ?_, fun h => ?_⟩
      · simp only [lookD, if_pos rfl] at h
        cases h
        exact ⟨v, valV_pos rfl, q⟩
      · simp [lookD] at h
    · have e2 : ¬ keyV k = keyV z := fun h => e (keyV_inj h)
      refine ⟨fun w' h => ?_, fun h => ?_⟩
      · simp only [lookD, if_neg e] at h
        obtain ⟨v', h1, h2⟩ := ih.1 w' h
        exact ⟨v', (valV_neg e2).trans h1, h2⟩
      · simp only [lookD, if_neg e] at h
        exact (valV_neg e2).trans (ih.2 h)
theorem dic_rep {x : W} {v : V} {p : List Ky × List W} (h : dicOf S x = some p) (r : rep Γ S H x v) (s : SR Γ S H) : ∃ a vs, v = .ref a ∧ H a = some (.dK (dkz p.1 vs)) ∧ p.1.length = p.2.length ∧ reps Γ S H p.2 vs := by
  cases x with
  | dct ks ws =>
    cases h
    obtain ⟨a, vs, e, q, l, t⟩ := r
    exact ⟨a, vs, e, q.2, l, t⟩
  | ref a =>
    cases q : S a with
    | none => simp only [dicOf, q] at h; cases h
    | some o =>
      cases o with
      | dic ks ws =>
        simp only [dicOf, q] at h
        cases h
        obtain ⟨vs, h1, l, h2⟩ := s a _ q
        exact ⟨a, vs, r, h1, l, h2⟩
      | _ => simp only [dicOf, q] at h; cases h
  | _ => cases h
theorem dic_get {x y : W} {v u : V} {p : List Ky × List W} {k : Ky} (h : dicOf S x = some p) (hk : kyOf y = some k) (r : rep Γ S H x v) (q : rep Γ S H y u) (s : SR Γ S H) :
    ∃ a o, v = .ref a ∧ DGet H a u o ∧ (∀ w, lookD p.1 p.2 k = some w → ∃ t, o = some t ∧ rep Γ S H w t) ∧ (lookD p.1 p.2 k = none → o = none) := by
  obtain ⟨a, vs, rfl, hh, hl, rr⟩ := dic_rep h r s
  obtain ⟨h1, h2⟩ := dkz_val (Γ := Γ) k hl rr
  rw [key_rep hk q]
  exact ⟨a, valV (dkz p.1 vs) (keyV k), rfl, DGet.k (k := keyV k) hh, h1, h2⟩
theorem repD_rep : ∀ {ks : List Ky} {ws : List W} {vs : List V} {z : Ky} {w : W} {v : V}, ks.length = ws.length → reps Γ S H ws vs → rep Γ S H w v →
    ∃ vs', ((dkz ks vs).map fun kv => if kv.1 = keyV z then (kv.1, v) else kv) = dkz ks vs' ∧ ks.length = (repD ks ws z w).length ∧ reps Γ S H (repD ks ws z w) vs'
  | [], [], vs, z, w, v, _, r, _ => by cases r; exact ⟨[], rfl, rfl, rfl⟩
  | [], _ :: _, _, _, _, _, h, _, _ => by simp at h
  | _ :: _, [], _, _, _, _, h, _, _ => by simp at h
  | k :: ks, x :: ws, _, z, w, v, hl, ⟨u, vr, rfl, q, t⟩, rw => by
    obtain ⟨vs', h1, h2, h3⟩ := repD_rep (ks := ks) (ws := ws) (z := z) (by simpa using hl) t rw
    by_cases e : k = z
    · subst e
      refine ⟨v :: vs', ?_, by simp [repD, h2], ⟨v, vs', rfl, by rw [if_pos rfl]; exact rw, h3⟩⟩
      show (if keyV k = keyV k then (keyV k, v) else (keyV k, u)) :: (dkz ks vr).map _ = (keyV k, v) :: dkz ks vs'
      rw [if_pos rfl, h1]
    · refine ⟨u :: vs', ?_, by simp [repD, h2], ⟨u, vs', rfl, by rw [if_neg e]; exact q, h3⟩⟩
      show (if keyV k = keyV z then (keyV k, v) else (keyV k, u)) :: (dkz ks vr).map _ = (keyV k, u) :: dkz ks vs'
      rw [if_neg (fun h => e (keyV_inj h)), h1]
theorem dkz_keys : ∀ {ks : List Ky} {vs : List V}, ks.length = vs.length → (dkz ks vs).map (·.1) = ks.map keyV
  | [], [], _ => rfl
  | [], _ :: _, h => by simp at h
  | _ :: _, [], h => by simp at h
  | k :: ks, v :: vs, h => by
    show keyV k :: (dkz ks vs).map (·.1) = _
    rw [dkz_keys (by simpa using h)]; rfl
theorem dkz_len {ks : List Ky} {vs : List V} (h : ks.length = vs.length) : (dkz ks vs).length = ks.length := by
  have := congrArg List.length (dkz_keys h)
  simpa using this
theorem dkz_snoc : ∀ {ks : List Ky} {vs : List V} {z : Ky} {v : V}, ks.length = vs.length → dkz ks vs ++ [(keyV z, v)] = dkz (ks ++ [z]) (vs ++ [v])
  | [], [], _, _, _ => rfl
  | [], _ :: _, _, _, h => by simp at h
  | _ :: _, [], _, _, h => by simp at h
  | k :: ks, v :: vs, z, u, h => by
    show (keyV k, v) :: (dkz ks vs ++ [(keyV z, u)]) = _
    rw [dkz_snoc (by simpa using h)]; rfl
theorem putD_rep {ks : List Ky} {ws : List W} {vs : List V} {z : Ky} {w : W} {v : V} (hl : ks.length = ws.length) (r : reps Γ S H ws vs) (rw : rep Γ S H w v) :
    ∃ vs', putK (dkz ks vs) (keyV z) v = dkz (putD ks ws z w).1 vs' ∧ (putD ks ws z w).1.length = (putD ks ws z w).2.length ∧ reps Γ S H (putD ks ws z w).2 vs' := by
  have hv : ks.length = vs.length := hl.trans r.len
  have any : ((dkz ks vs).any fun kv => decide (kv.1 = keyV z)) = ks.any fun k => decide (k = z) := by
    have e : ((dkz ks vs).any fun kv => decide (kv.1 = keyV z)) = ((dkz ks vs).map (·.1)).any fun k => decide (k = keyV z) := by rw [List.any_map]; rfl
    rw [e, dkz_keys hv, List.any_map]
    congr 1
    funext k
    show decide (keyV k = keyV z) = decide (k = z)
    by_cases h : k = z
    · rw [h, decide_eq_true rfl, decide_eq_true rfl]
    · rw [decide_eq_false h, decide_eq_false fun q => h (keyV_inj q)]
  unfold putK putD
  rw [any]
  by_cases h : (ks.any fun k => decide (k = z)) = true
  · rw [if_pos h, if_pos h]
    obtain ⟨vs', h1, h2, h3⟩ := repD_rep (z := z) hl r rw
    exact ⟨vs', h1, h2, h3⟩
  · rw [if_neg h, if_neg h]
    exact ⟨vs ++ [v], dkz_snoc hv, by simp [hl], r.app (reps.one rw)⟩
/-! ### binary operators -/
def bopOf : BOp → Operator
  | .add _ => .Add
  | .sub => .Sub
  | .mul _ => .Mult
  | .fdiv => .FloorDiv
  | .mod => .Mod
  | .pow => .Pow
  | .shl => .LShift
  | .shr => .RShift
  | .band => .BitAnd
  | .bor => .BitOr
  | .bxor => .BitXor
def rB (Γ : Gm) (o : BOp) : R2 := fun v u H Q => ∃ x y S QW, rep Γ S H x v ∧ rep Γ S H y u ∧ SR Γ S H ∧ wBin o x y S QW ∧ KQ Γ S H QW Q
theorem wInts_el {x y : W} {P : Int → Int → Prop} (h : wInts x y P) : ∃ i j, x = .int i ∧ y = .int j ∧ P i j := by
  unfold wInts at h
  split at h
  · exact ⟨_, _, rfl, rfl, h⟩
  · exact h.elim
theorem opI_of {f : Value → Value → Sem Value} {Cd : Int → Int → Prop} {g : Int → Int → V} {g' : Int → Int → W} (op : OpR X f (rI Cd g)) {pins : List (Addr × Obj)} {s : Shared} {σ : L2.St} {x y : V} {v u : Value} (I : Inv X pins σ H s) (rx : RelV x v) (ry : RelV y u)
    {a b : W} (ra : rep Γ S H a x) (rb : rep Γ S H b y) (hs : SR Γ S H) (k : KQ Γ S H QW Q) (hg : ∀ i j, rep Γ S H (g' i j) (g i j)) (h : wInts a b fun i j => Cd i j ∧ QW (g' i j) S) :
    wpAny (model X.prog X.w) X.A (f v u) (EP X pins σ Q) X.xe s := by
  obtain ⟨i, j, rfl, rfl, hc, q⟩ := wInts_el h
  exact op pins s σ H x y v u Q I rx ry ⟨i, j, ra, rb, hc, k.here hs (hg i j) q⟩
theorem opI0_of {f : Value → Value → Sem Value} {g : Int → Int → V} {g' : Int → Int → W} (op : OpR X f (rI0 g)) {pins : List (Addr × Obj)} {s : Shared} {σ : L2.St} {x y : V} {v u : Value} (I : Inv X pins σ H s) (rx : RelV x v) (ry : RelV y u)
    {a b : W} (ra : rep Γ S H a x) (rb : rep Γ S H b y) (hs : SR Γ S H) (k : KQ Γ S H QW Q) (hg : ∀ i j, rep Γ S H (g' i j) (g i j)) (h : wInts a b fun i j => QW (g' i j) S) :
    wpAny (model X.prog X.w) X.A (f v u) (EP X pins σ Q) X.xe s := by
  obtain ⟨i, j, rfl, rfl, q⟩ := wInts_el h
  exact op pins s σ H x y v u Q I rx ry ⟨i, j, ra, rb, k.here hs (hg i j) q⟩
theorem op_mul2 : OpR X (binaryOp .Mult) (rI (fun i j => CMul i j ∨ CMulW i j) fun i j => .int (i * j)) := by
  intro pins s σ H x y v u Q I rx ry h
  obtain ⟨i, j, rfl, rfl, hc | hc, q⟩ := h
  · exact op_mul pins s σ H _ _ v u Q I rx ry ⟨i, j, rfl, rfl, hc, q⟩
  · exact op_mulW pins s σ H _ _ v u Q I rx ry ⟨i, j, rfl, rfl, hc, q⟩
theorem reps.flat {ws : List W} {vs : List V} : ∀ (m : Nat), reps Γ S H ws vs → reps Γ S H (List.replicate m ws).flatten (List.replicate m vs).flatten
  | 0, _ => rfl
  | m + 1, r => by
    rw [List.replicate_succ, List.replicate_succ, List.flatten_cons, List.flatten_cons]
    exact r.app (reps.flat m r)
theorem op_B (hK : X.K = Γ.K) (o : BOp) : OpR X (binaryOp (bopOf o)) (rB Γ o) := by
  intro pins s σ H x y v u Q I rx ry h
  obtain ⟨a, b, S, QW, ra, rb, hs, h, k⟩ := h
  cases o with
  | add fz =>
    simp only [wBin, wAdd] at h
    split at h
    · exact op_add pins s σ H x y v u Q I rx ry ⟨_, _, ra, rb, k.here hs (w := .int _) rfl h⟩
    · rename_i p q
      obtain ⟨ra, oa⟩ := ra
      obtain ⟨rb, ob⟩ := rb
      subst ra rb
      refine op_add_str pins s σ H _ _ v u Q I rx ry ⟨_, _, rfl, rfl, ?_, ?_⟩
      · rw [str_len, str_len]; exact h.1
      · rw [str_app]; exact k.here hs (w := .str _) ⟨rfl, okStr_app oa ob⟩ h.2
    · rename_i p q
      obtain ⟨a1, xs, rfl, ta, rra⟩ := ra
      obtain ⟨b1, ys, rfl, tb, rrb⟩ := rb
      have l1 := rra.len
      have l2 := rrb.len
      refine op_catA pins s σ H _ _ v u Q I rx ry ⟨a1, b1, xs, ys, rfl, rfl, hK ▸ ta.sq, hK ▸ tb.sq, by rw [← l1, ← l2]; exact h.1, fun e => ?_, fun n e => ?_, fun n1 n2 p e => ?_⟩
      · subst e
        have z : p = [] := List.length_eq_zero_iff.mp (by rw [l1]; rfl)
        subst z
        exact k.here hs (w := .tup q) ⟨b1, ys, rfl, tb, rrb⟩ h.2
      · subst e
        have z : q = [] := List.length_eq_zero_iff.mp (by rw [l2]; rfl)
        subst z
        have h2 := h.2
        rw [List.append_nil] at h2
        exact k.here hs (w := .tup p) ⟨a1, xs, rfl, ta, rra⟩ h2
      · exact tup_ok h.2 (rra.app rrb) hs k p e
    · split at h
      · rename_i p q e1 e2
        obtain ⟨p1, xs, rfl, h1, r1⟩ := lst_rep e1 ra hs
        obtain ⟨p2, ys, rfl, h2, r2⟩ := lst_rep e2 rb hs
        exact op_cat pins s σ H _ _ v u Q I rx ry ⟨p1, p2, xs, ys, rfl, rfl, h1, h2, by rw [← r1.len, ← r2.len]; exact h.1, mkL_ok h.2 (r1.app r2) hs k⟩
      · exact h.elim
  | sub => exact opI0_of op_sub I rx ry ra rb hs k (g' := fun i j => .int (i - j)) (fun _ _ => rfl) h
  | mul fz =>
    simp only [wBin, wMul] at h
    split at h
    · rename_i p
      split at h
      · rename_i i
        obtain ⟨a1, xs, rfl, ta, rra⟩ := ra
        cases rb
        obtain ⟨h1, h2, h3, h4, h5⟩ := h
        refine op_repA pins s σ H _ _ v u Q I rx ry ⟨a1, i, xs, rfl, rfl, hK ▸ ta.sq, fun e => h1 ?_, h2, h3, by rw [← rra.len]; exact h4, fun e => ?_, fun e => ?_⟩
        · subst e
          exact List.length_eq_zero_iff.mp (by rw [rra.len]; rfl)
        · subst e
          rw [show (List.replicate (Int.toNat 1) p).flatten = p by simp [List.replicate]] at h5
          exact k.here hs (w := .tup p) ⟨a1, xs, rfl, ta, rra⟩ h5
        · exact tup_ok h5 (reps.flat i.toNat rra) hs k
      · exact h.elim
    · exact opI_of op_mul2 I rx ry ra rb hs k (g' := fun i j => .int (i * j)) (fun _ _ => rfl) h
  | fdiv => exact opI_of op_fdivW I rx ry ra rb hs k (g' := fun i j => .int (i / j)) (fun _ _ => rfl) h
  | mod => exact opI_of op_mod I rx ry ra rb hs k (g' := fun i j => .int (i % j)) (fun _ _ => rfl) h
  | pow => exact opI_of op_pow I rx ry ra rb hs k (g' := fun i j => .int (i ^ j.toNat)) (fun _ _ => rfl) h
  | shl => exact opI_of op_shl I rx ry ra rb hs k (g' := fun i j => .int (i * 2 ^ j.toNat)) (fun _ _ => rfl) h
  | shr => exact opI_of op_shr I rx ry ra rb hs k (g' := fun i j => .int (i / 2 ^ j.toNat)) (fun _ _ => rfl) h
  | band => exact opI0_of op_and I rx ry ra rb hs k (g' := fun i j => .int (Builtin.bitAnd i j)) (fun _ _ => rfl) h
  | bor => exact opI0_of op_or I rx ry ra rb hs k (g' := fun i j => .int (Builtin.bitOr i j)) (fun _ _ => rfl) h
  | bxor => exact opI0_of op_xor I rx ry ra rb hs k (g' := fun i j => .int (Builtin.bitXor i j)) (fun _ _ => rfl) h

/-! ### comparisons -/
def copOf : COp → CmpOp
  | .eq => .Eq
  | .ne => .NotEq
  | .lt => .Lt
  | .le => .LtE
  | .gt => .Gt
  | .ge => .GtE
  | .isin => .In
  | .notin => .NotIn
mutual
def toD : W → PyData
  | .non => .none
  | .bl b => .bool b
  | .int i => .int i
  | .str x => .str ⟨x.toArray⟩
  | .tup ws => .tuple (toDs ws)
  | .rl ws => .list (toDs ws)
  | .sc ws => .list (toDs ws)
  | .ref _ => .none
  | .fn _ => .none
  | .dct _ _ => .none
  | .obj _ _ _ => .none
  | .exn _ _ _ => .none
def toDs : List W → List PyData
  | [] => []
  | w :: ws => toD w :: toDs ws
end
theorem str_eq {x y : List Nat} : ((⟨x.toArray⟩ : Str) == ⟨y.toArray⟩) = (x == y) := by
  by_cases h : x = y
  · subst h; rw [beq_self_eq_true, beq_self_eq_true]
  · have n : (⟨x.toArray⟩ : Str) ≠ ⟨y.toArray⟩ := fun e => h (by injection e with e; simpa using e)
    rw [beq_eq_false_iff_ne.mpr n, beq_eq_false_iff_ne.mpr h]
mutual
theorem toD_eqv : ∀ (x y : W), dataW x = true → dataW y = true → PyData.eqv (toD x) (toD y) = eqv x y
  | .non, y, hx, hy => by cases y <;> first | rfl | (simp [dataW] at hy) 
  | .bl _, y, hx, hy => by cases y <;> first | rfl | (simp [dataW] at hy) 
  | .int _, y, hx, hy => by cases y <;> first | rfl | (simp [dataW] at hy) 
  | .str x, y, hx, hy => by
    cases y with
    | str z =>
      show ((⟨x.toArray⟩ : Str) == ⟨z.toArray⟩) = (x == z)
      exact str_eq
    | _ => first | rfl | (simp [dataW] at hy)
  | .tup xs, y, hx, hy => by
    cases y with
    | tup ys => exact toDs_eqv xs ys hx hy
    | _ => first | rfl | (simp [dataW] at hy)
  | .rl xs, y, hx, hy => by
    cases y with
    | rl ys => exact toDs_eqv xs ys hx hy
    | sc ys => exact toDs_eqv xs ys hx hy
    | _ => first | rfl | (simp [dataW] at hy)
  | .sc xs, y, hx, hy => by
    cases y with
    | rl ys => exact toDs_eqv xs ys hx hy
    | sc ys => exact toDs_eqv xs ys hx hy
    | _ => first | rfl | (simp [dataW] at hy)
  | .ref _, y, hx, hy => by simp [dataW] at hx
  | .fn _, y, hx, hy => by simp [dataW] at hx
  | .dct _ _, y, hx, hy => by simp [dataW] at hx
  | .obj _ _ _, y, hx, hy => by simp [dataW] at hx
  | .exn _ _ _, y, hx, hy => by simp [dataW] at hx
theorem toDs_eqv : ∀ (xs ys : List W), dataWs xs = true → dataWs ys = true → PyData.eqvAll (toDs xs) (toDs ys) = eqvs xs ys
  | [], [], _, _ => rfl
  | [], _ :: _, _, _ => rfl
  | _ :: _, [], _, _ => rfl
  | x :: xs, y :: ys, hx, hy => by
    simp only [dataWs, Bool.and_eq_true] at hx hy
    show (PyData.eqv (toD x) (toD y) && PyData.eqvAll (toDs xs) (toDs ys)) = (eqv x y && eqvs xs ys)
    rw [toD_eqv x y hx.1 hy.1, toDs_eqv xs ys hx.2 hy.2]
end
mutual
theorem toD_dep : ∀ x : W, (toD x).depth = depW x
  | .non => rfl
  | .bl _ => rfl
  | .int _ => rfl
  | .str _ => rfl
  | .tup ws => by show PyData.depthAll (toDs ws) + 1 = depWs ws + 1; rw [toDs_dep ws]
  | .rl ws => by show PyData.depthAll (toDs ws) + 1 = depWs ws + 1; rw [toDs_dep ws]
  | .sc ws => by show PyData.depthAll (toDs ws) + 1 = depWs ws + 1; rw [toDs_dep ws]
  | .ref _ => rfl
  | .fn _ => rfl
  | .dct _ _ => rfl
  | .obj _ _ _ => rfl
  | .exn _ _ _ => rfl
theorem toDs_dep : ∀ xs : List W, PyData.depthAll (toDs xs) = depWs xs
  | [] => rfl
  | x :: xs => by show max (toD x).depth (PyData.depthAll (toDs xs)) = max (depW x) (depWs xs); rw [toD_dep x, toDs_dep xs]
end
mutual
theorem toD_dp : ∀ (x : W) (v : V), dataW x = true → rep Γ S H x v → Dp Γ.K H v (toD x) ∧ (toD x).canLay0 = true
  | .non, _, _, rfl => ⟨.non, rfl⟩
  | .bl _, _, _, rfl => ⟨.bl _, rfl⟩
  | .int _, _, _, rfl => ⟨.int _, rfl⟩
  | .str x, _, _, ⟨rfl, o⟩ => ⟨.str _, by
      show PyData.strOk (⟨x.toArray⟩ : Str) = true
      unfold PyData.strOk
      unfold okStr at o
      simpa using o⟩
  | .tup ws, _, d, ⟨a, vs, rfl, q, r⟩ => let ⟨h1, h2⟩ := toDs_dp ws vs d r; ⟨.tup q.sq h1, h2⟩
  | .rl ws, _, d, ⟨a, vs, rfl, q, r⟩ => let ⟨h1, h2⟩ := toDs_dp ws vs d r; ⟨.lst q.sq h1, h2⟩
  | .sc ws, _, d, ⟨a, vs, rfl, q, r⟩ => let ⟨h1, h2⟩ := toDs_dp ws vs d r; ⟨.lst q.sq h1, h2⟩
  | .ref _, _, d, _ => by simp [dataW] at d
  | .fn _, _, d, _ => by simp [dataW] at d
  | .dct _ _, _, d, _ => by simp [dataW] at d
  | .obj _ _ _, _, d, _ => by simp [dataW] at d
  | .exn _ _ _, _, d, _ => by simp [dataW] at d
theorem toDs_dp : ∀ (xs : List W) (vs : List V), dataWs xs = true → reps Γ S H xs vs → DpAll Γ.K H vs (toDs xs) ∧ PyData.canLayAll0 (toDs xs) = true
  | [], _, _, rfl => ⟨.nil, rfl⟩
  | x :: xs, _, d, ⟨v, r, rfl, q, t⟩ => by
    simp only [dataWs, Bool.and_eq_true] at d
    obtain ⟨h1, h2⟩ := toD_dp x v d.1 q
    obtain ⟨h3, h4⟩ := toDs_dp xs r d.2 t
    exact ⟨.cons h1 h3, by show (PyData.canLay0 (toD x) && PyData.canLayAll0 (toDs xs)) = true; rw [h2, h4]; rfl⟩
end
theorem deref_dp {x : W} {v : V} (h : dataW (deref S x) = true) (r : rep Γ S H x v) (s : SR Γ S H) : Dp Γ.K H v (toD (deref S x)) ∧ (toD (deref S x)).canLay0 = true := by
  cases x with
  | ref a =>
    rw [deref_ref] at h ⊢
    cases q : S a with
    | none => rw [q] at h; simp [dataW] at h
    | some o =>
      cases o with
      | lst us =>
        rw [q] at h
        obtain ⟨vs, h1, h2⟩ := s a _ q
        obtain ⟨h3, h4⟩ := toDs_dp us vs h h2
        subst r
        exact ⟨.lst (.inl (.inl h1)) h3, h4⟩
      | dic _ _ => rw [q] at h; simp [dataW] at h
      | ins _ _ _ => rw [q] at h; simp [dataW] at h
      | hid => rw [q] at h; simp [dataW] at h
  | _ => exact toD_dp _ v h r
def rC (Γ : Gm) (o : COp) : R2 := fun v u H Q => ∃ x y S QW, rep Γ S H x v ∧ rep Γ S H y u ∧ SR Γ S H ∧ wCmp o x y S QW ∧ KQ Γ S H QW Q
theorem eqC (hK : X.K = Γ.K) (hu : X.A.units + 64 < cLine) {pins : List (Addr × Obj)} {s : Shared} {σ : L2.St} {x y : V} {v u : Value} (I : Inv X pins σ H s) (rx : RelV x v) (ry : RelV y u)
    {a b : W} (ra : rep Γ S H a x) (rb : rep Γ S H b y) (hs : SR Γ S H) (k : KQ Γ S H QW Q) :
    (wEq false a b S QW → wpAny (model X.prog X.w) X.A (compareOp .Eq v u) (EP X pins σ Q) X.xe s) ∧ (wEq true a b S QW → wpAny (model X.prog X.w) X.A (compareOp .NotEq v u) (EP X pins σ Q) X.xe s) := by
  refine ⟨fun h => ?_, fun h => ?_⟩ <;>
  · obtain ⟨d1, d2, dp, q⟩ := h
    obtain ⟨h1, c1⟩ := deref_dp d1 ra hs
    obtain ⟨h2, c2⟩ := deref_dp d2 rb hs
    rw [← hK] at h1 h2
    obtain ⟨as, r1⟩ := Dp.reads I _ x v h1 rx
    obtain ⟨bs, r2⟩ := Dp.reads I _ y u h2 ry
    have q' := k.here hs (w := .bl _) rfl q
    have room : X.A.units + min (toD (deref S a)).depth (toD (deref S b)).depth < cLine := by rw [toD_dep, toD_dep]; omega
    first
      | (refine SeqAt.compareEq_reads r1 r2 c1 c2 room ?_
         rw [toD_eqv _ _ d1 d2]
         exact ⟨.bl _, H, I, rfl, by simpa using q'⟩)
      | (refine SeqAt.compareNe_reads r1 r2 c1 c2 room ?_
         rw [toD_eqv _ _ d1 d2]
         exact ⟨.bl _, H, I, rfl, by simpa using q'⟩)
theorem flat_rep {x : W} {v : V} (f : flatW x = true) (r : rep Γ S H x v) : flatV v = true := by
  cases x with
  | non => cases r; rfl
  | bl _ => cases r; rfl
  | int _ => cases r; rfl
  | str _ => obtain ⟨rfl, _⟩ := r; rfl
  | _ => simp [flatW] at f
theorem eqv_rep {x y : W} {v u : V} (f : flatW x = true) (g : flatW y = true) (r : rep Γ S H x v) (q : rep Γ S H y u) : eqV v u = eqv x y := by
  cases x with
  | non => cases r; cases y <;> first | (cases q; rfl) | (obtain ⟨rfl, _⟩ := q; rfl) | (simp [flatW] at g)
  | bl _ => cases r; cases y <;> first | (cases q; rfl) | (obtain ⟨rfl, _⟩ := q; rfl) | (simp [flatW] at g)
  | int _ => cases r; cases y <;> first | (cases q; rfl) | (obtain ⟨rfl, _⟩ := q; rfl) | (simp [flatW] at g)
  | str _ =>
    obtain ⟨rfl, _⟩ := r
    cases y with
    | str _ => obtain ⟨rfl, _⟩ := q; exact str_eq
    | non => cases q; rfl
    | bl _ => cases q; rfl
    | int _ => cases q; rfl
    | _ => simp [flatW] at g
  | _ => simp [flatW] at f
theorem all_flat : ∀ {ws : List W} {vs : List V}, reps Γ S H ws vs → ws.all flatW = true → vs.all flatV = true
  | [], _, h, _ => by cases h; rfl
  | w :: ws, _, ⟨v, r, rfl, q, t⟩, h => by
    simp only [List.all_cons, Bool.and_eq_true] at h ⊢
    exact ⟨flat_rep h.1 q, all_flat t h.2⟩
theorem in_rep {x : W} {v : V} (f : flatW x = true) (r : rep Γ S H x v) : ∀ {ws : List W} {vs : List V}, reps Γ S H ws vs → ws.all flatW = true → inV v vs = inW x ws
  | [], _, h, _ => by cases h; rfl
  | w :: ws, _, ⟨u, t, rfl, q, rr⟩, h => by
    simp only [List.all_cons, Bool.and_eq_true] at h
    have ih := in_rep f r rr h.2
    unfold inV inW at ih ⊢
    rw [List.any_cons, List.any_cons, ih, eqv_rep h.1 f q r]
theorem deref_flat {x : W} (f : flatW x = true) : deref S x = x := by cases x <;> first | rfl | (simp [flatW] at f)
theorem in_toDs {x : W} (hx : dataW x = true) : ∀ {ws : List W}, dataWs ws = true → ((toDs ws).any fun y => PyData.eqv y (toD x)) = inW x ws
  | [], _ => rfl
  | w :: ws, h => by
    simp only [dataWs, Bool.and_eq_true] at h
    have ih := in_toDs hx h.2
    unfold inW at ih ⊢
    show (PyData.eqv (toD w) (toD x) || (toDs ws).any fun y => PyData.eqv y (toD x)) = _
    rw [List.any_cons, ih, toD_eqv _ _ h.1 hx]
theorem inC (hK : X.K = Γ.K) (hu : X.A.units + 64 < cLine) {pins : List (Addr × Obj)} {s : Shared} {σ : L2.St} {x y : V} {v u : Value} (I : Inv X pins σ H s) (rx : RelV x v) (ry : RelV y u)
    {a b : W} (ra : rep Γ S H a x) (rb : rep Γ S H b y) (hs : SR Γ S H) (k : KQ Γ S H QW Q) :
    (wIn false a b S QW → wpAny (model X.prog X.w) X.A (compareOp .In v u) (EP X pins σ Q) X.xe s) ∧ (wIn true a b S QW → wpAny (model X.prog X.w) X.A (compareOp .NotIn v u) (EP X pins σ Q) X.xe s) := by
  have u1 : X.A.units + 1 < cLine := by omega
  cases hd : dicOf S b with
  | some p =>
    cases hk : kyOf a with
    | none => refine ⟨fun h => ?_, fun h => ?_⟩ <;> (unfold wIn at h; rw [hd, hk] at h; exact h.elim)
    | some kk =>
      obtain ⟨t, o, rfl, g, g1, g2⟩ := dic_get hd hk rb ra hs
      have eo : o.isSome = (lookD p.1 p.2 kk).isSome := by
        cases e : lookD p.1 p.2 kk with
        | none => rw [g2 e]; rfl
        | some w => obtain ⟨v, rfl, _⟩ := g1 w e; rfl
      refine ⟨fun h => ?_, fun h => ?_⟩
      · unfold wIn at h
        rw [hd, hk] at h
        exact op_dkIn u1 pins s σ H _ _ v u Q I rx ry ⟨t, o, rfl, g, by rw [eo]; exact k.here hs (w := .bl _) rfl h⟩
      · unfold wIn at h
        rw [hd, hk] at h
        exact op_dkNin u1 pins s σ H _ _ v u Q I rx ry ⟨t, o, rfl, g, by rw [eo]; exact k.here hs (w := .bl _) rfl h⟩
  | none =>
    refine ⟨fun h => ?_, fun h => ?_⟩
    all_goals
      unfold wIn at h
      rw [hd] at h
      simp only at h
      split at h
    · rename_i c z
      obtain ⟨rfl, _⟩ := ra
      obtain ⟨rfl, _⟩ := rb
      have q' := k.here hs (w := .bl _) rfl h
      refine op_in_sign pins s σ H _ _ v u Q I rx ry ⟨c, ⟨z.toArray⟩, rfl, rfl, ?_⟩
      simpa using q'
    · split at h
      · rename_i ws e
        obtain ⟨ok, q⟩ := h
        have q' := k.here hs (w := .bl _) rfl q
        unfold inOk at ok
        rw [Bool.or_eq_true] at ok
        rcases ok with ok | ok
        · rw [Bool.and_eq_true] at ok
          obtain ⟨f1, f2⟩ := ok
          obtain ⟨p, vs, rfl, hq, rr⟩ := seq_rep e rb hs
          rw [deref_flat f1] at q'
          refine op_in_seq pins s σ H _ _ v u Q I rx ry ⟨p, vs, rfl, hK ▸ hq, flat_rep f1 ra, all_flat rr f2, ?_⟩
          rw [in_rep f1 ra rr f2]
          simpa using q'
        · simp only [Bool.and_eq_true, decide_eq_true_eq] at ok
          obtain ⟨d1, d2, dp⟩ := ok
          obtain ⟨h1, c1⟩ := deref_dp d1 ra hs
          have room : X.A.units + 1 + min (PyData.depthAll (toDs ws)) (toD (deref S a)).depth < cLine := by rw [toD_dep, toDs_dep]; omega
          have go : ∀ z : W, deref S b = z → dataW z = true → (toD z = .list (toDs ws) ∨ toD z = .tuple (toDs ws)) → PyData.canLayAll0 (toDs ws) = (toD z).canLay0 → wpAny (model X.prog X.w) X.A (compareOp .In v u) (EP X pins σ Q) X.xe s := fun z ez dz tz cz => by
            obtain ⟨h2, c2⟩ := deref_dp (x := b) (by rw [ez]; exact dz) rb hs
            rw [ez] at h2 c2
            rw [← hK] at h1 h2
            obtain ⟨as, r1⟩ := Dp.reads I _ x v h1 rx
            obtain ⟨bs, r2⟩ := Dp.reads I _ y u h2 ry
            rcases tz with tz | tz
            · rw [tz] at r2
              refine SeqAt.in_list_reads r2 r1 (cz.trans c2) c1 room ?_
              rw [in_toDs d1 d2]
              exact ⟨.bl _, H, I, rfl, by simpa using q'⟩
            · rw [tz] at r2
              refine SeqAt.in_tuple_reads r2 r1 (cz.trans c2) c1 room ?_
              rw [in_toDs d1 d2]
              exact ⟨.bl _, H, I, rfl, by simpa using q'⟩
          unfold seqOf at e
          split at e
          · rename_i us ez; cases e; exact go _ ez d2 (.inr rfl) rfl
          · rename_i us ez; cases e; exact go _ ez d2 (.inl rfl) rfl
          · rename_i us ez; cases e; exact go _ ez d2 (.inl rfl) rfl
          · cases e
      · exact h.elim
    · rename_i c z
      obtain ⟨rfl, _⟩ := ra
      obtain ⟨rfl, _⟩ := rb
      have q' := k.here hs (w := .bl _) rfl h
      refine op_notIn_sign pins s σ H _ _ v u Q I rx ry ⟨c, ⟨z.toArray⟩, rfl, rfl, ?_⟩
      simpa using q'
    · split at h
      · rename_i ws e
        obtain ⟨ok, q⟩ := h
        have q' := k.here hs (w := .bl _) rfl q
        unfold inOk at ok
        rw [Bool.or_eq_true] at ok
        rcases ok with ok | ok
        · rw [Bool.and_eq_true] at ok
          obtain ⟨f1, f2⟩ := ok
          obtain ⟨p, vs, rfl, hq, rr⟩ := seq_rep e rb hs
          rw [deref_flat f1] at q'
          refine op_notIn_seq pins s σ H _ _ v u Q I rx ry ⟨p, vs, rfl, hK ▸ hq, flat_rep f1 ra, all_flat rr f2, ?_⟩
          rw [in_rep f1 ra rr f2]
          simpa using q'
        · simp only [Bool.and_eq_true, decide_eq_true_eq] at ok
          obtain ⟨d1, d2, dp⟩ := ok
          obtain ⟨h1, c1⟩ := deref_dp d1 ra hs
          have room : X.A.units + 1 + min (PyData.depthAll (toDs ws)) (toD (deref S a)).depth < cLine := by rw [toD_dep, toDs_dep]; omega
          have go : ∀ z : W, deref S b = z → dataW z = true → (toD z = .list (toDs ws) ∨ toD z = .tuple (toDs ws)) → PyData.canLayAll0 (toDs ws) = (toD z).canLay0 → wpAny (model X.prog X.w) X.A (compareOp .NotIn v u) (EP X pins σ Q) X.xe s := fun z ez dz tz cz => by
            obtain ⟨h2, c2⟩ := deref_dp (x := b) (by rw [ez]; exact dz) rb hs
            rw [ez] at h2 c2
            rw [← hK] at h1 h2
            obtain ⟨as, r1⟩ := Dp.reads I _ x v h1 rx
            obtain ⟨bs, r2⟩ := Dp.reads I _ y u h2 ry
            rcases tz with tz | tz
            · rw [tz] at r2
              refine SeqAt.notIn_list_reads r2 r1 (cz.trans c2) c1 room ?_
              rw [in_toDs d1 d2]
              exact ⟨.bl _, H, I, rfl, by simpa using q'⟩
            · rw [tz] at r2
              refine SeqAt.notIn_tuple_reads r2 r1 (cz.trans c2) c1 room ?_
              rw [in_toDs d1 d2]
              exact ⟨.bl _, H, I, rfl, by simpa using q'⟩
          unfold seqOf at e
          split at e
          · rename_i us ez; cases e; exact go _ ez d2 (.inr rfl) rfl
          · rename_i us ez; cases e; exact go _ ez d2 (.inl rfl) rfl
          · rename_i us ez; cases e; exact go _ ez d2 (.inl rfl) rfl
          · cases e
      · exact h.elim
theorem op_C (hK : X.K = Γ.K) (hu : X.A.units + 64 < cLine) (o : COp) : OpR X (compareOp (copOf o)) (rC Γ o) := by
  intro pins s σ H x y v u Q I rx ry h
  obtain ⟨a, b, S, QW, ra, rb, hs, h, k⟩ := h
  cases o with
  | eq => exact (eqC hK hu I rx ry ra rb hs k).1 h
  | ne => exact (eqC hK hu I rx ry ra rb hs k).2 h
  | lt => exact opI0_of op_lt I rx ry ra rb hs k (g' := fun i j => .bl (decide (i < j))) (fun _ _ => rfl) h
  | le => exact opI0_of op_le I rx ry ra rb hs k (g' := fun i j => .bl (decide (i ≤ j))) (fun _ _ => rfl) h
  | gt => exact opI0_of op_gt I rx ry ra rb hs k (g' := fun i j => .bl (decide (j < i))) (fun _ _ => rfl) h
  | ge => exact opI0_of op_ge I rx ry ra rb hs k (g' := fun i j => .bl (decide (j ≤ i))) (fun _ _ => rfl) h
  | isin => exact (inC hK hu I rx ry ra rb hs k).1 h
  | notin => exact (inC hK hu I rx ry ra rb hs k).2 h
end
end Bw

/-! Ev4: list(reversed(list)), max(list, default=d) at the library's level; then built-ins, subscripts, methods by HandS's rules. -/
namespace Bw
open PySem L2 PySem.Spec PyProof.Rows RT
section
variable {prog : Program} {w : World} {A : Around} {E : Value → Shared → Prop} {s : Shared}
theorem extend_rev {it l : Addr} {items : Array Value} {R : Result → Shared → Prop} (hh : A.handled = none) (hit : s.heap.IsRevIter it l ((items.size : Int) - 1)) (hl : s.heap.IsList l items) (hne : l ≠ it) (hn : items.size ≤ sizeLine)
    (S : Addr) (res : Value) (c₀ : Nat) (hSi : S ≠ it) (hSl : S ≠ l) (hS : s.heap.get? S = some { cls := .type "list", data := .seq #[] c₀ })
    (hR : ∀ h' tk acc' c', (∀ b o, b ≠ it → b ≠ S → s.heap.get? b = some o → h'.get? b = some o) → h'.get? S = some { cls := .type "list", dict := none, data := .seq acc' c', slots := #[] } →
      ItemsOf (fun i v => items[items.size - 1 - i]? = some v) acc' items.size → R (.ok (.ret res)) { s with heap := h', toks := tk }) :
    wpAny (model prog w) A.in1 (Builtin.List.listExtendWith (.ref S) (.ref it) res)
      (fun fin s' => match fin with | .done f => R (.ok f) s' | .again c' => c'.quiet = true ∧ codeAny (model prog w) A c' R s') (fun e s' => R (.error e) s') s := by
  have W := (Walks.listRev (prog := prog) (w := w) (A := A.in1) hh it l hne items).toS
  have hSf : S ∉ [it, l] := by simp only [List.mem_cons, List.not_mem_nil, or_false, not_or]; exact ⟨hSi, hSl⟩
  have hT : s.TypeIs (.ref it) "list_reverseiterator" := hit.typeIs
  have h1 : Builtin.List.listSameRef (.ref S) (.ref it) = false := by simp [Builtin.List.listSameRef, hSi]
  unfold Builtin.List.listExtendWith
  refine wpAny_bind (wpAny_typeOf hT ?_)
  rw [if_neg (by rw [h1]; decide)]
  refine wpAny_bind (wpAny_pyIter_revIter hit ?_)
  refine wpAny_bind (wpAny_holding ?_)
  unfold Builtin.List.listLengthHint
  refine wpAny_bind (wpAny_specialOf hT nolen_lri ?_)
  show wpAny _ A.in1 (specialOf (Value.ref it) (Str.ofString "__length_hint__") >>= _) _ _ _
  refine wpAny_bind (wpAny_specialOf hT hint_lri ?_)
  generalize hid : ("list_reverseiterator.__length_hint__" : String) = id0
  wp_delta
  rw [show splitId id0 = some ("list_reverseiterator", "__length_hint__") from by subst hid; decide +kernel]
  subst hid
  refine wpAny_bind (wpAny_isInstance (b := true) hT (by rw [isSubtype_type]; kernel_rfl) ?_)
  refine wpAny_pure ?_
  rw [if_neg (by decide)]
  have e0 : ((items.size : Nat) : Int) - 1 - ((0 : Nat) : Int) = (items.size : Int) - 1 := by omega
  refine wpAny_pure ⟨plainId_quiet F.plain_extend_loop _, codeAny_extend_loopS W hn _ hSf _ items.size 0 _ _ _ rfl (Nat.zero_le _) ⟨Nat.zero_le _, by rw [e0]; exact hit, hl⟩ hS (ItemsOf.nil _) fun s' acc' c' hm hS' hacc => ?_⟩
  rw [Moved.eq_with hm]
  refine hR s'.heap s'.toks acc' c' (fun b o hb hb2 e => hm.heap b o (fun hmem => ?_) e) hS' hacc
  rcases List.mem_cons.mp hmem with e' | hmem
  · exact hb2 e'
  · exact hb (List.mem_singleton.mp hmem)
theorem call_list_rev {it l : Addr} {items : Array Value} {Q : Value → Shared → Prop} (hh : A.handled = none) (hit : s.heap.IsRevIter it l ((items.size : Int) - 1)) (hl : s.heap.IsList l items) (hne : l ≠ it) (hn : items.size ≤ sizeLine)
    (hQ : ∀ (h' : Heap) (tk : Nat) (acc : Array Value) (c : Nat), (∀ b o, b ≠ it → s.heap.get? b = some o → h'.get? b = some o) → h'.get? s.heap.objs.size = some { cls := .type "list", dict := none, data := .seq acc c, slots := #[] } →
      ItemsOf (fun i v => items[items.size - 1 - i]? = some v) acc items.size → Q (.ref s.heap.objs.size) { s with heap := h', toks := tk }) :
    wpAny (model prog w) A (call (.type "list") [.ref it]) Q E s := by
  obtain ⟨oi, hoi, _⟩ := id hit
  obtain ⟨ol, hol, _⟩ := id hl
  have hSi : s.heap.objs.size ≠ it := Nat.ne_of_gt (Heap.lt_size hoi)
  have hSl : s.heap.objs.size ≠ l := Nat.ne_of_gt (Heap.lt_size hol)
  refine callType_codes (Q₁ := fun obj s₁ => obj = .ref s.heap.objs.size ∧ s₁ = { s with heap := s.heap.push { cls := .type "list", data := .seq #[] } }) F.called_list (F.typeCall_list_1 _) F.entry_list_init
    (code_list_new _ ⟨rfl, rfl⟩) fun obj s₁ h₁ => ?_
  obtain ⟨rfl, rfl⟩ := h₁
  have hS : (s.heap.push { cls := .type "list", data := .seq #[] }).get? s.heap.objs.size = some { cls := .type "list", data := .seq #[] } := Heap.get?_push_size _ rfl
  refine ⟨⟨_, hS, rfl⟩, F.args_list_init_2 _ _, ?_⟩
  show wpAny _ _ (do let old ← Builtin.List.listItems (.ref s.heap.objs.size); Builtin.List.listUpdate (.ref s.heap.objs.size) (fun _ => #[]); letGo old.toList.reverse; Builtin.List.listExtendWith (.ref s.heap.objs.size) (.ref it) .none) _ _ _
  refine wpAny_bind ?_
  unfold Builtin.List.listItems
  refine wpAny_bind (wpAny_seqItems hS rfl (wpAny_pure ?_))
  show wpAny _ _ (updateSeq s.heap.objs.size (fun _ => #[]) >>= fun _ => letGo (#[] : Array Value).toList.reverse >>= fun _ => Builtin.List.listExtendWith (.ref s.heap.objs.size) (.ref it) .none) _ _ _
  refine wpAny_bind (wpAny_updateSeq hS rfl ?_)
  have hS₂ := Heap.get?_update_self (Obj.mapSeq (fun _ => (#[] : Array Value))) hS rfl
  have oth : ∀ b o, b ≠ s.heap.objs.size → s.heap.get? b = some o → ((s.heap.push { cls := .type "list", data := .seq #[] }).update s.heap.objs.size (Obj.mapSeq (fun _ => (#[] : Array Value)))).get? b = some o :=
    fun b o hb e => (Heap.get?_update_other _ _ (Ne.symm hb)).trans (Heap.get?_push_of_some _ e)
  refine wpAny_bind (wpAny_letGo ?_)
  have hit2 : ((s.heap.push { cls := .type "list", data := .seq #[] }).update s.heap.objs.size (Obj.mapSeq (fun _ => (#[] : Array Value)))).IsRevIter it l ((items.size : Int) - 1) := hit.at fun o e => oth it o (Ne.symm hSi) e
  have hl2 : ((s.heap.push { cls := .type "list", data := .seq #[] }).update s.heap.objs.size (Obj.mapSeq (fun _ => (#[] : Array Value)))).IsList l items := by
    obtain ⟨o, ho, hc⟩ := hl
    exact ⟨o, oth l o (Ne.symm hSl) ho, hc⟩
  refine extend_rev (A := A.in1) (s := { s with heap := (s.heap.push { cls := .type "list", data := .seq #[] }).update s.heap.objs.size (Obj.mapSeq (fun _ => (#[] : Array Value))) }) hh hit2 hl2 hne hn s.heap.objs.size .none _ hSi hSl hS₂ fun h' tk acc' c' hk hS' hacc => ?_
  exact ⟨rfl, hQ h' tk acc' c' (fun b o hb e => hk b o hb (Nat.ne_of_lt (Heap.lt_size e)) (oth b o (Nat.ne_of_lt (Heap.lt_size e)) e)) hS' hacc⟩
end
section
variable {X : Cx}
/-- list(reversed(x)), x a list: a new list -/
def tLstRev (K : PySem.W.Frag) (te : TE) : TE := fun σ H Q => te σ H fun v H1 => ∃ (a : Addr) (xs : List V), v = .ref a ∧ SqL K H1 a xs ∧ ∀ q, H1 q = none → Q (.ref q) (upd H1 q (.lst xs.reverse))
theorem pe_lstRev {e : Expr} {te : TE} {p p2 pos pos2 : Pos} (hc : X.calm = true) (hg : Gl X "list") (hm : X.mg "list" = none) (hg2 : Gl X "reversed") (hm2 : X.mg "reversed" = none) (he : PE X e te)
    (hs : starEach [e] X.env = (false, eval e X.env) :: starEach [] X.env)
    (hs2 : starEach [.Call (.Name "reversed" p2) [e] [] pos2] X.env = (false, eval (.Call (.Name "reversed" p2) [e] [] pos2) X.env) :: starEach [] X.env := by rfl) :
    PE X (.Call (.Name "list" p) [.Call (.Name "reversed" p2) [e] [] pos2] [] pos) (tLstRev X.K te) := by
  refine ⟨fun pins s σ H Q I h => ?_⟩
  refine Call_ (ld_blt I hg hm boot_list (PyProof.Rows.callWith_type1 (args_cons (Call_ (ld_blt I hg2 hm2 PyProof.Rows.boot_reversed (PyProof.Rows.callWith_type1 (args_cons (thn (he.run pins s σ H _ I h) fun u s1 ⟨v, H1, I1, r1, q1⟩ => args_nil ?_) hs) hs rfl))) hs2) hs2 rfl))
  obtain ⟨a, xs, ev, hq, q⟩ := q1
  subst ev
  obtain rfl : u = Value.ref a := r1
  obtain ⟨its, rv, p', hz⟩ := I1.list hq
  refine call_reversed_list p'.isList (args_nil ?_)
  have k0 : ∀ b o, s1.heap.get? b = some o → (s1.heap.push (revObj a ((its.toArray.size : Int) - 1))).get? b = some o := fun b o e => Heap.get?_push_of_some _ e
  have I2 : Inv X pins σ H1 { s1 with heap := s1.heap.push (revObj a ((its.toArray.size : Int) - 1)) } := I1.kept (t' := s1.toks) k0
  obtain ⟨f0, f1, f2, f3, f4, f5⟩ := I1.fpOk (H' := H1) (b := s1.heap.objs.size) (Nat.le_refl _) (I1.hok.fresh (Nat.le_refl _))
  have hl := p'.isList
  obtain ⟨ol, hol, _⟩ := id hl
  have hne : a ≠ s1.heap.objs.size := Nat.ne_of_lt (Heap.lt_size hol)
  have hn : its.toArray.size ≤ sizeLine := by rw [List.size_toArray, ← rv.length]; exact hz
  refine call_list_rev (s := { s1 with heap := s1.heap.push (revObj a ((its.toArray.size : Int) - 1)) }) (I1.ok.hd hc) ⟨_, Heap.get?_push_size _ rfl, rfl, rfl⟩ (hl.push _) hne hn fun h' tk acc c hk hS hi => ?_
  generalize hD : (s1.heap.push (revObj a ((its.toArray.size : Int) - 1))).objs.size = D at hS ⊢
  have hfr : H1 D = none := by rw [← hD]; exact I2.hok.fresh (Nat.le_refl _)
  have I3 : Inv X pins σ H1 { s1 with heap := h', toks := tk } := I2.turned (t' := tk) (fun b o hb e => hk b o hb e) f0 f1 f3 f4 f5
  refine ⟨.ref D, upd H1 D (.lst xs.reverse), ?_, rfl, q _ hfr⟩
  have hx : ObjOk X.prog X.w (upd H1 D (.lst xs.reverse)) h' D (.lst xs.reverse) := ⟨by rw [List.length_reverse]; exact hz, acc.toList, c, vals_rev rv hi, by rw [Array.toArray_toList]; exact hS⟩
  have nD : D ≠ s1.heap.objs.size := by rw [← hD, Heap.size_push]; exact Nat.ne_of_gt (Nat.lt_succ_self _)
  have bD : ∀ b o, (s1.heap.push (revObj a ((its.toArray.size : Int) - 1))).get? b = some o → b ≠ D := fun b o e z => by subst z; rw [← hD] at e; exact absurd (Heap.lt_size e) (Nat.lt_irrefl _)
  refine I2.step (H' := upd H1 D (.lst xs.reverse)) (g' := s1.gens) (d' := s1.drawn) (t' := tk) (ch := [s1.heap.objs.size]) (fun b hb => ?_) (fun b o _ _ hc e _ => hk b o (fun z => hc (by simp [z])) e) (fun b o _ _ hc e _ => ⟨o.slots, hk b o (fun z => hc (by simp [z])) e⟩)
    (fun b o _ e n => by rw [upd_ne (bD b o e)]; exact n) (fun b o hc e => ⟨o, hk b o (fun z => hc (by simp [z])) e⟩) (fun b ys e => ?_) (fun b o u e => ?_) (fun b ps e => ⟨#[], ?_⟩) (fun m hm => ?_) (fun b u e => ?_) I2.bare
  · have e : b = s1.heap.objs.size := by simpa using hb
    subst e
    exact ⟨f3, f1, f4, f5⟩
  · rw [upd_ne (ne_of_none e hfr)]; exact e
  · rw [upd_ne (ne_of_none e hfr)]; exact e
  · rw [upd_ne (ne_of_none e hfr)]; rw [e]; simp
  · obtain ⟨o, es, ep, ho, r⟩ := hm
    exact ⟨o, es, ep, hk _ o (Ne.symm f1) ho, r⟩
  · by_cases hb : b = D
    · subst hb
      rw [upd_same] at e
      cases e
      exact hx
    · rw [upd_ne hb] at e
      have nit : ∀ c v, H1 c = some v → c ≠ s1.heap.objs.size := fun c v e z => by rw [z, f0] at e; cases e
      refine (I2.hok b u e).stay (fun c v hc q => hk c v ?_ q) (fun c q => by rw [upd_ne (ne_of_none q hfr)]; exact q) fun c ys q => by rw [upd_ne (ne_of_none q hfr)]; exact q
      rcases hc with z | z
      · rw [z]; exact nit b u e
      · exact nit c _ z
end
end Bw

/-! Ev5: built-ins, subscripts, methods by HandS's rules. -/
namespace Bw
open PySem L2 PySem.Spec PyProof.Rows
section
variable {X : Cx} {Γ : Gm} {S : Sto} {H : Hp} {QW : VQ} {Q : VK}

theorem reps.l1 {x : W} {vs : List V} (h : reps Γ S H [x] vs) : ∃ v, vs = [v] ∧ rep Γ S H x v := by
  obtain ⟨v, r, rfl, q, t⟩ := h
  cases t
  exact ⟨v, rfl, q⟩
theorem reps.l2 {x y : W} {vs : List V} (h : reps Γ S H [x, y] vs) : ∃ v u, vs = [v, u] ∧ rep Γ S H x v ∧ rep Γ S H y u := by
  obtain ⟨v, r, rfl, q, t⟩ := h
  obtain ⟨u, rfl, q2⟩ := reps.l1 t
  exact ⟨v, u, rfl, q, q2⟩
theorem ints_rep : ∀ {ws : List W} {vs : List V} {ns : List Int}, intsOf ws = some ns → reps Γ S H ws vs → vs = ns.map V.int
  | [], _, _, e, h => by cases e; cases h; rfl
  | w :: ws, _, ns, e, ⟨v, r, rfl, q, t⟩ => by
    cases w with
    | int i =>
      simp only [intsOf] at e
      cases hq : intsOf ws with
      | none => rw [hq] at e; cases e
      | some ms =>
        rw [hq] at e
        cases e
        cases q
        rw [ints_rep hq t]
        rfl
    | _ => simp [intsOf] at e
theorem bls_rep : ∀ {ws : List W} {vs : List V} {bs : List Bool}, blsOf ws = some bs → reps Γ S H ws vs → vs = bs.map V.bl
  | [], _, _, e, h => by cases e; cases h; rfl
  | w :: ws, _, bs, e, ⟨v, r, rfl, q, t⟩ => by
    cases w with
    | bl i =>
      simp only [blsOf] at e
      cases hq : blsOf ws with
      | none => rw [hq] at e; cases e
      | some ms =>
        rw [hq] at e
        cases e
        cases q
        rw [bls_rep hq t]
        rfl
    | _ => simp [blsOf] at e
theorem lstInts {x : W} {v : V} {ns : List Int} (h : (lstOf S x).bind intsOf = some ns) (r : rep Γ S H x v) (s : SR Γ S H) : ∃ p, v = .ref p ∧ H p = some (.lst (ns.map V.int)) := by
  cases q : lstOf S x with
  | none => rw [q] at h; cases h
  | some ws =>
    rw [q] at h
    obtain ⟨p, vs, rfl, h1, h2⟩ := lst_rep q r s
    rw [ints_rep h h2] at h1
    exact ⟨p, rfl, h1⟩
theorem lstBls {x : W} {v : V} {bs : List Bool} (h : (lstOf S x).bind blsOf = some bs) (r : rep Γ S H x v) (s : SR Γ S H) : ∃ p, v = .ref p ∧ H p = some (.lst (bs.map V.bl)) := by
  cases q : lstOf S x with
  | none => rw [q] at h; cases h
  | some ws =>
    rw [q] at h
    obtain ⟨p, vs, rfl, h1, h2⟩ := lst_rep q r s
    rw [bls_rep h h2] at h1
    exact ⟨p, rfl, h1⟩
theorem maxL_mem : ∀ (ns : List Int), 0 < ns.length → maxL ns ∈ ns ∧ ∀ y ∈ ns, y ≤ maxL ns
  | [], h => by simp at h
  | [i], _ => by simp [maxL]
  | i :: j :: r, _ => by
    obtain ⟨h1, h2⟩ := maxL_mem (j :: r) (by simp)
    have e : maxL (i :: j :: r) = max i (maxL (j :: r)) := rfl
    rw [e]
    refine ⟨?_, fun y hy => ?_⟩
    · by_cases hc : i ≤ maxL (j :: r)
      · rw [Int.max_eq_right hc]; exact List.mem_cons_of_mem _ h1
      · rw [Int.max_eq_left (by omega)]; exact List.mem_cons_self
    · rcases List.mem_cons.mp hy with rfl | hy
      · exact Int.le_max_left _ _
      · exact Int.le_trans (h2 y hy) (Int.le_max_right _ _)
theorem minL_mem : ∀ (ns : List Int), 0 < ns.length → minL ns ∈ ns ∧ ∀ y ∈ ns, minL ns ≤ y
  | [], h => by simp at h
  | [i], _ => by simp [minL]
  | i :: j :: r, _ => by
    obtain ⟨h1, h2⟩ := minL_mem (j :: r) (by simp)
    have e : minL (i :: j :: r) = min i (minL (j :: r)) := rfl
    rw [e]
    refine ⟨?_, fun y hy => ?_⟩
    · by_cases hc : i ≤ minL (j :: r)
      · rw [Int.min_eq_left hc]; exact List.mem_cons_self
      · rw [Int.min_eq_right (by omega)]; exact List.mem_cons_of_mem _ h1
    · rcases List.mem_cons.mp hy with rfl | hy
      · exact Int.min_le_left _ _
      · exact Int.le_trans (Int.min_le_right _ _) (h2 y hy)
theorem maxL_uniq {ns : List Int} {m : Int} (h1 : m ∈ ns) (h2 : ∀ y ∈ ns, y ≤ m) : m = maxL ns := by
  have hp : 0 < ns.length := List.length_pos_of_mem h1
  obtain ⟨q1, q2⟩ := maxL_mem ns hp
  have a := q2 m h1
  have b := h2 _ q1
  omega
theorem minL_uniq {ns : List Int} {m : Int} (h1 : m ∈ ns) (h2 : ∀ y ∈ ns, m ≤ y) : m = minL ns := by
  have hp : 0 < ns.length := List.length_pos_of_mem h1
  obtain ⟨q1, q2⟩ := minL_mem ns hp
  have a := q2 m h1
  have b := h2 _ q1
  omega

theorem w1_el {ws : List W} {P : W → Prop} (h : w1 ws P) : ∃ x, ws = [x] ∧ P x := by
  unfold w1 at h
  split at h
  · exact ⟨_, rfl, h⟩
  · exact h.elim
theorem wSome_el {α : Type} {o : Option α} {P : α → Prop} (h : wSome o P) : ∃ x, o = some x ∧ P x := by
  unfold wSome at h
  split at h
  · exact ⟨_, rfl, h⟩
  · exact h.elim
theorem wB_el {x : W} {t f : Prop} (h : wB x t f) : (x = .bl true ∧ t) ∨ (x = .bl false ∧ f) := by
  unfold wB at h
  split at h
  · exact .inl ⟨rfl, h⟩
  · exact .inr ⟨rfl, h⟩
  · exact h.elim
theorem wNot_el {x : W} {P : Bool → Prop} (h : wNot x P) : ∃ b, x = .bl b ∧ P (!b) := by
  unfold wNot at h
  split at h
  · exact ⟨_, rfl, h⟩
  · exact h.elim
theorem wWalk_el {o : Option (List W × Lk)} {P : List W → Lk → Prop} (h : wWalk o P) : ∃ p, o = some p ∧ P p.1 p.2 := by
  unfold wWalk at h
  split at h
  · exact ⟨_, rfl, h⟩
  · exact h.elim
theorem wVar_el {o : Option (Option W)} {P : W → Prop} (h : wVar o P) : ∃ w, o = some (some w) ∧ P w := by
  unfold wVar at h
  split at h
  · exact ⟨_, rfl, h⟩
  · exact h.elim
theorem wI1_el {x : W} {P : Int → Prop} (h : wI1 x P) : ∃ i, x = .int i ∧ P i := by
  unfold wI1 at h
  split at h
  · exact ⟨_, rfl, h⟩
  · exact h.elim
theorem wInts3_el {ws : List W} {P : Int → Int → Int → Prop} (h : wInts3 ws P) : ∃ i j k, ws = [.int i, .int j, .int k] ∧ P i j k := by
  unfold wInts3 at h
  split at h
  · exact ⟨_, _, _, rfl, h⟩
  · exact h.elim
theorem wInts2_el {ws : List W} {P : Int → Int → Prop} (h : wInts2 ws P) : ∃ i j, ws = [.int i, .int j] ∧ P i j := by
  unfold wInts2 at h
  split at h
  · exact ⟨_, _, rfl, h⟩
  · exact h.elim
/-- a list, or the tuple itself -/
theorem seq_rep2 {x : W} {v : V} {ws : List W} (h : seqOf S x = some ws) (r : rep Γ S H x v) (s : SR Γ S H) :
    (∃ p vs, v = .ref p ∧ SqL Γ.K H p vs ∧ reps Γ S H ws vs) ∨ (x = .tup ws ∧ ∃ p vs, v = .ref p ∧ SqT Γ.K H p vs ∧ reps Γ S H ws vs) := by
  unfold seqOf at h
  cases x with
  | tup ws' =>
    simp only [deref] at h
    cases h
    obtain ⟨a, vs, e, q, t⟩ := r
    exact .inr ⟨rfl, a, vs, e, q.sq, t⟩
  | sc ws' =>
    simp only [deref] at h
    cases h
    obtain ⟨a, vs, e, q, t⟩ := r
    exact .inl ⟨a, vs, e, q.sq, t⟩
  | rl ws' =>
    simp only [deref] at h
    cases h
    obtain ⟨a, vs, e, q, t⟩ := r
    exact .inl ⟨a, vs, e, q.sq, t⟩
  | ref a =>
    rw [deref_ref] at h
    cases q : S a with
    | none => rw [q] at h; simp at h
    | some o =>
      cases o with
      | lst us =>
        rw [q] at h
        simp at h
        subst h
        obtain ⟨vs, h1, h2⟩ := s a _ q
        exact .inl ⟨a, vs, r, .inl (.inl h1), h2⟩
      | dic _ _ => rw [q] at h; simp at h
      | ins _ _ _ => rw [q] at h; simp at h
      | hid => rw [q] at h; simp at h
  | _ => simp [deref] at h

/-! ### built-in functions -/
theorem str_of (s : String) : Str.ofString s = ⟨(s.toList.map Char.toNat).toArray⟩ := by
  unfold Str.ofString
  rw [cpsOfBytes_string]
theorem okStr_map (l : List Char) : okStr (l.map Char.toNat) = true := by
  unfold okStr
  rw [List.all_eq_true]
  intro n hn
  obtain ⟨c, _, rfl⟩ := List.mem_map.mp hn
  have h := c.valid
  simp only [UInt32.isValidChar, Nat.isValidChar] at h
  have : c.toNat = c.val.toNat := rfl
  simp
  omega
def fnB : Bi → Value
  | .len => .builtin "len"
  | .int1 => .type "int"
  | .str1 => .type "str"
  | .abs => .builtin "abs"
  | .max2 => .builtin "max"
  | .max3 => .builtin "max"
  | .min2 => .builtin "min"
  | .max1 => .builtin "max"
  | .min1 => .builtin "min"
  | .sum1 => .builtin "sum"
  | .all1 => .builtin "all"
  | .any1 => .builtin "any"
  | .tuple1 => .type "tuple"
  | .list1 _ => .type "list"
  | .maxd => .none
  | .listrev _ => .none
  | .lenset => .none
  | .dict1 => .type "dict"
  | .ord1 => .builtin "ord"
def rBi (Γ : Gm) (b : Bi) : List V → Hp → VK → Prop := fun vs H Q => ∃ ws S QW, reps Γ S H ws vs ∧ SR Γ S H ∧ wBi b ws S QW ∧ KQ Γ S H QW Q
theorem wLen_n {x : W} (n : ∀ z, x ≠ .str z) : wLen x S QW = (match dicOf S x with
    | some p => QW (.int p.1.length) S
    | none => wSome (seqOf S x) fun ws => QW (.int ws.length) S) := by
  cases x with
  | str z => exact absurd rfl (n z)
  | _ => rfl
/-- the length of a dict -/
theorem call_len_dic : CallR X (.builtin "len") (fun xs H Q => ∃ (p : Addr) (kvs : List (Key × V)), xs = [.ref p] ∧ H p = some (.dK kvs) ∧ Q (.int kvs.length) H) := by
  intro pins s σ H xs us Q I r h
  obtain ⟨p, kvs, rfl, hd, q⟩ := h
  obtain ⟨u, rfl, rx⟩ := vals1 r
  cases rx
  have hn := line63
  obtain ⟨z, ne, vs, kv, hm⟩ := dk_of I.hok hd
  have hlen := kv.length
  exact call_len_dict ne hm (by omega) ⟨.int kvs.length, H, I.tok _, ⟨s.toks + 1, by rw [hlen]⟩, q⟩
/-- what may be called while an exception is handled -/
def coolB : Bi → Bool
  | .str1 => true
  | .len => true
  | _ => false
theorem call_Bi (hK : X.K = Γ.K) (b : Bi) (hc : coolB b = false → X.calm = true) (hb : fnB b ≠ .none) : CallR X (fnB b) (rBi Γ b) := by
  intro pins s σ H vs us Q I r h
  obtain ⟨ws, S, QW, rr, hs, h, k⟩ := h
  cases b with
  | len =>
    obtain ⟨x, rfl, h⟩ := w1_el h
    obtain ⟨v, rfl, rv⟩ := rr.l1
    replace h : wLen x S QW := h
    have gen : (∀ z, x ≠ .str z) → wpAny (model X.prog X.w) X.A (call (.builtin "len") us) (EP X pins σ Q) X.xe s := fun n => by
      cases ed : dicOf S x with
      | some p =>
        rw [wLen_n n, ed] at h
        have h2 : QW (.int p.1.length) S := h
        obtain ⟨a, vs, rfl, ha, hl, rr⟩ := dic_rep ed rv hs
        refine call_len_dic pins s σ H _ us Q I r ⟨a, _, rfl, ha, ?_⟩
        rw [dkz_len (hl.trans rr.len)]
        exact k.here hs (w := .int _) rfl h2
      | none =>
      rw [wLen_n n, ed] at h
      have h2 : wSome (seqOf S x) fun ws => QW (.int ws.length) S := h
      obtain ⟨ws, e, h⟩ := wSome_el h2
      obtain ⟨p, vs, rfl, hq, rr⟩ := seq_rep e rv hs
      refine call_len_seq pins s σ H _ us Q I r ⟨p, vs, rfl, hK ▸ hq, ?_⟩
      rw [← rr.len]
      exact k.here hs (w := .int _) rfl h
    cases x with
    | str z =>
      obtain ⟨rfl, _⟩ := rv
      refine call_len_str pins s σ H _ us Q I r ⟨⟨z.toArray⟩, rfl, by rw [str_len]; exact h.1, ?_⟩
      rw [str_len]
      exact k.here hs (w := .int _) rfl h.2
    | _ => exact gen (fun z e => by cases e)
  | int1 =>
    obtain ⟨x, rfl, h⟩ := w1_el h
    obtain ⟨v, rfl, rv⟩ := rr.l1
    replace h : wIntOf x S QW := h
    unfold wIntOf at h
    split at h
    · cases rv
      exact call_int1 pins s σ H _ us Q I r (.inl ⟨_, rfl, k.here hs (w := .int _) rfl h⟩)
    · cases rv
      exact call_int1 pins s σ H _ us Q I r (.inr ⟨_, rfl, k.here hs (w := .int _) rfl h⟩)
    · exact h.elim
  | ord1 =>
    obtain ⟨x, rfl, h⟩ := w1_el h
    obtain ⟨v, rfl, rv⟩ := rr.l1
    replace h : wOrd x S QW := h
    cases x with
    | str z =>
      cases z with
      | nil => exact h.elim
      | cons c t =>
        cases t with
        | cons _ _ => exact h.elim
        | nil =>
          obtain ⟨rfl, _⟩ := rv
          exact call_ord pins s σ H _ us Q I r ⟨⟨[c].toArray⟩, rfl, rfl, k.here hs (w := .int _) rfl h⟩
    | _ => exact h.elim
  | str1 =>
    obtain ⟨x, rfl, h⟩ := w1_el h
    obtain ⟨v, rfl, rv⟩ := rr.l1
    obtain ⟨i, rfl, h⟩ := wI1_el h
    cases rv
    refine call_str_int pins s σ H _ us Q I r ⟨_, rfl, h.1, ?_⟩
    refine k.here hs (w := .str _) ⟨?_, okStr_map _⟩ h.2
    exact congrArg V.str (str_of _)
  | abs =>
    obtain ⟨x, rfl, h⟩ := w1_el h
    obtain ⟨v, rfl, rv⟩ := rr.l1
    obtain ⟨i, rfl, h⟩ := wI1_el h
    cases rv
    exact call_abs pins s σ H _ us Q I r ⟨_, rfl, k.here hs (w := .int _) rfl h⟩
  | max2 =>
    obtain ⟨i, j, rfl, h⟩ := wInts2_el h
    obtain ⟨v, u, rfl, rv, ru⟩ := rr.l2
    cases rv
    cases ru
    refine call_max2 (hc rfl) pins s σ H _ us Q I r ⟨_, _, rfl, ?_⟩
    have e : (if j > i then j else i) = max i j := by omega
    rw [e]
    exact k.here hs (w := .int _) rfl h
  | max3 =>
    obtain ⟨i, j, l, rfl, h⟩ := wInts3_el h
    obtain ⟨v, r1, rfl, rv, rr⟩ := rr
    obtain ⟨u, t, rfl, ru, rt⟩ := rr.l2
    cases rv
    cases ru
    cases rt
    refine call_max3Nu (hc rfl) pins s σ H _ us Q I r ⟨_, _, _, .int (max (max i j) l), rfl, ?_, k.here hs (w := .int _) rfl h⟩
    have m2 : ∀ a b : Int, nuMax2 (.int a) (.int b) = some (.int (max a b)) := fun a b => by
      show some (if decide (a < b) = true then V.int b else V.int a) = _
      by_cases e : a < b
      · rw [decide_eq_true e, if_pos rfl, Int.max_eq_right (by omega)]
      · rw [decide_eq_false e, if_neg (by simp), Int.max_eq_left (by omega)]
    show (nuMax2 (.int i) (.int j)).bind _ = _
    rw [m2]
    exact m2 _ _
  | min2 =>
    obtain ⟨i, j, rfl, h⟩ := wInts2_el h
    obtain ⟨v, u, rfl, rv, ru⟩ := rr.l2
    cases rv
    cases ru
    refine call_min2 (hc rfl) pins s σ H _ us Q I r ⟨_, _, rfl, ?_⟩
    have e : (if j < i then j else i) = min i j := by omega
    rw [e]
    exact k.here hs (w := .int _) rfl h
  | max1 =>
    obtain ⟨x, rfl, h⟩ := w1_el h
    obtain ⟨v, rfl, rv⟩ := rr.l1
    obtain ⟨ns, e, h⟩ := wSome_el h
    obtain ⟨p, rfl, h1⟩ := lstInts e rv hs
    refine cr_max (hc rfl) pins s σ H _ us Q I r ⟨p, ns, rfl, SqL.of h1, h.1, fun m m1 m2 => ?_⟩
    rw [maxL_uniq m1 m2]
    exact k.here hs (w := .int _) rfl h.2
  | min1 =>
    obtain ⟨x, rfl, h⟩ := w1_el h
    obtain ⟨v, rfl, rv⟩ := rr.l1
    obtain ⟨ns, e, h⟩ := wSome_el h
    obtain ⟨p, rfl, h1⟩ := lstInts e rv hs
    refine cr_min (hc rfl) pins s σ H _ us Q I r ⟨p, ns, rfl, SqL.of h1, h.1, fun m m1 m2 => ?_⟩
    rw [minL_uniq m1 m2]
    exact k.here hs (w := .int _) rfl h.2
  | sum1 =>
    obtain ⟨x, rfl, h⟩ := w1_el h
    obtain ⟨v, rfl, rv⟩ := rr.l1
    obtain ⟨ns, e, h⟩ := wSome_el h
    obtain ⟨p, rfl, h1⟩ := lstInts e rv hs
    exact cr_sum (hc rfl) pins s σ H _ us Q I r ⟨p, ns, rfl, SqL.of h1, k.here hs (w := .int _) rfl h⟩
  | all1 =>
    obtain ⟨x, rfl, h⟩ := w1_el h
    obtain ⟨v, rfl, rv⟩ := rr.l1
    obtain ⟨ns, e, h⟩ := wSome_el h
    obtain ⟨p, rfl, h1⟩ := lstBls e rv hs
    exact cr_all (hc rfl) pins s σ H _ us Q I r ⟨p, ns, rfl, SqL.of h1, k.here hs (w := .bl _) rfl h⟩
  | any1 =>
    obtain ⟨x, rfl, h⟩ := w1_el h
    obtain ⟨v, rfl, rv⟩ := rr.l1
    obtain ⟨ns, e, h⟩ := wSome_el h
    obtain ⟨p, rfl, h1⟩ := lstBls e rv hs
    exact cr_any (hc rfl) pins s σ H _ us Q I r ⟨p, ns, rfl, SqL.of h1, k.here hs (w := .bl _) rfl h⟩
  | tuple1 =>
    obtain ⟨x, rfl, h⟩ := w1_el h
    obtain ⟨v, rfl, rv⟩ := rr.l1
    obtain ⟨ws, e, h⟩ := wSome_el h
    rcases seq_rep2 e rv hs with ⟨p, vs, rfl, hq, rw1⟩ | ⟨rfl, p, vs, rfl, hq, rw1⟩
    · exact call_tuple_of pins s σ H _ us Q I r ⟨p, vs, rfl, .inl ⟨hK ▸ hq, tup_ok h rw1 hs k⟩⟩
    · exact call_tuple_of pins s σ H _ us Q I r ⟨p, vs, rfl, .inr ⟨hK ▸ hq, k.here hs (w := .tup _) rv h⟩⟩
  | list1 fz =>
    obtain ⟨x, rfl, h⟩ := w1_el h
    obtain ⟨v, rfl, rv⟩ := rr.l1
    obtain ⟨ws, e, h⟩ := wSome_el h
    obtain ⟨p, vs, rfl, hq, rw1⟩ := seq_rep e rv hs
    exact call_list_of pins s σ H _ us Q I r ⟨p, vs, rfl, hK ▸ hq, mkL_ok h rw1 hs k⟩
  | maxd => exact absurd rfl hb
  | listrev _ => exact absurd rfl hb
  | lenset => exact absurd rfl hb
  | dict1 =>
    obtain ⟨x, rfl, h⟩ := w1_el h
    obtain ⟨v, rfl, rv⟩ := rr.l1
    obtain ⟨p, e, h⟩ := wSome_el h
    obtain ⟨a, vs, rfl, hh, hl, rr2⟩ := dic_rep e rv hs
    refine call_dictD pins s σ H _ us Q I r ⟨a, _, rfl, .inl hh, fun q hq => ?_⟩
    exact k (.ref q) (S.set q (.dic p.1 p.2)) (.ref q) _ rfl (orep.new (u := .dic p.1 p.2) hs hq ⟨vs, upd_same, hl, reps.fr (Fr.newS hq) _ _ rr2⟩) (Fr.newS hq) (h q (hs.nil hq))

/-! ### isinstance -/
def tyN : Ty → String
  | .int => "int"
  | .bool => "bool"
  | .str => "str"
  | .tuple => "tuple"
  | .list => "list"
  | .dict => "dict"
theorem isi_ty {t : Ty} {x : W} {v : V} {b : Bool} (h : isiW t S x = some b) (r : rep Γ S H x v) (s : SR Γ S H) : ∃ T, TyX Γ.K H v T ∧ PySem.W.kitOne Γ.K T (.type (tyN t)) = some b := by
  unfold isiW at h
  have kl : ∀ (t : Ty), kitB "list" (tyN t) = some (t == .list) := fun t => by cases t <;> decide +kernel
  have kd : ∀ (t : Ty), kitB "dict" (tyN t) = some (t == .dict) := fun t => by cases t <;> decide +kernel
  have ki : ∀ {C : Addr} (_ : InsC Γ.K C) (t : Ty), PySem.W.kitOne Γ.K (.ref C) (.type (tyN t)) = some false := fun k t => k.kt _ (by cases t <;> simp [tyN, tyAll])
  have kt : ∀ (t : Ty), kitB "tuple" (tyN t) = some (t == .tuple) := fun t => by cases t <;> decide +kernel
  cases x with
  | non => cases r; cases h; exact ⟨_, .base .non, kit_ty (by cases t <;> decide +kernel)⟩
  | bl y => cases r; cases h; exact ⟨_, .base (.bl y), kit_ty (by cases t <;> decide +kernel)⟩
  | int y => cases r; cases h; exact ⟨_, .base (.int y), kit_ty (by cases t <;> decide +kernel)⟩
  | str y => obtain ⟨rfl, _⟩ := r; cases h; exact ⟨_, .base (.str _), kit_ty (by cases t <;> decide +kernel)⟩
  | tup ws =>
    obtain ⟨a, vs, rfl, q, _⟩ := r
    cases h
    rcases q with ⟨_, q | ⟨o, q⟩⟩ | ⟨o, its, n, q1, q2, _⟩
    · exact ⟨_, .base (.tup q), kit_ty (kt t)⟩
    · exact ⟨_, .fTuple q, kit_ty (kt t)⟩
    · exact ⟨_, .kTuple q1 q2, kit_ty (kt t)⟩
  | rl ws =>
    obtain ⟨a, vs, rfl, q, _⟩ := r
    cases h
    exact ⟨_, .base (.lst q.2), kit_ty (kl t)⟩
  | sc ws =>
    obtain ⟨a, vs, rfl, q, _⟩ := r
    cases h
    rcases q with ⟨_, q | ⟨o, q⟩⟩ | ⟨o, its, n, q1, q2, _⟩
    · exact ⟨_, .base (.lst q), kit_ty (kl t)⟩
    · exact ⟨_, .base (.frz q), kit_ty (kl t)⟩
    · exact ⟨_, .kList q1 q2, kit_ty (kl t)⟩
  | ref a =>
    cases r
    rw [deref_ref] at h
    cases q : S a with
    | none => simp only [q] at h; cases h
    | some o =>
      cases o with
      | lst us =>
        rw [q] at h
        cases h
        obtain ⟨vs, h1, _⟩ := s a _ q
        exact ⟨_, .base (.lst h1), kit_ty (kl t)⟩
      | dic _ _ =>
        simp only [q] at h
        cases h
        obtain ⟨vs, h1, _⟩ := s a _ q
        exact ⟨_, .base (.dK h1), kit_ty (kd t)⟩
      | ins _ _ _ =>
        simp only [q] at h
        cases h
        obtain ⟨dx, vs, h1, ⟨_, k, _⟩, _⟩ := s a _ q
        exact ⟨_, .base (.ins h1 k.cl k.ha k.hn k.ht k.hm), ki k t⟩
      | hid => simp only [q] at h; cases h
  | fn _ => cases h
  | dct _ _ =>
    obtain ⟨a, vs, rfl, q, _⟩ := r
    cases h
    exact ⟨_, .base (.dK q.2), kit_ty (kd t)⟩
  | obj _ _ _ =>
    obtain ⟨a, dx, vs, rfl, q, ⟨_, k, _⟩, _⟩ := r
    cases h
    exact ⟨_, .base (.ins q.2 k.cl k.ha k.hn k.ht k.hm), ki k t⟩
  | exn _ _ _ => cases h

/-! ### subscripts -/
theorem at_rep {ws : List W} {vs : List V} {i : Int} {w : W} (h : atW ws i = some w) (r : reps Γ S H ws vs) : ∃ v, atI vs i = some v ∧ rep Γ S H w v := by
  unfold atW at h
  have e : ixW ws.length i = ixN vs.length i := by rw [r.len]; rfl
  unfold atI
  rw [e] at h
  cases q : ixN vs.length i with
  | none => rw [q] at h; cases h
  | some j =>
    rw [q] at h
    obtain ⟨v, h1, h2⟩ := r.get (i := j) h
    exact ⟨v, h1, h2⟩
def rIxW (Γ : Gm) : R2 := fun v u H Q => ∃ x y S QW, rep Γ S H x v ∧ rep Γ S H y u ∧ SR Γ S H ∧ wIdx x y S QW ∧ KQ Γ S H QW Q
theorem ix_W (hK : X.K = Γ.K) (hu : X.A.units + 64 < cLine) : IxR X (rIxW Γ) := by
  intro value slice pins s σ H x y v u Q I rx ry h hsub
  obtain ⟨a, b, S, QW, ra, rb, hs, h, k⟩ := h
  unfold wIdx at h
  cases hd : dicOf S a with
  | some p =>
    rw [hd] at h
    simp only at h
    cases hk : kyOf b with
    | none => rw [hk] at h; exact h.elim
    | some kk =>
      rw [hk] at h
      simp only at h
      obtain ⟨t, o, rfl, g, g1, g2⟩ := dic_get hd hk ra rb hs
      cases e : lookD p.1 p.2 kk with
      | none => rw [e] at h; exact h.elim
      | some w =>
        rw [e] at h
        obtain ⟨z, rfl, rz⟩ := g1 w e
        exact ix_dk (by omega) value slice pins s σ H _ _ v u Q I rx ry ⟨t, z, rfl, g, k.here hs rz h⟩ hsub
  | none =>
  rw [hd] at h
  simp only at h
  split at h
  · rename_i i
    cases rb
    split at h
    · rename_i z
      obtain ⟨rfl, oz⟩ := ra
      obtain ⟨hl, h⟩ := h
      split at h
      · rename_i c e
        refine ix_str value slice pins s σ H _ _ v u Q I rx ry ⟨⟨z.toArray⟩, i, c, rfl, rfl, by rw [str_len]; exact hl, ?_, ?_⟩ hsub
        · exact (show atW z i = some c from e)
        · refine k.here hs (w := .str [c]) ⟨rfl, ?_⟩ h
          unfold okStr at oz ⊢
          have hm : c ∈ z := by
            unfold atW at e
            cases q : ixW z.length i with
            | none => rw [q] at e; cases e
            | some j => rw [q] at e; exact List.mem_of_getElem? e
          simpa using List.all_eq_true.mp oz c hm
      · exact h.elim
    · split at h
      · rename_i ws e
        obtain ⟨p, vs, rfl, hq, rr⟩ := seq_rep e ra hs
        split at h
        · rename_i w2 e2
          obtain ⟨v2, h1, h2⟩ := at_rep e2 rr
          have q := k.here hs h2 h
          refine ix_seq value slice pins s σ H _ _ v u Q I rx ry ?_ hsub
          rcases hq with hq | hq
          · exact .inl ⟨p, vs, i, v2, rfl, rfl, hK ▸ hq, h1, q⟩
          · exact .inr (.inl ⟨p, vs, i, v2, rfl, rfl, hK ▸ hq, h1, q⟩)
        · exact h.elim
      · exact h.elim
  · exact h.elim
def rSlW (Γ : Gm) (fz : Bool) : V → Option Int → Option Int → Hp → VK → Prop := fun v lo hi H Q => ∃ x S QW, rep Γ S H x v ∧ SR Γ S H ∧ (∃ l h : List W, optInt l = some lo ∧ optInt h = some hi ∧ wSl fz x l h S QW) ∧ KQ Γ S H QW Q
theorem sl_W (hK : X.K = Γ.K) (fz : Bool) : SlR X (rSlW Γ fz) := by
  intro pins s σ H x v vl vu lo hi sl Q I rx hsl pl pu h
  obtain ⟨a, S, QW, ra, hs, ⟨l, hh, el, eh, h⟩, k⟩ := h
  unfold wSl at h
  rw [el, eh] at h
  simp only at h
  cases a with
  | tup ws =>
    simp only [deref] at h
    obtain ⟨p, vs, rfl, hq, rr⟩ := ra
    have hc := rr.cut lo hi
    refine sl_tupA pins s σ H _ v vl vu lo hi sl Q I rx hsl pl pu ⟨p, vs, rfl, hK ▸ hq.sq, fun e => ?_, fun _ p e => tup_ok h hc hs k p e⟩
    refine k.here hs (w := .tup _) ⟨p, vs, rfl, hq, ?_⟩ h
    have e2 : cutV vs lo hi = vs := by unfold cutV; rw [e.1, e.2]; simp
    rw [e2] at hc
    exact hc
  | rl ws =>
    simp only [deref] at h
    obtain ⟨p, vs, rfl, hq, rr⟩ := ra
    exact sl_list pins s σ H _ v vl vu lo hi sl Q I rx hsl pl pu ⟨p, vs, rfl, hK ▸ hq.sq, mkL_ok h (rr.cut lo hi) hs k⟩
  | sc ws =>
    simp only [deref] at h
    obtain ⟨p, vs, rfl, hq, rr⟩ := ra
    exact sl_list pins s σ H _ v vl vu lo hi sl Q I rx hsl pl pu ⟨p, vs, rfl, hK ▸ hq.sq, mkL_ok h (rr.cut lo hi) hs k⟩
  | str z =>
    simp only [deref] at h
    obtain ⟨rfl, oz⟩ := ra
    refine sl_str pins s σ H _ v vl vu lo hi sl Q I rx hsl pl pu ⟨⟨z.toArray⟩, rfl, by rw [str_len]; exact h.1, ?_⟩
    refine k.here hs (w := .str _) ⟨?_, ?_⟩ h.2
    · unfold strV cutS cutW
      simp [Str.length]
    · unfold okStr at oz ⊢
      rw [List.all_eq_true] at oz ⊢
      intro c hc
      unfold cutW at hc
      exact oz c (List.mem_of_mem_drop (List.mem_of_mem_take hc))
  | ref p =>
    cases ra
    rw [deref_ref] at h
    cases q : S p with
    | none => rw [q] at h; exact h.elim
    | some o =>
      cases o with
      | lst us =>
        rw [q] at h
        obtain ⟨vs, h1, rr⟩ := hs p _ q
        exact sl_list pins s σ H _ v vl vu lo hi sl Q I rx hsl pl pu ⟨p, vs, rfl, SqL.of h1, mkL_ok h (rr.cut lo hi) hs k⟩
      | dic _ _ => rw [q] at h; exact h.elim
      | ins _ _ _ => rw [q] at h; exact h.elim
      | hid => rw [q] at h; exact h.elim
  | _ => exact h.elim
end
end Bw

/-! Ev6: what is walked. -/
namespace Bw
open PySem L2 PySem.Spec PyProof.Rows
/-- the turns J yield the items, where P stays and the lists lk stand -/
structure Wk (Γ : Gm) (J : It) (items : List W) (lk : Lk) (P : Sto → Hp → Prop) : Prop where
  st : ∀ S H S' H', Fr S H S' H' → P S H → P S' H'
  go : ∀ i S H, SR Γ S H → P S H → liveS lk S → i < items.length → J.go i H
  stop : ∀ i S H, SR Γ S H → P S H → liveS lk S → items.length ≤ i → J.stop i H
  yld : ∀ i S H x H', SR Γ S H → P S H → liveS lk S → i < items.length → J.yld i H x H' → ∃ w, items[i]? = some w ∧ SR Γ S H' ∧ Fr S H S H' ∧ rep Γ S H' w x
section
variable {Γ : Gm} {S : Sto} {H : Hp} {lk lk2 : Lk} {P P2 : Sto → Hp → Prop} {a b : Addr} {ws us : List W}
theorem liveS_app : ∀ {lk lk2 : Lk} {S : Sto}, liveS (lk ++ lk2) S ↔ liveS lk S ∧ liveS lk2 S
  | [], _, _ => by simp [liveS]
  | p :: r, lk2, S => by
    simp only [List.cons_append, liveS]
    rw [liveS_app (lk := r)]
    exact and_assoc.symm
theorem SR.tup2 {T : Addr} {vs : List V} (s : SR Γ S H) (e : H T = none) (r : reps Γ S H ws vs) : SR Γ S (upd H T (.tup vs)) ∧ Fr S H S (upd H T (.tup vs)) ∧ rep Γ S (upd H T (.tup vs)) (.tup ws) (.ref T) :=
  ⟨s.new e, Fr.new e, T, vs, rfl, .inl ⟨s.nil e, .inl upd_same⟩, reps.fr (Fr.new e) _ _ r⟩
/-- a list at a -/
def BaseL (Γ : Gm) (a : Addr) (ws : List W) (lk : Lk) (P : Sto → Hp → Prop) : Prop := ∀ S H, SR Γ S H → P S H → liveS lk S → ∃ vs, SqL Γ.K H a vs ∧ reps Γ S H ws vs
def BaseT (Γ : Gm) (a : Addr) (ws : List W) (lk : Lk) (P : Sto → Hp → Prop) : Prop := ∀ S H, SR Γ S H → P S H → liveS lk S → ∃ vs, SqT Γ.K H a vs ∧ reps Γ S H ws vs
def Stb (P : Sto → Hp → Prop) : Prop := ∀ S H S' H', Fr S H S' H' → P S H → P S' H'
theorem reps.getV {vs : List V} (r : reps Γ S H ws vs) {i : Nat} (h : i < ws.length) : ∃ w v, ws[i]? = some w ∧ vs[i]? = some v ∧ rep Γ S H w v := by
  have e : ws[i]? = some ws[i] := List.getElem?_eq_getElem h
  obtain ⟨v, h1, h2⟩ := r.get e
  exact ⟨_, v, e, h1, h2⟩
theorem wk_list (st : Stb P) (B : BaseL Γ a ws lk P) : Wk Γ (Itl Γ.K a) ws lk P where
  st := st
  go := fun i S H s p l h => by
    obtain ⟨vs, hq, r⟩ := B S H s p l
    obtain ⟨w, v, e1, e2, _⟩ := r.getV h
    exact ⟨vs, v, hq, e2⟩
  stop := fun i S H s p l h => by
    obtain ⟨vs, hq, r⟩ := B S H s p l
    exact ⟨vs, hq, by rw [← r.len]; exact h⟩
  yld := fun i S H x H' s p l h y => by
    obtain ⟨vs, hq, r⟩ := B S H s p l
    obtain ⟨w, v, e1, e2, e3⟩ := r.getV h
    obtain ⟨rfl, y⟩ := y
    have := y vs hq
    rw [e2] at this
    cases this
    exact ⟨w, e1, s, Fr.refl _ _, e3⟩
theorem wk_tup (st : Stb P) (B : BaseT Γ a ws lk P) : Wk Γ (Itt Γ.K a) ws lk P where
  st := st
  go := fun i S H s p l h => by
    obtain ⟨vs, hq, r⟩ := B S H s p l
    obtain ⟨w, v, e1, e2, _⟩ := r.getV h
    exact ⟨vs, v, hq, e2⟩
  stop := fun i S H s p l h => by
    obtain ⟨vs, hq, r⟩ := B S H s p l
    exact ⟨vs, hq, by rw [← r.len]; exact h⟩
  yld := fun i S H x H' s p l h y => by
    obtain ⟨vs, hq, r⟩ := B S H s p l
    obtain ⟨w, v, e1, e2, e3⟩ := r.getV h
    obtain ⟨rfl, y⟩ := y
    have := y vs hq
    rw [e2] at this
    cases this
    exact ⟨w, e1, s, Fr.refl _ _, e3⟩
theorem wk_rev (st : Stb P) (B : BaseL Γ a ws lk P) : Wk Γ (Itv Γ.K a ws.length) ws.reverse lk P where
  st := st
  go := fun i S H s p l h => by
    rw [List.length_reverse] at h
    obtain ⟨vs, hq, r⟩ := B S H s p l
    obtain ⟨w, v, e1, e2, _⟩ := r.getV (i := ws.length - 1 - i) (by omega)
    exact ⟨h, vs, v, hq, e2⟩
  stop := fun i S H s p l h => by rw [List.length_reverse] at h; exact h
  yld := fun i S H x H' s p l h y => by
    rw [List.length_reverse] at h
    obtain ⟨vs, hq, r⟩ := B S H s p l
    obtain ⟨w, v, e1, e2, e3⟩ := r.getV (i := ws.length - 1 - i) (by omega)
    obtain ⟨rfl, y⟩ := y
    have := y vs hq
    rw [e2] at this
    cases this
    exact ⟨w, by rw [List.getElem?_reverse h]; exact e1, s, Fr.refl _ _, e3⟩
theorem enumW_get : ∀ {ws : List W} {k i : Nat}, (enumW k ws)[i]? = (ws[i]?).map fun w => .tup [.int ((k + i : Nat) : Int), w]
  | [], k, i => by simp [enumW]
  | w :: ws, k, 0 => by simp [enumW]
  | w :: ws, k, i + 1 => by
    simp only [enumW, List.getElem?_cons_succ]
    rw [enumW_get]
    have e : k + 1 + i = k + (i + 1) := by omega
    rw [e]
theorem enumW_len : ∀ {ws : List W} {k : Nat}, (enumW k ws).length = ws.length
  | [], _ => rfl
  | w :: ws, k => by simp [enumW, enumW_len]
theorem wk_enum (st : Stb P) (B : BaseL Γ a ws lk P) : Wk Γ (Ite Γ.K a) (enumW 0 ws) lk P where
  st := st
  go := fun i S H s p l h => by
    rw [enumW_len] at h
    obtain ⟨vs, hq, r⟩ := B S H s p l
    obtain ⟨w, v, e1, e2, _⟩ := r.getV h
    exact ⟨vs, v, hq, e2⟩
  stop := fun i S H s p l h => by
    rw [enumW_len] at h
    obtain ⟨vs, hq, r⟩ := B S H s p l
    exact ⟨vs, hq, by rw [← r.len]; exact h⟩
  yld := fun i S H x H' s p l h y => by
    rw [enumW_len] at h
    obtain ⟨vs, hq, r⟩ := B S H s p l
    obtain ⟨w, v, e1, e2, e3⟩ := r.getV h
    obtain ⟨T, z, rfl, eT, rfl, y⟩ := y
    have := y vs hq
    rw [e2] at this
    cases this
    obtain ⟨q1, q2, q3⟩ := s.tup2 (ws := [.int (i : Nat), w]) (vs := [.int (i : Nat), v]) eT ⟨_, _, rfl, rfl, reps.one e3⟩
    refine ⟨_, ?_, q1, q2, q3⟩
    rw [enumW_get, e1]
    simp
theorem zipW_get : ∀ {ws us : List W} {i : Nat}, (zipW ws us)[i]? = (match ws[i]?, us[i]? with | some x, some y => some (.tup [x, y]) | _, _ => none)
  | [], us, i => by simp [zipW]
  | w :: ws, [], i => by simp only [zipW]; cases (w :: ws)[i]? <;> simp
  | w :: ws, u :: us, 0 => by simp [zipW]
  | w :: ws, u :: us, i + 1 => by
    simp only [zipW, List.getElem?_cons_succ]
    exact zipW_get
theorem zipW_len : ∀ {ws us : List W}, (zipW ws us).length = min ws.length us.length
  | [], us => by simp [zipW]
  | w :: ws, [] => by simp [zipW]
  | w :: ws, u :: us => by simp only [zipW, List.length_cons]; rw [zipW_len]; omega
theorem wk_zip (st : Stb P) (B : BaseL Γ a ws lk P) (B2 : BaseL Γ b us lk P) : Wk Γ (Itz Γ.K a b) (zipW ws us) lk P where
  st := st
  go := fun i S H s p l h => by
    rw [zipW_len] at h
    obtain ⟨vs, hq, r⟩ := B S H s p l
    obtain ⟨vs2, hq2, r2⟩ := B2 S H s p l
    obtain ⟨w, v, e1, e2, _⟩ := r.getV (i := i) (by omega)
    obtain ⟨w2, v2, e12, e22, _⟩ := r2.getV (i := i) (by omega)
    exact ⟨vs, vs2, v, v2, hq, hq2, e2, e22⟩
  stop := fun i S H s p l h => by
    rw [zipW_len] at h
    obtain ⟨vs, hq, r⟩ := B S H s p l
    obtain ⟨vs2, hq2, r2⟩ := B2 S H s p l
    have l1 := r.len
    have l2 := r2.len
    exact ⟨vs, vs2, hq, hq2, by omega⟩
  yld := fun i S H x H' s p l h y => by
    rw [zipW_len] at h
    obtain ⟨vs, hq, r⟩ := B S H s p l
    obtain ⟨vs2, hq2, r2⟩ := B2 S H s p l
    obtain ⟨w, v, e1, e2, e3⟩ := r.getV (i := i) (by omega)
    obtain ⟨w2, v2, e12, e22, e32⟩ := r2.getV (i := i) (by omega)
    obtain ⟨T, z, z2, rfl, eT, rfl, y, y2⟩ := y
    have t1 := y vs hq
    rw [e2] at t1
    cases t1
    have t2 := y2 vs2 hq2
    rw [e22] at t2
    cases t2
    obtain ⟨q1, q2, q3⟩ := s.tup2 (ws := [w, w2]) (vs := [v, v2]) eT ⟨_, _, rfl, e3, reps.one e32⟩
    refine ⟨_, ?_, q1, q2, q3⟩
    rw [zipW_get, e1, e12]
theorem wk_zipT (st : Stb P) (B : BaseT Γ a ws lk P) (B2 : BaseT Γ b us lk P) : Wk Γ (RZ.ItzT Γ.K a b) (zipW ws us) lk P where
  st := st
  go := fun i S H s p l h => by
    rw [zipW_len] at h
    obtain ⟨vs, hq, r⟩ := B S H s p l
    obtain ⟨vs2, hq2, r2⟩ := B2 S H s p l
    obtain ⟨w, v, e1, e2, _⟩ := r.getV (i := i) (by omega)
    obtain ⟨w2, v2, e12, e22, _⟩ := r2.getV (i := i) (by omega)
    exact ⟨vs, vs2, v, v2, hq, hq2, e2, e22⟩
  stop := fun i S H s p l h => by
    rw [zipW_len] at h
    obtain ⟨vs, hq, r⟩ := B S H s p l
    obtain ⟨vs2, hq2, r2⟩ := B2 S H s p l
    have l1 := r.len
    have l2 := r2.len
    exact ⟨vs, vs2, hq, hq2, by omega⟩
  yld := fun i S H x H' s p l h y => by
    rw [zipW_len] at h
    obtain ⟨vs, hq, r⟩ := B S H s p l
    obtain ⟨vs2, hq2, r2⟩ := B2 S H s p l
    obtain ⟨w, v, e1, e2, e3⟩ := r.getV (i := i) (by omega)
    obtain ⟨w2, v2, e12, e22, e32⟩ := r2.getV (i := i) (by omega)
    obtain ⟨T, z, z2, rfl, eT, rfl, y, y2⟩ := y
    have t1 := y vs hq
    rw [e2] at t1
    cases t1
    have t2 := y2 vs2 hq2
    rw [e22] at t2
    cases t2
    obtain ⟨q1, q2, q3⟩ := s.tup2 (ws := [w, w2]) (vs := [v, v2]) eT ⟨_, _, rfl, e3, reps.one e32⟩
    refine ⟨_, ?_, q1, q2, q3⟩
    rw [zipW_get, e1, e12]
theorem rngW_get {lo : Int} {n i : Nat} (h : i < n) : (rngW lo n)[i]? = some (.int (lo + (i : Int))) := by
  unfold rngW
  rw [List.getElem?_map, List.getElem?_range h]
  rfl
theorem rngW_len {lo : Int} {n : Nat} : (rngW lo n).length = n := by unfold rngW; simp
theorem wk_rng {lo : Int} {n : Nat} : Wk Γ (Itr lo n) (rngW lo n) [] (fun _ _ => True) where
  st := fun _ _ _ _ _ _ => trivial
  go := fun i S H s p l h => by rw [rngW_len] at h; exact h
  stop := fun i S H s p l h => by rw [rngW_len] at h; exact h
  yld := fun i S H x H' s p l h y => by
    rw [rngW_len] at h
    obtain ⟨rfl, rfl⟩ := y
    exact ⟨_, rngW_get h, s, Fr.refl _ _, rfl⟩
theorem wk_str {z : List Nat} (oz : okStr z = true) : Wk Γ (Its ⟨z.toArray⟩) (z.map fun c => W.str [c]) [] (fun _ _ => True) where
  st := fun _ _ _ _ _ _ => trivial
  go := fun i S H s p l h => by simpa [Its] using h
  stop := fun i S H s p l h => by simpa [Its] using h
  yld := fun i S H x H' s p l h y => by
    obtain ⟨rfl, c, hc, rfl⟩ := y
    have hc : z[i]? = some c := by simpa using hc
    refine ⟨.str [c], by rw [List.getElem?_map, hc]; rfl, s, Fr.refl _ _, rfl, ?_⟩
    unfold okStr at oz ⊢
    simpa using List.all_eq_true.mp oz c (List.mem_of_getElem? hc)

/-- a list's value as a base -/
theorem walkL_base {x : W} {v : V} (h : walkL S x = some (ws, lk)) (r : rep Γ S H x v) : ∃ a P, v = .ref a ∧ Stb P ∧ P S H ∧ BaseL Γ a ws lk P := by
  cases x with
  | rl ws' =>
    cases h
    obtain ⟨a, vs, rfl, q, t⟩ := r
    exact ⟨a, fun S H => ∃ vs, RlA S H a vs ∧ reps Γ S H ws vs, rfl, fun S H S' H' f ⟨vs, q, t⟩ => ⟨vs, q.fr f, reps.fr f _ _ t⟩, ⟨vs, q, t⟩, fun S H s ⟨vs, q, t⟩ _ => ⟨vs, q.sq, t⟩⟩
  | sc ws' =>
    cases h
    obtain ⟨a, vs, rfl, q, t⟩ := r
    exact ⟨a, fun S H => ∃ vs, ScA Γ S H a vs ∧ reps Γ S H ws vs, rfl, fun S H S' H' f ⟨vs, q, t⟩ => ⟨vs, q.fr f, reps.fr f _ _ t⟩, ⟨vs, q, t⟩, fun S H s ⟨vs, q, t⟩ _ => ⟨vs, q.sq, t⟩⟩
  | ref a =>
    cases r
    simp only [walkL] at h
    cases q : S a with
    | none => rw [q] at h; cases h
    | some o =>
      cases o with
      | lst us =>
        rw [q] at h
        cases h
        refine ⟨a, fun _ _ => True, rfl, fun _ _ _ _ _ _ => trivial, trivial, fun S H s _ l => ?_⟩
        obtain ⟨vs, h1, h2⟩ := s a _ l.1
        exact ⟨vs, .inl (.inl h1), h2⟩
      | dic _ _ => rw [q] at h; cases h
      | ins _ _ _ => rw [q] at h; cases h
      | hid => rw [q] at h; cases h
  | _ => cases h
theorem tup_base {v : V} (r : rep Γ S H (.tup ws) v) : ∃ a P, v = .ref a ∧ Stb P ∧ P S H ∧ BaseT Γ a ws lk P := by
  obtain ⟨a, vs, rfl, q, t⟩ := r
  exact ⟨a, fun S H => ∃ vs, TupA Γ S H a vs ∧ reps Γ S H ws vs, rfl, fun S H S' H' f ⟨vs, q, t⟩ => ⟨vs, q.fr f, reps.fr f _ _ t⟩, ⟨vs, q, t⟩, fun S H s ⟨vs, q, t⟩ _ => ⟨vs, q.sq, t⟩⟩
theorem walkOf_cases {x : W} (h : walkOf S x = some (ws, lk)) : (x = .tup ws ∧ lk = []) ∨ (∃ z, x = .str z ∧ ws = (z.map fun c => W.str [c]) ∧ lk = []) ∨ walkL S x = some (ws, lk) := by
  cases x with
  | tup _ => cases h; exact .inl ⟨rfl, rfl⟩
  | str z => cases h; exact .inr (.inl ⟨z, rfl, rfl, rfl⟩)
  | rl _ => exact .inr (.inr h)
  | sc _ => exact .inr (.inr h)
  | ref _ => exact .inr (.inr h)
  | _ => cases h
end

/-! ### iterables -/
section
variable {X : Cx} {tg : Expr}
/-- a value that is walked: a list, a tuple, a text -/
def iSeq (K : PySem.W.Frag) (tl : TE) : TI := fun σ H R => tl σ H fun x H1 => (∃ a, x = .ref a ∧ (∃ xs, SqL K H1 a xs) ∧ R (Itl K a) H1) ∨ (∃ a, x = .ref a ∧ (∃ xs, SqT K H1 a xs) ∧ R (Itt K a) H1) ∨ ∃ z, x = .str z ∧ R (Its z) H1
theorem pi_seq {l : Expr} {tl : TE} (hl : PE X l tl) : PI X tg l (iSeq X.K tl) := by
  refine ⟨fun pins s σ H R I h => ?_⟩
  refine thn (hl.run pins s σ H _ I h) fun v s1 ⟨x, H1, I1, r1, q1⟩ => ?_
  rcases q1 with ⟨a, e, ⟨xs, hq⟩, q⟩ | ⟨a, e, ⟨xs, hq⟩, q⟩ | ⟨z, e, q⟩
  · subst e
    cases r1
    obtain ⟨its, rv, p, hz⟩ := I1.list hq
    refine wpAny_pyIter_list p.isList ?_
    refine ⟨s1.heap.objs.size, [s1.heap.objs.size], _, _, H1, rfl, I1.kept (t' := s1.toks) fun b o e => Heap.get?_push_of_some _ e, turn_list a _, ⟨_, Heap.get?_push_size _ rfl, rfl, rfl⟩, fun b hb => ?_, q⟩
    have e : b = s1.heap.objs.size := by simpa using hb
    subst e
    exact I1.fpOk (Nat.le_refl _) (I1.hok.fresh (Nat.le_refl _))
  · subst e
    cases r1
    obtain ⟨its, rv, p, hz⟩ := I1.tuple hq
    refine wpAny_pyIter_tuple (show s1.heap.IsTuple a its.toArray from p) ?_
    refine ⟨s1.heap.objs.size, [s1.heap.objs.size], _, _, H1, rfl, I1.kept (t' := s1.toks) fun b o e => Heap.get?_push_of_some _ e, turn_tuple a _, ⟨_, Heap.get?_push_size _ rfl, rfl, rfl⟩, fun b hb => ?_, q⟩
    have e : b = s1.heap.objs.size := by simpa using hb
    subst e
    exact I1.fpOk (Nat.le_refl _) (I1.hok.fresh (Nat.le_refl _))
  · subst e
    obtain ⟨t, rfl⟩ := r1
    cases ha : z.cps.all (· < 128)
    · exact wpAny_pyIter_wide ha (pi_one (tk := s1.toks) I1 _ (turn_str _ z t "str_iterator" (.inr rfl)) ⟨_, Heap.get?_push_size _ rfl, rfl, rfl⟩ q)
    · exact wpAny_pyIter_ascii ha (pi_one (tk := s1.toks) I1 _ (turn_str _ z t "str_ascii_iterator" (.inl rfl)) ⟨_, Heap.get?_push_size _ rfl, rfl, rfl⟩ q)
end
end Bw

/-! Ev7: which expressions of the text an expression of the evaluator stands for (checked by computation). -/
namespace Bw
open PySem L2 PySem.Spec PyProof.Rows

mutual
def eqB : W → W → Bool
  | .non, .non => true
  | .bl a, .bl b => a == b
  | .int a, .int b => a == b
  | .str a, .str b => a == b
  | .tup a, .tup b => eqBs a b
  | .fn a, .fn b => a == b
  | _, _ => false
def eqBs : List W → List W → Bool
  | [], [] => true
  | a :: r, b :: t => eqB a b && eqBs r t
  | _, _ => false
end
mutual
theorem eqB_eq : ∀ {a b : W}, eqB a b = true → a = b
  | .non, b, h => by cases b <;> first | rfl | simp [eqB] at h
  | .bl x, b, h => by cases b <;> simp [eqB] at h; rw [h]
  | .int x, b, h => by cases b <;> simp [eqB] at h; rw [h]
  | .str x, b, h => by cases b <;> simp [eqB] at h; rw [h]
  | .fn x, b, h => by cases b <;> simp [eqB] at h; rw [h]
  | .tup x, b, h => by
    cases b with
    | tup y => rw [eqBs_eq (show eqBs x y = true from h)]
    | _ => simp [eqB] at h
  | .rl x, b, h => by cases b <;> simp [eqB] at h
  | .sc x, b, h => by cases b <;> simp [eqB] at h
  | .ref x, b, h => by cases b <;> simp [eqB] at h
  | .dct _ _, b, h => by cases b <;> simp [eqB] at h
  | .obj _ _ _, b, h => by cases b <;> simp [eqB] at h
  | .exn _ _ _, b, h => by cases b <;> simp [eqB] at h
theorem eqBs_eq : ∀ {a b : List W}, eqBs a b = true → a = b
  | [], b, h => by cases b <;> first | rfl | simp [eqBs] at h
  | x :: r, b, h => by
    cases b with
    | nil => simp [eqBs] at h
    | cons y t =>
      have h : (eqB x y && eqBs r t) = true := h
      rw [Bool.and_eq_true] at h
      rw [eqB_eq h.1, eqBs_eq h.2]
end

/-- the names of the module that a text may use -/
structure GT where
  fns : List (Str × Nat × Nat)
  cons : List (Str × W)
  tabs : List (Str × List (List Nat × W))
  bis : List Str
  /-- within an except suite -/
  hot : Bool := false
  /-- own classes: their names, indices, __init__ -/
  cls : List (Str × Nat × Nat) := []
  /-- own exception classes: their names, indices, fields ([]: made with a text) -/
  xcl : List (Str × Nat × List (List Nat)) := []
  mth : List (List Nat × List (Nat × Nat)) := []
  /-- the fields that a class's instances may have -/
  fld : List (Nat × List (List Nat)) := []
  isC : List (Str × List Nat × List Nat) := []
  exm : List (Str × List Nat × List Nat) := []
  /-- the defaults of a def, the last parameters' -/
  dfl : List (Str × List W) := []
def visB (sc : Scope) (x : Str) : Bool :=
  match sc.names.lookup x with
  | some .local => true
  | some .cell => true
  | some .free => true
  | _ => false
def locB (sc : Scope) (x : Str) : Bool :=
  match sc.names.lookup x with
  | some .local => true
  | some .cell => true
  | _ => false
def gloB (sc : Scope) (x : Str) : Bool :=
  match sc.names.lookup x with
  | some .globalImplicit => true
  | _ => false
def nodbg (x : Str) : Bool := !(x == ("__debug__" : Str)) && !(x == ("__classdict__" : Str)) && !(x == ("__name__" : Str))
def nameB : Bi → Str
  | .len => "len"
  | .int1 => "int"
  | .str1 => "str"
  | .abs => "abs"
  | .max2 => "max"
  | .max3 => "max"
  | .min2 => "min"
  | .max1 => "max"
  | .maxd => "max"
  | .min1 => "min"
  | .sum1 => "sum"
  | .all1 => "all"
  | .any1 => "any"
  | .tuple1 => "tuple"
  | .list1 _ => "list"
  | .listrev _ => "list"
  | .lenset => "len"
  | .dict1 => "dict"
  | .ord1 => "ord"
def tyS : Ty → Str
  | .int => "int"
  | .bool => "bool"
  | .str => "str"
  | .tuple => "tuple"
  | .list => "list"
  | .dict => "dict"
def biB (G : GT) (sc : Scope) (nm x : Str) : Bool := x == nm && gloB sc x && nodbg x && G.bis.contains x
def chL {α β : Type} (f : α → β → Bool) : List α → List β → Bool
  | [], [] => true
  | a :: r, b :: t => f a b && chL f r t
  | _, _ => false
def chO (f : Expr → E → Bool) : Option Expr → List E → Bool
  | none, [] => true
  | some a, [b] => f a b
  | _, _ => false
def ownOf (N : List Str) (own : List Nat) : List (Str × Nat) := own.filterMap fun i => (N[i]?).map fun x => (x, i)
def chNm (N : List Str) (sc : Scope) : Expr → Nat → Bool
  | .Name x _, i => decide (N[i]? = some x) && locB sc x
  | _, _ => false
def chTg (N : List Str) (sc : Scope) (e : Expr) (tg : Tg) : Bool :=
  match tg with
  | .nm i => chNm N sc e i
  | .pr is => match e with
    | .Tuple es _ _ => chL (chNm N sc) es is
    | _ => false
def tgIs : Tg → List Nat
  | .nm i => [i]
  | .pr is => is
def chV (N : List Str) (sc : Scope) : Expr → Nat → Bool
  | .Name x _, i => decide (N[i]? = some x) && visB sc x && nodbg x
  | _, _ => false
/-- a call, a name, a display: no test of its own kind -/
def fzE : Expr → Bool
  | .Call _ _ _ _ => true
  | .Name _ _ => true
  | .Dict _ _ _ => true
  | .List _ _ => true
  | .BinOp _ _ _ _ => true
  | .Subscript _ _ _ => true
  | _ => false
def nameM : MB → Str
  | .count => "count"
  | .index => "index"
  | .dget1 => "get"
  | .dget2 => "get"
  | .dcopy => "copy"
  | .join => "join"
def arM : MB → Nat
  | .dget2 => 2
  | .dcopy => 0
  | _ => 1
def sZ (f : List Nat) : Str := ⟨f.toArray⟩
def okE : Expr → Bool
  | .Starred _ _ => false
  | .Slice _ _ _ _ => false
  | .Set _ _ _ => false
  | _ => true
def okT : Expr → Bool
  | .IfExp _ _ _ _ => false
  | _ => true
def isTup : Expr → Bool
  | .Tuple _ _ _ => true
  | _ => false
section
variable (G : GT) (N : List Str)
def chI (ch : Expr → E → Bool) (sc : Scope) (tg : Expr) (iter : Expr) (ik : IK) (its : List E) : Bool :=
  match ik with
  | .seq => (match its with
    | [x'] => ch iter x'
    | _ => false)
  | .rng1 => (match iter with
    | .Call (.Name f _) [x] [] _ => biB G sc "range" f && chL ch [x] its
    | _ => false)
  | .rng2 => (match iter with
    | .Call (.Name f _) [x, y] [] _ => biB G sc "range" f && chL ch [x, y] its
    | _ => false)
  | .enum => (match iter with
    | .Call (.Name f _) [x] [] _ => isTup tg && biB G sc "enumerate" f && chL ch [x] its
    | _ => false)
  | .zip => (match iter with
    | .Call (.Name f _) [x, y] [] _ => isTup tg && biB G sc "zip" f && chL ch [x, y] its
    | _ => false)
  | .rev => (match iter with
    | .Call (.Name f _) [x] [] _ => biB G sc "reversed" f && chL ch [x] its
    | _ => false)
/-- keys and values by turns -/
def chA (ch : Expr → E → Bool) : List (Option Expr) → List Expr → List E → Bool
  | [], [], [] => true
  | some k :: ks, v :: vs, a :: b :: r => ch k a && ch v b && chA ch ks vs r
  | _, _, _ => false
def chK1 : Option Expr → List Nat → Bool
  | some (.Constant (.str x) _ _), k => decide (x.cps.toList = k)
  | _, _ => false
def chK (keys : List (Option Expr)) (ks : List (List Nat)) : Bool := chL chK1 keys ks
def chE : Nat → Scope → Expr → E → Bool
  | 0, _, _, _ => false
  | n + 1, sc, e, e' => okE e &&
    match e' with
    | .var i => (match e with
      | .Name x _ => decide (N[i]? = some x) && visB sc x && nodbg x
      | _ => false)
    | .cst w => (match e with
      | .Constant (.int j) _ _ => eqB w (.int j)
      | .Constant (.bool j) _ _ => eqB w (.bl j)
      | .Constant .none _ _ => eqB w .non
      | .Constant (.str x) _ _ => eqB w (.str x.cps.toList) && okStr x.cps.toList
      | .Name x _ => gloB sc x && nodbg x && (match G.cons.lookup x with
        | some u => eqB w u
        | none => match G.fns.lookup x with
          | some p => eqB w (.fn p.1)
          | none => false)
      | _ => false)
    | .tup es' => (match e with
      | .Tuple es _ _ => chL (chE n sc) es es'
      | _ => false)
    | .lst _ es' => (match e with
      | .List es _ => chL (chE n sc) es es'
      | _ => false)
    | .bin o a b => (match e with
      | .BinOp x op y _ => decide (op = bopOf o) && chE n sc x a && chE n sc y b
      | _ => false)
    | .cmp o a b => (match e with
      | .Compare x [op] [y] _ => decide (op = copOf o) && chE n sc x a && chE n sc y b
      | _ => false)
    | .chain o o' a b c => (match e with
      | .Compare x [op, op'] [y, z] _ => decide (op = copOf o) && decide (op' = copOf o') && chE n sc x a && chE n sc y b && chE n sc z c
      | _ => false)
    | .isN neg a => (match e with
      | .Compare x [op] [.Constant .none _ _] _ => decide (op = if neg = true then .IsNot else .Is) && chE n sc x a
      | _ => false)
    | .and es' => (match e with
      | .BoolOp .And es _ => !es'.isEmpty && es.all okT && chL (chE n sc) es es'
      | _ => false)
    | .or es' => (match e with
      | .BoolOp .Or es _ => !es'.isEmpty && es.all okT && chL (chE n sc) es es'
      | _ => false)
    | .not a => (match e with
      | .UnaryOp .Not x _ => okT x && chE n sc x a
      | _ => false)
    | .neg a => (match e with
      | .UnaryOp .USub x _ => chE n sc x a
      | _ => false)
    | .ite c a b => (match e with
      | .IfExp z x y _ => okT z && chE n sc z c && chE n sc x a && chE n sc y b
      | _ => false)
    | .idx a i => (match e with
      | .Subscript x y _ => chE n sc x a && chE n sc y i
      | _ => false)
    | .sl _ a lo hi => (match e with
      | .Subscript x (.Slice l h none _) _ => chE n sc x a && chO (chE n sc) l lo && chO (chE n sc) h hi
      | _ => false)
    | .call f es' => !G.hot && (match e with
      | .Call (.Name x _) es [] _ => gloB sc x && nodbg x && G.fns.contains (x, f, es.length) && !es.isEmpty && chL (chE n sc) es es'
      | _ => false)
    | .callD f es' ds => !G.hot && (match e with
      | .Call (.Name x _) es [] _ => gloB sc x && nodbg x && G.fns.contains (x, f, es.length + ds.length) && !es.isEmpty && (match G.dfl.lookup x with
        | none => false
        | some ws => decide (ds.length ≤ ws.length) && eqBs (ws.drop (ws.length - ds.length)) ds) && chL (chE n sc) es es'
      | _ => false)
    | .dnew => (match e with
      | .Dict [] [] _ => true
      | _ => false)
    | .fzv a => fzE e && chE n sc e a
    | .meb m a es' => (match e with
      | .Call (.Attribute o nm apos) es [] cpos => decide (m ≠ .join) && decide (nm = nameM m) && plainO o && (apos.endLine == cpos.line) && decide (es.length = arM m) && chE n sc o a && chL (chE n sc) es es'
      | _ => false)
    | .fld _ a f => (match e with
      | .Attribute x nm _ => decide (nm = sZ f) && plainO x && chE n sc x a
      | _ => false)
    | .meth tb m a es' => !G.hot && (match e with
      | .Call (.Attribute o nm apos) es [] cpos => decide (nm = sZ m) && plainO o && (apos.endLine == cpos.line) && decide (es.length < 20) && decide (G.mth.lookup m = some tb) && chE n sc o a && chL (chE n sc) es es'
      | _ => false)
    | .mk c fi es' => !G.hot && (match e with
      | .Call (.Name x _) es [] _ => gloB sc x && nodbg x && decide (G.cls.lookup x = some (c, fi)) && chL (chE n sc) es es'
      | _ => false)
    | .mkx c z => !G.hot && (match e with
      | .Call (.Name x _) [.Constant (.str y) _ _] [] _ => gloB sc x && nodbg x && decide (G.xcl.lookup x = some (c, [])) && decide (y.cps.toList = z)
      | _ => false)
    | .isC yes no a => (match e with
      | .Call (.Name f _) [x, .Name y _] [] _ => biB G sc "isinstance" f && gloB sc y && nodbg y && decide (G.isC.lookup y = some (yes, no)) && chE n sc x a
      | _ => false)
    | .callV i fs es' => !G.hot && (match e with
      | .Call (.Name x _) es [] _ => decide (N[i]? = some x) && visB sc x && nodbg x && fs.all (fun f => G.fns.any fun p => p.2.1 == f && p.2.2 == es.length) && !es.isEmpty && chL (chE n sc) es es'
      | _ => false)
    | .bi b es' => (!G.hot || coolB b) && (match b with
      | .maxd => (match e with
        | .Call (.Name x _) [a] [⟨some k, d, _⟩] _ => biB G sc "max" x && k == ("default" : Str) && chL (chE n sc) [a, d] es'
        | _ => false)
      | .listrev _ => (match e with
        | .Call (.Name x _) [.Call (.Name y _) [a] [] _] [] _ => biB G sc "list" x && biB G sc "reversed" y && chL (chE n sc) [a] es'
        | _ => false)
      | .lenset => (match e with
        | .Call (.Name x _) [.Call (.Name y _) [a] [] _] [] _ => biB G sc "len" x && biB G sc "set" y && chL (chE n sc) [a] es'
        | _ => false)
      | b => (match e with
        | .Call (.Name x _) es [] _ => biB G sc (nameB b) x && !es.isEmpty && chL (chE n sc) es es'
        | _ => false))
    | .isi t a => (match e with
      | .Call (.Name f _) [x, .Name y _] [] _ => biB G sc "isinstance" f && biB G sc (tyS t) y && chE n sc x a
      | _ => false)
    | .comp _ tg ik its cond elt own => !G.hot && (match e with
      | .ListComp elt0 [⟨tg0, iter0, ifs0, 0⟩] scope _ =>
        decide ((ownOf N own).map (·.2) = own) && blkC N sc scope (ownOf N own) && chTg N scope tg0 tg && (tgIs tg).all (fun i => own.contains i) &&
          chI G (chE n sc) sc tg0 iter0 ik its && decide (ifs0.length ≤ 1) && ifs0.all okT && chL (chE n (relS scope sc)) ifs0 cond && chE n (relS scope sc) elt0 elt
      | _ => false)
    | .fits i j k => !G.hot && (match e with
      | .ListComp elt0 [⟨tg0, iter0, [.Compare (.Subscript d0 x0 _) [.Eq] [y0] _], 0⟩] scope _ =>
        decide ((ownOf N [k]).map (·.2) = [k]) && blkC N sc scope (ownOf N [k]) && chNm N scope tg0 k && decide (i ≠ k) && decide (j ≠ k) &&
          chV N sc iter0 i && chV N (relS scope sc) d0 i && chV N (relS scope sc) x0 k && chV N (relS scope sc) y0 j && chV N (relS scope sc) elt0 k
      | _ => false)
    | .keysOf i k => !G.hot && (match e with
      | .ListComp elt0 [⟨tg0, iter0, [], 0⟩] scope _ =>
        decide ((ownOf N [k]).map (·.2) = [k]) && blkC N sc scope (ownOf N [k]) && chNm N scope tg0 k && decide (i ≠ k) && chV N sc iter0 i && chV N (relS scope sc) elt0 k
      | _ => false)
    | .tab kvs i => (match e with
      | .Subscript (.Name x _) y _ => gloB sc x && nodbg x && (match G.tabs.lookup x with
        | some t => chL (fun p q => p.1 == q.1 && eqB p.2 q.2) t kvs
        | none => false) && chE n sc y i
      | _ => false)
    | .app a e1 => (match e with
      | .Call (.Attribute o nm apos) [x] [] cpos => nm == ("append" : Str) && plainO o && (apos.endLine == cpos.line) && chE n sc o a && chE n sc x e1
      | _ => false)
    | .dic ks es' => (match e with
      | .Dict keys vals _ => chK keys ks && decide (ks.Nodup) && !ks.isEmpty && decide (ks.length ≤ 15) && decide (vals.length = ks.length) && chL (chE n sc) vals es'
      | _ => false)
    | .dicV kvs => (match e with
      | .Dict keys vals _ => !keys.isEmpty && decide (keys.length ≤ 15) && chA (chE n sc) keys vals kvs
      | _ => false)
    | .dEq a b => (match e with
      | .Compare x [.Eq] [y] _ => chE n sc x a && chE n sc y b
      | _ => false)
    | .ext a b => (match e with
      | .Call (.Attribute o nm apos) [x] [] cpos => nm == ("extend" : Str) && plainO o && (apos.endLine == cpos.line) && chE n sc o a && chE n sc x b
      | _ => false)
    | .pop a => (match e with
      | .Call (.Attribute o nm apos) [] [] cpos => nm == ("pop" : Str) && plainO o && (apos.endLine == cpos.line) && chE n sc o a
      | _ => false)
end
end Bw

/-! Ev8: an expression that the checker takes is walked as the evaluator says. -/
namespace Bw
open PySem L2 PySem.Spec PyProof.Rows

def spF (Γ : Gm) (C : CT) (f : Nat) : Sp := fun vs H Q E => ∃ ws S QW XW, reps Γ S H ws vs ∧ SR Γ S H ∧ C f ws S QW XW ∧ KQ Γ S H QW Q ∧ KX Γ S H XW E
/-- a def by its name; its last defaults -/
def FnR (Γ : Gm) (G : GT) (C : CT) (X : Cx) (x : Str) (f : Nat) : Prop :=
  ∃ k fd ps, FnOk X.prog X.w X.K X.mg X.base (L2.CX X.prog X.w) k (Γ.fa f) fd ps (spF Γ C f) ∧ Room k X.A ∧ PySem.W.keepIn X.K (.ref (Γ.fa f)) = true ∧ Binds X.K fd ps [] ∧
    ∀ ws, G.dfl.lookup x = some ws → ∀ m, m ≤ ws.length → ∃ dvs ds, Binds X.K fd ps ds ∧ Vals dvs ds ∧ ∀ S H, reps Γ S H (ws.drop (ws.length - m)) dvs
/-- a written dict of the module, its keys texts -/
def TabR (Γ : Gm) (X : Cx) (x : Str) (kvs : List (List Nat × W)) : Prop :=
  ∃ p, X.mg x = some (.ref p) ∧ ∀ k w, kvs.lookup k = some w → ∃ v, KDct X.K X.w p ⟨k.toArray⟩ v ∧ ∀ S H, rep Γ S H w v
def ClR (Γ : Gm) (C : CT) (X : Cx) (x : Str) (c fi : Nat) : Prop :=
  ∃ k fd ps, FnOk X.prog X.w X.K X.mg X.base (L2.CX X.prog X.w) k (Γ.fa fi) fd ps (spF Γ C fi) ∧ Binds X.K fd ps [] ∧ Room (k + 1) X.A ∧ Mk X.K (Γ.ca c) (Γ.fa fi) ∧ X.mg x = some (.ref (Γ.ca c)) ∧ InsC X.K (Γ.ca c)
def MtH (Γ : Gm) (C : CT) (X : Cx) (m : List Nat) (c f : Nat) : Prop := ∃ k, Fk X (L2.CX X.prog X.w) k (Γ.fa f) (spF Γ C f) ∧ Room k X.A ∧ Meth X.K (Γ.ca c) (sZ m) (Γ.fa f)
/-- an exception class that is made with a text -/
def XmR (Γ : Gm) (X : Cx) (x : Str) (c : Nat) : Prop :=
  PySem.W.excIn X.K (Γ.ca c) [.type "ValueError", .type "Exception", .type "BaseException", .type "object"] "ValueError.__new__" = true ∧ X.mg x = some (.ref (Γ.ca c)) ∧ PySem.W.keepIn X.K (.ref (Γ.ca c)) = true ∧
    PySem.W.subIn X.K (.ref (Γ.ca c)) (.type "BaseException") = some true ∧ PySem.W.typeIn X.K (.ref (Γ.ca c)) = some (.type "type") ∧ XkC X.K (Γ.ca c)
/-- a class's value, by its name -/
def NmC (X : Cx) (y : Str) (D : Value) : Prop := X.mg y = some D ∧ (∃ a, D = .ref a) ∨ X.mg y = none ∧ ∃ n, D = .type n ∧ bootBuiltins y = some D ∧ y ≠ ("__name__" : Str)
def IsR (Γ : Gm) (X : Cx) (y : Str) (yes no : List Nat) : Prop :=
  ∃ D, NmC X y D ∧ (∀ c ∈ yes, PySem.W.kitOne X.K (.ref (Γ.ca c)) D = some true) ∧ (∀ c ∈ no, PySem.W.kitOne X.K (.ref (Γ.ca c)) D = some false) ∧ ∀ n ∈ ["NoneType", "bool", "int"], PySem.W.kitOne X.K (.type n) D = some false
structure XO (Γ : Gm) (G : GT) (C : CT) (N : List Str) (sc : Scope) (Wx : WX) (X : Cx) : Prop where
  hN : X.N = N
  nd : N.Nodup
  hsc : X.env.scope = sc
  calm : G.hot = false → X.calm = true
  hK : X.K = Γ.K
  tk : Takes X Wx
  un : X.A.units + 64 < cLine
  bi : ∀ x, G.bis.contains x = true → X.mg x = none
  con : ∀ x w, G.cons.lookup x = some w → ∃ v u, X.mg x = some u ∧ RelV v u ∧ ∀ S H, rep Γ S H w v
  fn : ∀ x f ar, G.hot = false → (x, f, ar) ∈ G.fns → FnR Γ G C X x f
  fnv : ∀ x f ar, (x, f, ar) ∈ G.fns → X.mg x = some (.ref (Γ.fa f))
  cls : ∀ x c fi, G.hot = false → G.cls.lookup x = some (c, fi) → ClR Γ C X x c fi
  xcl : ∀ x c, G.hot = false → G.xcl.lookup x = some (c, []) → XmR Γ X x c
  mth : ∀ m tb c f, G.hot = false → G.mth.lookup m = some tb → tb.lookup c = some f → MtH Γ C X m c f
  fld : ∀ c fs f, G.fld.lookup c = some fs → f ∈ fs → NoAttr X.K (Γ.ca c) (sZ f)
  isC : ∀ y yes no, G.isC.lookup y = some (yes, no) → IsR Γ X y yes no
  tab : ∀ x kvs, G.tabs.lookup x = some kvs → TabR Γ X x kvs

def tE (Γ : Gm) (C : CT) (Wx : WX) (e : E) : TE := fun σ H Q => ∃ env S QW XW, envR Γ S H env σ ∧ SR Γ S H ∧ wE C e env S QW XW ∧ KQ Γ S H QW Q ∧ KX Γ S H XW (fun cls d H' => Wx cls d σ H')
def KL (Γ : Gm) (S : Sto) (H : Hp) (QW : List W → Sto → Prop) (Q : List V → Hp → Prop) : Prop := ∀ ws S' vs H', reps Γ S' H' ws vs → SR Γ S' H' → Fr S H S' H' → QW ws S' → Q vs H'
def tEs (Γ : Gm) (C : CT) (Wx : WX) (es : List E) : TA := fun σ H Q => ∃ env S QW XW, envR Γ S H env σ ∧ SR Γ S H ∧ wEs C es env S QW XW ∧ KL Γ S H QW Q ∧ KX Γ S H XW (fun cls d H' => Wx cls d σ H')
def KB (Γ : Gm) (S : Sto) (H : Hp) (QW : VQ) (Q : Bool → Hp → Prop) : Prop := ∀ w S' H', SR Γ S' H' → Fr S H S' H' → QW w S' → ∃ b, w = .bl b ∧ Q b H'
def tT (Γ : Gm) (C : CT) (Wx : WX) (e : E) : TT := fun σ H Q => ∃ env S QW XW, envR Γ S H env σ ∧ SR Γ S H ∧ wE C e env S QW XW ∧ KB Γ S H QW Q ∧ KX Γ S H XW (fun cls d H' => Wx cls d σ H')

section
variable {X : Cx} {e : Expr} {es : List Expr}
theorem PEimp {t t' : TE} (h : PE X e t) (k : ∀ σ H Q, t' σ H Q → t σ H Q) : PE X e t' := ⟨fun pins s σ H Q I q => h.run pins s σ H Q I (k σ H Q q)⟩
theorem PTimp {t t' : TT} (h : PT X e t) (k : ∀ σ H Q, t' σ H Q → t σ H Q) : PT X e t' := ⟨fun pins s σ H Q I q => h.run pins s σ H Q I (k σ H Q q)⟩
theorem PWimp {t t' : TT} (h : PW X e t) (k : ∀ σ H Q, t' σ H Q → t σ H Q) : PW X e t' := ⟨fun wh pins s σ H Q I q => h.run wh pins s σ H Q I (k σ H Q q)⟩
theorem PAimp {t t' : TA} (h : PA X es t) (k : ∀ σ H Q, t' σ H Q → t σ H Q) : PA X es t' := ⟨fun pos pins s σ H Q I q => h.run pos pins s σ H Q I (k σ H Q q)⟩
theorem POimp {o : Option Expr} {t t' : TO} (h : PO X o t) (k : ∀ σ H Q, t' σ H Q → t σ H Q) : PO X o t' := ⟨fun pins s σ H Q I q => h.run pins s σ H Q I (k σ H Q q)⟩
theorem PIimp {tg : Expr} {t t' : TI} (h : PI X tg e t) (k : ∀ σ H Q, t' σ H Q → t σ H Q) : PI X tg e t' := ⟨fun pins s σ H Q I q => h.run pins s σ H Q I (k σ H Q q)⟩
theorem PGimp {t t' : TG} (h : PG X e t) (k : ∀ v σ H Q, t' v σ H Q → t v σ H Q) : PG X e t' := ⟨fun pins s σ H v u Q I r q => h.run pins s σ H v u Q I r (k v σ H Q q)⟩
theorem PSimp {st : Stmt} {t t' : TS} (h : PS X st t) (k : ∀ D σ H, t' D σ H → t D σ H) : PS X st t' := ⟨fun pins s σ H D I q => h.run pins s σ H D I (k D σ H q)⟩
theorem PSsimp {st : List Stmt} {t t' : TS} (h : PSs X st t) (k : ∀ D σ H, t' D σ H → t D σ H) : PSs X st t' := ⟨fun pins s σ H D I q => h.run pins s σ H D I (k D σ H q)⟩
end

/-! ### no star, no set -/
def noStar : Expr → Bool
  | .Starred _ _ => false
  | _ => true
theorem star_cons {e : Expr} {es : List Expr} {env : PySem.Env} (h : noStar e = true) : starEach (e :: es) env = (false, eval e env) :: starEach es env := by
  cases e <;> first | rfl | (simp [noStar] at h)
theorem star_any {env : PySem.Env} {pos : Pos} : ∀ {es : List Expr}, es.all noStar = true → (backTo pos (starEach es env)).any (·.1) = false
  | [], _ => rfl
  | e :: es, h => by
    rw [List.all_cons, Bool.and_eq_true] at h
    rw [star_cons h.1]
    show (false || (backTo pos (starEach es env)).any (·.1)) = false
    rw [star_any h.2]; rfl
theorem chE_ok {G : GT} {N : List Str} : ∀ {n : Nat} {sc : Scope} {e : Expr} {e' : E}, chE G N n sc e e' = true → okE e = true
  | 0, _, _, _, h => by simp [chE] at h
  | n + 1, sc, e, e', h => by
    unfold chE at h
    rw [Bool.and_eq_true] at h
    exact h.1
theorem chE_ns {G : GT} {N : List Str} {n : Nat} {sc : Scope} {e : Expr} {e' : E} (h : chE G N n sc e e' = true) : noStar e = true ∧ (∀ l u st p, e ≠ .Slice l u st p) ∧ (∀ es k p, e ≠ .Set es k p) := by
  have h := chE_ok h
  refine ⟨?_, fun _ _ _ _ z => ?_, fun _ _ _ z => ?_⟩
  · cases e <;> first | rfl | (simp [okE] at h)
  · subst z; simp [okE] at h
  · subst z; simp [okE] at h
theorem chL_ns {G : GT} {N : List Str} {n : Nat} {sc : Scope} : ∀ {es : List Expr} {es' : List E}, chL (chE G N n sc) es es' = true → es.all noStar = true
  | [], [], _ => rfl
  | [], _ :: _, _ => rfl
  | _ :: _, [], h => by simp [chL] at h
  | e :: es, e' :: es', h => by
    rw [chL, Bool.and_eq_true] at h
    rw [List.all_cons, (chE_ns h.1).1, chL_ns h.2]; rfl
theorem chL_len {α β : Type} {f : α → β → Bool} : ∀ {es : List α} {es' : List β}, chL f es es' = true → es.length = es'.length
  | [], [], _ => rfl
  | [], _ :: _, h => by simp [chL] at h
  | _ :: _, [], h => by simp [chL] at h
  | e :: es, e' :: es', h => by
    rw [chL, Bool.and_eq_true] at h
    rw [List.length_cons, List.length_cons, chL_len h.2]

section
variable {Γ : Gm} {G : GT} {C : CT} {N : List Str} {sc : Scope} {Wx : WX} {X : Cx}
theorem XO.vis (xo : XO Γ G C N sc Wx X) {x : Str} (h : visB sc x = true) : Vis X.env.scope x := by
  rw [xo.hsc]
  unfold visB at h
  split at h <;> first | exact .inl (by assumption) | exact .inr (.inl (by assumption)) | exact .inr (.inr (by assumption)) | cases h
theorem XO.loc (xo : XO Γ G C N sc Wx X) {x : Str} (h : locB sc x = true) : Loc X.env.scope x := by
  rw [xo.hsc]
  unfold locB at h
  split at h <;> first | exact .inl (by assumption) | exact .inr (by assumption) | cases h
theorem XO.glo (xo : XO Γ G C N sc Wx X) {x : Str} (h : gloB sc x = true) : Gl X x := by
  show X.env.scope.names.lookup x = some .globalImplicit
  rw [xo.hsc]
  unfold gloB at h
  split at h <;> first | assumption | cases h
theorem dbg_of {x : Str} (h : nodbg x = true) : (x == ("__debug__" : Str)) = false ∧ (x == ("__classdict__" : Str)) = false ∧ x ≠ ("__name__" : Str) := by
  unfold nodbg at h
  simp only [Bool.and_eq_true, Bool.not_eq_true'] at h
  exact ⟨h.1.1, h.1.2, fun z => by rw [z] at h; simp at h⟩
theorem bi_of {nm x : Str} (h : biB G sc nm x = true) : x = nm ∧ gloB sc x = true ∧ nodbg x = true ∧ G.bis.contains x = true := by
  unfold biB at h
  simp only [Bool.and_eq_true, beq_iff_eq] at h
  exact ⟨h.1.1.1, h.1.1.2, h.1.2, h.2⟩

/-! ### the parts -/
theorem pa_of (xo : XO Γ G C N sc Wx X) {f : Expr → E → Bool} (hf : ∀ e e', f e e' = true → noStar e = true ∧ PE X e (tE Γ C Wx e')) : ∀ {es : List Expr} {es' : List E}, chL f es es' = true → PA X es (tEs Γ C Wx es')
  | [], [], _ => PAimp pa_nil fun σ H Q ⟨env, S, QW, XW, he, hs, h, k, kx⟩ => by
    have h : QW [] S := by simpa only [wEs] using h
    exact k [] S [] H rfl hs (Fr.refl _ _) h
  | [], _ :: _, h => by simp [chL] at h
  | _ :: _, [], h => by simp [chL] at h
  | e :: es, e' :: es', h => by
    rw [chL, Bool.and_eq_true] at h
    obtain ⟨n1, p1⟩ := hf e e' h.1
    refine PAimp (pa_cons p1 (pa_of xo hf h.2) (star_cons n1)) fun σ H Q ⟨env, S, QW, XW, he, hs, h, k, kx⟩ => ?_
    have h : wE C e' env S (fun w S1 => wEs C es' env S1 (fun ws S2 => QW (w :: ws) S2) XW) XW := by simpa only [wEs] using h
    refine ⟨env, S, _, XW, he, hs, h, fun w S1 v H1 r1 s1 f1 q1 => ?_, kx⟩
    refine ⟨env, S1, _, XW, he.fr f1, s1, q1, fun ws S2 vs H2 r2 s2 f2 q2 => ?_, kx.fr f1⟩
    exact k (w :: ws) S2 (v :: vs) H2 ⟨v, vs, rfl, rep.fr f2 _ _ r1, r2⟩ s2 (f1.trans f2) q2
theorem s_var (xo : XO Γ G C N sc Wx X) {i : Nat} {x : Str} {pos : Pos} (h1 : N[i]? = some x) (h2 : visB sc x = true) (h3 : nodbg x = true) : PE X (.Name x pos) (tE Γ C Wx (.var i)) := by
  obtain ⟨d1, d2, _⟩ := dbg_of h3
  refine PEimp (pe_var (by rw [xo.hN]; exact h1) (xo.vis h2) d1 d2) fun σ H Q ⟨env, S, QW, XW, he, hs, h, k, kx⟩ => ?_
  simp only [wE] at h
  obtain ⟨w, q, h⟩ := wVar_el h
  obtain ⟨v, e1, r⟩ := he.2 i w q
  exact ⟨v, e1, k.here hs r h⟩
theorem s_cst {w : W} {v : V} {e : Expr} (p : PE X e (tC v)) (r : ∀ S H, rep Γ S H w v) : PE X e (tE Γ C Wx (.cst w)) :=
  PEimp p fun σ H Q ⟨env, S, QW, XW, he, hs, h, k, kx⟩ => k.here hs (r S H) (by simpa only [wE] using h)
theorem s_tup {es : List Expr} {es' : List E} {k0 : Nat} {pos : Pos} (p : PA X es (tEs Γ C Wx es')) : PE X (.Tuple es k0 pos) (tE Γ C Wx (.tup es')) := by
  refine PEimp (pe_tup p) fun σ H Q ⟨env, S, QW, XW, he, hs, h, k, kx⟩ => ?_
  simp only [wE] at h
  refine ⟨env, S, _, XW, he, hs, h, fun ws S1 vs H1 r1 s1 f1 q1 => ⟨by rw [← r1.len]; exact q1.1, tup_ok q1.2 r1 s1 (k.fr f1)⟩, kx⟩
theorem s_lst {es : List Expr} {es' : List E} {fz : Bool} {pos : Pos} (p : PA X es (tEs Γ C Wx es')) : PE X (.List es pos) (tE Γ C Wx (.lst fz es')) := by
  refine PEimp (pe_lst p) fun σ H Q ⟨env, S, QW, XW, he, hs, h, k, kx⟩ => ?_
  simp only [wE] at h
  refine ⟨env, S, _, XW, he, hs, h, fun ws S1 vs H1 r1 s1 f1 q1 => ⟨by rw [← r1.len]; exact q1.1, mkL_ok q1.2 r1 s1 (k.fr f1)⟩, kx⟩
/-- two parts, then what is made of their values -/
theorem two_of {a b : E} {σ : L2.St} {H : Hp} {env : Env} {S : Sto} {XW : XQ} {R : W → W → Sto → Prop} {Q : V → V → Hp → Prop} (he : envR Γ S H env σ) (hs : SR Γ S H)
    (h : wE C a env S (fun x S1 => wE C b env S1 (fun y S2 => R x y S2) XW) XW) (kx : KX Γ S H XW (fun cls d H' => Wx cls d σ H'))
    (k : ∀ x y S2 v u H2, rep Γ S2 H2 x v → rep Γ S2 H2 y u → SR Γ S2 H2 → Fr S H S2 H2 → R x y S2 → Q v u H2) :
    tE Γ C Wx a σ H fun v H1 => tE Γ C Wx b σ H1 fun u H2 => Q v u H2 :=
  ⟨env, S, _, XW, he, hs, h, fun x S1 v H1 r1 s1 f1 q1 => ⟨env, S1, _, XW, he.fr f1, s1, q1, fun y S2 u H2 r2 s2 f2 q2 => k x y S2 v u H2 (rep.fr f2 _ _ r1) r2 s2 (f1.trans f2) q2, kx.fr f1⟩, kx⟩
theorem s_bin (xo : XO Γ G C N sc Wx X) {o : BOp} {x y : Expr} {a b : E} {pos : Pos} (pa : PE X x (tE Γ C Wx a)) (pb : PE X y (tE Γ C Wx b)) : PE X (.BinOp x (bopOf o) y pos) (tE Γ C Wx (.bin o a b)) := by
  refine PEimp (pe_op (op_B xo.hK o) pa pb) fun σ H Q ⟨env, S, QW, XW, he, hs, h, k, kx⟩ => ?_
  simp only [wE] at h
  exact two_of he hs h kx fun x y S2 v u H2 r1 r2 s2 f2 q => ⟨x, y, S2, QW, r1, r2, s2, q, k.fr f2⟩
theorem nomark' {o : COp} {e : Expr} (h : ∀ es k p, e ≠ .Set es k p) : behindInMarks (copOf o) e = false := by
  cases e <;> first | rfl | exact absurd rfl (h _ _ _)
theorem s_cmp (xo : XO Γ G C N sc Wx X) {o : COp} {x y : Expr} {a b : E} {pos : Pos} (pa : PE X x (tE Γ C Wx a)) (pb : PE X y (tE Γ C Wx b)) (ny : ∀ es k p, y ≠ .Set es k p) : PE X (.Compare x [copOf o] [y] pos) (tE Γ C Wx (.cmp o a b)) := by
  refine PEimp (pe_cmpR (op_C xo.hK xo.un o) pa pb (nomark' ny)) fun σ H Q ⟨env, S, QW, XW, he, hs, h, k, kx⟩ => ?_
  simp only [wE] at h
  exact two_of he hs h kx fun x y S2 v u H2 r1 r2 s2 f2 q => ⟨x, y, S2, QW, r1, r2, s2, q, k.fr f2⟩
theorem KB.q {S : Sto} {H : Hp} {QW : VQ} {Q : Bool → Hp → Prop} (k : KB Γ S H QW Q) : KQ Γ S H QW fun x H1 => ∃ c, x = .bl c ∧ Q c H1 := fun w S' v H' r s f q => by
  obtain ⟨b, rfl, q2⟩ := k w S' H' s f q
  exact ⟨b, r, q2⟩
theorem KB.fr {S S' : Sto} {H H' : Hp} {QW : VQ} {Q : Bool → Hp → Prop} (f : Fr S H S' H') (k : KB Γ S H QW Q) : KB Γ S' H' QW Q := fun w S2 H2 s f2 q => k w S2 H2 s (f.trans f2) q
theorem t_cmp (xo : XO Γ G C N sc Wx X) {o : COp} {x y : Expr} {a b : E} {pos : Pos} (pa : PE X x (tE Γ C Wx a)) (pb : PE X y (tE Γ C Wx b)) (ny : ∀ es k p, y ≠ .Set es k p) : PT X (.Compare x [copOf o] [y] pos) (tT Γ C Wx (.cmp o a b)) := by
  refine PTimp (pt_cmpR (op_C xo.hK xo.un o) pa pb (nomark' ny)) fun σ H Q ⟨env, S, QW, XW, he, hs, h, k, kx⟩ => ?_
  simp only [wE] at h
  exact two_of he hs h kx fun x y S2 v u H2 r1 r2 s2 f2 q => ⟨x, y, S2, QW, r1, r2, s2, q, (KB.q k).fr f2⟩
/-- a plain test -/
def plainT : Expr → Bool
  | .UnaryOp .Not _ _ => false
  | .BoolOp _ _ _ => false
  | .IfExp _ _ _ _ => false
  | .Compare _ _ _ _ => false
  | _ => true
theorem t_plain {e : Expr} {e' : E} (p : PE X e (tE Γ C Wx e')) (h : plainT e = true) : PT X e (tT Γ C Wx e') := by
  refine PTimp (pt_val p ?_) fun σ H Q ⟨env, S, QW, XW, he, hs, h, k, kx⟩ => ⟨env, S, QW, XW, he, hs, h, k.q, kx⟩
  intro whole
  cases e with
  | UnaryOp op x pos => cases op <;> first | rfl | (simp [plainT] at h)
  | _ => first | rfl | (simp [plainT] at h)
theorem tE_bl {e : E} {σ : L2.St} {H : Hp} {Q : Bool → Hp → Prop} (h : tT Γ C Wx e σ H Q) : tE Γ C Wx e σ H fun x H1 => ∃ c, x = .bl c ∧ Q c H1 := by
  obtain ⟨env, S, QW, XW, he, hs, h, k, kx⟩ := h
  exact ⟨env, S, QW, XW, he, hs, h, k.q, kx⟩
end
end Bw

/-! Ev9: the other expressions. -/
namespace Bw
open PySem L2 PySem.Spec PyProof.Rows
section
variable {Γ : Gm} {G : GT} {C : CT} {N : List Str} {sc : Scope} {Wx : WX} {X : Cx}

theorem chain_of (xo : XO Γ G C N sc Wx X) {o o' : COp} {a b c : E} {σ : L2.St} {H : Hp} {Q : V → Hp → Prop} (hq : tE Γ C Wx (.chain o o' a b c) σ H Q) :
    tChain (rC Γ o) (rC Γ o') (tE Γ C Wx a) (tE Γ C Wx b) (tE Γ C Wx c) σ H Q := by
  obtain ⟨env, S, QW, XW, he, hs, h, k, kx⟩ := hq
  simp only [wE] at h
  refine ⟨env, S, _, XW, he, hs, h, fun x S1 v H1 r1 s1 f1 q1 => ?_, kx⟩
  refine ⟨env, S1, _, XW, he.fr f1, s1, q1, fun y S2 u H2 r2 s2 f2 q2 => ?_, kx.fr f1⟩
  refine ⟨x, y, S2, _, rep.fr f2 _ _ r1, r2, s2, q2, fun z S3 t H3 r3 s3 f3 q3 => ?_⟩
  rcases wB_el q3 with ⟨rfl, q3⟩ | ⟨rfl, q3⟩
  · cases r3
    refine ⟨true, rfl, ?_⟩
    refine iteT ?_
    refine ⟨env, S3, _, XW, he.fr (f1.trans (f2.trans f3)), s3, q3, fun z S4 t H4 r4 s4 f4 q4 => ?_, kx.fr (f1.trans (f2.trans f3))⟩
    exact ⟨y, z, S4, QW, rep.fr (f3.trans f4) _ _ r2, r4, s4, q4, k.fr (f1.trans (f2.trans (f3.trans f4)))⟩
  · cases r3
    refine ⟨false, rfl, ?_⟩
    refine iteF ?_
    exact k (.bl false) S3 (.bl false) H3 rfl s3 (f1.trans (f2.trans f3)) q3
theorem s_chain (xo : XO Γ G C N sc Wx X) {o o' : COp} {x y z : Expr} {a b c : E} {pos : Pos} (pa : PE X x (tE Γ C Wx a)) (pb : PE X y (tE Γ C Wx b)) (pc : PE X z (tE Γ C Wx c)) (ny : ∀ es k p, y ≠ .Set es k p) (nz : ∀ es k p, z ≠ .Set es k p) :
    PE X (.Compare x [copOf o, copOf o'] [y, z] pos) (tE Γ C Wx (.chain o o' a b c)) :=
  PEimp (pe_chain (op_C xo.hK xo.un o) (op_C xo.hK xo.un o') pa pb pc (nomark' nz)) fun σ H Q hq => chain_of xo hq
theorem t_chain (xo : XO Γ G C N sc Wx X) {o o' : COp} {x y z : Expr} {a b c : E} {pos : Pos} (pa : PE X x (tE Γ C Wx a)) (pb : PE X y (tE Γ C Wx b)) (pc : PE X z (tE Γ C Wx c)) (ny : ∀ es k p, y ≠ .Set es k p) (nz : ∀ es k p, z ≠ .Set es k p) :
    PT X (.Compare x [copOf o, copOf o'] [y, z] pos) (tT Γ C Wx (.chain o o' a b c)) :=
  PTimp (pt_chain (op_C xo.hK xo.un o) (op_C xo.hK xo.un o') pa pb pc (nomark' nz)) fun σ H Q hq => chain_of xo (tE_bl hq)
def isNon : W → Bool
  | .non => true
  | _ => false
theorem isN_rep {S : Sto} {H : Hp} {x : W} {v : V} (r : rep Γ S H x v) : decide (v = .non) = isNon x := by
  cases x with
  | non => cases r; rfl
  | bl _ => cases r; rfl
  | int _ => cases r; rfl
  | str _ => obtain ⟨rfl, _⟩ := r; rfl
  | tup _ => obtain ⟨a, vs, rfl, _⟩ := r; rfl
  | rl _ => obtain ⟨a, vs, rfl, _⟩ := r; rfl
  | sc _ => obtain ⟨a, vs, rfl, _⟩ := r; rfl
  | ref _ => cases r; rfl
  | fn _ => cases r; rfl
  | dct _ _ => obtain ⟨a, vs, rfl, _⟩ := r; rfl
  | obj _ _ _ => obtain ⟨a, dx, vs, rfl, _⟩ := r; rfl
  | exn _ _ _ => obtain ⟨a, d, vs, rfl, _⟩ := r; rfl
theorem isN_of {neg : Bool} {a : E} {σ : L2.St} {H : Hp} {Q : V → Hp → Prop} (hq : tE Γ C Wx (.isN neg a) σ H Q) :
    tE Γ C Wx a σ H fun x H1 => Q (.bl (if neg = true then !decide (x = .non) else decide (x = .non))) H1 := by
  obtain ⟨env, S, QW, XW, he, hs, h, k, kx⟩ := hq
  simp only [wE] at h
  refine ⟨env, S, _, XW, he, hs, h, fun x S1 v H1 r1 s1 f1 q1 => ?_, kx⟩
  dsimp only at q1 ⊢
  rw [isN_rep r1]
  have q2 : QW (.bl (if neg = true then !isNon x else isNon x)) S1 := by
    cases x <;> cases neg <;> exact q1
  exact k (.bl (if neg = true then !isNon x else isNon x)) S1 _ H1 rfl s1 f1 q2
theorem s_isN (xo : XO Γ G C N sc Wx X) {neg : Bool} {x : Expr} {a : E} {pos : Pos} {j p} (pa : PE X x (tE Γ C Wx a)) : PE X (.Compare x [if neg = true then .IsNot else .Is] [.Constant .none j p] pos) (tE Γ C Wx (.isN neg a)) := by
  cases neg
  · exact PEimp (pe_cmp (pc_isN pa) rfl) fun σ H Q hq => isN_of hq
  · exact PEimp (pe_cmp (pc_notN pa) rfl) fun σ H Q hq => isN_of hq
theorem t_isN (xo : XO Γ G C N sc Wx X) {neg : Bool} {x : Expr} {a : E} {pos : Pos} {j p} (pa : PE X x (tE Γ C Wx a)) : PT X (.Compare x [if neg = true then .IsNot else .Is] [.Constant .none j p] pos) (tT Γ C Wx (.isN neg a)) := by
  cases neg
  · exact PTimp (pt_cmp (pc_isN pa) rfl) fun σ H Q hq => isN_of (tE_bl hq)
  · exact PTimp (pt_cmp (pc_notN pa) rfl) fun σ H Q hq => isN_of (tE_bl hq)

/-! ### and, or, not -/
theorem s_and {f : Expr → E → Bool} (hf : ∀ e e', f e e' = true → PE X e (tE Γ C Wx e')) {pos : Pos} : ∀ {es : List Expr} {es' : List E}, chL f es es' = true → es' ≠ [] → PE X (.BoolOp .And es pos) (tE Γ C Wx (.and es'))
  | [], es', h, n => by cases es' with | nil => exact absurd rfl n | cons _ _ => simp [chL] at h
  | _ :: _, [], h, n => absurd rfl n
  | [e], [e'], h, _ => by
    rw [chL, Bool.and_eq_true] at h
    refine PEimp (pe_one (hf _ _ h.1)) fun σ H Q ⟨env, S, QW, XW, he, hs, h, k, kx⟩ => ⟨env, S, QW, XW, he, hs, by simpa only [wE, wAnd] using h, k, kx⟩
  | e :: e2 :: es, [e'], h, _ => by simp [chL] at h
  | [e], e' :: e2' :: es', h, _ => by simp [chL] at h
  | e :: e2 :: es, e' :: e2' :: es', h, _ => by
    rw [chL, Bool.and_eq_true] at h
    refine PEimp (pe_and (hf _ _ h.1) (s_and hf h.2 (by simp))) fun σ H Q ⟨env, S, QW, XW, he, hs, h, k, kx⟩ => ?_
    simp only [wE, wAnd] at h
    refine ⟨env, S, _, XW, he, hs, h, fun x S1 v H1 r1 s1 f1 q1 => ?_, kx⟩
    rcases wB_el q1 with ⟨rfl, q1⟩ | ⟨rfl, q1⟩
    · cases r1
      refine ⟨true, rfl, ?_⟩
      refine iteT ?_
      exact ⟨env, S1, QW, XW, he.fr f1, s1, by simpa only [wE, wB] using q1, k.fr f1, kx.fr f1⟩
    · cases r1
      refine ⟨false, rfl, ?_⟩
      refine iteF ?_
      exact k (.bl false) S1 (.bl false) H1 rfl s1 f1 q1
theorem s_or {f : Expr → E → Bool} (hf : ∀ e e', f e e' = true → PE X e (tE Γ C Wx e')) {pos : Pos} : ∀ {es : List Expr} {es' : List E}, chL f es es' = true → es' ≠ [] → PE X (.BoolOp .Or es pos) (tE Γ C Wx (.or es'))
  | [], es', h, n => by cases es' with | nil => exact absurd rfl n | cons _ _ => simp [chL] at h
  | _ :: _, [], h, n => absurd rfl n
  | [e], [e'], h, _ => by
    rw [chL, Bool.and_eq_true] at h
    refine PEimp (pe_one (hf _ _ h.1)) fun σ H Q ⟨env, S, QW, XW, he, hs, h, k, kx⟩ => ⟨env, S, QW, XW, he, hs, by simpa only [wE, wOr] using h, k, kx⟩
  | e :: e2 :: es, [e'], h, _ => by simp [chL] at h
  | [e], e' :: e2' :: es', h, _ => by simp [chL] at h
  | e :: e2 :: es, e' :: e2' :: es', h, _ => by
    rw [chL, Bool.and_eq_true] at h
    refine PEimp (pe_or (hf _ _ h.1) (s_or hf h.2 (by simp))) fun σ H Q ⟨env, S, QW, XW, he, hs, h, k, kx⟩ => ?_
    simp only [wE, wOr] at h
    refine ⟨env, S, _, XW, he, hs, h, fun x S1 v H1 r1 s1 f1 q1 => ?_, kx⟩
    rcases wB_el q1 with ⟨rfl, q1⟩ | ⟨rfl, q1⟩
    · cases r1
      refine ⟨true, rfl, ?_⟩
      refine iteT ?_
      exact k (.bl true) S1 (.bl true) H1 rfl s1 f1 q1
    · cases r1
      refine ⟨false, rfl, ?_⟩
      refine iteF ?_
      exact ⟨env, S1, QW, XW, he.fr f1, s1, by simpa only [wE, wB] using q1, k.fr f1, kx.fr f1⟩
theorem w_and {f : Expr → E → Bool} (hf : ∀ e e', f e e' = true → PT X e (tT Γ C Wx e')) {pos : Pos} : ∀ {es : List Expr} {es' : List E}, chL f es es' = true → es' ≠ [] → PW X (.BoolOp .And es pos) (tT Γ C Wx (.and es'))
  | [], es', h, n => by cases es' with | nil => exact absurd rfl n | cons _ _ => simp [chL] at h
  | _ :: _, [], h, n => absurd rfl n
  | [e], [e'], h, _ => by
    rw [chL, Bool.and_eq_true] at h
    refine PWimp (pw_and1 (hf _ _ h.1)) fun σ H Q ⟨env, S, QW, XW, he, hs, h, k, kx⟩ => ⟨env, S, QW, XW, he, hs, by simpa only [wE, wAnd] using h, k, kx⟩
  | e :: e2 :: es, [e'], h, _ => by simp [chL] at h
  | [e], e' :: e2' :: es', h, _ => by simp [chL] at h
  | e :: e2 :: es, e' :: e2' :: es', h, _ => by
    rw [chL, Bool.and_eq_true] at h
    refine PWimp (pw_and (hf _ _ h.1) (w_and hf h.2 (by simp))) fun σ H Q ⟨env, S, QW, XW, he, hs, h, k, kx⟩ => ?_
    simp only [wE, wAnd] at h
    refine ⟨env, S, _, XW, he, hs, h, fun x S1 H1 s1 f1 q1 => ?_, kx⟩
    rcases wB_el q1 with ⟨rfl, q1⟩ | ⟨rfl, q1⟩
    · refine ⟨true, rfl, ?_⟩
      refine iteT ?_
      exact ⟨env, S1, QW, XW, he.fr f1, s1, by simpa only [wE, wB] using q1, k.fr f1, kx.fr f1⟩
    · refine ⟨false, rfl, ?_⟩
      refine iteF ?_
      obtain ⟨b, e, q⟩ := k (.bl false) S1 H1 s1 f1 q1
      cases e
      exact q
theorem w_or {f : Expr → E → Bool} (hf : ∀ e e', f e e' = true → PT X e (tT Γ C Wx e')) {pos : Pos} : ∀ {es : List Expr} {es' : List E}, chL f es es' = true → es' ≠ [] → PW X (.BoolOp .Or es pos) (tT Γ C Wx (.or es'))
  | [], es', h, n => by cases es' with | nil => exact absurd rfl n | cons _ _ => simp [chL] at h
  | _ :: _, [], h, n => absurd rfl n
  | [e], [e'], h, _ => by
    rw [chL, Bool.and_eq_true] at h
    refine PWimp (pw_or1 (hf _ _ h.1)) fun σ H Q ⟨env, S, QW, XW, he, hs, h, k, kx⟩ => ⟨env, S, QW, XW, he, hs, by simpa only [wE, wOr] using h, k, kx⟩
  | e :: e2 :: es, [e'], h, _ => by simp [chL] at h
  | [e], e' :: e2' :: es', h, _ => by simp [chL] at h
  | e :: e2 :: es, e' :: e2' :: es', h, _ => by
    rw [chL, Bool.and_eq_true] at h
    refine PWimp (pw_or (hf _ _ h.1) (w_or hf h.2 (by simp))) fun σ H Q ⟨env, S, QW, XW, he, hs, h, k, kx⟩ => ?_
    simp only [wE, wOr] at h
    refine ⟨env, S, _, XW, he, hs, h, fun x S1 H1 s1 f1 q1 => ?_, kx⟩
    rcases wB_el q1 with ⟨rfl, q1⟩ | ⟨rfl, q1⟩
    · refine ⟨true, rfl, ?_⟩
      refine iteT ?_
      obtain ⟨b, e, q⟩ := k (.bl true) S1 H1 s1 f1 q1
      cases e
      exact q
    · refine ⟨false, rfl, ?_⟩
      refine iteF ?_
      exact ⟨env, S1, QW, XW, he.fr f1, s1, by simpa only [wE, wB] using q1, k.fr f1, kx.fr f1⟩
theorem s_not {x : Expr} {a : E} {pos : Pos} (pa : PE X x (tE Γ C Wx a)) : PE X (.UnaryOp .Not x pos) (tE Γ C Wx (.not a)) := by
  refine PEimp (pe_not pa) fun σ H Q ⟨env, S, QW, XW, he, hs, h, k, kx⟩ => ?_
  simp only [wE] at h
  refine ⟨env, S, _, XW, he, hs, h, fun x S1 v H1 r1 s1 f1 q1 => ?_, kx⟩
  obtain ⟨b, rfl, q1⟩ := wNot_el q1
  cases r1
  exact ⟨_, rfl, k (.bl _) S1 (.bl _) H1 rfl s1 f1 q1⟩
theorem t_not {x : Expr} {a : E} {pos : Pos} (pa : PT X x (tT Γ C Wx a)) : PT X (.UnaryOp .Not x pos) (tT Γ C Wx (.not a)) := by
  refine PTimp (pt_not pa) fun σ H Q ⟨env, S, QW, XW, he, hs, h, k, kx⟩ => ?_
  simp only [wE] at h
  refine ⟨env, S, _, XW, he, hs, h, fun x S1 H1 s1 f1 q1 => ?_, kx⟩
  obtain ⟨b, rfl, q1⟩ := wNot_el q1
  obtain ⟨b, e, q⟩ := k (.bl _) S1 H1 s1 f1 q1
  cases e
  exact ⟨_, rfl, q⟩
theorem s_neg {x : Expr} {a : E} {pos : Pos} (pa : PE X x (tE Γ C Wx a)) : PE X (.UnaryOp .USub x pos) (tE Γ C Wx (.neg a)) := by
  refine PEimp (pe_un un_neg pa) fun σ H Q ⟨env, S, QW, XW, he, hs, h, k, kx⟩ => ?_
  simp only [wE] at h
  refine ⟨env, S, _, XW, he, hs, h, fun x S1 v H1 r1 s1 f1 q1 => ?_, kx⟩
  obtain ⟨i, rfl, q1⟩ := wI1_el q1
  cases r1
  exact ⟨_, rfl, k (.int _) S1 (.int _) H1 rfl s1 f1 q1⟩
theorem s_ite {z x y : Expr} {c a b : E} {pos : Pos} (pz : PT X z (tT Γ C Wx c)) (pa : PE X x (tE Γ C Wx a)) (pb : PE X y (tE Γ C Wx b)) : PE X (.IfExp z x y pos) (tE Γ C Wx (.ite c a b)) := by
  refine PEimp (pe_ifExp pz pa pb) fun σ H Q ⟨env, S, QW, XW, he, hs, h, k, kx⟩ => ?_
  simp only [wE] at h
  refine ⟨env, S, _, XW, he, hs, h, fun x S1 H1 s1 f1 q1 => ?_, kx⟩
  rcases wB_el q1 with ⟨rfl, q1⟩ | ⟨rfl, q1⟩
  · refine ⟨true, rfl, ?_⟩
    refine iteT ?_
    exact ⟨env, S1, QW, XW, he.fr f1, s1, q1, k.fr f1, kx.fr f1⟩
  · refine ⟨false, rfl, ?_⟩
    refine iteF ?_
    exact ⟨env, S1, QW, XW, he.fr f1, s1, q1, k.fr f1, kx.fr f1⟩

/-! ### subscripts -/
theorem plainIx_of {b : Expr} (h : ∀ l u st p, b ≠ .Slice l u st p) : PlainIx b := by
  intro o i
  cases b <;> first | rfl | exact absurd rfl (h _ _ _ _)
theorem s_idx (xo : XO Γ G C N sc Wx X) {x y : Expr} {a i : E} {pos : Pos} (pa : PE X x (tE Γ C Wx a)) (pb : PE X y (tE Γ C Wx i)) (ny : ∀ l u st p, y ≠ .Slice l u st p) : PE X (.Subscript x y pos) (tE Γ C Wx (.idx a i)) := by
  refine PEimp (pe_ix (ix_W xo.hK xo.un) pa pb (plainIx_of ny)) fun σ H Q ⟨env, S, QW, XW, he, hs, h, k, kx⟩ => ?_
  simp only [wE] at h
  exact two_of he hs h kx fun x y S2 v u H2 r1 r2 s2 f2 q => ⟨x, y, S2, QW, r1, r2, s2, q, k.fr f2⟩
def tO (Γ : Gm) (C : CT) (Wx : WX) (es : List E) : TO := fun σ H Q => ∃ env S QW XW, envR Γ S H env σ ∧ SR Γ S H ∧ wEs C es env S QW XW ∧ (∀ ws S' H', SR Γ S' H' → Fr S H S' H' → QW ws S' → ∃ o, optInt ws = some o ∧ Q o H') ∧ KX Γ S H XW (fun cls d H' => Wx cls d σ H')
theorem po_of {f : Expr → E → Bool} (hf : ∀ e e', f e e' = true → PE X e (tE Γ C Wx e')) : ∀ {o : Option Expr} {es : List E}, chO f o es = true → PO X o (tO Γ C Wx es)
  | none, [], _ => POimp po_none fun σ H Q ⟨env, S, QW, XW, he, hs, h, k, kx⟩ => by
    simp only [wEs] at h
    obtain ⟨o, e, q⟩ := k [] S H hs (Fr.refl _ _) h
    cases e
    exact q
  | none, _ :: _, h => by simp [chO] at h
  | some e, [], h => by simp [chO] at h
  | some e, [e'], h => POimp (po_some (hf e e' h)) fun σ H Q ⟨env, S, QW, XW, he, hs, h, k, kx⟩ => by
    simp only [wEs] at h
    refine ⟨env, S, _, XW, he, hs, h, fun x S1 v H1 r1 s1 f1 q1 => ?_, kx⟩
    obtain ⟨o, e, q⟩ := k [x] S1 H1 s1 f1 q1
    cases x with
    | int i =>
      cases r1
      cases e
      exact ⟨i, rfl, q⟩
    | _ => simp [optInt] at e
  | some e, _ :: _ :: _, h => by simp [chO] at h
theorem wSl_opt {fz : Bool} {x : W} {l h : List W} {S : Sto} {Q : VQ} (q : wSl fz x l h S Q) : ∃ lo hi, optInt l = some lo ∧ optInt h = some hi := by
  unfold wSl at q
  split at q
  · exact ⟨_, _, by assumption, by assumption⟩
  · exact q.elim
theorem s_sl (xo : XO Γ G C N sc Wx X) {f : Expr → E → Bool} (hf : ∀ e e', f e e' = true → PE X e (tE Γ C Wx e')) {x : Expr} {l h : Option Expr} {a : E} {lo hi : List E} {fz : Bool} {p pos : Pos} (pa : PE X x (tE Γ C Wx a)) (pl : chO f l lo = true) (ph : chO f h hi = true) :
    PE X (.Subscript x (.Slice l h none p) pos) (tE Γ C Wx (.sl fz a lo hi)) := by
  refine PEimp (pe_slice (sl_W xo.hK fz) pa (po_of hf pl) (po_of hf ph)) fun σ H Q ⟨env, S, QW, XW, he, hs, h, k, kx⟩ => ?_
  simp only [wE] at h
  refine ⟨env, S, _, XW, he, hs, h, fun x S1 v H1 r1 s1 f1 q1 => ?_, kx⟩
  dsimp only at q1
  refine ⟨env, S1, _, XW, he.fr f1, s1, q1, fun l S2 H2 s2 f2 q2 => ?_, kx.fr f1⟩
  cases e1 : optInt l with
  | none => rw [e1] at q2; exact absurd q2.1 (by simp)
  | some o1 =>
    refine ⟨o1, rfl, env, S2, _, XW, he.fr (f1.trans f2), s2, q2.2, fun h S3 H3 s3 f3 q3 => ?_, kx.fr (f1.trans f2)⟩
    obtain ⟨o2, o3, e2, e3⟩ := wSl_opt q3
    exact ⟨o3, e3, x, S3, QW, rep.fr (f2.trans f3) _ _ r1, s3, ⟨l, h, e1, e3, q3⟩, k.fr (f1.trans (f2.trans f3))⟩
end
end Bw

/-! Ev10: calls, built-ins, comprehensions; every expression that the checker takes. -/
namespace Bw
open PySem L2 PySem.Spec PyProof.Rows
theorem vals_ints_hold {h : Heap} : ∀ {ns : List Int} {us : List Value}, Vals (ns.map V.int) us → PySem.W.HoldAll h us ns
  | [], _, r => by cases r; exact PySem.W.HoldAll.nil
  | n :: ns, _, r => by
    cases r with
    | cons q t =>
      obtain ⟨tk, rfl⟩ := q
      exact .cons (PySem.W.holds_int n tk) (vals_ints_hold t)
theorem maxOf_L : ∀ (ys : List Int) (y : Int), PySem.W.maxOf y ys = maxL (y :: ys)
  | [], y => rfl
  | z :: ys, y => by
    show PySem.W.maxOf (if decide (y < z) = true then z else y) ys = max y (maxL (z :: ys))
    rw [maxOf_L ys]
    cases ys with
    | nil => show (if decide (y < z) = true then z else y) = max y z; simp only [decide_eq_true_eq]; omega
    | cons u us =>
      show max (if decide (y < z) = true then z else y) (maxL (u :: us)) = max y (max z (maxL (u :: us)))
      simp only [decide_eq_true_eq]
      omega
section
variable {Γ : Gm} {G : GT} {C : CT} {N : List Str} {sc : Scope} {Wx : WX} {X : Cx}
theorem s_call (xo : XO Γ G C N sc Wx X) (nh : G.hot = false) {x : Str} {f n : Nat} {es : List Expr} {es' : List E} {p pos : Pos} (h1 : gloB sc x = true) (h2 : nodbg x = true) (h3 : (x, f, n) ∈ G.fns) (h4 : es ≠ []) (hn : es.all noStar = true) (pa : PA X es (tEs Γ C Wx es')) :
    PE X (.Call (.Name x p) es [] pos) (tE Γ C Wx (.call f es')) := by
  obtain ⟨k, fd, ps, F, hr, hk, hb, _⟩ := xo.fn x f _ nh h3
  have hm := xo.fnv x f _ h3
  cases es with
  | nil => exact absurd rfl h4
  | cons e es =>
    rw [List.all_cons, Bool.and_eq_true] at hn
    refine PEimp (pe_callS (E := WE Wx) F hr (xo.glo h1) hm hk hb (passAt xo.tk) pa (dbg_of h2).1 (star_cons hn.1) (star_any hn.2)) fun σ H Q ⟨env, S, QW, XW, he, hs, h, k, kx⟩ => ?_
    simp only [wE] at h
    exact ⟨env, S, _, XW, he, hs, h, fun ws S1 vs H1 r1 s1 f1 q1 => ⟨ws, S1, QW, XW, r1, s1, q1, k.fr f1, kx.fr f1⟩, kx⟩
theorem s_callD (xo : XO Γ G C N sc Wx X) (nh : G.hot = false) {x : Str} {f n : Nat} {es : List Expr} {es' : List E} {ds ws : List W} {p pos : Pos} (h1 : gloB sc x = true) (h2 : nodbg x = true) (h3 : (x, f, n) ∈ G.fns) (h4 : es ≠ []) (hd : G.dfl.lookup x = some ws) (hl : ds.length ≤ ws.length)
    (he : ws.drop (ws.length - ds.length) = ds) (hn : es.all noStar = true) (pa : PA X es (tEs Γ C Wx es')) : PE X (.Call (.Name x p) es [] pos) (tE Γ C Wx (.callD f es' ds)) := by
  obtain ⟨k, fd, ps, F, hr, hk, _, hb⟩ := xo.fn x f _ nh h3
  obtain ⟨dvs, dv, hb, hdv, hrep⟩ := hb ws hd ds.length hl
  rw [he] at hrep
  have hm := xo.fnv x f _ h3
  cases es with
  | nil => exact absurd rfl h4
  | cons e es =>
    rw [List.all_cons, Bool.and_eq_true] at hn
    refine PEimp (pe_callD (E := WE Wx) F hr (xo.glo h1) hm hk hb hdv (passAt xo.tk) pa (dbg_of h2).1 (star_cons hn.1) (star_any hn.2)) fun σ H Q ⟨env, S, QW, XW, he, hs, h, k, kx⟩ => ?_
    simp only [wE] at h
    exact ⟨env, S, _, XW, he, hs, h, fun ws S1 vs H1 r1 s1 f1 q1 => ⟨ws ++ ds, S1, QW, XW, r1.app (hrep S1 H1), s1, q1, k.fr f1, kx.fr f1⟩, kx⟩
theorem bi_imp {b : Bi} {es' : List E} {σ : L2.St} {H : Hp} {Q : VK} (hq : tE Γ C Wx (.bi b es') σ H Q) : tCB (rBi Γ b) (tEs Γ C Wx es') σ H Q := by
  obtain ⟨env, S, QW, XW, he, hs, h, k, kx⟩ := hq
  simp only [wE] at h
  exact ⟨env, S, _, XW, he, hs, h, fun ws S1 vs H1 r1 s1 f1 q1 => ⟨ws, S1, QW, r1, s1, q1, k.fr f1⟩, kx⟩
theorem s_bi (xo : XO Γ G C N sc Wx X) {b : Bi} {x : Str} {es : List Expr} {es' : List E} {p pos : Pos} (h1 : biB G sc (nameB b) x = true) (hh : (!G.hot || coolB b) = true) (h4 : es ≠ []) (hb : fnB b ≠ .none) (hn : es.all noStar = true) (pa : PA X es (tEs Γ C Wx es')) :
    PE X (.Call (.Name x p) es [] pos) (tE Γ C Wx (.bi b es')) := by
  obtain ⟨e1, g, d, m⟩ := bi_of h1
  subst e1
  have hm := xo.bi _ m
  obtain ⟨d1, d2, d3⟩ := dbg_of d
  cases es with
  | nil => exact absurd rfl h4
  | cons e es =>
    rw [List.all_cons, Bool.and_eq_true] at hn
    have cr := call_Bi (X := X) xo.hK b (fun z => xo.calm (by rw [z, Bool.or_false] at hh; simpa using hh)) hb
    have n1 := star_cons (env := X.env) (es := es) hn.1
    have n2 := star_any (env := X.env) (pos := pos) hn.2
    cases b with
    | len => exact PEimp (pe_callB cr (xo.glo g) hm PySem.boot_len pa d3 d1 n1 n2) fun σ H Q hq => bi_imp hq
    | int1 => exact PEimp (pe_callTy cr (xo.glo g) hm boot_int pa d3 d1 n1 n2) fun σ H Q hq => bi_imp hq
    | str1 => exact PEimp (pe_callTy cr (xo.glo g) hm (by decide +kernel) pa d3 d1 n1 n2) fun σ H Q hq => bi_imp hq
    | abs => exact PEimp (pe_callB cr (xo.glo g) hm boot_abs pa d3 d1 n1 n2) fun σ H Q hq => bi_imp hq
    | max2 => exact PEimp (pe_callB cr (xo.glo g) hm boot_max pa d3 d1 n1 n2) fun σ H Q hq => bi_imp hq
    | max3 => exact PEimp (pe_callB cr (xo.glo g) hm boot_max pa d3 d1 n1 n2) fun σ H Q hq => bi_imp hq
    | min2 => exact PEimp (pe_callB cr (xo.glo g) hm boot_min pa d3 d1 n1 n2) fun σ H Q hq => bi_imp hq
    | max1 => exact PEimp (pe_callB cr (xo.glo g) hm boot_max pa d3 d1 n1 n2) fun σ H Q hq => bi_imp hq
    | min1 => exact PEimp (pe_callB cr (xo.glo g) hm boot_min pa d3 d1 n1 n2) fun σ H Q hq => bi_imp hq
    | sum1 => exact PEimp (pe_callB cr (xo.glo g) hm boot_sum pa d3 d1 n1 n2) fun σ H Q hq => bi_imp hq
    | all1 => exact PEimp (pe_callB cr (xo.glo g) hm boot_all pa d3 d1 n1 n2) fun σ H Q hq => bi_imp hq
    | any1 => exact PEimp (pe_callB cr (xo.glo g) hm boot_any pa d3 d1 n1 n2) fun σ H Q hq => bi_imp hq
    | tuple1 => exact PEimp (pe_callTy cr (xo.glo g) hm boot_tuple pa d3 d1 n1 n2) fun σ H Q hq => bi_imp hq
    | list1 fz => exact PEimp (pe_callTy cr (xo.glo g) hm boot_list pa d3 d1 n1 n2) fun σ H Q hq => bi_imp hq
    | maxd => exact absurd rfl hb
    | listrev _ => exact absurd rfl hb
    | lenset => exact absurd rfl hb
    | ord1 => exact PEimp (pe_callB cr (xo.glo g) hm (by decide +kernel) pa d3 d1 n1 n2) fun σ H Q hq => bi_imp hq
    | dict1 => exact PEimp (pe_callTy cr (xo.glo g) hm boot_dict pa d3 d1 n1 n2) fun σ H Q hq => bi_imp hq
theorem s_listrev (xo : XO Γ G C N sc Wx X) (nh : G.hot = false) {x y : Str} {e : Expr} {e' : E} {fz : Bool} {p p2 pos pos2 : Pos} (h1 : biB G sc "list" x = true) (h2 : biB G sc "reversed" y = true) (hn : noStar e = true) (pe : PE X e (tE Γ C Wx e')) :
    PE X (.Call (.Name x p) [.Call (.Name y p2) [e] [] pos2] [] pos) (tE Γ C Wx (.bi (.listrev fz) [e'])) := by
  obtain ⟨e1, g, d, m⟩ := bi_of h1
  subst e1
  obtain ⟨e2, g2, d2, m2⟩ := bi_of h2
  subst e2
  refine PEimp (pe_lstRev (xo.calm nh) (xo.glo g) (xo.bi _ m) (xo.glo g2) (xo.bi _ m2) pe (star_cons hn)) fun σ H Q ⟨env, S, QW, XW, he, hs, h, k, kx⟩ => ?_
  simp only [wE, wEs] at h
  refine ⟨env, S, _, XW, he, hs, h, fun x S1 v H1 r1 s1 f1 q1 => ?_, kx⟩
  obtain ⟨pr, e3, q3⟩ := wSome_el (show wSome (walkL S1 x) fun p => mkL fz p.1.reverse S1 QW from q1)
  obtain ⟨a, P, rfl, st, p0, B⟩ := walkL_base e3 r1
  have lv : liveS pr.2 S1 := by
    cases x with
    | rl _ => cases e3; trivial
    | sc _ => cases e3; trivial
    | ref b =>
      simp only [walkL] at e3
      cases q : S1 b with
      | none => rw [q] at e3; cases e3
      | some o =>
        cases o with
        | lst us => rw [q] at e3; cases e3; exact ⟨q, trivial⟩
        | dic _ _ => rw [q] at e3; cases e3
        | ins _ _ _ => rw [q] at e3; cases e3
        | hid => rw [q] at e3; cases e3
    | _ => cases e3
  obtain ⟨vs, hq, rr⟩ := B S1 H1 s1 p0 lv
  exact ⟨a, vs, rfl, xo.hK ▸ hq, mkL_ok q3 rr.rev s1 (k.fr f1)⟩
theorem s_lenset (xo : XO Γ G C N sc Wx X) (nh : G.hot = false) {x y : Str} {e : Expr} {e' : E} {p p2 pos pos2 : Pos} (h1 : biB G sc "len" x = true) (h2 : biB G sc "set" y = true) (hn : noStar e = true) (pe : PE X e (tE Γ C Wx e')) :
    PE X (.Call (.Name x p) [.Call (.Name y p2) [e] [] pos2] [] pos) (tE Γ C Wx (.bi .lenset [e'])) := by
  obtain ⟨e1, g, d, m⟩ := bi_of h1
  subst e1
  obtain ⟨e2, g2, d2, m2⟩ := bi_of h2
  subst e2
  refine PEimp (RZ.pe_lenSetI (xo.glo g) (xo.bi _ m) (xo.glo g2) (xo.bi _ m2) pe (xo.calm nh) (star_cons hn)) fun σ H Q ⟨env, S, QW, XW, he, hs, h, k, kx⟩ => ?_
  simp only [wE, wEs] at h
  refine ⟨env, S, _, XW, he, hs, h, fun x S1 v H1 r1 s1 f1 q1 => ?_, kx⟩
  obtain ⟨ns, e3, n1, n2, q3⟩ := wSome_el (show wSome ((lstOf S1 x).bind intsOf) fun ns => ns.Nodup ∧ ns.length ≤ 4000 ∧ QW (.int (ns.length : Nat)) S1 from q1)
  obtain ⟨a, rfl, h1⟩ := lstInts e3 r1 s1
  exact ⟨a, ns, rfl, SqL.of h1, n1, n2, (k.fr f1).here s1 (w := .int _) rfl q3⟩
theorem s_maxd (xo : XO Γ G C N sc Wx X) (nh : G.hot = false) {x : Str} {a d : Expr} {a' d' : E} {p pos kp : Pos} (h1 : biB G sc "max" x = true) (ha : noStar a = true) (pa : PE X a (tE Γ C Wx a')) (pd : PE X d (tE Γ C Wx d')) :
    PE X (.Call (.Name x p) [a] [⟨some "default", d, kp⟩] pos) (tE Γ C Wx (.bi .maxd [a', d'])) := by
  obtain ⟨e1, g, dd, m⟩ := bi_of h1
  subst e1
  obtain ⟨d1, d2, d3⟩ := dbg_of dd
  have hm := xo.bi _ m
  refine ⟨fun pins s σ H Q I ⟨env, S, QW, XW, he, hs, h, k, kx⟩ => ?_⟩
  simp only [wE, wEs] at h
  refine wpAny_Call_Name_kw (ld_blt I (xo.glo g) hm boot_max ?_ d3 d1)
  have sc1 : starEach [a] X.env = (false, eval a X.env) :: starEach [] X.env := star_cons ha
  refine callWith_kw (e := a) (rest := []) (kws := [⟨some "default", d, kp⟩]) ?_ (by rw [sc1]; rfl) (by rw [sc1]; rfl) rfl rfl
  refine thn ((pa_cons pa pa_nil sc1).run pos pins s σ H (fun vs H1 => ∃ v S1 w, vs = [v] ∧ rep Γ S1 H1 w v ∧ SR Γ S1 H1 ∧ Fr S H S1 H1 ∧ wE C d' env S1 (fun w1 S2 => wBi .maxd [w, w1] S2 QW) XW) I ⟨env, S, _, XW, he, hs, h, fun w S1 v H1 r1 s1 f1 q1 => ⟨v, S1, w, rfl, r1, s1, f1, q1⟩, kx⟩) fun us s1 ⟨vs, H1, I1, rv, v, S1, w, e, r1, sr1, f1, q1⟩ => ?_
  subst e
  refine thn ((pk_cons (nm := some "default") (kpos := kp) pd pk_nil).run pos pins s1 σ H1 (fun vs H2 => ∃ u S2 w1, vs = [u] ∧ rep Γ S2 H2 w1 u ∧ SR Γ S2 H2 ∧ Fr S1 H1 S2 H2 ∧ wBi .maxd [w, w1] S2 QW) I1 ⟨env, S1, _, XW, he.fr f1, sr1, q1, fun w1 S2 u H2 r2 s2 f2 q2 => ⟨u, S2, w1, rfl, r2, s2, f2, q2⟩, kx.fr f1⟩) fun kvs s2 ⟨zs, H2, I2, rz, u, S2, w1, e, r2, sr2, f2, q2⟩ => ?_
  subst e
  obtain ⟨uv, rfl, ruv⟩ := vals1 rv
  obtain ⟨kv, rfl, rkv⟩ := vals1 rz
  have q2 : wMaxd [w, w1] S2 QW := q2
  unfold wMaxd at q2
  split at q2
  · rename_i w' dflt e
    cases e
    obtain ⟨ns, e3, q3⟩ := wSome_el q2
    have r1' := rep.fr f2 _ _ r1
    obtain ⟨pp, rfl, hp⟩ := lstInts e3 r1' sr2
    cases r2
    cases ruv
    obtain ⟨tk, rfl⟩ := rkv
    obtain ⟨its, rvs, pl, hz⟩ := I2.list (SqL.of hp)
    have kk := k.fr (f1.trans f2)
    show wpAny (model X.prog X.w) X.A (call (.builtin "max") [.ref pp] [(Str.ofString "default", .int dflt tk)]) _ _ _
    refine PySem.W.max_list_datum_default (α := Int) (I2.ok.hd (xo.calm nh)) pl.isList (by simpa using vals_ints_hold rvs) (by show X.A.units + 1 + 0 < cLine; have := xo.un; omega) (fun e0 h' tk' hk => ?_) (fun y ys i v h' tk' e0 hi hd hk => ?_)
    · subst e0
      refine ⟨.int dflt, H2, I2.kept hk, ⟨tk, rfl⟩, ?_⟩
      exact kk.here sr2 (w := .int _) rfl (by simpa using q3)
    · subst e0
      obtain ⟨as, rd⟩ := hd
      rw [maxOf_L] at rd
      have e5 : ∃ t, v = .int (maxL (y :: ys)) t := by cases rd; exact ⟨_, rfl⟩
      obtain ⟨t, rfl⟩ := e5
      refine ⟨.int (maxL (y :: ys)), H2, I2.kept hk, ⟨t, rfl⟩, ?_⟩
      exact kk.here sr2 (w := .int _) rfl (by simpa using q3)
  · exact q2.elim
theorem s_isi (xo : XO Γ G C N sc Wx X) {f y : Str} {t : Ty} {x : Expr} {a : E} {p p2 pos : Pos} (h1 : biB G sc "isinstance" f = true) (h2 : biB G sc (tyS t) y = true) (hn : noStar x = true) (pa : PE X x (tE Γ C Wx a)) :
    PE X (.Call (.Name f p) [x, .Name y p2] [] pos) (tE Γ C Wx (.isi t a)) := by
  obtain ⟨e1, g, d, m⟩ := bi_of h1
  subst e1
  obtain ⟨e2, g2, dd2, m2⟩ := bi_of h2
  subst e2
  obtain ⟨d1, d2, d3⟩ := dbg_of d
  obtain ⟨k1, k2, k3⟩ := dbg_of dd2
  have bt : bootBuiltins (tyS t) = some (.type (tyN t)) := by cases t <;> decide +kernel
  have pt : PE X (.Name (tyS t) p2) (tC (.ty (tyN t))) := pe_bltn (xo.glo g2) (xo.bi _ m2) bt rfl k3 k1
  refine PEimp (pe_callB call_isi (xo.glo g) (xo.bi _ m) boot_isinstance (pa_cons pa (pa_cons pt pa_nil rfl) (star_cons hn)) d3 d1 (star_cons hn) rfl) fun σ H Q ⟨env, S, QW, XW, he, hs, h, k, kx⟩ => ?_
  simp only [wE] at h
  refine ⟨env, S, _, XW, he, hs, h, fun x S1 v H1 r1 s1 f1 q1 => ?_, kx⟩
  obtain ⟨b, e, q1⟩ := wSome_el q1
  obtain ⟨T, ty, kb⟩ := isi_ty e r1 s1
  exact ⟨v, _, _, _, b, rfl, .ty _, xo.hK ▸ ty, xo.hK ▸ kb, k (.bl b) S1 (.bl b) H1 rfl s1 f1 q1⟩
theorem s_tab (xo : XO Γ G C N sc Wx X) {x : Str} {y : Expr} {kvs : List (List Nat × W)} {i : E} {p pos : Pos} (h1 : gloB sc x = true) (h2 : nodbg x = true) (h3 : G.tabs.lookup x = some kvs) (ny : ∀ l u st p, y ≠ .Slice l u st p) (pi : PE X y (tE Γ C Wx i)) :
    PE X (.Subscript (.Name x p) y pos) (tE Γ C Wx (.tab kvs i)) := by
  obtain ⟨a, hm, hk⟩ := xo.tab x kvs h3
  refine PEimp (pe_ix ix_kdict (pe_glob (v := .ref a) (xo.glo h1) hm rfl (dbg_of h2).1) pi (plainIx_of ny)) fun σ H Q ⟨env, S, QW, XW, he, hs, h, k, kx⟩ => ?_
  simp only [wE] at h
  refine ⟨env, S, _, XW, he, hs, h, fun x S1 v H1 r1 s1 f1 q1 => ?_, kx⟩
  dsimp only at q1
  unfold wTab at q1
  split at q1
  · rename_i z
    split at q1
    · rename_i w e
      obtain ⟨rfl, _⟩ := r1
      obtain ⟨v0, kd, rv⟩ := hk z w e
      exact ⟨a, ⟨z.toArray⟩, v0, rfl, rfl, kd, k w S1 v0 H1 (rv S1 H1) s1 f1 q1⟩
    · exact q1.elim
  · exact q1.elim
theorem s_app (xo : XO Γ G C N sc Wx X) {o x : Expr} {a e : E} {apos cpos : Pos} (h1 : plainO o = true) (h2 : (apos.endLine == cpos.line) = true) (hn : noStar x = true) (pa : PE X o (tE Γ C Wx a)) (px : PE X x (tE Γ C Wx e)) :
    PE X (.Call (.Attribute o "append" apos) [x] [] cpos) (tE Γ C Wx (.app a e)) := by
  have sc1 : starEach [x] X.env = (false, eval x X.env) :: starEach [] X.env := star_cons hn
  refine PEimp (pe_bm PySem.F.plainAttrs_list PySem.F.slot_list_append PySem.F.type_list_append mt_append pa (pa_cons px pa_nil sc1) (base_of h1) (by rw [sc1]; rfl) h2 sc1 rfl) fun σ H Q ⟨env, S, QW, XW, he, hs, h, k, kx⟩ => ?_
  simp only [wE] at h
  refine ⟨env, S, _, XW, he, hs, h, fun y S1 v H1 r1 s1 f1 q1 => ?_, kx⟩
  dsimp only at q1
  cases e1 : lstOf S1 y with
  | none => rw [e1] at q1; exact absurd q1.1 (by simp)
  | some ws =>
    obtain ⟨pp, vs, rfl, hp, rr⟩ := lst_rep e1 r1 s1
    refine ⟨.inl ⟨rfl, _, SqL.of hp⟩, env, S1, _, XW, he.fr f1, s1, q1.2, fun w S2 u H2 r2 s2 f2 q2 => ?_, kx.fr f1⟩
    cases y with
    | ref b =>
      have q2 : (match S2 b with
        | some (.lst ws) => ws.length < PySem.sizeLine ∧ QW .non (S2.set b (.lst (ws ++ [w])))
        | _ => False) := q2
      cases r1
      split at q2
      · rename_i us e2
        obtain ⟨vs2, h3, rr2⟩ := s2 pp _ e2
        refine ⟨pp, vs2, u, rfl, rfl, h3, by rw [← rr2.len]; exact q2.1, ?_⟩
        exact k .non _ .non _ rfl (s2.wrL e2 (rr2.app (reps.one r2))) (f1.trans (f2.trans (Fr.wr e2))) q2.2
      · exact q2.elim
    | _ => exact (show False from q2).elim
theorem s_pop (xo : XO Γ G C N sc Wx X) {o : Expr} {a : E} {apos cpos : Pos} (h1 : plainO o = true) (h2 : (apos.endLine == cpos.line) = true) (pa : PE X o (tE Γ C Wx a)) :
    PE X (.Call (.Attribute o "pop" apos) [] [] cpos) (tE Γ C Wx (.pop a)) := by
  refine PEimp (pe_bm0 PySem.F.plainAttrs_list PySem.F.slot_list_pop PySem.F.type_list_pop mt_pop pa (base_of h1) h2) fun σ H Q ⟨env, S, QW, XW, he, hs, h, k, kx⟩ => ?_
  simp only [wE] at h
  refine ⟨env, S, _, XW, he, hs, h, fun y S1 v H1 r1 s1 f1 q1 => ?_, kx⟩
  dsimp only at q1
  unfold wPop at q1
  split at q1
  · rename_i b
    cases r1
    split at q1
    · rename_i us e2
      split at q1
      · rename_i w e3
        obtain ⟨vs, h3, rr⟩ := s1 b _ e2
        have e4 : us[us.length - 1]? = some w := by rw [← List.getLast?_eq_getElem?]; exact e3
        obtain ⟨u, e5, r5⟩ := rr.get e4
        refine ⟨.inl ⟨rfl, _, SqL.of h3⟩, b, vs, u, rfl, rfl, h3, by rw [← rr.len]; exact e5, ?_⟩
        have f2 : Fr S1 H1 (S1.set b (.lst us.dropLast)) (upd H1 b (.lst vs.dropLast)) := Fr.wr e2
        exact k w _ u _ (rep.fr f2 _ _ r5) (s1.wrL e2 rr.dropLast) (f1.trans f2) q1
      · exact q1.elim
    · exact q1.elim
  · exact q1.elim
end
end Bw

/-! Ev11: what is walked, and targets, as the checker takes them. -/
namespace Bw
open PySem L2 PySem.Spec PyProof.Rows
section
variable {Γ : Gm} {G : GT} {C : CT} {N : List Str} {sc : Scope} {Wx : WX} {X : Cx}
def iW (Γ : Gm) (C : CT) (Wx : WX) (ik : IK) (its : List E) : TI := fun σ H R => ∃ (env : Env) (S : Sto) (QW : List W → Lk → Sto → Prop) (XW : XQ), envR Γ S H env σ ∧ SR Γ S H ∧ wEs C its env S (fun args S1 => wWalk (itemsOf ik args S1) fun items lk => QW items lk S1) XW ∧
  (∀ items lk S1 H1 J P, Wk Γ J items lk P → P S1 H1 → SR Γ S1 H1 → Fr S H S1 H1 → liveS lk S1 → QW items lk S1 → R J H1) ∧ KX Γ S H XW (fun cls d H' => Wx cls d σ H')
theorem walkL_live {S : Sto} {x : W} {ws : List W} {lk : Lk} (h : walkL S x = some (ws, lk)) : liveS lk S := by
  cases x with
  | rl _ => cases h; trivial
  | sc _ => cases h; trivial
  | ref b =>
    simp only [walkL] at h
    cases q : S b with
    | none => rw [q] at h; cases h
    | some o =>
      cases o with
      | lst us => rw [q] at h; cases h; exact ⟨q, trivial⟩
      | dic _ _ => rw [q] at h; cases h
      | ins _ _ _ => rw [q] at h; cases h
      | hid => rw [q] at h; cases h
  | _ => cases h
theorem o1_el {α : Type} {ws : List W} {f : W → Option α} {y : α} (h : o1 ws f = some y) : ∃ x, ws = [x] ∧ f x = some y := by
  unfold o1 at h
  split at h
  · exact ⟨_, rfl, h⟩
  · cases h
theorem oI_el {α : Type} {x : W} {f : Int → Option α} {y : α} (h : oI x f = some y) : ∃ i, x = .int i ∧ f i = some y := by
  unfold oI at h
  split at h
  · exact ⟨_, rfl, h⟩
  · cases h
theorem fits_el {i : Int} (h : fits i = true) : -(2 ^ 62) ≤ i ∧ i < 2 ^ 62 := of_decide_eq_true h
theorem oRng2_el {ws : List W} {y : List W × Lk} (h : oRng2 ws = some y) : ∃ a b, ws = [.int a, .int b] ∧ fits a = true ∧ fits b = true ∧ y = (rngW a (b - a).toNat, []) := by
  unfold oRng2 at h
  split at h
  · split at h
    · rename_i q
      rw [Bool.and_eq_true] at q
      cases h
      exact ⟨_, _, rfl, q.1, q.2, rfl⟩
    · cases h
  · cases h
theorem oZip_el {ws : List W} {S : Sto} {y : List W × Lk} (h : oZip ws S = some y) : (∃ xs ys, ws = [.tup xs, .tup ys] ∧ y = (zipW xs ys, [])) ∨ ∃ a b p q, ws = [a, b] ∧ walkL S a = some p ∧ walkL S b = some q ∧ y = (zipW p.1 q.1, p.2 ++ q.2) := by
  unfold oZip at h
  split at h
  · cases h; exact .inl ⟨_, _, rfl, rfl⟩
  · rename_i x z _
    cases e1 : walkL S x with
    | none => rw [e1] at h; cases h
    | some p =>
      cases e2 : walkL S z with
      | none => rw [e1, e2] at h; cases h
      | some q =>
        rw [e1, e2] at h
        cases h
        exact .inr ⟨_, _, p, q, rfl, e1, e2, rfl⟩
  · cases h
theorem i_seq (xo : XO Γ G C N sc Wx X) {tg e : Expr} {e' : E} (pe : PE X e (tE Γ C Wx e')) : PI X tg e (iW Γ C Wx .seq [e']) := by
  refine PIimp (pi_seq pe) fun σ H R ⟨env, S, QW, XW, he, hs, h, k, kx⟩ => ?_
  simp only [wEs] at h
  refine ⟨env, S, _, XW, he, hs, h, fun x S1 v H1 r1 s1 f1 q1 => ?_, kx⟩
  rw [xo.hK]
  obtain ⟨⟨ws, lk⟩, e1, q⟩ := wWalk_el q1
  have e1 : walkOf S1 x = some (ws, lk) := e1
  rcases walkOf_cases e1 with ⟨rfl, rfl⟩ | ⟨z, rfl, rfl, rfl⟩ | e2
  · obtain ⟨a, P, rfl, st, p0, B⟩ := tup_base (lk := []) r1
    obtain ⟨vs, hq, _⟩ := B S1 H1 s1 p0 trivial
    exact .inr (.inl ⟨a, rfl, ⟨vs, hq⟩, k _ [] S1 H1 _ P (wk_tup st B) p0 s1 f1 trivial q⟩)
  · obtain ⟨rfl, oz⟩ := r1
    exact .inr (.inr ⟨_, rfl, k _ [] S1 H1 _ _ (wk_str oz) trivial s1 f1 trivial q⟩)
  · obtain ⟨a, P, rfl, st, p0, B⟩ := walkL_base e2 r1
    obtain ⟨vs, hq, _⟩ := B S1 H1 s1 p0 (walkL_live e2)
    exact .inl ⟨a, rfl, ⟨vs, hq⟩, k _ lk S1 H1 _ P (wk_list st B) p0 s1 f1 (walkL_live e2) q⟩
theorem i_rng1 (xo : XO Γ G C N sc Wx X) {tg e : Expr} {es' : List E} {f : Str} {p pos : Pos} (h1 : biB G sc "range" f = true) (hn : noStar e = true) (pa : PA X [e] (tEs Γ C Wx es')) : PI X tg (.Call (.Name f p) [e] [] pos) (iW Γ C Wx .rng1 es') := by
  obtain ⟨e1, g, d, m⟩ := bi_of h1
  subst e1
  refine PIimp (pi_range1 (xo.glo g) (xo.bi _ m) pa (star_cons hn)) fun σ H R ⟨env, S, QW, XW, he, hs, h, k, kx⟩ => ?_
  refine ⟨env, S, _, XW, he, hs, h, fun ws S1 vs H1 r1 s1 f1 q1 => ?_, kx⟩
  obtain ⟨y, e1, q⟩ := wWalk_el q1
  obtain ⟨x, rfl, e2⟩ := o1_el (show o1 ws _ = some y from e1)
  obtain ⟨n, rfl, e3⟩ := oI_el e2
  obtain ⟨v, rfl, rv⟩ := r1.l1
  cases rv
  split at e3
  · rename_i hf
    cases e3
    obtain ⟨b1, b2⟩ := fits_el hf
    exact ⟨n, rfl, b1, b2, k _ [] S1 H1 _ _ wk_rng trivial s1 f1 trivial q⟩
  · cases e3
theorem i_rng2 (xo : XO Γ G C N sc Wx X) {tg e e2 : Expr} {es' : List E} {f : Str} {p pos : Pos} (h1 : biB G sc "range" f = true) (hn : noStar e = true) (hn2 : noStar e2 = true) (pa : PA X [e, e2] (tEs Γ C Wx es')) : PI X tg (.Call (.Name f p) [e, e2] [] pos) (iW Γ C Wx .rng2 es') := by
  obtain ⟨e1, g, d, m⟩ := bi_of h1
  subst e1
  refine PIimp (pi_range2 (xo.glo g) (xo.bi _ m) pa (by rw [star_cons hn, star_cons hn2]; rfl) (star_cons hn2)) fun σ H R ⟨env, S, QW, XW, he, hs, h, k, kx⟩ => ?_
  refine ⟨env, S, _, XW, he, hs, h, fun ws S1 vs H1 r1 s1 f1 q1 => ?_, kx⟩
  obtain ⟨y, e1, q⟩ := wWalk_el q1
  obtain ⟨a, b, rfl, ha, hb, rfl⟩ := oRng2_el (show oRng2 ws = some y from e1)
  obtain ⟨v, u, rfl, rv, ru⟩ := r1.l2
  cases rv
  cases ru
  obtain ⟨a1, a2⟩ := fits_el ha
  obtain ⟨b1, b2⟩ := fits_el hb
  exact ⟨a, b, rfl, ⟨a1, a2, b1, b2⟩, k _ [] S1 H1 _ _ wk_rng trivial s1 f1 trivial q⟩
theorem i_enum (xo : XO Γ G C N sc Wx X) {es : List Expr} {kk : Nat} {tp : Pos} {e : Expr} {es' : List E} {f : Str} {p pos : Pos} (h1 : biB G sc "enumerate" f = true) (hn : noStar e = true) (pa : PA X [e] (tEs Γ C Wx es')) : PI X (.Tuple es kk tp) (.Call (.Name f p) [e] [] pos) (iW Γ C Wx .enum es') := by
  obtain ⟨e1, g, d, m⟩ := bi_of h1
  subst e1
  refine PIimp (pi_enum (xo.glo g) (xo.bi _ m) pa (star_cons hn)) fun σ H R ⟨env, S, QW, XW, he, hs, h, k, kx⟩ => ?_
  refine ⟨env, S, _, XW, he, hs, h, fun ws S1 vs H1 r1 s1 f1 q1 => ?_, kx⟩
  obtain ⟨y, e1, q⟩ := wWalk_el q1
  obtain ⟨x, rfl, e2⟩ := o1_el (show o1 ws _ = some y from e1)
  obtain ⟨v, rfl, rv⟩ := r1.l1
  cases e3 : walkL S1 x with
  | none => rw [e3] at e2; cases e2
  | some p =>
    rw [e3] at e2
    cases e2
    obtain ⟨a, P, rfl, st, p0, B⟩ := walkL_base (lk := p.2) e3 rv
    obtain ⟨vs, hq, _⟩ := B S1 H1 s1 p0 (walkL_live (lk := p.2) e3)
    rw [xo.hK]
    exact ⟨a, vs, rfl, hq, k _ p.2 S1 H1 _ P (wk_enum st B) p0 s1 f1 (walkL_live (lk := p.2) e3) q⟩
theorem i_rev (xo : XO Γ G C N sc Wx X) {tg e : Expr} {es' : List E} {f : Str} {p pos : Pos} (h1 : biB G sc "reversed" f = true) (hn : noStar e = true) (pa : PA X [e] (tEs Γ C Wx es')) : PI X tg (.Call (.Name f p) [e] [] pos) (iW Γ C Wx .rev es') := by
  obtain ⟨e1, g, d, m⟩ := bi_of h1
  subst e1
  refine PIimp (pi_reversed (xo.glo g) (xo.bi _ m) pa (star_cons hn)) fun σ H R ⟨env, S, QW, XW, he, hs, h, k, kx⟩ => ?_
  refine ⟨env, S, _, XW, he, hs, h, fun ws S1 vs H1 r1 s1 f1 q1 => ?_, kx⟩
  obtain ⟨y, e1, q⟩ := wWalk_el q1
  obtain ⟨x, rfl, e2⟩ := o1_el (show o1 ws _ = some y from e1)
  obtain ⟨v, rfl, rv⟩ := r1.l1
  cases e3 : walkL S1 x with
  | none => rw [e3] at e2; cases e2
  | some p =>
    rw [e3] at e2
    cases e2
    obtain ⟨a, P, rfl, st, p0, B⟩ := walkL_base (lk := p.2) e3 rv
    obtain ⟨vs, hq, rr⟩ := B S1 H1 s1 p0 (walkL_live (lk := p.2) e3)
    rw [xo.hK]
    refine ⟨a, vs, rfl, hq, ?_⟩
    rw [← rr.len]
    exact k _ p.2 S1 H1 _ P (wk_rev st B) p0 s1 f1 (walkL_live (lk := p.2) e3) q
theorem i_zip (xo : XO Γ G C N sc Wx X) {es : List Expr} {kk : Nat} {tp : Pos} {e e2 : Expr} {es' : List E} {f : Str} {p pos : Pos} (h1 : biB G sc "zip" f = true) (hn : noStar e = true) (hn2 : noStar e2 = true) (pa : PA X [e, e2] (tEs Γ C Wx es')) : PI X (.Tuple es kk tp) (.Call (.Name f p) [e, e2] [] pos) (iW Γ C Wx .zip es') := by
  obtain ⟨e1, g, d, m⟩ := bi_of h1
  subst e1
  refine PIimp (RZ.pi_zipA (xo.glo g) (xo.bi _ m) pa (star_cons hn) (by rw [star_cons hn2]; rfl)) fun σ H R ⟨env, S, QW, XW, he, hs, h, k, kx⟩ => ?_
  refine ⟨env, S, _, XW, he, hs, h, fun ws S1 vs H1 r1 s1 f1 q1 => ?_, kx⟩
  obtain ⟨y, e1, q⟩ := wWalk_el q1
  rw [xo.hK]
  rcases oZip_el (show oZip ws S1 = some y from e1) with ⟨xs, ys, rfl, rfl⟩ | ⟨xa, xb, ⟨p1, l1⟩, ⟨p2, l2⟩, rfl, e3, e4, rfl⟩
  · obtain ⟨v, u, rfl, rv, ru⟩ := r1.l2
    obtain ⟨a, P, rfl, st, p0, B⟩ := tup_base (lk := []) rv
    obtain ⟨b, P2, rfl, st2, p02, B2⟩ := tup_base (lk := []) ru
    obtain ⟨vs, hq, _⟩ := B S1 H1 s1 p0 trivial
    obtain ⟨vs2, hq2, _⟩ := B2 S1 H1 s1 p02 trivial
    exact ⟨a, b, vs, vs2, rfl, .inr ⟨hq, hq2, k _ [] S1 H1 _ (fun S H => P S H ∧ P2 S H) (wk_zipT (fun S H S' H' f q => ⟨st S H S' H' f q.1, st2 S H S' H' f q.2⟩) (fun S H s q l => B S H s q.1 l) (fun S H s q l => B2 S H s q.2 l)) ⟨p0, p02⟩ s1 f1 trivial q⟩⟩
  · obtain ⟨v, u, rfl, rv, ru⟩ := r1.l2
    obtain ⟨a, P, rfl, st, p0, B⟩ := walkL_base e3 rv
    obtain ⟨b, P2, rfl, st2, p02, B2⟩ := walkL_base e4 ru
    obtain ⟨vs, hq, _⟩ := B S1 H1 s1 p0 (walkL_live e3)
    obtain ⟨vs2, hq2, _⟩ := B2 S1 H1 s1 p02 (walkL_live e4)
    exact ⟨a, b, vs, vs2, rfl, .inl ⟨hq, hq2, k _ (l1 ++ l2) S1 H1 _ (fun S H => P S H ∧ P2 S H) (wk_zip (fun S H S' H' f q => ⟨st S H S' H' f q.1, st2 S H S' H' f q.2⟩) (fun S H s q l => B S H s q.1 (liveS_app.mp l).1) (fun S H s q l => B2 S H s q.2 (liveS_app.mp l).2)) ⟨p0, p02⟩ s1 f1 (liveS_app.mpr ⟨walkL_live e3, walkL_live e4⟩) q⟩⟩
theorem isTup_el {e : Expr} (h : isTup e = true) : ∃ es k p, e = .Tuple es k p := by
  cases e <;> first | exact ⟨_, _, _, rfl⟩ | (simp [isTup] at h)
theorem chL1 {f : Expr → E → Bool} {x : Expr} {es' : List E} (h : chL f [x] es' = true) : ∃ x', f x x' = true := by
  cases es' with
  | nil => simp [chL] at h
  | cons a r => rw [chL, Bool.and_eq_true] at h; exact ⟨a, h.1⟩
theorem chL2 {f : Expr → E → Bool} {x y : Expr} {es' : List E} (h : chL f [x, y] es' = true) : (∃ x', f x x' = true) ∧ ∃ y', f y y' = true := by
  cases es' with
  | nil => simp [chL] at h
  | cons a r => rw [chL, Bool.and_eq_true] at h; exact ⟨⟨a, h.1⟩, chL1 h.2⟩
theorem i_of (xo : XO Γ G C N sc Wx X) {ch : Expr → E → Bool} (hf : ∀ e e', ch e e' = true → noStar e = true ∧ PE X e (tE Γ C Wx e')) {tg iter : Expr} {ik : IK} {its : List E} (h : chI G ch sc tg iter ik its = true) : PI X tg iter (iW Γ C Wx ik its) := by
  cases ik with
  | seq =>
    simp only [chI] at h
    split at h
    · exact i_seq xo (hf _ _ h).2
    · cases h
  | rng1 =>
    simp only [chI] at h
    split at h
    · rw [Bool.and_eq_true] at h
      obtain ⟨x', hx⟩ := chL1 h.2
      exact i_rng1 xo h.1 (hf _ _ hx).1 (pa_of xo hf h.2)
    · cases h
  | rng2 =>
    simp only [chI] at h
    split at h
    · rw [Bool.and_eq_true] at h
      obtain ⟨⟨x', hx⟩, y', hy⟩ := chL2 h.2
      exact i_rng2 xo h.1 (hf _ _ hx).1 (hf _ _ hy).1 (pa_of xo hf h.2)
    · cases h
  | enum =>
    simp only [chI] at h
    split at h
    · rw [Bool.and_eq_true, Bool.and_eq_true] at h
      obtain ⟨x', hx⟩ := chL1 h.2
      obtain ⟨es, k, p, rfl⟩ := isTup_el h.1.1
      exact i_enum xo h.1.2 (hf _ _ hx).1 (pa_of xo hf h.2)
    · cases h
  | zip =>
    simp only [chI] at h
    split at h
    · rw [Bool.and_eq_true, Bool.and_eq_true] at h
      obtain ⟨⟨x', hx⟩, y', hy⟩ := chL2 h.2
      obtain ⟨es, k, p, rfl⟩ := isTup_el h.1.1
      exact i_zip xo h.1.2 (hf _ _ hx).1 (hf _ _ hy).1 (pa_of xo hf h.2)
    · cases h
  | rev =>
    simp only [chI] at h
    split at h
    · rw [Bool.and_eq_true] at h
      obtain ⟨x', hx⟩ := chL1 h.2
      exact i_rev xo h.1 (hf _ _ hx).1 (pa_of xo hf h.2)
    · cases h

/-! ### targets -/
def setIs (σ : L2.St) (l : List (Nat × V)) : L2.St := l.foldl (fun s p => s.set p.1 (some p.2)) σ
def gW (Γ : Gm) (tg : Tg) : TG := fun v σ H Q => ∃ env S w env', envR Γ S H env σ ∧ rep Γ S H w v ∧ bindTg tg w env = some env' ∧ ∀ σ', (∃ l : List (Nat × V), l.map (·.1) = tgIs tg ∧ σ' = setIs σ l) → envR Γ S H env' σ' → Q σ' H
def NmOk (X : Cx) (e : Expr) (i : Nat) : Prop := ∃ x p, e = .Name x p ∧ X.N[i]? = some x ∧ Loc X.env.scope x ∧ (X.fn x = true ∨ X.env.scope.names.lookup x = some .local)
def TgOk (X : Cx) (e : Expr) (tg : Tg) : Prop :=
  match tg with
  | .nm i => NmOk X e i
  | .pr is => ∃ es k p, e = .Tuple es k p ∧ Paired (NmOk X) es is
def gIs : List Nat → TGs
  | [] => gNil
  | i :: is => gCons (gName i) (gIs is)
theorem nm_each {e : Expr} {i : Nat} (h : NmOk X e i) {es : List Expr} {env : PySem.Env} : assignEach (e :: es) env = (false, assign e env) :: assignEach es env := by
  obtain ⟨x, p, rfl, _⟩ := h
  rfl
theorem pgs_of (hN : X.N.Nodup) : ∀ {es : List Expr} {is : List Nat}, Paired (NmOk X) es is → PGs X es (gIs is)
  | _, _, .nil => pgs_nil
  | _, _, .cons h r => by
    have he := h
    obtain ⟨x, p, rfl, h1, h2, h3⟩ := h
    exact pgs_cons (pg_name hN h1 h2 h3) (pgs_of hN r) (by rw [nm_each he]; rfl)
theorem gIs_of : ∀ {is : List Nat} {ws : List W} {vs : List V} {env env' : Env} {S : Sto} {σ : L2.St} {H : Hp} {Q : L2.St → Hp → Prop}, bindIs is ws env = some env' → reps Γ S H ws vs → envR Γ S H env σ →
    (∀ σ', (∃ l : List (Nat × V), l.map (·.1) = is ∧ σ' = setIs σ l) → envR Γ S H env' σ' → Q σ' H) → gIs is vs σ H Q
  | [], [], _, env, env', S, σ, H, Q, e, r, he, k => by
    cases e
    cases r
    exact ⟨rfl, k σ ⟨[], rfl, rfl⟩ he⟩
  | [], _ :: _, _, _, _, _, _, _, _, e, _, _, _ => by cases e
  | _ :: _, [], _, _, _, _, _, _, _, e, _, _, _ => by cases e
  | i :: is, w :: ws, _, env, env', S, σ, H, Q, e, ⟨v, r, rfl, q, t⟩, he, k => by
    refine ⟨v, r, rfl, ?_⟩
    refine gIs_of (is := is) e t (he.set i q) fun σ' ⟨l, h1, h2⟩ he' => k σ' ⟨(i, v) :: l, ?_, ?_⟩ he'
    · simp [h1]
    · rw [h2]; rfl
theorem bindIs_len : ∀ {is : List Nat} {ws : List W} {env env' : Env}, bindIs is ws env = some env' → is.length = ws.length
  | [], [], _, _, _ => rfl
  | [], _ :: _, _, _, e => by cases e
  | _ :: _, [], _, _, e => by cases e
  | i :: is, w :: ws, env, env', e => by
    rw [List.length_cons, List.length_cons, bindIs_len (is := is) (ws := ws) e]
theorem names_len : ∀ {es : List Expr} {is : List Nat}, Paired (NmOk X) es is → (assignEach es X.env).length = is.length ∧ (assignEach es X.env).findIdx? (·.1) = none
  | _, _, .nil => ⟨rfl, rfl⟩
  | _, _, .cons h r => by
    obtain ⟨q1, q2⟩ := names_len r
    rw [nm_each h]
    refine ⟨by rw [List.length_cons, List.length_cons, q1], ?_⟩
    rw [List.findIdx?_cons]
    simp [q2]
theorem pg_of (hN : X.N.Nodup) (hc : X.calm = true) (hK : X.K = Γ.K) {e : Expr} {tg : Tg} (h : TgOk X e tg) : PG X e (gW Γ tg) := by
  cases tg with
  | nm i =>
    obtain ⟨x, p, rfl, h1, h2, h3⟩ := h
    refine PGimp (pg_name hN h1 h2 h3) fun v σ H Q ⟨env, S, w, env', he, r, b, k⟩ => ?_
    cases b
    exact k _ ⟨[(i, v)], rfl, rfl⟩ (he.set i r)
  | pr is =>
    obtain ⟨es, k0, p, rfl, ps⟩ := h
    obtain ⟨l1, l2⟩ := names_len ps
    have p1 := pg_tup (pos := p) (k := k0) hc (pgs_of hN ps) l1 l2
    have p2 := pg_unl (pos := p) (k := k0) hc (pgs_of hN ps) l1 l2
    refine ⟨fun pins s σ H v u Q I r0 ⟨env, S, w, env', he, r, b, k⟩ => ?_⟩
    cases w with
    | tup ws =>
      obtain ⟨a, vs, rfl, q, t⟩ := r
      refine p1.run pins s σ H _ u Q I r0 ?_
      rw [hK]
      exact ⟨a, vs, rfl, q.sq, by rw [← t.len, ← bindIs_len (show bindIs is ws env = some env' from b)], gIs_of (show bindIs is ws env = some env' from b) t he k⟩
    | rl ws =>
      obtain ⟨a, vs, rfl, q, t⟩ := r
      refine p2.run pins s σ H _ u Q I r0 ?_
      rw [hK]
      exact ⟨a, vs, rfl, q.sq, by rw [← t.len, ← bindIs_len (show bindIs is ws env = some env' from b)], gIs_of (show bindIs is ws env = some env' from b) t he k⟩
    | _ => cases b
end
end Bw

/-! Ev12: comprehensions; every expression that the checker takes. -/
namespace Bw
open PySem L2 PySem.Spec PyProof.Rows
abbrev W0 : WX := fun _ _ _ _ => False
theorem takes00 {X : Cx} : Takes X W0 := fun _ _ x => by
  obtain ⟨_, _, _, _, _, _, _, _, _, _, _, _, _, _, _, _, z⟩ := x
  exact z.elim
/-! ### slots forgotten -/
theorem wipe_get {σ : L2.St} {j : Nat} : ∀ {vs : List Nat}, (wipe σ vs)[j]? = if j ∈ vs then (σ[j]?).map (fun _ => none) else σ[j]?
  | [] => by simp [wipe]
  | v :: vs => by
    unfold wipe
    rw [List.getElem?_set, wipe_get (vs := vs), wipe_length]
    by_cases h : v = j
    · subst h
      rw [if_pos rfl, if_pos List.mem_cons_self]
      by_cases hl : v < σ.length
      · rw [if_pos hl, List.getElem?_eq_getElem hl]; rfl
      · rw [if_neg hl, List.getElem?_eq_none (by omega)]; rfl
    · rw [if_neg h]
      have e : (j ∈ v :: vs) ↔ j ∈ vs := by
        rw [List.mem_cons]
        exact ⟨fun q => q.elim (fun z => absurd z.symm h) id, .inr⟩
      by_cases hm : j ∈ vs
      · rw [if_pos hm, if_pos (e.mpr hm)]
      · rw [if_neg hm, if_neg fun z => hm (e.mp z)]
theorem wipe_set {σ : L2.St} {i : Nat} {x : Option V} {vs : List Nat} (h : i ∈ vs) : wipe (σ.set i x) vs = wipe σ vs := by
  refine List.ext_getElem? fun j => ?_
  rw [wipe_get, wipe_get]
  by_cases hj : j ∈ vs
  · rw [if_pos hj, if_pos hj, List.getElem?_set]
    by_cases e : i = j
    · subst e
      rw [if_pos rfl]
      by_cases hl : i < σ.length
      · rw [if_pos hl, List.getElem?_eq_getElem hl]; rfl
      · rw [if_neg hl, List.getElem?_eq_none (by omega)]
    · rw [if_neg e]
  · rw [if_neg hj, if_neg hj, List.getElem?_set_ne (show i ≠ j from fun e => hj (by rw [← e]; exact h))]
theorem wipe_setIs {vs : List Nat} : ∀ {l : List (Nat × V)} {σ : L2.St}, (∀ i ∈ l.map (·.1), i ∈ vs) → wipe (setIs σ l) vs = wipe σ vs
  | [], _, _ => rfl
  | p :: l, σ, h => by
    show wipe (setIs (σ.set p.1 (some p.2)) l) vs = _
    rw [wipe_setIs fun q hq => h q (List.mem_cons_of_mem _ hq), wipe_set (h p.1 List.mem_cons_self)]
/-! ### the list that is made -/
section
variable {Γ : Gm} {S S1 S' S4 : Sto} {H H1 H' H4 : Hp} {D : Addr}
theorem frU {o : HO} (hD : H1 D = none) (f : Fr S1 H1 S4 H4) : Fr S1 H1 S4 (upd H4 D o) := by
  refine ⟨fun a x h1 h2 => ?_, fun a x h1 h2 => ?_⟩
  · have n := ne_of_none h2 hD
    obtain ⟨q1, q2⟩ := f.1 a x h1 h2
    exact ⟨q1, by rw [upd_ne n]; exact q2⟩
  · have n := ne_of_none h2 hD
    obtain ⟨q1, q2⟩ := f.2 a x h1 h2
    exact ⟨q1, by rw [upd_ne n]; exact q2⟩
theorem del_ne {a : Addr} (n : a ≠ D) : S.del D a = S a := by unfold Sto.del; rw [if_neg n]
theorem frDel (hD : H1 D = none) (f : Fr S1 H1 S4 H4) : Fr S1 H1 (S4.del D) H4 := by
  refine ⟨fun a x h1 h2 => ?_, fun a x h1 h2 => ?_⟩
  · have n := ne_of_none h2 hD
    obtain ⟨q1, q2⟩ := f.1 a x h1 h2
    exact ⟨by rw [del_ne n]; exact q1, q2⟩
  · have n := ne_of_none h2 hD
    obtain ⟨q1, q2⟩ := f.2 a x h1 h2
    exact ⟨by rw [del_ne n]; exact q1, q2⟩
theorem frSet {u : O} (hD : H1 D = none) (f : Fr S1 H1 S4 H4) : Fr S1 H1 (S4.set D u) H4 := by
  refine ⟨fun a x h1 h2 => ?_, fun a x h1 h2 => ?_⟩
  · have n := ne_of_none h2 hD
    obtain ⟨q1, q2⟩ := f.1 a x h1 h2
    exact ⟨by rw [Sto.set_ne n]; exact q1, q2⟩
  · have n := ne_of_none h2 hD
    obtain ⟨q1, q2⟩ := f.2 a x h1 h2
    exact ⟨by rw [Sto.set_ne n]; exact q1, q2⟩
theorem fr0Del : Fr0 S H (S.del D) H := fun a x h1 h2 => by
  refine ⟨?_, h2⟩
  unfold Sto.del
  split
  · rfl
  · exact h1
theorem SR.del (s : SR Γ S H) : SR Γ (S.del D) H := s.step0 fr0Del fun a o q => by
  unfold Sto.del at q
  split at q
  · cases q
  · exact .inl ⟨q, rfl⟩
theorem del_set {u : O} : (S.del D).set D u = S.set D u := by
  funext b
  unfold Sto.set Sto.del
  split <;> rfl
theorem upd_self {o : HO} (h : H D = some o) : upd H D o = H := by
  funext b
  unfold upd
  split
  · rename_i e; subst e; exact h.symm
  · rfl
end
section
variable {Γ : Gm} {G : GT} {C : CT} {N : List Str} {sc : Scope} {Wx : WX} {X : Cx}
def cF (C : CT) (tg : Tg) (cond : List E) (elt : E) (own : List Nat) (env : Env) : W → Sto → (List W → Sto → Prop) → Prop := fun w S2 R => wSome (bindTg tg w (wipeE env own)) fun env' =>
  wAnd C cond env' S2 (fun b S3 => wB b (wE C elt env' S3 (fun y S4 => R [y] S4) (fun _ _ => False)) (R [] S3)) (fun _ _ => False)
def tTs (Γ : Gm) (C : CT) (es : List E) : TT := fun σ H Q => ∃ env S QW XW, envR Γ S H env σ ∧ SR Γ S H ∧ wAnd C es env S QW XW ∧ KB Γ S H QW Q ∧ KX Γ S H XW (fun cls d H' => W0 cls d σ H')
theorem comp_of (hK : X.K = Γ.K) {fz : Bool} {tg : Tg} {ik : IK} {its cond : List E} {elt : E} {own : List Nat} {σ : L2.St} {H : Hp} {Q : VK} (ht : (tgIs tg).all (fun i => own.contains i) = true) (hq : tE Γ C Wx (.comp fz tg ik its cond elt own) σ H Q) :
    tLc (iW Γ C Wx ik its) (gW Γ tg) (tTs Γ C cond) (tE Γ C W0 elt) own σ H Q := by
  obtain ⟨env, S, QW, XW, he, hs, h, k, kx⟩ := hq
  simp only [wE] at h
  refine ⟨env, S, (fun items lk S1 => items.length ≤ sizeLine ∧ ∀ D, S1 D = none → wMap lk (cF C tg cond elt own env) items (S1.set D .hid) (fun ys S2 => mkL fz ys (S2.del D) QW)), XW, he, hs, h, fun items lk S1 H1 J P wk p0 s1 f1 lv ⟨hz, q1⟩ D hD => ?_, kx⟩
  have q1 := q1 D (s1.nil hD)
  refine ⟨fun i m H' => m = items.length - i ∧ ∃ S' acc ys, i ≤ items.length ∧ ys.length ≤ i ∧ H' D = some (.lst acc) ∧ S' D = some .hid ∧ SR Γ S' H' ∧ Fr S1 H1 S' H' ∧ reps Γ S' H' ys acc ∧ wMap lk (cF C tg cond elt own env) (items.drop i) S' (fun zs S2 => mkL fz (ys ++ zs) (S2.del D) QW),
    ⟨items.length, by simp, S1.set D .hid, [], [], Nat.zero_le _, Nat.le_refl _, upd_same, Sto.set_same, s1.hide hD, Fr.newS hD, rfl, q1⟩, ?_⟩
  rintro i m H' ⟨rfl, S', acc, ys, hi, hl, hH, hS, s', f', r', q'⟩
  have p' : P S' H' := wk.st _ _ _ _ f' p0
  by_cases hlt : i < items.length
  · right
    rw [List.drop_eq_getElem_cons hlt] at q'
    obtain ⟨lv', q'⟩ := q'
    refine ⟨wk.go i S' H' s' p' lv' hlt, fun H' => ∃ S' acc ys, i + 1 ≤ items.length ∧ ys.length ≤ i + 1 ∧ H' D = some (.lst acc) ∧ S' D = some .hid ∧ SR Γ S' H' ∧ Fr S1 H1 S' H' ∧ reps Γ S' H' ys acc ∧ wMap lk (cF C tg cond elt own env) (items.drop (i + 1)) S' (fun zs S2 => mkL fz (ys ++ zs) (S2.del D) QW), fun H2 hn => ⟨items.length - (i + 1), by omega, rfl, hn⟩, fun x H2 y => ?_⟩
    obtain ⟨w, e1, s2, f2, r2⟩ := wk.yld i S' H' x H2 s' p' lv' hlt y
    have e2 : items[i] = w := by rw [List.getElem?_eq_getElem hlt] at e1; exact Option.some.inj e1
    rw [e2] at q'
    obtain ⟨env', e3, q'⟩ := wSome_el (show wSome (bindTg tg w (wipeE env own)) _ from q')
    have he' : envR Γ S' H2 (wipeE env own) (wipe σ own) := (he.fr (f1.trans (f'.trans f2))).wipe own
    refine ⟨wipeE env own, S', w, env', he', r2, e3, fun σ' ⟨l, l1, l2⟩ he2 => ⟨?_, ?_⟩⟩
    · rw [l2, wipe_setIs fun p hp => ?_]
      · have : wipe (wipe σ own) own = wipe σ own := by
          refine List.ext_getElem? fun j => ?_
          rw [wipe_get, wipe_get]
          by_cases hj : j ∈ own
          · rw [if_pos hj, if_pos hj]
            cases σ[j]? <;> rfl
          · rw [if_neg hj, if_neg hj]
        exact this
      · rw [l1] at hp
        have := List.all_eq_true.mp ht p hp
        simpa using this
    · refine ⟨env', S', _, fun _ _ => False, he2, s2, q', ?_, fun _ _ _ _ _ _ _ _ q => q.elim⟩
      intro b S3 H3 s3 f3 q3
      rcases wB_el q3 with ⟨rfl, q3⟩ | ⟨rfl, q3⟩
      · refine ⟨true, rfl, ?_⟩
        refine iteT ?_
        refine ⟨env', S3, _, fun _ _ => False, he2.fr f3, s3, q3, fun y S4 v H4 r4 s4 f4 q4 => ?_, fun _ _ _ _ _ _ _ _ q => q.elim⟩
        have ff : Fr S' H' S4 H4 := f2.trans (f3.trans f4)
        obtain ⟨hS4, hH4⟩ := ff.2 D _ hS hH
        have ln := r'.len
        refine ⟨acc, hH4, by omega, S4, acc ++ [v], ys ++ [y], hlt, by simp; omega, upd_same, hS4, s4.hid hS4, frU hD (f'.trans ff), ?_, ?_⟩
        · exact (reps.fr0 (Fr0.hid hS4) _ _ (reps.fr ff _ _ r')).app (reps.one (rep.fr0 (Fr0.hid hS4) _ _ r4))
        · have q4 : wMap lk (cF C tg cond elt own env) (items.drop (i + 1)) S4 (fun zs S2 => mkL fz (ys ++ ([y] ++ zs)) (S2.del D) QW) := q4
          simp only [← List.append_assoc] at q4
          exact q4
      · refine ⟨false, rfl, ?_⟩
        refine iteF ?_
        have ff : Fr S' H' S3 H3 := f2.trans f3
        obtain ⟨hS3, hH3⟩ := ff.2 D _ hS hH
        exact ⟨S3, acc, ys, hlt, by omega, hH3, hS3, s3, f'.trans ff, reps.fr ff _ _ r', q3⟩
  · left
    have e : i = items.length := by omega
    subst e
    rw [List.drop_of_length_le (Nat.le_refl _)] at q'
    obtain ⟨lv', q'⟩ := q'
    rw [List.append_nil] at q'
    refine ⟨wk.stop _ S' H' s' p' lv' (Nat.le_refl _), ?_⟩
    unfold mkL at q'
    split at q'
    · exact k (.rl ys) (S'.del D) (.ref D) H' ⟨D, acc, rfl, ⟨Sto.del_same, hH⟩, reps.fr0 fr0Del _ _ r'⟩ s'.del (f1.trans (frDel hD f')) q'
    · have q2 := q' D Sto.del_same
      rw [del_set] at q2
      have s2 := s'.wrL hS r'
      rw [upd_self hH] at s2
      exact k (.ref D) (S'.set D (.lst ys)) (.ref D) H' rfl s2 (f1.trans (frSet hD f')) q2
theorem XO.blk (xo : XO Γ G C N sc Wx X) (s : Shared) (H : Hp) (scope : Scope) (cl : List (Str × Addr)) (Ca : Addr) (fp : List Addr) : XO Γ G C N (relS scope sc) W0 (X.blk s H scope (compEnvC scope cl Ca X.env) fp) where
  hN := xo.hN
  nd := xo.nd
  hsc := by show relS scope X.env.scope = relS scope sc; rw [xo.hsc]
  calm := xo.calm
  hK := xo.hK
  tk := takes00
  un := xo.un
  bi := xo.bi
  con := xo.con
  fn := xo.fn
  fnv := xo.fnv
  cls := xo.cls
  xcl := xo.xcl
  mth := xo.mth
  fld := xo.fld
  isC := xo.isC
  tab := xo.tab
/-! ### targets, as checked -/
theorem nm_of (hN : X.N = N) {scope : Scope} (hl : ∀ x, locB scope x = true → Loc X.env.scope x ∧ (X.fn x = true ∨ X.env.scope.names.lookup x = some .local)) {e : Expr} {i : Nat} (h : chNm N scope e i = true) : NmOk X e i := by
  unfold chNm at h
  split at h
  · rw [Bool.and_eq_true] at h
    obtain ⟨h1, h2⟩ := hl _ h.2
    exact ⟨_, _, rfl, by rw [hN]; exact of_decide_eq_true h.1, h1, h2⟩
  · cases h
theorem nms_of (hN : X.N = N) {scope : Scope} (hl : ∀ x, locB scope x = true → Loc X.env.scope x ∧ (X.fn x = true ∨ X.env.scope.names.lookup x = some .local)) : ∀ {es : List Expr} {is : List Nat}, chL (chNm N scope) es is = true → Paired (NmOk X) es is
  | [], [], _ => .nil
  | [], _ :: _, h => by simp [chL] at h
  | _ :: _, [], h => by simp [chL] at h
  | e :: es, i :: is, h => by
    rw [chL, Bool.and_eq_true] at h
    exact .cons (nm_of hN hl h.1) (nms_of hN hl h.2)
theorem tup_el {scope : Scope} {e : Expr} {is : List Nat} (h : chTg N scope e (.pr is) = true) : ∃ es k p, e = .Tuple es k p ∧ chL (chNm N scope) es is = true := by
  cases e with
  | Tuple es k p => exact ⟨es, k, p, rfl, h⟩
  | _ => cases h
theorem tg_of (hN : X.N = N) {scope : Scope} (hl : ∀ x, locB scope x = true → Loc X.env.scope x ∧ (X.fn x = true ∨ X.env.scope.names.lookup x = some .local)) {e : Expr} {tg : Tg} (h : chTg N scope e tg = true) : TgOk X e tg := by
  cases tg with
  | nm i => exact nm_of hN hl h
  | pr is =>
    obtain ⟨es, k, p, e1, h⟩ := tup_el h
    exact ⟨es, k, p, e1, nms_of hN hl h⟩
theorem blk_loc {s : Shared} {H : Hp} {scope : Scope} {cl : List (Str × Addr)} {Ca : Addr} {fp : List Addr} : ∀ x, locB scope x = true → Loc (X.blk s H scope (compEnvC scope cl Ca X.env) fp).env.scope x ∧ ((X.blk s H scope (compEnvC scope cl Ca X.env) fp).fn x = true ∨ (X.blk s H scope (compEnvC scope cl Ca X.env) fp).env.scope.names.lookup x = some .local) := by
  intro x h
  unfold locB at h
  split at h
  · rename_i e
    have e2 : (relS scope X.env.scope).names.lookup x = some .local := lookup_relS_keep (by intro z; cases z) e
    exact ⟨.inl e2, .inr e2⟩
  · rename_i e
    have e2 : (relS scope X.env.scope).names.lookup x = some .cell := lookup_relS_keep (by intro z; cases z) e
    refine ⟨.inr e2, .inl ?_⟩
    show (scope.names.lookup x == some .cell) = true
    rw [e]
    rfl
  · cases h
theorem PTsimp {es : List Expr} {t t' : TT} (h : PTs X es t) (k : ∀ σ H Q, t' σ H Q → t σ H Q) : PTs X es t' := ⟨fun pins s σ H Q I q => h.run pins s σ H Q I (k σ H Q q)⟩
theorem pts_of {f : Expr → E → Bool} (hf : ∀ e e', f e e' = true → okT e = true → PT X e (tT Γ C W0 e')) : ∀ {es : List Expr} {es' : List E}, chL f es es' = true → es.length ≤ 1 → es.all okT = true → PTs X es (tTs Γ C es')
  | [], [], _, _, _ => PTsimp pts_nil fun σ H Q ⟨env, S, QW, XW, he, hs, h, k, kx⟩ => by
    obtain ⟨b, e, q⟩ := k (.bl true) S H hs (Fr.refl _ _) h
    cases e
    exact q
  | [], _ :: _, h, _, _ => by simp [chL] at h
  | _ :: _, [], h, _, _ => by simp [chL] at h
  | [e], [e'], h, _, o => by
    rw [chL, Bool.and_eq_true] at h
    rw [List.all_cons, Bool.and_eq_true] at o
    exact PTsimp (pts_one (hf _ _ h.1 o.1)) fun σ H Q ⟨env, S, QW, XW, he, hs, h, k, kx⟩ => ⟨env, S, QW, XW, he, hs, by simpa only [wAnd] using h, k, kx⟩
  | [e], _ :: _ :: _, h, _, _ => by simp [chL] at h
  | _ :: _ :: _, _, _, l, _ => by simp at l
theorem fold_ok {iter : Expr} (h : okE iter = true) {env : PySem.Env} : ∀ x, foldedSetIterable iter env x = pure x := by
  intro x
  cases iter <;> first | rfl | (simp [okE] at h)
theorem chI_ok {n : Nat} {tg iter : Expr} {ik : IK} {its : List E} (h : chI G (chE G N n sc) sc tg iter ik its = true) : okE iter = true := by
  cases ik with
  | seq =>
    simp only [chI] at h
    split at h
    · exact chE_ok h
    · cases h
  | _ =>
    simp only [chI] at h
    split at h
    · rfl
    · cases h
theorem chL_and {f : Expr → E → Bool} {g : Expr → Bool} : ∀ {es : List Expr} {es' : List E}, chL f es es' = true → es.all g = true → chL (fun e e' => f e e' && g e) es es' = true
  | [], [], _, _ => rfl
  | [], _ :: _, h, _ => by simp [chL] at h
  | _ :: _, [], h, _ => by simp [chL] at h
  | e :: es, e' :: es', h, o => by
    rw [chL, Bool.and_eq_true] at h
    rw [List.all_cons, Bool.and_eq_true] at o
    rw [chL, h.1, o.1, chL_and h.2 o.2]
    rfl
theorem ne_nil {α : Type} {l : List α} (h : (!l.isEmpty) = true) : l ≠ [] := by
  intro e
  subst e
  simp at h
/-- what the comprehension's parts need -/
structure LcOk (G : GT) (C : CT) (Γ : Gm) (N : List Str) (sc : Scope) (Wx : WX) (X : Cx) (scope : Scope) (tg0 iter0 : Expr) (ifs0 : List Expr) (elt0 : Expr) (tg : Tg) (ik : IK) (its cond : List E) (elt : E) (own : List Nat) : Prop where
  e1 : (ownOf N own).map (·.2) = own
  e2 : (tgIs tg).all (fun i => own.contains i) = true
  i : PI X tg0 iter0 (iW Γ C Wx ik its)
  b : BlkOk X.N X.env.scope scope (ownOf N own)
  g : ∀ (s : Shared) (H : Hp) (Ca : Addr) (cl : List (Str × Addr)) (fp : List Addr), PG (X.blk s H scope (compEnvC scope cl Ca X.env) fp) tg0 (gW Γ tg)
  t : ∀ (s : Shared) (H : Hp) (Ca : Addr) (cl : List (Str × Addr)) (fp : List Addr), PTs (X.blk s H scope (compEnvC scope cl Ca X.env) fp) ifs0 (tTs Γ C cond)
  e : ∀ (s : Shared) (H : Hp) (Ca : Addr) (cl : List (Str × Addr)) (fp : List Addr), PE (X.blk s H scope (compEnvC scope cl Ca X.env) fp) elt0 (tE Γ C W0 elt)
  s : ∀ x, foldedSetIterable iter0 X.env x = pure x
/-- a comprehension, as checked -/
def chLc (G : GT) (N : List Str) (n : Nat) (sc scope : Scope) (tg0 iter0 : Expr) (ifs0 : List Expr) (elt0 : Expr) (tg : Tg) (ik : IK) (its cond : List E) (elt : E) (own : List Nat) : Bool :=
  decide ((ownOf N own).map (·.2) = own) && blkC N sc scope (ownOf N own) && chTg N scope tg0 tg && (tgIs tg).all (fun i => own.contains i) &&
    chI G (chE G N n sc) sc tg0 iter0 ik its && decide (ifs0.length ≤ 1) && ifs0.all okT && chL (chE G N n (relS scope sc)) ifs0 cond && chE G N n (relS scope sc) elt0 elt
theorem lc_of {n : Nat} (ih : ∀ {sc : Scope} {Wx : WX} {X : Cx} {e : Expr} {e' : E}, XO Γ G C N sc Wx X → chE G N n sc e e' = true → PE X e (tE Γ C Wx e') ∧ (okT e = true → PT X e (tT Γ C Wx e')))
    (xo : XO Γ G C N sc Wx X) (nh : G.hot = false) {scope : Scope} {tg0 iter0 : Expr} {ifs0 : List Expr} {elt0 : Expr} {tg : Tg} {ik : IK} {its cond : List E} {elt : E} {own : List Nat} (h : chLc G N n sc scope tg0 iter0 ifs0 elt0 tg ik its cond elt own = true) : LcOk G C Γ N sc Wx X scope tg0 iter0 ifs0 elt0 tg ik its cond elt own := by
  unfold chLc at h
  simp only [Bool.and_eq_true] at h
  obtain ⟨⟨⟨⟨⟨⟨⟨⟨h1, h2⟩, h3⟩, h4⟩, h5⟩, h6⟩, h7⟩, h8⟩, h9⟩ := h
  exact {
    e1 := of_decide_eq_true h1
    e2 := h4
    i := i_of xo (fun e e' q => ⟨(chE_ns q).1, (ih xo q).1⟩) h5
    b := by rw [xo.hN, xo.hsc]; exact blkOk_by h2
    g := fun s H Ca cl fp => pg_of (X := X.blk s H scope (compEnvC scope cl Ca X.env) fp) (by show X.N.Nodup; rw [xo.hN]; exact xo.nd) (xo.calm nh) xo.hK (tg_of (X := X.blk s H scope (compEnvC scope cl Ca X.env) fp) xo.hN blk_loc h3)
    t := fun s H Ca cl fp => pts_of (fun e e' q o => (ih (xo.blk s H scope cl Ca fp) q).2 o) h8 (of_decide_eq_true h6) h7
    e := fun s H Ca cl fp => (ih (xo.blk s H scope cl Ca fp) h9).1
    s := fold_ok (chI_ok h5) }
theorem s_lc (xo : XO Γ G C N sc Wx X) (nh : G.hot = false) {scope : Scope} {tg0 iter0 : Expr} {ifs0 : List Expr} {elt0 : Expr} {tg : Tg} {ik : IK} {its cond : List E} {elt : E} {own : List Nat} {fz : Bool} {pos : Pos} (l : LcOk G C Γ N sc Wx X scope tg0 iter0 ifs0 elt0 tg ik its cond elt own) :
    PE X (.ListComp elt0 [⟨tg0, iter0, ifs0, 0⟩] scope pos) (tE Γ C Wx (.comp fz tg ik its cond elt own)) := by
  refine PEimp (pe_lc (xo.calm nh) (by rw [xo.hN]; exact xo.nd) l.i l.b l.g l.t l.e l.s) fun σ H Q hq => ?_
  rw [l.e1]
  exact comp_of xo.hK l.e2 hq
end
end Bw

/-! Ev12b: dicts known by content, tuples told several times, extend. -/
namespace Bw
open PySem L2 PySem.Spec PyProof.Rows
section
variable {Γ : Gm} {G : GT} {C : CT} {N : List Str} {sc : Scope} {Wx : WX} {X : Cx}
def dkz0 (ks : List (List Nat)) (vs : List V) : List (Key × V) := (ks.zip vs).map fun p => (Sum.inr ⟨p.1.toArray⟩, p.2)
theorem dkz0_eq : ∀ {ks : List (List Nat)} {vs : List V}, dkz (ks.map Sum.inr) vs = dkz0 ks vs
  | [], _ => rfl
  | _ :: _, [] => rfl
  | k :: ks, v :: vs => by
    show (keyV (Sum.inr k), v) :: dkz (ks.map Sum.inr) vs = _
    rw [dkz0_eq]; rfl
theorem merge_nodup : ∀ (more acc : List (Key × V)), (more.map (·.1)).Nodup → (∀ k ∈ more.map (·.1), k ∉ acc.map (·.1)) → mergeK acc more = acc ++ more
  | [], acc, _, _ => by simp [mergeK]
  | p :: more, acc, nd, h => by
    rw [List.map_cons, List.nodup_cons] at nd
    have hp : p.1 ∉ acc.map (·.1) := h p.1 (by simp)
    have e : putK acc p.1 p.2 = acc ++ [(p.1, p.2)] := by
      unfold putK
      rw [if_neg]
      intro z
      obtain ⟨q, hq, hd⟩ := List.any_eq_true.mp z
      exact hp (List.mem_map.mpr ⟨q, hq, of_decide_eq_true hd⟩)
    show mergeK (putK acc p.1 p.2) more = _
    rw [e, merge_nodup more _ nd.2]
    · simp
    · intro k hk hk2
      rw [List.map_append, List.mem_append] at hk2
      rcases hk2 with hk2 | hk2
      · exact h k (by simp [List.mem_map.mp hk]) hk2
      · simp only [List.map_cons, List.map_nil, List.mem_singleton] at hk2
        subst hk2
        exact nd.1 hk
theorem nd_map {α β : Type} (g : α → β) (hg : ∀ a b, g a = g b → a = b) : ∀ {l : List α}, l.Nodup → (l.map g).Nodup
  | [], _ => by simp
  | a :: l, h => by
    rw [List.nodup_cons] at h
    rw [List.map_cons, List.nodup_cons]
    refine ⟨fun z => ?_, nd_map g hg h.2⟩
    obtain ⟨b, hb, e⟩ := List.mem_map.mp z
    exact h.1 (hg _ _ e ▸ hb)
theorem tC_key {x : Str} {σ : L2.St} {H : Hp} {Q : VK} (h : Q (.str x) H) : tC (.str x) σ H Q := h
theorem chK1_el {e : Option Expr} {k : List Nat} (h : chK1 e k = true) : ∃ x j p, e = some (.Constant (.str x) j p) ∧ x.cps.toList = k := by
  unfold chK1 at h
  split at h
  · exact ⟨_, _, _, rfl, of_decide_eq_true h⟩
  · cases h
theorem chK_el {e : Option Expr} {keys : List (Option Expr)} {ks : List (List Nat)} (h : chK (e :: keys) ks = true) : ∃ x j p k r, e = some (.Constant (.str x) j p) ∧ ks = k :: r ∧ x.cps.toList = k ∧ chK keys r = true := by
  cases ks with
  | nil => simp [chK, chL] at h
  | cons k r =>
    unfold chK at h
    rw [chL, Bool.and_eq_true] at h
    obtain ⟨x, j, p, e1, e2⟩ := chK1_el h.1
    exact ⟨x, j, p, k, r, e1, rfl, e2, h.2⟩
theorem chL_el {f : Expr → E → Bool} {e : Expr} {es : List Expr} {es' : List E} (h : chL f (e :: es) es' = true) : ∃ a r, es' = a :: r ∧ f e a = true ∧ chL f es r = true := by
  cases es' with
  | nil => simp [chL] at h
  | cons a r => rw [chL, Bool.and_eq_true] at h; exact ⟨a, r, rfl, h.1, h.2⟩
/-- the pairs of a display -/
theorem pps_of (xo : XO Γ G C N sc Wx X) {pos : Pos} {f : Expr → E → Bool} (hf : ∀ e e', f e e' = true → PE X e (tE Γ C Wx e')) : ∀ {keys : List (Option Expr)} {vals : List Expr} {ks : List (List Nat)} {es : List E}, chK keys ks = true → chL f vals es = true → vals.length = ks.length →
    ∃ trs, PPs X pos keys vals trs ∧ ∀ σ H (Q : List (V × V) → Hp → Prop), tEs Γ C Wx es σ H (fun vs H' => Q ((ks.zip vs).map fun p => (.str ⟨p.1.toArray⟩, p.2)) H') → tPairs trs σ H Q := by
  intro keys
  induction keys with
  | nil =>
    intro vals ks es hk hv hl
    cases ks with
    | cons _ _ => simp [chK, chL] at hk
    | nil =>
      cases vals with
      | cons _ _ => simp at hl
      | nil =>
        cases es with
        | cons _ _ => simp [chL] at hv
        | nil =>
          refine ⟨[], pps_nil, fun σ H Q ⟨env, S, QW, XW, he, hs, h, k, kx⟩ => ?_⟩
          simp only [wEs] at h
          exact k [] S [] H rfl hs (Fr.refl _ _) h
  | cons e keys ih =>
    intro vals ks es hk hv hl
    obtain ⟨x, j, p, k, r, rfl, rfl, ek, hk⟩ := chK_el hk
    cases vals with
    | nil => simp at hl
    | cons v vals =>
      obtain ⟨e', es, rfl, hv1, hv2⟩ := chL_el hv
      obtain ⟨trs, hp, ht⟩ := ih hk hv2 (by simpa using hl)
      refine ⟨_, pps_cons pe_str (hf _ _ hv1) hp, fun σ H Q ⟨env, S, QW, XW, he, hs, h, kq, kx⟩ => ?_⟩
      simp only [wEs] at h
      have ex : (.str x : V) = .str ⟨k.toArray⟩ := by rw [← ek]
      show tC (.str x) σ H _
      refine tC_key ?_
      refine ⟨env, S, _, XW, he, hs, h, fun w S1 u H1 r1 s1 f1 q1 => ?_, kx⟩
      refine ht σ H1 _ ⟨env, S1, _, XW, he.fr f1, s1, q1, fun ws S2 vs H2 r2 s2 f2 q2 => ?_, kx.fr f1⟩
      have := kq (w :: ws) S2 (u :: vs) H2 ⟨u, vs, rfl, rep.fr f2 _ _ r1, r2⟩ s2 (f1.trans f2) q2
      rw [ex]
      exact this
theorem chK_len : ∀ {keys : List (Option Expr)} {ks : List (List Nat)}, chK keys ks = true → keys.length = ks.length ∧ keys.all (·.isSome) = true := by
  intro keys
  induction keys with
  | nil => intro ks h; cases ks with | nil => exact ⟨rfl, rfl⟩ | cons _ _ => simp [chK, chL] at h
  | cons e keys ih =>
    intro ks h
    obtain ⟨x, j, p, k, r, rfl, rfl, ek, hk⟩ := chK_el h
    obtain ⟨h1, h2⟩ := ih hk
    exact ⟨by simp [h1], by simp [h2]⟩
theorem s_dic (xo : XO Γ G C N sc Wx X) {f : Expr → E → Bool} (hf : ∀ e e', f e e' = true → PE X e (tE Γ C Wx e')) {keys : List (Option Expr)} {vals : List Expr} {ks : List (List Nat)} {es : List E} {pos : Pos} (hk : chK keys ks = true) (nd : ks.Nodup) (ne : ks ≠ []) (h15 : ks.length ≤ 15) (hl : vals.length = ks.length) (hv : chL f vals es = true) :
    PE X (.Dict keys vals pos) (tE Γ C Wx (.dic ks es)) := by
  obtain ⟨trs, hp, ht⟩ := pps_of xo hf (pos := pos) hk hv hl
  obtain ⟨l1, l2⟩ := chK_len hk
  refine PEimp (pe_disp hp l2 (by rw [l1, hl]) (fun e => ne (by rw [e] at l1; exact List.eq_nil_of_length_eq_zero l1.symm)) (by rw [l1]; exact h15)) fun σ H Q ⟨env, S, QW, XW, he, hs, h, k, kx⟩ => ?_
  simp only [wE] at h
  intro p hpn
  have h := h p (hs.nil hpn)
  refine ht σ _ _ ⟨env, S.set p .hid, _, fun _ _ => False, he.fr (Fr.newS hpn), hs.hide hpn, h, fun ws S1 vs H1 r1 s1 f1 q1 => ?_, fun _ _ _ _ _ _ _ _ q => q.elim⟩
  obtain ⟨hS1, hH1⟩ := f1.2 p _ Sto.set_same upd_same
  obtain ⟨lw, q1⟩ := q1
  have lv := r1.len
  refine ⟨hH1, dkz0 ks vs, ?_, ?_, ?_⟩
  · unfold dkz0
    rw [List.map_map]
    rfl
  · unfold dkz0
    rw [List.length_map, List.length_zip]
    omega
  · have mg : mergeK [] (dkz0 ks vs) = dkz0 ks vs := by
      rw [merge_nodup _ [] ?_ (by simp)]
      · rfl
      · unfold dkz0
        rw [List.map_map]
        have : (Prod.fst ∘ fun p : List Nat × V => ((Sum.inr ⟨p.1.toArray⟩ : Key), p.2)) = (fun k : List Nat => (Sum.inr ⟨k.toArray⟩ : Key)) ∘ Prod.fst := rfl
        rw [this, ← List.map_map, List.map_fst_zip (by omega)]
        exact nd_map _ (fun a b e => by injection e with e; injection e with e; simpa using e) nd
    rw [mg]
    have fr : Fr S H (S1.del p) (upd H1 p (.dK (dkz0 ks vs))) := frU hpn (frDel hpn (Fr.trans (Fr.newS hpn) f1))
    refine k (.dct (ks.map Sum.inr) ws) (S1.del p) (.ref p) _ ⟨p, vs, rfl, ⟨Sto.del_same, by rw [dkz0_eq]; exact upd_same⟩, by rw [List.length_map]; exact lw, ?_⟩ ?_ fr q1
    · exact reps.fr0 fr0Del _ _ (reps.fr0 (Fr0.hid hS1) _ _ r1)
    · exact (s1.hid hS1).del
theorem s_ext (xo : XO Γ G C N sc Wx X) {o x : Expr} {a e : E} {apos cpos : Pos} (h1 : plainO o = true) (h2 : (apos.endLine == cpos.line) = true) (hn : noStar x = true) (pa : PE X o (tE Γ C Wx a)) (px : PE X x (tE Γ C Wx e)) :
    PE X (.Call (.Attribute o "extend" apos) [x] [] cpos) (tE Γ C Wx (.ext a e)) := by
  have sc1 : starEach [x] X.env = (false, eval x X.env) :: starEach [] X.env := star_cons hn
  refine PEimp (pe_bm PySem.F.plainAttrs_list PySem.F.slot_list_extend PySem.F.type_list_extend mt_extend pa (pa_cons px pa_nil sc1) (base_of h1) (by rw [sc1]; rfl) h2 sc1 rfl) fun σ H Q ⟨env, S, QW, XW, he, hs, h, k, kx⟩ => ?_
  simp only [wE] at h
  refine ⟨env, S, _, XW, he, hs, h, fun y S1 v H1 r1 s1 f1 q1 => ?_, kx⟩
  dsimp only at q1
  cases e1 : lstOf S1 y with
  | none => rw [e1] at q1; exact absurd q1.1 (by simp)
  | some ws =>
    obtain ⟨pp, vs, rfl, hp, rr⟩ := lst_rep e1 r1 s1
    refine ⟨.inl ⟨rfl, _, SqL.of hp⟩, env, S1, _, XW, he.fr f1, s1, q1.2, fun w S2 u H2 r2 s2 f2 q2 => ?_, kx.fr f1⟩
    cases y with
    | ref b =>
      have q2 : (match S2 b with
        | some (.lst ws) => match lstOf S2 w with
          | some us => ws.length + us.length ≤ PySem.sizeLine ∧ QW .non (S2.set b (.lst (ws ++ us)))
          | none => False
        | _ => False) := q2
      cases r1
      split at q2
      · rename_i us e2
        split at q2
        · rename_i us2 e3
          obtain ⟨vs2, h3, rr2⟩ := s2 pp _ e2
          obtain ⟨p4, vs4, rfl, h4, rr4⟩ := lst_rep e3 r2 s2
          refine ⟨pp, p4, vs2, vs4, rfl, rfl, h3, h4, by rw [← rr2.len, ← rr4.len]; exact q2.1, ?_⟩
          exact k .non _ .non _ rfl (s2.wrL e2 (rr2.app rr4)) (f1.trans (f2.trans (Fr.wr e2))) q2.2
        · exact q2.elim
      · exact q2.elim
    | _ => exact (show False from q2).elim
end
end Bw

/-! Ev12c: methods of built-in types, dicts, own classes' instances, caught exceptions, defs as values. -/
namespace Bw
open PySem L2 PySem.Spec PyProof.Rows
theorem MtRimp {X : Cx} {id : String} {r r' : V → List V → Hp → VK → Prop} (h : MtR X id r) (k : ∀ x xs H Q, r' x xs H Q → r x xs H Q) : MtR X id r' := fun pins s σ H x xs v us Q I rx rxs q => h pins s σ H x xs v us Q I rx rxs (k _ _ _ _ q)
section
variable {Γ : Gm} {S : Sto} {H : Hp}
theorem strs_vals : ∀ {ws : List W} {vs : List V} {zs : List (List Nat)}, strsOf ws = some zs → reps Γ S H ws vs → vs = zs.map strV
  | [], vs, zs, h, r => by
    cases h
    cases r
    rfl
  | w :: ws, vs, zs, h, r => by
    obtain ⟨v, vs', rfl, r1, r2⟩ := r
    cases w with
    | str x =>
      simp only [strsOf] at h
      cases e : strsOf ws with
      | none => rw [e] at h; cases h
      | some zs' =>
        rw [e] at h
        cases h
        rw [strs_vals e r2, r1.1]
        rfl
    | _ => cases h
theorem eqV_str {x z : List Nat} : eqV (strV x) (strV z) = (x == z) := by
  show ((⟨x.toArray⟩ : Str) == (⟨z.toArray⟩ : Str)) = _
  exact str_eq
theorem ix_get {z : List Nat} : ∀ {zs : List (List Nat)} {i : Nat}, ixOf z zs = some i → zs[i]? = some z ∧ ∀ m y, m < i → zs[m]? = some y → y ≠ z
  | [], i, h => by cases h
  | y :: ys, i, h => by
    unfold ixOf at h
    split at h
    · rename_i e
      cases h
      exact ⟨by simp [e], fun m y hm => absurd hm (Nat.not_lt_zero _)⟩
    · rename_i e
      cases q : ixOf z ys with
      | none => rw [q] at h; cases h
      | some j =>
        rw [q] at h
        cases h
        obtain ⟨h1, h2⟩ := ix_get q
        refine ⟨by simpa using h1, fun m y' hm hy => ?_⟩
        cases m with
        | zero =>
          simp at hy
          rw [← hy]
          exact e
        | succ m => exact h2 m y' (Nat.lt_of_succ_lt_succ hm) (by simpa using hy)
theorem lstStrs {x : W} {v : V} {zs : List (List Nat)} (h : (lstOf S x).bind strsOf = some zs) (r : rep Γ S H x v) (s : SR Γ S H) : ∃ p, v = .ref p ∧ H p = some (.lst (zs.map strV)) := by
  cases e : lstOf S x with
  | none => rw [e] at h; cases h
  | some ws =>
    rw [e] at h
    obtain ⟨p, vs, rfl, hp, rr⟩ := lst_rep e r s
    rw [strs_vals (show strsOf ws = some zs from h) rr] at hp
    exact ⟨p, rfl, hp⟩
theorem wStr_el {x : W} {P : List Nat → Prop} (h : wStr x P) : ∃ z, x = .str z ∧ P z := by
  unfold wStr at h
  split at h
  · exact ⟨_, rfl, h⟩
  · exact h.elim
theorem w2_el {ws : List W} {P : W → W → Prop} (h : w2 ws P) : ∃ x y, ws = [x, y] ∧ P x y := by
  unfold w2 at h
  split at h
  · exact ⟨_, _, rfl, h⟩
  · exact h.elim
theorem flat_strs {zs : List (List Nat)} : (zs.map strV).all flatV = true := by
  rw [List.all_map]
  exact List.all_eq_true.mpr fun z _ => rfl
def rMeb (Γ : Gm) (m : MB) : V → List V → Hp → VK → Prop := fun v us H Q => ∃ x ws S QW, rep Γ S H x v ∧ reps Γ S H ws us ∧ SR Γ S H ∧ wMeb m x ws S QW ∧ KQ Γ S H QW Q
def idM : MB → String
  | .count => "list.count"
  | .index => "list.index"
  | .dget1 => "dict.get"
  | .dget2 => "dict.get"
  | .dcopy => "dict.copy"
  | .join => "str.join"
theorem mt_meb {X : Cx} (hK : X.K = Γ.K) (hu : X.A.units + 64 < cLine) (m : MB) (hm : m ≠ .join) : MtR X (idM m) (rMeb Γ m) := by
  have hu1 : X.A.units + 1 < cLine := by omega
  cases m with
  | join => exact absurd rfl hm
  | count =>
    refine MtRimp mt_lcntF fun v us H Q ⟨x, ws, S, QW, r1, r2, s, h, k⟩ => ?_
    obtain ⟨y, rfl, h⟩ := w1_el h
    obtain ⟨z, rfl, h⟩ := wStr_el h
    obtain ⟨zs, e, h⟩ := wSome_el h
    obtain ⟨u, rfl, ru⟩ := r2.l1
    obtain ⟨p, rfl, hp⟩ := lstStrs e r1 s
    obtain ⟨rfl, _⟩ := ru
    refine ⟨p, zs.map strV, strV z, rfl, rfl, SqL.of hp, rfl, flat_strs, ?_⟩
    have ec : ((zs.map strV).countP fun y => eqV y (strV z)) = zs.countP (· == z) := by
      rw [List.countP_map]
      congr 1
      funext y
      exact eqV_str
    rw [ec]
    exact k.here s (w := .int _) rfl h
  | index =>
    refine MtRimp mt_index fun v us H Q ⟨x, ws, S, QW, r1, r2, s, h, k⟩ => ?_
    obtain ⟨y, rfl, h⟩ := w1_el h
    obtain ⟨z, rfl, h⟩ := wStr_el h
    obtain ⟨zs, e, h⟩ := wSome_el h
    obtain ⟨i, e2, h⟩ := wSome_el h
    obtain ⟨u, rfl, ru⟩ := r2.l1
    obtain ⟨p, rfl, hp⟩ := lstStrs e r1 s
    obtain ⟨rfl, _⟩ := ru
    obtain ⟨g1, g2⟩ := ix_get e2
    refine ⟨p, zs.map strV, strV z, i, strV z, rfl, rfl, SqL.of hp, rfl, flat_strs, by rw [List.getElem?_map, g1]; rfl, by rw [eqV_str]; simp, fun m z' hm hz => ?_, k.here s (w := .int _) rfl h⟩
    rw [List.getElem?_map] at hz
    cases q : zs[m]? with
    | none => rw [q] at hz; cases hz
    | some y =>
      rw [q] at hz
      cases hz
      rw [eqV_str]
      simpa using g2 m y hm q
  | dget1 =>
    refine MtRimp (mt_dget1 hu1) fun v us H Q ⟨x, ws, S, QW, r1, r2, s, h, k⟩ => ?_
    obtain ⟨y, rfl, h⟩ := w1_el h
    obtain ⟨p, e, h⟩ := wSome_el h
    obtain ⟨ky, e2, h⟩ := wSome_el h
    obtain ⟨u, rfl, ru⟩ := r2.l1
    obtain ⟨a, o, rfl, g, go⟩ := dic_get e e2 r1 ru s
    refine ⟨a, u, o, rfl, rfl, g, ?_⟩
    cases q : lookD p.1 p.2 ky with
    | none =>
      rw [q] at h
      rw [go.2 q]
      exact k.here s (w := .non) rfl h
    | some w =>
      rw [q] at h
      obtain ⟨t, e3, rt⟩ := go.1 w q
      rw [e3]
      exact k.here s rt h
  | dget2 =>
    refine MtRimp (mt_dget2 hu1) fun v us H Q ⟨x, ws, S, QW, r1, r2, s, h, k⟩ => ?_
    obtain ⟨y, d, rfl, h⟩ := w2_el h
    obtain ⟨p, e, h⟩ := wSome_el h
    obtain ⟨ky, e2, h⟩ := wSome_el h
    obtain ⟨u, u2, rfl, ru, ru2⟩ := r2.l2
    obtain ⟨a, o, rfl, g, go⟩ := dic_get e e2 r1 ru s
    refine ⟨a, u, u2, o, rfl, rfl, g, ?_⟩
    cases q : lookD p.1 p.2 ky with
    | none =>
      rw [q] at h
      rw [go.2 q]
      exact k.here s ru2 h
    | some w =>
      rw [q] at h
      obtain ⟨t, e3, rt⟩ := go.1 w q
      rw [e3]
      exact k.here s rt h
  | dcopy =>
    refine MtRimp mt_dcopy fun v us H Q ⟨x, ws, S, QW, r1, r2, s, h, k⟩ => ?_
    obtain ⟨rfl, h⟩ := h
    obtain ⟨p, e, h⟩ := wSome_el h
    cases r2
    obtain ⟨a, vs, rfl, ha, hl, rr⟩ := dic_rep e r1 s
    refine ⟨a, _, rfl, rfl, .inl ha, fun b hb => ?_⟩
    exact k (.ref b) (S.set b (.dic p.1 p.2)) (.ref b) _ rfl (orep.new s hb ⟨vs, upd_same, hl, reps.fr (Fr.newS hb) _ _ rr⟩) (Fr.newS hb) (h b (s.nil hb))
theorem recv_ty {X : Cx} (hK : X.K = Γ.K) {m : MB} {x : W} {v : V} (hm : m ≠ .join) (h : recvOf m S x = true) (r : rep Γ S H x v) (s : SR Γ S H) : tyV X.K (match m with | .count => "list" | .index => "list" | _ => "dict") v H := by
  have L : (lstOf S x).isSome = true → tyV X.K "list" v H := fun h => by
    cases e : lstOf S x with
    | none => rw [e] at h; cases h
    | some ws =>
      obtain ⟨p, vs, rfl, hp, rr⟩ := lst_rep e r s
      exact .inl ⟨rfl, vs, SqL.of hp⟩
  have D : (dicOf S x).isSome = true → tyV X.K "dict" v H := fun h => by
    cases e : dicOf S x with
    | none => rw [e] at h; cases h
    | some p =>
      obtain ⟨a, vs, rfl, ha, hl, rr⟩ := dic_rep e r s
      exact .inr (.inr (.inl ⟨rfl, .inl ⟨_, ha⟩⟩))
  cases m with
  | join => exact absurd rfl hm
  | count => exact L h
  | index => exact L h
  | dget1 => exact D h
  | dget2 => exact D h
  | dcopy => exact D h
theorem all_of_any {α : Type} {l : List (Bool × α)} (h : l.any (·.1) = false) : l.all (fun x => !x.1) = true := by
  rw [List.any_eq_false] at h
  exact List.all_eq_true.mpr fun x hx => by simpa using h x hx
/-! ### instances' fields -/
theorem sZ_inj {a b : List Nat} (h : sZ a = sZ b) : a = b := by
  unfold sZ at h
  injection h with h
  simpa using h
theorem lk_cons_ne {k f : List Nat} {v : V} {r : List (Str × V)} (e : k ≠ f) : List.lookup (sZ f) ((sZ k, v) :: r) = List.lookup (sZ f) r := by
  rw [List.lookup_cons]
  have : (sZ f == sZ k) = false := by
    rw [beq_eq_false_iff_ne]
    intro z
    exact e (sZ_inj z).symm
  rw [this]
theorem lk_cons_eq {f : List Nat} {v : V} {r : List (Str × V)} : List.lookup (sZ f) ((sZ f, v) :: r) = some v := by
  rw [List.lookup_cons]
  simp
theorem ins_some {f : List Nat} {w : W} : ∀ {ks : List (List Nat)} {ws : List W} {vs : List V}, reps Γ S H ws vs → lookF ks ws f = some w → ∃ v, (insz ks vs).lookup (sZ f) = some v ∧ rep Γ S H w v ∧ f ∈ ks
  | [], ws, vs, r, h => by cases ws <;> cases h
  | k :: ks, [], vs, r, h => by cases h
  | k :: ks, w' :: ws, vs, ⟨v, vs', e, r1, r2⟩, h => by
    subst e
    unfold lookF at h
    show ∃ u, List.lookup (sZ f) ((sZ k, v) :: insz ks vs') = some u ∧ _
    split at h
    · rename_i e
      cases h
      subst e
      exact ⟨v, lk_cons_eq, r1, by simp⟩
    · rename_i e
      obtain ⟨u, h1, h2, h3⟩ := ins_some r2 h
      exact ⟨u, by rw [lk_cons_ne e]; exact h1, h2, List.mem_cons_of_mem _ h3⟩
theorem ins_none {f : List Nat} : ∀ {ks : List (List Nat)} {ws : List W} {vs : List V}, ks.length = ws.length → reps Γ S H ws vs → lookF ks ws f = none → (insz ks vs).lookup (sZ f) = none
  | [], ws, vs, l, r, h => by
    cases ws with
    | nil => cases r; rfl
    | cons _ _ => cases l
  | k :: ks, [], vs, l, r, h => by cases l
  | k :: ks, w' :: ws, vs, l, ⟨v, vs', e, r1, r2⟩, h => by
    subst e
    unfold lookF at h
    show List.lookup (sZ f) ((sZ k, v) :: insz ks vs') = none
    split at h
    · cases h
    · rename_i e
      rw [lk_cons_ne e]
      exact ins_none (Nat.succ.inj l) r2 h
/-- an instance, in the heap -/
theorem obj_rep {x : W} {v : V} {p : Nat × List (List Nat) × List W} (h : objOf S x = some p) (r : rep Γ S H x v) (s : SR Γ S H) : ∃ a dx vs, v = .ref a ∧ H a = some (.ins (Γ.ca p.1) dx (insz p.2.1 vs)) ∧ (p.2.1.length = p.2.2.length ∧ IC Γ p.1 p.2.1) ∧ reps Γ S H p.2.2 vs := by
  cases x with
  | obj c ks ws =>
    cases h
    obtain ⟨a, dx, vs, e, q, l, rr⟩ := r
    exact ⟨a, dx, vs, e, q.2, l, rr⟩
  | ref a =>
    unfold objOf at h
    simp only at h
    split at h
    · rename_i c ks ws e
      cases h
      obtain ⟨dx, vs, h1, l, rr⟩ := s a _ e
      exact ⟨a, dx, vs, r, h1, l, rr⟩
    · cases h
  | _ => cases h
end
section
variable {Γ : Gm} {G : GT} {C : CT} {N : List Str} {sc : Scope} {Wx : WX} {X : Cx}
theorem s_meb (xo : XO Γ G C N sc Wx X) {m : MB} (hm : m ≠ .join) {o : Expr} {es : List Expr} {a : E} {es' : List E} {apos cpos : Pos} (h1 : plainO o = true) (h2 : (apos.endLine == cpos.line) = true) (hl : es.length = arM m) (hle : es.length = es'.length) (hn : es.all noStar = true) (pa : PE X o (tE Γ C Wx a)) (px : PA X es (tEs Γ C Wx es')) :
    PE X (.Call (.Attribute o (nameM m) apos) es [] cpos) (tE Γ C Wx (.meb m a es')) := by
  have hr := mt_meb xo.hK xo.un m hm
  have go : ∀ (T : String), (∀ S H x v, recvOf m S x = true → rep Γ S H x v → SR Γ S H → tyV X.K T v H) → ∀ σ H Q, tE Γ C Wx (.meb m a es') σ H Q → tBM X.K T (rMeb Γ m) (tE Γ C Wx a) (tEs Γ C Wx es') σ H Q := fun T hT σ H Q ⟨env, S, QW, XW, he, hs, h, k, kx⟩ => by
    simp only [wE] at h
    refine ⟨env, S, _, XW, he, hs, h, fun x S1 v H1 r1 s1 f1 q1 => ⟨hT S1 H1 x v q1.1 r1 s1, ?_⟩, kx⟩
    exact ⟨env, S1, _, XW, he.fr f1, s1, q1.2, fun ws S2 us H2 r2 s2 f2 q2 => ⟨x, ws, S2, QW, rep.fr f2 _ _ r1, r2, s2, q2, k.fr (f1.trans f2)⟩, kx.fr f1⟩
  have rt := fun (S : Sto) (H : Hp) (x : W) (v : V) (q : recvOf m S x = true) (r : rep Γ S H x v) (s : SR Γ S H) => recv_ty (X := X) xo.hK hm q r s
  cases m with
  | join => exact absurd rfl hm
  | dcopy =>
    cases es with
    | cons _ _ => cases hl
    | nil =>
      refine PEimp (pe_bm0 PySem.F.plainAttrs_dict PySem.F.slot_dict_copy PySem.F.type_dict_copy hr pa (base_of h1) h2) fun σ H Q ⟨env, S, QW, XW, he, hs, h, k, kx⟩ => ?_
      simp only [wE] at h
      refine ⟨env, S, _, XW, he, hs, h, fun x S1 v H1 r1 s1 f1 q1 => ⟨rt S1 H1 x v q1.1 r1 s1, ?_⟩, kx⟩
      have q2 := q1.2
      cases es' with
      | nil =>
        simp only [wEs] at q2
        exact ⟨x, [], S1, QW, r1, rfl, s1, q2, k.fr f1⟩
      | cons e' es' => cases hle
  | count =>
    obtain ⟨e, rfl⟩ := List.length_eq_one_iff.mp hl
    have n1 : noStar e = true := by simpa using hn
    have sc1 : starEach [e] X.env = (false, eval e X.env) :: starEach [] X.env := star_cons n1
    exact PEimp (pe_bm PySem.F.plainAttrs_list PySem.F.slot_list_count PySem.F.type_list_count hr pa px (base_of h1) (by rw [sc1]; rfl) h2 sc1 rfl) (go "list" rt)
  | index =>
    obtain ⟨e, rfl⟩ := List.length_eq_one_iff.mp hl
    have n1 : noStar e = true := by simpa using hn
    have sc1 : starEach [e] X.env = (false, eval e X.env) :: starEach [] X.env := star_cons n1
    exact PEimp (pe_bm PySem.F.plainAttrs_list PySem.F.slot_list_index PySem.F.type_list_index hr pa px (base_of h1) (by rw [sc1]; rfl) h2 sc1 rfl) (go "list" rt)
  | dget1 =>
    obtain ⟨e, rfl⟩ := List.length_eq_one_iff.mp hl
    have n1 : noStar e = true := by simpa using hn
    have sc1 : starEach [e] X.env = (false, eval e X.env) :: starEach [] X.env := star_cons n1
    exact PEimp (pe_bm PySem.F.plainAttrs_dict PySem.F.slot_dict_get PySem.F.type_dict_get hr pa px (base_of h1) (by rw [sc1]; rfl) h2 sc1 rfl) (go "dict" rt)
  | dget2 =>
    obtain ⟨e, e2, rfl⟩ : ∃ e e2, es = [e, e2] := by
      match es, hl with
      | [e, e2], _ => exact ⟨e, e2, rfl⟩
    have n1 : noStar e = true ∧ noStar e2 = true := by simpa using hn
    have sc1 : starEach [e, e2] X.env = (false, eval e X.env) :: starEach [e2] X.env := star_cons n1.1
    have sc2 : starEach [e2] X.env = (false, eval e2 X.env) :: starEach [] X.env := star_cons n1.2
    exact PEimp (pe_bm PySem.F.plainAttrs_dict PySem.F.slot_dict_get PySem.F.type_dict_get hr pa px (base_of h1) (by rw [sc1, sc2]; rfl) h2 sc1 (by rw [sc2]; rfl)) (go "dict" rt)
theorem s_dnew {pos : Pos} : PE X (.Dict [] [] pos) (tE Γ C Wx .dnew) := by
  refine PEimp pe_dnewK fun σ H Q ⟨env, S, QW, XW, he, hs, h, k, kx⟩ => ?_
  simp only [wE] at h
  intro p hp
  exact k (.ref p) (S.set p (.dic [] [])) (.ref p) _ rfl (orep.new hs hp ⟨[], upd_same, rfl, rfl⟩) (Fr.newS hp) (h p (hs.nil hp))
theorem wFz_el {x : W} {S : Sto} {Q : VQ} (h : wFz x S Q) : ∃ w' S', Fz S x w' S' ∧ Q w' S' := by
  have sub : ∀ {a : Addr} {o : O}, S a = some o → o ≠ .hid → Sub (S.del a) S := fun {a o} e ne => by
    refine ⟨fun b u q => ?_, fun b q => ?_⟩
    · unfold Sto.del at q
      split at q
      · cases q
      · exact q
    · unfold Sto.del
      split
      · rename_i e2
        subst e2
        rw [e] at q
        cases q
        exact absurd rfl ne
      · exact q
  have same : Sub S S := ⟨fun _ _ q => q, fun _ q => q⟩
  unfold wFz at h
  split at h
  · rename_i a
    split at h
    · rename_i ws e
      exact ⟨_, _, ⟨sub e (fun z => nomatch z), .inr ⟨a, rfl, Sto.del_same, .inl ⟨ws, e, rfl⟩⟩⟩, h⟩
    · rename_i ks ws e
      exact ⟨_, _, ⟨sub e (fun z => nomatch z), .inr ⟨a, rfl, Sto.del_same, .inr (.inl ⟨ks, ws, e, rfl⟩)⟩⟩, h⟩
    · rename_i c ks ws e
      exact ⟨_, _, ⟨sub e (fun z => nomatch z), .inr ⟨a, rfl, Sto.del_same, .inr (.inr ⟨c, ks, ws, e, rfl⟩)⟩⟩, h⟩
    · exact ⟨_, _, ⟨same, .inl rfl⟩, h⟩
  · exact ⟨_, _, ⟨same, .inl rfl⟩, h⟩
theorem s_fzv {e : Expr} {a : E} (pa : PE X e (tE Γ C Wx a)) : PE X e (tE Γ C Wx (.fzv a)) := by
  refine PEimp pa fun σ H Q ⟨env, S, QW, XW, he, hs, h, k, kx⟩ => ?_
  simp only [wE] at h
  refine ⟨env, S, _, XW, he, hs, h, fun x S1 v H1 r1 s1 f1 q1 => ?_, kx⟩
  obtain ⟨w', S', z, q⟩ := wFz_el q1
  obtain ⟨r2, s2, f2⟩ := z.rep s1 r1
  exact k w' S' v H1 r2 s2 (f1.trans f2) q
theorem s_fld (xo : XO Γ G C N sc Wx X) {cs : List Nat} {x : Expr} {a : E} {f : List Nat} {pos : Pos} (h1 : plainO x = true) (pa : PE X x (tE Γ C Wx a)) : PE X (.Attribute x (sZ f) pos) (tE Γ C Wx (.fld cs a f)) := by
  refine PEimp (pe_fldX pa (base_of h1)) fun σ H Q ⟨env, S, QW, XW, he, hs, h, k, kx⟩ => ?_
  simp only [wE] at h
  refine ⟨env, S, _, XW, he, hs, h, fun x S1 v H1 r1 s1 f1 q1 => ?_, kx⟩
  obtain ⟨p, e, q1⟩ := wSome_el (show wSome (fldOf S1 x) _ from q1)
  obtain ⟨w, e2, q9⟩ := wSome_el q1
  have O : objOf S1 x = some p → rFldX X.K (sZ f) v H1 Q := fun e => by
    obtain ⟨b, dx, vs, rfl, hb, ⟨hl, ic⟩, rr⟩ := obj_rep e r1 s1
    obtain ⟨u, l, ru, hf⟩ := ins_some rr e2
    exact .inl ⟨b, _, dx, _, u, rfl, hb, by rw [xo.hK]; exact ic.1.cl, by rw [xo.hK]; exact ic.2 f hf, l, (k.fr f1).here s1 ru q9⟩
  cases x with
  | exn c ks ws =>
    cases e
    obtain ⟨b, d, vs, rfl, q, xd, ⟨hl, xc⟩, rr⟩ := r1
    obtain ⟨u, l, ru, hf⟩ := ins_some rr e2
    rcases xd with ⟨rfl, _⟩ | ⟨dd, rfl, _, hd⟩
    · cases hf
    · exact .inr ⟨b, _, dd, _, u, rfl, q.2, by rw [xo.hK]; exact xc.1.xf, by rw [xo.hK]; exact xc.2 f hf, hd, l, (k.fr f1).here s1 ru q9⟩
  | _ => exact O e
theorem s_meth (xo : XO Γ G C N sc Wx X) (nh : G.hot = false) {tb : List (Nat × Nat)} {m : List Nat} {o : Expr} {es : List Expr} {a : E} {es' : List E} {apos cpos : Pos} (h1 : plainO o = true) (h2 : (apos.endLine == cpos.line) = true) (hl : es.length < 20) (hle : es.length = es'.length) (ht : G.mth.lookup m = some tb) (hn : es.all noStar = true) (pa : PE X o (tE Γ C Wx a)) (px : PA X es (tEs Γ C Wx es')) :
    PE X (.Call (.Attribute o (sZ m) apos) es [] cpos) (tE Γ C Wx (.meth tb m a es')) := by
  have key : ∀ {env : Env} {S : Sto} {QW : VQ} {XW : XQ} {σ : L2.St} {H : Hp} {Q : VK} {x : W} {v : V} (hr : rep Γ S H x v) (he : envR Γ S H env σ) (hs : SR Γ S H) (q : wSome (objOf S x) fun p => lookF p.2.1 p.2.2 m = none ∧ wSome (tb.lookup p.1) fun f => wEs C es' env S (fun ws S2 => C f (x :: ws) S2 QW XW) XW) (k : KQ Γ S H QW Q) (kx : KX Γ S H XW (fun cls d H' => Wx cls d σ H')) (t : TA)
      (ht : ∀ (Q' : List V → Hp → Prop), (∃ QL, wEs C es' env S QL XW ∧ KL Γ S H QL Q') → t σ H Q'),
      ∃ (a Cc dx : Addr) (fs : List (Str × V)) (g : Addr) (kk : Nat) (sp : Sp), v = .ref a ∧ H a = some (.ins Cc dx fs) ∧ Cls X.K Cc ∧ Meth X.K Cc (sZ m) g ∧ fs.lookup (sZ m) = none ∧ Fk X (L2.CX X.prog X.w) kk g sp ∧ Room kk X.A ∧ t σ H fun vs H2 => sp (v :: vs) H2 Q (WE Wx σ) := by
    intro env S QW XW σ H Q x v hr he hs q k kx t htt
    obtain ⟨p, e, q1, q2⟩ := wSome_el q
    obtain ⟨f, e2, q2⟩ := wSome_el q2
    obtain ⟨b, dx, vs, rfl, hb, ⟨hlen, ic⟩, rr⟩ := obj_rep e hr hs
    obtain ⟨kk, fk, rm, me⟩ := xo.mth m tb p.1 f nh ht e2
    refine ⟨b, _, dx, _, _, kk, _, rfl, hb, by rw [xo.hK]; exact ic.1.cl, me, ins_none hlen rr q1, fk, rm, htt _ ⟨_, q2, fun ws S2 us H2 r2 s2 f2 q3 => ?_⟩⟩
    exact ⟨x :: ws, S2, QW, XW, ⟨_, us, rfl, rep.fr f2 _ _ hr, r2⟩, s2, q3, k.fr f2, kx.fr f2⟩
  cases es with
  | nil =>
    refine PEimp (pe_methD0 (CX := L2.CX X.prog X.w) (E := WE Wx) pa h1 h2 (passAt xo.tk)) fun σ H Q ⟨env, S, QW, XW, he, hs, h, k, kx⟩ => ?_
    simp only [wE] at h
    refine ⟨env, S, _, XW, he, hs, h, fun x S1 v H1 r1 s1 f1 q1 => ?_, kx⟩
    refine key r1 (he.fr f1) s1 q1 (k.fr f1) (kx.fr f1) tNil fun Q' ⟨QL, q, kl⟩ => ?_
    cases es' with
    | nil => exact kl [] S1 [] H1 rfl s1 (Fr.refl _ _) (by simpa only [wEs] using q)
    | cons e' es' => cases hle
  | cons e es =>
    have hn2 := hn
    rw [List.all_cons, Bool.and_eq_true] at hn
    refine PEimp (pe_methD (CX := L2.CX X.prog X.w) (E := WE Wx) pa h1 h2 (passAt xo.tk) px (by omega) (star_cons hn.1) (star_any hn.2) (all_of_any (star_any hn2))) fun σ H Q ⟨env, S, QW, XW, he, hs, h, k, kx⟩ => ?_
    simp only [wE] at h
    refine ⟨env, S, _, XW, he, hs, h, fun x S1 v H1 r1 s1 f1 q1 => ?_, kx⟩
    exact key r1 (he.fr f1) s1 q1 (k.fr f1) (kx.fr f1) _ fun Q' ⟨QL, q, kl⟩ => ⟨env, S1, QL, XW, he.fr f1, s1, q, kl, kx.fr f1⟩
theorem s_mk (xo : XO Γ G C N sc Wx X) (nh : G.hot = false) {x : Str} {c fi : Nat} {es : List Expr} {es' : List E} {p pos : Pos} (h1 : gloB sc x = true) (h2 : nodbg x = true) (h3 : G.cls.lookup x = some (c, fi)) (hle : es.length = es'.length) (hn : es.all noStar = true) (px : PA X es (tEs Γ C Wx es')) :
    PE X (.Call (.Name x p) es [] pos) (tE Γ C Wx (.mk c fi es')) := by
  obtain ⟨k0, fd, ps, F, hb, hr, M, hm, ic⟩ := xo.cls x c fi nh h3
  have key : ∀ {S : Sto} {QW : VQ} {XW : XQ} {σ : L2.St} {H : Hp} {Q : VK} {ws : List W} {us : List V} (r : reps Γ S H ws us) (hs : SR Γ S H) (q : ∀ a, S a = none → C fi (.ref a :: ws) (S.set a (.ins c [] [])) (fun w S2 => w = .non ∧ QW (.ref a) S2) XW) (k : KQ Γ S H QW Q) (kx : KX Γ S H XW (fun cls d H' => Wx cls d σ H')),
      ∀ a dx, H a = none → H dx = none → dx ≠ a → spF Γ C fi (.ref a :: us) (upd (upd H dx (.own a)) a (.ins (Γ.ca c) dx [])) (fun v H2 => v = .non ∧ Q (.ref a) H2) (WE Wx σ) := by
    intro S QW XW σ H Q ws us r hs q k kx a dx ha hdx ne
    have ha2 : (upd H dx (.own a)) a = none := by rw [upd_ne (Ne.symm ne)]; exact ha
    have f1 : Fr S H S (upd H dx (.own a)) := Fr.new hdx
    have f2 : Fr S H (S.set a (.ins c [] [])) (upd (upd H dx (.own a)) a (.ins (Γ.ca c) dx [])) := f1.trans (Fr.newS ha2)
    have s2 : SR Γ (S.set a (.ins c [] [])) (upd (upd H dx (.own a)) a (.ins (Γ.ca c) dx [])) :=
      orep.new (hs.new hdx) ha2 ⟨dx, [], upd_same, ⟨rfl, by rw [← xo.hK]; exact ic, fun k hk => by cases hk⟩, rfl⟩
    refine ⟨.ref a :: ws, _, _, XW, ⟨_, us, rfl, rfl, reps.fr f2 _ _ r⟩, s2, q a (hs.nil ha), fun w S3 v H3 r3 s3 f3 ⟨e, q3⟩ => ?_, kx.fr f2⟩
    subst e
    exact ⟨r3, k (.ref a) S3 (.ref a) H3 rfl s3 (f2.trans f3) q3⟩
  cases es with
  | nil =>
    cases es' with
    | cons _ _ => cases hle
    | nil =>
      refine PEimp (pe_makeD0 (E := WE Wx) M F hr (xo.glo h1) hm hb (passAt xo.tk) (dbg_of h2).1) fun σ H Q ⟨env, S, QW, XW, he, hs, h, k, kx⟩ => ?_
      simp only [wE, wEs] at h
      exact key (ws := []) (us := []) rfl hs h k kx
  | cons e es =>
    rw [List.all_cons, Bool.and_eq_true] at hn
    refine PEimp (pe_makeD (E := WE Wx) M F hr (xo.glo h1) hm hb (passAt xo.tk) px (dbg_of h2).1 (star_cons hn.1) (star_any hn.2)) fun σ H Q ⟨env, S, QW, XW, he, hs, h, k, kx⟩ => ?_
    simp only [wE] at h
    exact ⟨env, S, _, XW, he, hs, h, fun ws S1 us H1 r1 s1 f1 q1 => key r1 s1 q1 (k.fr f1) (kx.fr f1), kx⟩
theorem s_mkx (xo : XO Γ G C N sc Wx X) (nh : G.hot = false) {x y : Str} {c : Nat} {z : List Nat} {j : Nat} {p p2 pos : Pos} (h1 : gloB sc x = true) (h2 : nodbg x = true) (h3 : G.xcl.lookup x = some (c, [])) :
    PE X (.Call (.Name x p) [.Constant (.str y) j p2] [] pos) (tE Γ C Wx (.mkx c z)) := by
  obtain ⟨q, hm, hk, _, _, xk⟩ := xo.xcl x c nh h3
  refine PEimp (pe_mkT F.excBase_ValueError q hm hk (xo.glo h1) (dbg_of h2).1) fun σ H Q ⟨env, S, QW, XW, he, hs, h, k, kx⟩ => ?_
  simp only [wE] at h
  intro a ha
  refine k (.exn c [] []) S (.ref a) _ ⟨a, none, [], rfl, ⟨hs.nil ha, upd_same⟩, .inl ⟨rfl, rfl⟩, ⟨rfl, by rw [← xo.hK]; exact xk, fun k hk => by cases hk⟩, rfl⟩ (hs.new ha) (Fr.new ha) h
theorem isC_ty {yes no : List Nat} {x : W} {v : V} {b : Bool} {S : Sto} {H : Hp} {D : Value} (hK : X.K = Γ.K) (h : isCW yes no S x = some b) (r : rep Γ S H x v) (s : SR Γ S H)
    (hy : ∀ c ∈ yes, PySem.W.kitOne X.K (.ref (Γ.ca c)) D = some true) (hno : ∀ c ∈ no, PySem.W.kitOne X.K (.ref (Γ.ca c)) D = some false) (ht : ∀ n ∈ ["NoneType", "bool", "int"], PySem.W.kitOne X.K (.type n) D = some false) :
    (∃ t, TyX X.K H v t ∧ PySem.W.kitOne X.K t D = some b) ∨ ∃ (a C : Addr) (d : Option Addr), v = .ref a ∧ H a = some (ExT (.ref C) d a) ∧ (∀ dd, d = some dd → ∃ fs, H dd = some (.xd fs)) ∧ XisC X.K C ∧ PySem.W.kitOne X.K (.ref C) D = some b := by
  have kc : ∀ {c : Nat}, (if c ∈ yes then some true else if c ∈ no then some false else none) = some b → PySem.W.kitOne X.K (.ref (Γ.ca c)) D = some b := fun {c} q => by
    split at q
    · rename_i m
      cases q
      exact hy c m
    · split at q
      · rename_i m
        cases q
        exact hno c m
      · cases q
  have O : ∀ {x : W}, rep Γ S H x v → ((objOf S x).map (·.1)).bind (fun c => if c ∈ yes then some true else if c ∈ no then some false else none) = some b → ∃ t, TyX X.K H v t ∧ PySem.W.kitOne X.K t D = some b := fun {x} r q => by
    cases e : objOf S x with
    | none => rw [e] at q; cases q
    | some p =>
      rw [e] at q
      obtain ⟨a, dx, vs, rfl, ha, ⟨_, ic⟩, _⟩ := obj_rep e r s
      exact ⟨.ref (Γ.ca p.1), by rw [hK]; exact .base (.ins ha ic.1.cl ic.1.ha ic.1.hn ic.1.ht ic.1.hm), kc q⟩
  cases x with
  | non => cases h; cases r; exact .inl ⟨_, .base .non, ht _ (by simp)⟩
  | bl _ => cases h; cases r; exact .inl ⟨_, .base (.bl _), ht _ (by simp)⟩
  | int _ => cases h; cases r; exact .inl ⟨_, .base (.int _), ht _ (by simp)⟩
  | exn c ks ws =>
    obtain ⟨a, d, vs, rfl, q, xd, ⟨_, xc⟩, _⟩ := r
    refine .inr ⟨a, Γ.ca c, d, rfl, q.2, fun dd e => ?_, by rw [hK]; exact xc.1, kc h⟩
    rcases xd with ⟨_, e2⟩ | ⟨dd', e2, _, hd⟩
    · rw [e] at e2; cases e2
    · rw [e] at e2; cases e2; exact ⟨_, hd⟩
  | _ => exact .inl (O r h)
theorem s_isC (xo : XO Γ G C N sc Wx X) {f y : Str} {yes no : List Nat} {x : Expr} {a : E} {p p2 pos : Pos} (h1 : biB G sc "isinstance" f = true) (h2 : gloB sc y = true) (h3 : nodbg y = true) (h4 : G.isC.lookup y = some (yes, no)) (hn : noStar x = true) (pa : PE X x (tE Γ C Wx a)) :
    PE X (.Call (.Name f p) [x, .Name y p2] [] pos) (tE Γ C Wx (.isC yes no a)) := by
  obtain ⟨e1, g, d, m⟩ := bi_of h1
  subst e1
  obtain ⟨d1, d2, d3⟩ := dbg_of d
  obtain ⟨k1, k2, k3⟩ := dbg_of h3
  obtain ⟨D, nm, hy, hno, ht⟩ := xo.isC y yes no h4
  have ⟨c, cv, pt⟩ : ∃ c, ClsV c D ∧ PE X (.Name y p2) (tC c) := by
    rcases nm with ⟨hm, b, rfl⟩ | ⟨hm, n, rfl, bt, _⟩
    · exact ⟨.ref b, .own b, pe_glob (v := .ref b) (xo.glo h2) hm rfl k1⟩
    · exact ⟨.ty n, .ty n, pe_bltn (xo.glo h2) hm bt rfl k3 k1⟩
  refine PEimp (pe_callB call_isX (xo.glo g) (xo.bi _ m) boot_isinstance (pa_cons pa (pa_cons pt pa_nil rfl) (star_cons hn)) d3 d1 (star_cons hn) rfl) fun σ H Q ⟨env, S, QW, XW, he, hs, h, k, kx⟩ => ?_
  simp only [wE] at h
  refine ⟨env, S, _, XW, he, hs, h, fun x S1 v H1 r1 s1 f1 q1 => ?_, kx⟩
  obtain ⟨b, e, q1⟩ := wSome_el q1
  exact ⟨v, _, _, b, rfl, cv, k (.bl b) S1 (.bl b) H1 rfl s1 f1 q1, isC_ty xo.hK e r1 s1 hy hno ht⟩
theorem s_callV (xo : XO Γ G C N sc Wx X) (nh : G.hot = false) {i : Nat} {x : Str} {fs : List Nat} {es : List Expr} {es' : List E} {p pos : Pos} (h1 : N[i]? = some x) (h2 : visB sc x = true) (h3 : nodbg x = true) (hf : fs.all (fun f => G.fns.any fun p => p.2.1 == f && p.2.2 == es.length) = true) (h4 : es ≠ []) (hn : es.all noStar = true) (pa : PA X es (tEs Γ C Wx es')) :
    PE X (.Call (.Name x p) es [] pos) (tE Γ C Wx (.callV i fs es')) := by
  obtain ⟨d1, d2, _⟩ := dbg_of h3
  cases es with
  | nil => exact absurd rfl h4
  | cons e es =>
    rw [List.all_cons, Bool.and_eq_true] at hn
    refine PEimp (pe_callV (CX := L2.CX X.prog X.w) (E := WE Wx) (by rw [xo.hN]; exact h1) (xo.vis h2) (passAt xo.tk) pa d1 d2 (star_cons hn.1) (star_any hn.2)) fun σ H Q ⟨env, S, QW, XW, he, hs, h, k, kx⟩ => ?_
    simp only [wE] at h
    obtain ⟨w, q, h⟩ := wVar_el h
    cases w with
    | fn f =>
      obtain ⟨hm, h⟩ := h
      obtain ⟨v, e1, r⟩ := he.2 i _ q
      obtain rfl : v = .ref (Γ.fa f) := r
      have hp := List.all_eq_true.mp hf f hm
      obtain ⟨⟨y, f', ar⟩, hy, hq⟩ := List.any_eq_true.mp hp
      simp only [Bool.and_eq_true, beq_iff_eq] at hq
      obtain ⟨rfl, _⟩ := hq
      obtain ⟨kk, fd, ps, F, hr, hk, hb, _⟩ := xo.fn y f' ar nh hy
      exact ⟨kk, _, _, e1, ⟨fd, ps, F, hb⟩, hr, hk, env, S, _, XW, he, hs, h, fun ws S1 vs H1 r1 s1 f1 q1 => ⟨ws, S1, QW, XW, r1, s1, q1, k.fr f1, kx.fr f1⟩, kx⟩
    | _ => exact h.elim
end
end Bw

/-! Ev12d: dicts with any keys; two dicts compared. -/
namespace Bw
open PySem L2 PySem.Spec PyProof.Rows
section
variable {Γ : Gm} {G : GT} {C : CT} {N : List Str} {sc : Scope} {Wx : WX} {X : Cx}
def unP : List V → Option (List (V × V))
  | [] => some []
  | k :: v :: r => (unP r).map ((k, v) :: ·)
  | _ => none
theorem chA_len {ch : Expr → E → Bool} : ∀ {keys : List (Option Expr)} {vals : List Expr} {kvs : List E}, chA ch keys vals kvs = true → keys.length = vals.length ∧ keys.all (·.isSome) = true := by
  intro keys
  induction keys with
  | nil => intro vals kvs h; cases vals with | nil => exact ⟨rfl, rfl⟩ | cons _ _ => simp [chA] at h
  | cons k keys ih =>
    intro vals kvs h
    cases k with
    | none => simp [chA] at h
    | some k =>
      cases vals with
      | nil => simp [chA] at h
      | cons v vals =>
        match kvs, h with
        | a :: b :: r, h =>
          simp only [chA, Bool.and_eq_true] at h
          obtain ⟨h1, h2⟩ := ih h.2
          exact ⟨by simp [h1], by simp [h2]⟩
theorem ppsV_of (xo : XO Γ G C N sc Wx X) {pos : Pos} {f : Expr → E → Bool} (hf : ∀ e e', f e e' = true → PE X e (tE Γ C Wx e')) : ∀ {keys : List (Option Expr)} {vals : List Expr} {kvs : List E}, chA f keys vals kvs = true →
    ∃ trs, PPs X pos keys vals trs ∧ ∀ σ H (Q : List (V × V) → Hp → Prop), tEs Γ C Wx kvs σ H (fun vs H' => ∀ ps, unP vs = some ps → Q ps H') → tPairs trs σ H Q := by
  intro keys
  induction keys with
  | nil =>
    intro vals kvs h
    cases vals with
    | cons _ _ => simp [chA] at h
    | nil =>
      cases kvs with
      | cons _ _ => simp [chA] at h
      | nil =>
        refine ⟨[], pps_nil, fun σ H Q ⟨env, S, QW, XW, he, hs, h, k, kx⟩ => ?_⟩
        simp only [wEs] at h
        exact k [] S [] H rfl hs (Fr.refl _ _) h [] rfl
  | cons k keys ih =>
    intro vals kvs h
    cases k with
    | none => simp [chA] at h
    | some k =>
      cases vals with
      | nil => simp [chA] at h
      | cons v vals =>
        match kvs, h with
        | a :: b :: r, h =>
          simp only [chA, Bool.and_eq_true] at h
          obtain ⟨trs, hp, ht⟩ := ih h.2
          refine ⟨_, pps_cons (hf _ _ h.1.1) (hf _ _ h.1.2) hp, fun σ H Q ⟨env, S, QW, XW, he, hs, h, kq, kx⟩ => ?_⟩
          simp only [wEs] at h
          refine ⟨env, S, _, XW, he, hs, h, fun w S1 u H1 r1 s1 f1 q1 => ?_, kx⟩
          refine ⟨env, S1, _, XW, he.fr f1, s1, q1, fun w2 S2 u2 H2 r2 s2 f2 q2 => ?_, kx.fr f1⟩
          refine ht σ H2 _ ⟨env, S2, _, XW, he.fr (f1.trans f2), s2, q2, fun ws S3 vs H3 r3 s3 f3 q3 => ?_, kx.fr (f1.trans f2)⟩
          have f12 := f1.trans f2
          intro ps hps
          exact kq (w :: w2 :: ws) S3 (u :: u2 :: vs) H3 ⟨u, _, rfl, rep.fr (f2.trans f3) _ _ r1, u2, _, rfl, rep.fr f3 _ _ r2, r3⟩ s3 (f12.trans f3) q3 ((u, u2) :: ps) (by show (unP vs).map _ = _; rw [hps]; rfl)
theorem pair_rep {S : Sto} {H : Hp} : ∀ {ws : List W} {vs : List V} {p : List Ky × List W}, pairUp ws = some p → reps Γ S H ws vs → p.1.length = p.2.length ∧ ∃ us ps, unP vs = some ps ∧ reps Γ S H p.2 us ∧ ps = (dkz p.1 us).map fun kv => (kV kv.1, kv.2)
  | [], vs, p, h, r => by
    cases h
    cases r
    exact ⟨rfl, [], [], rfl, rfl, rfl⟩
  | [_], _, _, h, _ => by cases h
  | k :: v :: ws, vs, p, h, r => by
    obtain ⟨u, vs1, rfl, r1, u2, vs2, rfl, r2, r3⟩ := r
    unfold pairUp at h
    cases hk : kyOf k with
    | none => rw [hk] at h; cases h
    | some ky =>
      rw [hk] at h
      cases hp : pairUp ws with
      | none => rw [hp] at h; cases h
      | some q =>
        rw [hp] at h
        cases h
        obtain ⟨hl, us, ps, e1, e2, e3⟩ := pair_rep hp r3
        refine ⟨by simp [hl], u2 :: us, (u, u2) :: ps, by show (unP vs2).map _ = _; rw [e1]; rfl, ⟨u2, us, rfl, r2, e2⟩, ?_⟩
        rw [e3, key_rep hk r1]
        rfl
theorem dkz_nodup {ks : List Ky} {vs : List V} (hl : ks.length = vs.length) (nd : ks.Nodup) : ((dkz ks vs).map (·.1)).Nodup := by
  rw [dkz_keys hl]
  exact nd_map _ (fun a b e => keyV_inj e) nd
theorem s_dicV (xo : XO Γ G C N sc Wx X) {f : Expr → E → Bool} (hf : ∀ e e', f e e' = true → PE X e (tE Γ C Wx e')) {keys : List (Option Expr)} {vals : List Expr} {kvs : List E} {pos : Pos} (ne : keys ≠ []) (h15 : keys.length ≤ 15) (hv : chA f keys vals kvs = true) :
    PE X (.Dict keys vals pos) (tE Γ C Wx (.dicV kvs)) := by
  obtain ⟨trs, hp, ht⟩ := ppsV_of xo hf (pos := pos) hv
  obtain ⟨l1, l2⟩ := chA_len hv
  refine PEimp (pe_disp hp l2 l1 ne h15) fun σ H Q ⟨env, S, QW, XW, he, hs, h, k, kx⟩ => ?_
  simp only [wE] at h
  intro p hpn
  have h := h p (hs.nil hpn)
  refine ht σ _ _ ⟨env, S.set p .hid, _, fun _ _ => False, he.fr (Fr.newS hpn), hs.hide hpn, h, fun ws S1 vs H1 r1 s1 f1 q1 => ?_, fun _ _ _ _ _ _ _ _ q => q.elim⟩
  obtain ⟨hS1, hH1⟩ := f1.2 p _ Sto.set_same upd_same
  obtain ⟨d, e, nd, l15, q1⟩ := wSome_el q1
  obtain ⟨hl, us, ps, e1, ru, eps⟩ := pair_rep e r1
  intro ps' hps
  rw [e1] at hps
  cases hps
  have lu := ru.len
  refine ⟨hH1, dkz d.1 us, eps, ?_, ?_⟩
  · rw [dkz_len (hl.trans lu)]; exact l15
  · have mg : mergeK [] (dkz d.1 us) = dkz d.1 us := by
      rw [merge_nodup _ [] (dkz_nodup (hl.trans lu) nd) (by simp)]
      rfl
    rw [mg]
    have fr : Fr S H (S1.del p) (upd H1 p (.dK (dkz d.1 us))) := frU hpn (frDel hpn (Fr.trans (Fr.newS hpn) f1))
    refine k (.dct d.1 d.2) (S1.del p) (.ref p) _ ⟨p, us, rfl, ⟨Sto.del_same, upd_same⟩, hl, ?_⟩ (s1.hid hS1).del fr q1
    exact reps.fr0 fr0Del _ _ (reps.fr0 (Fr0.hid hS1) _ _ ru)
def rDEq (Γ : Gm) : R2 := fun v u H Q => ∃ x y S QW, rep Γ S H x v ∧ rep Γ S H y u ∧ SR Γ S H ∧ wDEq x y S QW ∧ KQ Γ S H QW Q
theorem kvp {kvs : List (Key × V)} {vs : List (Key × Value)} (r : KV kvs vs) : ∀ {k : Key} {v : Value}, (k, v) ∈ vs → ∃ x, (k, x) ∈ kvs ∧ RelV x v := by
  unfold KV at r
  induction r with
  | nil => intro k v h; cases h
  | @cons p q ps qs h t ih =>
    intro k v hm
    rcases List.mem_cons.mp hm with e | hm
    · subst e
      exact ⟨p.2, by rw [show (k, p.2) = p by rw [← show p.1 = k from h.1]]; exact List.mem_cons_self, h.2⟩
    · obtain ⟨x, h1, h2⟩ := ih hm
      exact ⟨x, List.mem_cons_of_mem _ h1, h2⟩
theorem kvl {kvs : List (Key × V)} {vs : List (Key × Value)} (r : KV kvs vs) : vs.map (·.1) = kvs.map (·.1) := by
  unfold KV at r
  induction r with
  | nil => rfl
  | @cons p q ps qs h t ih => rw [List.map_cons, List.map_cons, ih, show q.1 = p.1 from h.1.symm]
theorem dkz_mem {S : Sto} {H : Hp} : ∀ {ks : List Ky} {ws : List W} {vs : List V} {k : Key} {x : V}, ks.length = ws.length → reps Γ S H ws vs → (k, x) ∈ dkz ks vs → ∃ z w, keyV z = k ∧ (z, w) ∈ ks.zip ws ∧ rep Γ S H w x
  | [], _, _, _, _, _, _, h => by cases h
  | z :: ks, [], _, _, _, h, _, _ => by simp at h
  | z :: ks, w :: ws, _, k, x, hl, ⟨v, vr, e, q, t⟩, h => by
    subst e
    have h : (k, x) ∈ (keyV z, v) :: dkz ks vr := h
    rcases List.mem_cons.mp h with e | h
    · cases e
      exact ⟨z, w, rfl, List.mem_cons_self, q⟩
    · obtain ⟨z', w', h1, h2, h3⟩ := dkz_mem (by simpa using hl) t h
      exact ⟨z', w', h1, List.mem_cons_of_mem _ h2, h3⟩
theorem zip_data {ks : List Ky} : ∀ {ws : List W}, dataWs ws = true → ∀ z w, (z, w) ∈ ks.zip ws → dataW w = true ∧ depW w ≤ depWs ws := by
  induction ks with
  | nil => intro ws _ z w h; simp at h
  | cons k ks ih =>
    intro ws hd z w h
    cases ws with
    | nil => simp at h
    | cons x ws =>
      have hd : (dataW x && dataWs ws) = true := hd
      rw [Bool.and_eq_true] at hd
      rw [List.zip_cons_cons] at h
      rcases List.mem_cons.mp h with e | h
      · cases e
        exact ⟨hd.1, Nat.le_max_left _ _⟩
      · obtain ⟨h1, h2⟩ := ih hd.2 z w h
        exact ⟨h1, Nat.le_trans h2 (Nat.le_max_right _ _)⟩
theorem look_mem {z : Ky} {w : W} : ∀ {ks : List Ky} {ws : List W}, lookD ks ws z = some w → (z, w) ∈ ks.zip ws
  | [], ws, h => by cases ws <;> cases h
  | k :: ks, [], h => by cases h
  | k :: ks, x :: ws, h => by
    unfold lookD at h
    rw [List.zip_cons_cons]
    split at h
    · rename_i e
      cases h
      rw [e]; exact List.mem_cons_self
    · exact List.mem_cons_of_mem _ (look_mem h)
end
section
variable {Γ : Gm} {G : GT} {C : CT} {N : List Str} {sc : Scope} {Wx : WX} {X : Cx}
theorem all_congr {α : Type} {f g : α → Bool} : ∀ {l : List α}, (∀ x ∈ l, f x = g x) → l.all f = l.all g
  | [], _ => rfl
  | x :: l, h => by rw [List.all_cons, List.all_cons, h x List.mem_cons_self, all_congr fun y hy => h y (List.mem_cons_of_mem _ hy)]
theorem find_nodup {α β : Type} [DecidableEq β] {g : α → β} {k : β} : ∀ {l : List α} {a : α}, (l.map g).Nodup → a ∈ l → g a = k → l.find? (fun x => decide (g x = k)) = some a
  | x :: l, a, nd, hm, e => by
    rw [List.map_cons, List.nodup_cons] at nd
    rw [List.find?_cons]
    rcases List.mem_cons.mp hm with e2 | hm
    · subst e2
      rw [decide_eq_true e]
    · have : ¬ g x = k := fun z => nd.1 (by rw [z, ← e]; exact List.mem_map_of_mem hm)
      rw [decide_eq_false this]
      exact find_nodup nd.2 hm e
/-- what is found at a key of the text -/
def eqK (p q : List Ky × List W) (k : Key) : Bool := match (p.1.zip p.2).find? fun kw => decide (keyV kw.1 = k) with
  | some kw => (match lookD q.1 q.2 kw.1 with
    | some w => eqv kw.2 w
    | none => false)
  | none => false
theorem dTree (hK : X.K = Γ.K) (hu : X.A.units + 64 < cLine) {pins : List (Addr × Obj)} {s : Shared} {σ : L2.St} (I : Inv X pins σ H s) {x y : W} {v v' : V} {u u' : Value} {p q : List Ky × List W} (ep : dicOf S x = some p) (eq : dicOf S y = some q) (r1 : rep Γ S H x v) (r2 : rep Γ S H y v') (sr : SR Γ S H) (rx : RelV v u) (ry : RelV v' u')
    (d1 : dataWs p.2 = true) (d2 : dataWs q.2 = true) (dd : depWs p.2 ≤ 40) (ht : dEqv p q = true) : PySem.W.EqTree X.prog X.w s 42 u u' true := by
  obtain ⟨a, vs, rfl, ha, hl, rr⟩ := dic_rep ep r1 sr
  obtain ⟨b, us, rfl, hb, hl2, rr2⟩ := dic_rep eq r2 sr
  cases rx
  cases ry
  obtain ⟨_, ma, vs1, kv1, da⟩ := dk_rd I.hok (.inl ha)
  obtain ⟨_, mb, vs2, kv2, db⟩ := dk_rd I.hok (.inl hb)
  obtain ⟨_, _, _, _, _, _, _, _, nd1⟩ := id da
  obtain ⟨_, _, _, _, _, _, _, _, nd2⟩ := id db
  have t : ∀ k v y, (k, v) ∈ vs1 → PySem.valueAt vs2 k = some y → PySem.W.EqTree X.prog X.w s 41 v y (eqK p q k) := by
    intro k v y hm hv
    obtain ⟨x1, m1, rx1⟩ := kvp kv1 hm
    obtain ⟨z, w1, ez, mz, rw1⟩ := dkz_mem hl rr m1
    have hy := kv2.val k
    rw [hv] at hy
    cases hx2 : valV (dkz q.1 us) k with
    | none => rw [hx2] at hy; exact hy.elim
    | some x2 =>
      rw [hx2] at hy
      have hy : RelV x2 y := hy
      obtain ⟨g1, g2⟩ := dkz_val (Γ := Γ) z hl2 rr2
      cases hq : lookD q.1 q.2 z with
      | none => have := g2 hq; rw [ez, hx2] at this; cases this
      | some w2 =>
        obtain ⟨x2', h1, rw2⟩ := g1 w2 hq
        rw [ez, hx2] at h1
        cases h1
        obtain ⟨p1, p2⟩ := zip_data d1 z w1 mz
        obtain ⟨q1, q2⟩ := zip_data d2 z w2 (look_mem hq)
        have ek : eqK p q k = eqv w1 w2 := by
          unfold eqK
          have ef : (p.1.zip p.2).find? (fun kw => decide (keyV kw.1 = k)) = some (z, w1) := by
            refine find_nodup (g := fun kw => keyV kw.1) ?_ mz ez
            have e1 := kvl kv1
            rw [e1, dkz_keys (hl.trans rr.len)] at nd1
            have : (p.1.zip p.2).map (fun kw => keyV kw.1) = p.1.map keyV := by
              rw [show (fun kw : Ky × W => keyV kw.1) = keyV ∘ Prod.fst from rfl, ← List.map_map, List.map_fst_zip (by omega)]
            rw [this]; exact nd1
          rw [ef]
          show (match lookD q.1 q.2 z with | some w => eqv w1 w | none => false) = _
          rw [hq]
        rw [ek]
        obtain ⟨t1, c1⟩ := toD_dp (Γ := Γ) w1 x1 p1 rw1
        obtain ⟨t2, c2⟩ := toD_dp (Γ := Γ) w2 x2 q1 rw2
        rw [← hK] at t1 t2
        obtain ⟨as, e1⟩ := Dp.reads I _ x1 v t1 rx1
        obtain ⟨bs, e2⟩ := Dp.reads I _ x2 y t2 hy
        refine .leaf fun A hA => ?_
        rw [← toD_eqv w1 w2 p1 q1]
        refine SeqAt.eqAt_reads (toD w1) (toD w2) A s v y as bs e1 e2 c1 c2 ?_
        have : min (toD w1).depth (toD w2).depth ≤ 40 := by
          rw [toD_dep]
          exact Nat.le_trans (Nat.min_le_left _ _) (by omega)
        omega
  have er : (vs1.length == vs2.length && vs1.all fun p' => (PySem.valueAt vs2 p'.1).isSome && eqK p q p'.1) = dEqv p q := by
    have l1 : vs1.length = p.1.length := by
      have := congrArg List.length (kvl kv1)
      rw [List.length_map, dkz_keys (hl.trans rr.len), List.length_map] at this
      exact this
    have l2 : vs2.length = q.1.length := by
      have := congrArg List.length (kvl kv2)
      rw [List.length_map, dkz_keys (hl2.trans rr2.len), List.length_map] at this
      exact this
    have k1 : vs1.map (·.1) = (p.1.zip p.2).map fun kw => keyV kw.1 := by
      rw [kvl kv1, dkz_keys (hl.trans rr.len), show (fun kw : Ky × W => keyV kw.1) = keyV ∘ Prod.fst from rfl, ← List.map_map, List.map_fst_zip (by omega)]
    unfold dEqv
    rw [l1, l2]
    congr 1
    have e1 : (vs1.all fun p' => (PySem.valueAt vs2 p'.1).isSome && eqK p q p'.1) = (vs1.map (·.1)).all fun k => (PySem.valueAt vs2 k).isSome && eqK p q k := by rw [List.all_map]; rfl
    rw [e1, k1, List.all_map]
    have nd : ((p.1.zip p.2).map fun kw => keyV kw.1).Nodup := by rw [← k1]; exact nd1
    refine all_congr fun kw hm => ?_
    show ((PySem.valueAt vs2 (keyV kw.1)).isSome && eqK p q (keyV kw.1)) = _
    have ef : (p.1.zip p.2).find? (fun x => decide (keyV x.1 = keyV kw.1)) = some kw := find_nodup (g := fun kw => keyV kw.1) nd hm rfl
    have ek : eqK p q (keyV kw.1) = (match lookD q.1 q.2 kw.1 with | some w => eqv kw.2 w | none => false) := by
      unfold eqK
      rw [ef]
    rw [ek]
    obtain ⟨g1, g2⟩ := dkz_val (Γ := Γ) kw.1 hl2 rr2
    have hy := kv2.val (keyV kw.1)
    cases hq : lookD q.1 q.2 kw.1 with
    | none => simp
    | some w2 =>
      obtain ⟨x2, h1, _⟩ := g1 w2 hq
      rw [h1] at hy
      cases hv : PySem.valueAt vs2 (keyV kw.1) with
      | none => rw [hv] at hy; exact hy.elim
      | some _ => simp
  by_cases hab : a = b
  · subst hab; exact .same
  · have r := PySem.W.EqTree.dicts (prog := X.prog) (w := X.w) (s := s) (n := 41) hab ma mb da db (e := eqK p q) t
    rw [er, ht] at r
    exact r
theorem op_dEq (hK : X.K = Γ.K) (hu : X.A.units + 64 < cLine) : OpR X (compareOp .Eq) (rDEq Γ) := by
  intro pins s σ H v u v' u' Q I rx ry h
  obtain ⟨x, y, S, QW, r1, r2, sr, h, k⟩ := h
  unfold wDEq at h
  split at h
  · rename_i p ep
    split at h
    · rename_i q eq
      obtain ⟨d1, d2, dd, h⟩ := h
      obtain ⟨a, vs, rfl, ha, hl, rr⟩ := dic_rep ep r1 sr
      obtain ⟨b, us, rfl, hb, hl2, rr2⟩ := dic_rep eq r2 sr
      cases rx
      cases ry
      obtain ⟨_, ma, vs1, kv1, da⟩ := dk_rd I.hok (.inl ha)
      obtain ⟨_, mb, vs2, kv2, db⟩ := dk_rd I.hok (.inl hb)
      obtain ⟨_, _, _, _, _, _, _, _, nd1⟩ := id da
      obtain ⟨_, _, _, _, _, _, _, _, nd2⟩ := id db
      refine PySem.W.eq_dictsT (n := 41) ma mb da db (e := eqK p q) ?_ (by omega) ?_
      · intro k v y hm hv
        obtain ⟨x1, m1, rx1⟩ := kvp kv1 hm
        obtain ⟨z, w1, ez, mz, rw1⟩ := dkz_mem hl rr m1
        have hy := kv2.val k
        rw [hv] at hy
        cases hx2 : valV (dkz q.1 us) k with
        | none => rw [hx2] at hy; exact hy.elim
        | some x2 =>
          rw [hx2] at hy
          have hy : RelV x2 y := hy
          obtain ⟨g1, g2⟩ := dkz_val (Γ := Γ) z hl2 rr2
          cases hq : lookD q.1 q.2 z with
          | none => have := g2 hq; rw [ez, hx2] at this; cases this
          | some w2 =>
            obtain ⟨x2', h1, rw2⟩ := g1 w2 hq
            rw [ez, hx2] at h1
            cases h1
            obtain ⟨p1, p2⟩ := zip_data d1 z w1 mz
            obtain ⟨q1, q2⟩ := zip_data d2 z w2 (look_mem hq)
            have ek : eqK p q k = eqv w1 w2 := by
              unfold eqK
              have ef : (p.1.zip p.2).find? (fun kw => decide (keyV kw.1 = k)) = some (z, w1) := by
                refine find_nodup (g := fun kw => keyV kw.1) ?_ mz ez
                have e1 := kvl kv1
                rw [e1, dkz_keys (hl.trans rr.len)] at nd1
                have : (p.1.zip p.2).map (fun kw => keyV kw.1) = p.1.map keyV := by
                  rw [show (fun kw : Ky × W => keyV kw.1) = keyV ∘ Prod.fst from rfl, ← List.map_map, List.map_fst_zip (by omega)]
                rw [this]; exact nd1
              rw [ef]
              show (match lookD q.1 q.2 z with | some w => eqv w1 w | none => false) = _
              rw [hq]
            rw [ek]
            obtain ⟨t1, c1⟩ := toD_dp (Γ := Γ) w1 x1 p1 rw1
            obtain ⟨t2, c2⟩ := toD_dp (Γ := Γ) w2 x2 q1 rw2
            rw [← hK] at t1 t2
            obtain ⟨as, e1⟩ := Dp.reads I _ x1 v t1 rx1
            obtain ⟨bs, e2⟩ := Dp.reads I _ x2 y t2 hy
            refine .leaf fun A hA => ?_
            rw [← toD_eqv w1 w2 p1 q1]
            refine SeqAt.eqAt_reads (toD w1) (toD w2) A s v y as bs e1 e2 c1 c2 ?_
            have : min (toD w1).depth (toD w2).depth ≤ 40 := by
              rw [toD_dep]
              exact Nat.le_trans (Nat.min_le_left _ _) (by omega)
            omega
      · have er : (vs1.length == vs2.length && vs1.all fun p' => (PySem.valueAt vs2 p'.1).isSome && eqK p q p'.1) = dEqv p q := by
          have l1 : vs1.length = p.1.length := by
            have := congrArg List.length (kvl kv1)
            rw [List.length_map, dkz_keys (hl.trans rr.len), List.length_map] at this
            exact this
          have l2 : vs2.length = q.1.length := by
            have := congrArg List.length (kvl kv2)
            rw [List.length_map, dkz_keys (hl2.trans rr2.len), List.length_map] at this
            exact this
          have k1 : vs1.map (·.1) = (p.1.zip p.2).map fun kw => keyV kw.1 := by
            rw [kvl kv1, dkz_keys (hl.trans rr.len), show (fun kw : Ky × W => keyV kw.1) = keyV ∘ Prod.fst from rfl, ← List.map_map, List.map_fst_zip (by omega)]
          unfold dEqv
          rw [l1, l2]
          congr 1
          have e1 : (vs1.all fun p' => (PySem.valueAt vs2 p'.1).isSome && eqK p q p'.1) = (vs1.map (·.1)).all fun k => (PySem.valueAt vs2 k).isSome && eqK p q k := by rw [List.all_map]; rfl
          rw [e1, k1, List.all_map]
          have nd : ((p.1.zip p.2).map fun kw => keyV kw.1).Nodup := by rw [← k1]; exact nd1
          refine all_congr fun kw hm => ?_
          show ((PySem.valueAt vs2 (keyV kw.1)).isSome && eqK p q (keyV kw.1)) = _
          have ef : (p.1.zip p.2).find? (fun x => decide (keyV x.1 = keyV kw.1)) = some kw := find_nodup (g := fun kw => keyV kw.1) nd hm rfl
          have ek : eqK p q (keyV kw.1) = (match lookD q.1 q.2 kw.1 with | some w => eqv kw.2 w | none => false) := by
            unfold eqK
            rw [ef]
          rw [ek]
          obtain ⟨g1, g2⟩ := dkz_val (Γ := Γ) kw.1 hl2 rr2
          have hy := kv2.val (keyV kw.1)
          cases hq : lookD q.1 q.2 kw.1 with
          | none => simp
          | some w2 =>
            obtain ⟨x2, h1, _⟩ := g1 w2 hq
            rw [h1] at hy
            cases hv : PySem.valueAt vs2 (keyV kw.1) with
            | none => rw [hv] at hy; exact hy.elim
            | some _ => simp
        rw [er]
        exact ⟨.bl _, H, I, rfl, k.here sr (w := .bl _) rfl h⟩
    · exact h.elim
  · split at h
    · rename_i x1 x2 y1 y2 _
      obtain ⟨h1, h2, q⟩ := h
      obtain ⟨a, vs, rfl, ha, v1, vr1, rfl, ra1, v2, vr2, rfl, ra2, rfl⟩ := r1
      obtain ⟨b, us, rfl, hb, u1, ur1, rfl, rb1, u2, ur2, rfl, rb2, rfl⟩ := r2
      cases rx
      cases ry
      have sa := ha.sq
      have sb := hb.sq
      rw [← hK] at sa sb
      obtain ⟨its, rv, pl, _⟩ := I.tuple sa
      obtain ⟨its2, rv2, pl2, _⟩ := I.tuple sb
      cases rv with
      | cons g1 rv => cases rv with
        | cons g2 rv => cases rv with
          | nil => cases rv2 with
            | cons f1 rv2 => cases rv2 with
              | cons f2 rv2 => cases rv2 with
                | nil =>
                  have mk : ∀ {x y : W} {v v' : V} {u u' : Value}, wDPr S x y → rep Γ S H x v → rep Γ S H y v' → RelV v u → RelV v' u' → PySem.W.EqTree X.prog X.w s 42 u u' true := fun {x y v v' u u'} h r1 r2 rx ry => by
                    unfold wDPr at h
                    split at h
                    · rename_i p ep
                      split at h
                      · rename_i q eq
                        exact dTree hK hu I ep eq r1 r2 sr rx ry h.1 h.2.1 h.2.2.1 h.2.2.2
                      · exact h.elim
                    · exact h.elim
                  refine PySem.W.eq_tuplesT (n := 42) (e := fun _ => true) pl pl2 (fun j h3 h4 => ?_) (by omega) ?_
                  · match j, h3, h4 with
                    | 0, _, _ => exact mk h1 ra1 rb1 g1 f1
                    | 1, _, _ => exact mk h2 ra2 rb2 g2 f2
                    | j + 2, h3, _ => simp at h3; omega
                  · exact ⟨.bl _, H, I, rfl, k.here sr (w := .bl _) rfl q⟩
    · exact h.elim
theorem s_dEq (xo : XO Γ G C N sc Wx X) {x y : Expr} {a b : E} {pos : Pos} (pa : PE X x (tE Γ C Wx a)) (pb : PE X y (tE Γ C Wx b)) (ny : ∀ es k p, y ≠ .Set es k p) : PE X (.Compare x [.Eq] [y] pos) (tE Γ C Wx (.dEq a b)) := by
  refine PEimp (pe_cmpR (op_dEq xo.hK xo.un) pa pb (nomark' (o := .eq) ny)) fun σ H Q ⟨env, S, QW, XW, he, hs, h, k, kx⟩ => ?_
  simp only [wE] at h
  exact two_of he hs h kx fun x y S2 v u H2 r1 r2 s2 f2 q => ⟨x, y, S2, QW, r1, r2, s2, q, k.fr f2⟩
theorem t_dEq (xo : XO Γ G C N sc Wx X) {x y : Expr} {a b : E} {pos : Pos} (pa : PE X x (tE Γ C Wx a)) (pb : PE X y (tE Γ C Wx b)) (ny : ∀ es k p, y ≠ .Set es k p) : PT X (.Compare x [.Eq] [y] pos) (tT Γ C Wx (.dEq a b)) := by
  refine PTimp (pt_cmpR (op_dEq xo.hK xo.un) pa pb (nomark' (o := .eq) ny)) fun σ H Q ⟨env, S, QW, XW, he, hs, h, k, kx⟩ => ?_
  simp only [wE] at h
  exact two_of he hs h kx fun x y S2 v u H2 r1 r2 s2 f2 q => ⟨x, y, S2, QW, r1, r2, s2, q, (KB.q k).fr f2⟩
end
end Bw

/-! Ev12e: a dict's keys, those alone whose value is a given one: the dict is locked meanwhile. -/
namespace Bw
open PySem L2 PySem.Spec PyProof.Rows
abbrev S0 : Sto := fun _ => none
section
variable {Γ : Gm} {S : Sto} {H H' : Hp} {d : Addr} {kvs : List (Key × V)}
theorem rd_mv (hd : H d = some (.dK kvs)) (f : ∀ b o, S b = none → H b = some o → b ≠ d → H' b = some o) {a : Addr} {u : HO} (hu : ∀ kvs, u ≠ .dK kvs) (h : S a = none ∧ Rd H a u) : S0 a = none ∧ Rd H' a u := by
  obtain ⟨h0, h | ⟨o, h⟩⟩ := h
  · have n : a ≠ d := fun z => by rw [z, hd] at h; cases h; exact hu _ rfl
    exact ⟨rfl, .inl (f a _ h0 h n)⟩
  · have n : a ≠ d := fun z => by rw [z, hd] at h; cases h
    exact ⟨rfl, .inr ⟨o, f a _ h0 h n⟩⟩
mutual
theorem data_mv (hd : H d = some (.dK kvs)) (f : ∀ b o, S b = none → H b = some o → b ≠ d → H' b = some o) : ∀ (w : W) (v : V), dataW w = true → rep Γ S H w v → rep Γ S0 H' w v
  | .non, _, _, h => h
  | .bl _, _, _, h => h
  | .int _, _, _, h => h
  | .str _, _, _, h => h
  | .tup ws, v, t, ⟨a, vs, e, q, r⟩ => ⟨a, vs, e, q.imp (rd_mv hd f (fun _ z => by cases z)) id, datas_mv hd f ws vs t r⟩
  | .rl ws, v, t, ⟨a, vs, e, q, r⟩ => ⟨a, vs, e, ⟨rfl, f a _ q.1 q.2 (fun z => by have := q.2; rw [z, hd] at this; cases this)⟩, datas_mv hd f ws vs t r⟩
  | .sc ws, v, t, ⟨a, vs, e, q, r⟩ => ⟨a, vs, e, q.imp (rd_mv hd f (fun _ z => by cases z)) id, datas_mv hd f ws vs t r⟩
  | .ref _, _, t, _ => by simp [dataW] at t
  | .fn _, _, t, _ => by simp [dataW] at t
  | .dct _ _, _, t, _ => by simp [dataW] at t
  | .obj _ _ _, _, t, _ => by simp [dataW] at t
  | .exn _ _ _, _, t, _ => by simp [dataW] at t
theorem datas_mv (hd : H d = some (.dK kvs)) (f : ∀ b o, S b = none → H b = some o → b ≠ d → H' b = some o) : ∀ (ws : List W) (vs : List V), dataWs ws = true → reps Γ S H ws vs → reps Γ S0 H' ws vs
  | [], _, _, h => h
  | w :: ws, vs, t, ⟨v, r, e, q, q2⟩ => by
    simp only [dataWs, Bool.and_eq_true] at t
    exact ⟨v, r, e, data_mv hd f w v t.1 q, datas_mv hd f ws r t.2 q2⟩
end
end
section
variable {Γ : Gm} {G : GT} {C : CT} {N : List Str} {sc : Scope} {Wx : WX} {X : Cx}
theorem chV_of (xo : XO Γ G C N sc Wx X) {e : Expr} {i : Nat} (h : chV N sc e i = true) : PE X e (tVar i) ∧ (∃ x p, e = .Name x p) := by
  unfold chV at h
  split at h
  · simp only [Bool.and_eq_true] at h
    obtain ⟨d1, d2, _⟩ := dbg_of h.2
    exact ⟨pe_var (by rw [xo.hN]; exact of_decide_eq_true h.1.1) (xo.vis h.1.2) d1 d2, _, _, rfl⟩
  · cases h
theorem kV_ky : ∀ {k : Ky}, okKy k = true → ∀ {S : Sto} {H : Hp}, rep Γ S H (kyW k) (kV (keyV k))
  | .inl i, _, _, _ => rfl
  | .inr z, h, _, _ => ⟨rfl, h⟩
theorem ks_get {ks : List Ky} {vs : List V} {i : Nat} {k : Key} {v : V} (h : (dkz ks vs)[i]? = some (k, v)) : ∃ y, ks[i]? = some y ∧ k = keyV y := by
  unfold dkz at h
  rw [List.getElem?_map] at h
  cases e : (ks.zip vs)[i]? with
  | none => rw [e] at h; cases h
  | some p =>
    rw [e] at h
    cases h
    exact ⟨p.1, (List.getElem?_zip_eq_some.mp (show (ks.zip vs)[i]? = some (p.1, p.2) from e)).1, rfl⟩
/-- the reading: keys that a test lets through; b: what the test says of the key at a place -/
theorem keys_of {own : List Nat} {kk : Nat} {σ : L2.St} {H : Hp} {Q : VK} {d : Addr} {ks : List Ky} {vs : List V} {od : Obj} {φ : Ky → Bool} {td : TE} {tt : TT} {te : TE} (hown : own = [kk])
    (hlen : ks.length = vs.length) (hz : ks.length ≤ sizeLine)
    (hd : H d = some (.frz od (.dK (dkz ks vs)))) (htd : ∀ R : VK, R (.ref d) H → td σ H R)
    (ht : ∀ (k : Ky) (j : Nat) (σ2 : L2.St) (H2 : Hp) (P : Bool → Hp → Prop), ks[j]? = some k → σ2 = (wipe σ own).set kk (some (kV (keyV k))) → (∀ b o, H b = some o → H2 b = some o) → (∀ H3, (∀ b o, H2 b = some o → H3 b = some o) → P (φ k) H3) → tt σ2 H2 P)
    (he : ∀ (k : Ky) (σ2 : L2.St) (H2 : Hp) (P : VK), σ2 = (wipe σ own).set kk (some (kV (keyV k))) → kk < σ.length → P (kV (keyV k)) H2 → te σ2 H2 P) (hkk : kk < σ.length)
    (q : ∀ D H', H D = none → (∀ b o, H b = some o → H' b = some o) → H' D = some (.lst ((ks.filter φ).map fun k => kV (keyV k))) → Q (.ref D) H') : tLc (iKeys td) (gName kk) tt te own σ H Q := by
  subst hown
  refine htd _ ⟨d, od, rfl, .inl ⟨_, hd, fun D hD => ?_⟩⟩
  have nd : d ≠ D := fun z => by rw [z, hD] at hd; cases hd
  have ln : (dkz ks vs).length = ks.length := dkz_len hlen
  refine ⟨fun i m H' => m = ks.length - i ∧ i ≤ ks.length ∧ (∀ b o, H b = some o → H' b = some o) ∧ H' D = some (.lst (((ks.take i).filter φ).map fun k => kV (keyV k))), ⟨ks.length, rfl, Nat.zero_le _, fun b o h => by rw [upd_ne (ne_of_none h hD)]; exact h, by rw [upd_same]; rfl⟩, ?_⟩
  rintro i m H' ⟨rfl, hi, hk, hl⟩
  by_cases hlt : i < ks.length
  · right
    refine ⟨⟨hk d _ hd, by rw [ln]; exact hlt⟩, fun H' => i + 1 ≤ ks.length ∧ (∀ b o, H b = some o → H' b = some o) ∧ H' D = some (.lst (((ks.take (i + 1)).filter φ).map fun k => kV (keyV k))), fun H2 hn => ⟨ks.length - (i + 1), by omega, rfl, hn.1, hn.2.1, hn.2.2⟩, ?_⟩
    rintro x H2 ⟨rfl, k0, v, e0, rfl⟩
    obtain ⟨k, ek, rfl⟩ := ks_get e0
    show (_ ∧ _)
    have et : ks.take (i + 1) = ks.take i ++ [k] := by rw [List.take_succ, ek]; rfl
    have fe : ((ks.take (i + 1)).filter φ) = (ks.take i).filter φ ++ (if φ k = true then [k] else []) := by
      rw [et, List.filter_append]
      congr 1
      simp only [List.filter_cons, List.filter_nil]
    refine ⟨?_, ht k i _ _ _ ek rfl hk fun H3 h3 => ?_⟩
    · refine List.ext_getElem? fun j => ?_
      rw [wipe_get, List.getElem?_set]
      by_cases hj : j = kk
      · subst hj
        rw [if_pos (by simp), if_pos rfl, wipe_length]
        by_cases hl : j < σ.length
        · rw [if_pos hl, wipe_get, if_pos (by simp), List.getElem?_eq_getElem hl]; rfl
        · rw [if_neg hl, wipe_get, if_pos (by simp), List.getElem?_eq_none (by omega)]
      · rw [if_neg (by simp [hj]), if_neg (fun z => hj z.symm)]
    · by_cases hp : φ k = true
      · rw [if_pos hp]
        refine he k _ _ _ rfl hkk ?_
        have h3l := h3 D _ hl
        refine ⟨_, h3l, ?_, hlt, fun b o h => ?_, ?_⟩
        · rw [List.length_map]
          have := List.length_filter_le φ (ks.take i)
          rw [List.length_take] at this
          omega
        · rw [upd_ne (ne_of_none h hD)]; exact h3 b o (hk b o h)
        · rw [upd_same, fe, if_pos hp, List.map_append]; rfl
      · rw [if_neg hp]
        refine ⟨hlt, fun b o h => h3 b o (hk b o h), ?_⟩
        rw [fe, if_neg hp, List.append_nil]
        exact h3 D _ hl
  · left
    have e : i = ks.length := by omega
    subst e
    rw [List.take_of_length_le (Nat.le_refl _)] at hl
    exact ⟨⟨hk d _ hd, by rw [ln]; exact Nat.le_refl _⟩, q D H' hD hk hl⟩
/-- behind the lock -/
theorem unlock {S : Sto} {H H' : Hp} {d D : Addr} {kvs : List (Key × V)} {od : Obj} {QW : VQ} {Q : VK} {ws : List W} {vs : List V} (hS : S d = none) (hd : H d = some (.dK kvs)) (hs : SR Γ S H) (k : KQ Γ S H QW Q) (hD : (upd H d (.frz od (.dK kvs))) D = none)
    (hk : ∀ b o, (upd H d (.frz od (.dK kvs))) b = some o → H' b = some o) (hl : H' D = some (.lst vs)) (hr : ∀ S H, reps Γ S H ws vs) (q : QW (.rl ws) S) : H' d = some (.frz od (.dK kvs)) ∧ Q (.ref D) (upd H' d (.dK kvs)) := by
  have e1 : H' d = some (.frz od (.dK kvs)) := hk d _ upd_same
  have hDn : D ≠ d := fun z => by rw [z, upd_same] at hD; cases hD
  rw [upd_ne hDn] at hD
  have keep : ∀ a o, H a = some o → (upd H' d (.dK kvs)) a = some o := fun a o h => by
    by_cases n : a = d
    · subst n; rw [hd] at h; cases h; exact upd_same
    · rw [upd_ne n]; exact hk a o (by rw [upd_ne n]; exact h)
  have fr : Fr S H S (upd H' d (.dK kvs)) := ⟨fun a o h1 h2 => ⟨h1, keep a o h2⟩, fun a o h1 h2 => ⟨h1, keep a o h2⟩⟩
  have s2 : SR Γ S (upd H' d (.dK kvs)) := hs.step fr fun a o e => by
    have := (hs a o e).there
    cases h : H a with
    | none => exact absurd h this
    | some u => exact .inl ⟨e, by rw [keep a u h]⟩
  exact ⟨e1, k (.rl ws) S (.ref D) _ ⟨D, vs, rfl, ⟨hs.nil hD, by rw [upd_ne hDn]; exact hl⟩, hr _ _⟩ s2 fr q⟩
theorem reps_ky {φ : Ky → Bool} : ∀ {ks : List Ky}, ks.all okKy = true → ∀ S H, reps Γ S H ((ks.filter φ).map kyW) ((ks.filter φ).map fun k => kV (keyV k))
  | [], _, _, _ => rfl
  | k :: ks, h, S, H => by
    rw [List.all_cons, Bool.and_eq_true] at h
    have ih := reps_ky (φ := φ) h.2 S H
    rw [List.filter_cons]
    split
    · exact ⟨_, _, rfl, kV_ky h.1, ih⟩
    · exact ih
/-- what a comprehension's rule asks, held under a lock on the dict walked -/
structure LkOk (Γ : Gm) (C : CT) (N : List Str) (Wx : WX) (X : Cx) (scope : Scope) (tg0 iter0 : Expr) (ifs0 : List Expr) (elt0 : Expr) (k : Nat) (ee : E) (wi : TI) (gg : TG) (tt : TT) (te : TE) : Prop where
  i : PI X tg0 iter0 wi
  b : BlkOk X.N X.env.scope scope (ownOf N [k])
  g : ∀ (s : Shared) (H : Hp) (Ca : Addr) (cl : List (Str × Addr)) (fp : List Addr), PG (X.blk s H scope (compEnvC scope cl Ca X.env) fp) tg0 gg
  t : ∀ (s : Shared) (H : Hp) (Ca : Addr) (cl : List (Str × Addr)) (fp : List Addr), PTs (X.blk s H scope (compEnvC scope cl Ca X.env) fp) ifs0 tt
  e : ∀ (s : Shared) (H : Hp) (Ca : Addr) (cl : List (Str × Addr)) (fp : List Addr), PE (X.blk s H scope (compEnvC scope cl Ca X.env) fp) elt0 te
  s : ∀ x, foldedSetIterable iter0 X.env x = pure x
  m : ∀ σ H Q, tE Γ C Wx ee σ H Q → tLockE (tLc wi gg tt te ((ownOf N [k]).map (·.2))) σ H Q
theorem keys_all (xo : XO Γ G C N sc Wx X) {scope : Scope} {tg0 iter0 elt0 : Expr} {i k : Nat} (h1 : (ownOf N [k]).map (·.2) = [k]) (h2 : blkC N sc scope (ownOf N [k]) = true) (h3 : chNm N scope tg0 k = true) (hik : i ≠ k) (h4 : chV N sc iter0 i = true) (h5 : chV N (relS scope sc) elt0 k = true) :
    ∃ wi g tt te, LkOk Γ C N Wx X scope tg0 iter0 [] elt0 k (.keysOf i k) wi g tt te := by
  obtain ⟨pi, xi, p1, ei⟩ := chV_of xo h4
  have hb : BlkOk X.N X.env.scope scope (ownOf N [k]) := by rw [xo.hN, xo.hsc]; exact blkOk_by h2
  refine ⟨_, gName k, fun σ H Q => Q true H, tVar k, pi_keys pi, hb, fun s H Ca cl fp => ?_, fun s H Ca cl fp => pts_nil, fun s H Ca cl fp => (chV_of (xo.blk s H scope cl Ca fp) h5).1, fold_ok (by rw [ei]; rfl), fun σ H Q ⟨env, S, QW, XW, he, hs, h, k', kx⟩ => ?_⟩
  · obtain ⟨x, p, rfl, q1, q2, q3⟩ := nm_of (X := X.blk s H scope (compEnvC scope cl Ca X.env) fp) xo.hN blk_loc h3
    exact pg_name (by show X.N.Nodup; rw [xo.hN]; exact xo.nd) q1 q2 q3
  simp only [wE] at h
  obtain ⟨hlt, h⟩ := h
  obtain ⟨w, e1, h⟩ := wVar_el h
  obtain ⟨v, e2, r⟩ := he.2 i w e1
  cases w with
  | dct ks ws =>
    obtain ⟨hok, hz, q⟩ := h
    obtain ⟨a, vs, rfl, ⟨hS, hd⟩, hl, rr⟩ := r
    refine ⟨a, _, hd, trivial, fun od => ?_⟩
    rw [h1]
    have hσ : k < σ.length := by rw [← he.1]; exact hlt
    refine keys_of (φ := fun _ => true) (kk := k) rfl (hl.trans rr.len) hz upd_same (fun R r => ⟨_, e2, r⟩) (fun ky j σ2 H2 P _ _ _ hp => hp H2 fun b o h => h) (fun ky σ2 H2 P e hlt2 hp => ?_) hσ fun D H' hD hk' hl' => ?_
    · subst e
      refine ⟨_, ?_, hp⟩
      rw [List.getElem?_set_self (by rw [wipe_length]; exact hlt2)]
    · have hr := reps_ky (Γ := Γ) (φ := fun _ => true) hok
      exact unlock hS hd hs k' hD hk' hl' hr (by rw [List.filter_eq_self.mpr (fun _ _ => rfl)]; exact q)
  | _ => exact h.elim
/-- a dict's value at a key, held against another value -/
theorem fits_all (xo : XO Γ G C N sc Wx X) {scope : Scope} {tg0 iter0 elt0 d0 x0 y0 : Expr} {i j k : Nat} {p1 p2 : Pos} (h1 : (ownOf N [k]).map (·.2) = [k]) (h2 : blkC N sc scope (ownOf N [k]) = true) (h3 : chNm N scope tg0 k = true) (hik : i ≠ k) (hjk : j ≠ k)
    (h4 : chV N sc iter0 i = true) (h5 : chV N (relS scope sc) d0 i = true) (h6 : chV N (relS scope sc) x0 k = true) (h7 : chV N (relS scope sc) y0 j = true) (h8 : chV N (relS scope sc) elt0 k = true) :
    ∃ wi g tt te, LkOk Γ C N Wx X scope tg0 iter0 [.Compare (.Subscript d0 x0 p1) [.Eq] [y0] p2] elt0 k (.fits i j k) wi g tt te := by
  obtain ⟨pi, xi, q1, ei⟩ := chV_of xo h4
  have hb : BlkOk X.N X.env.scope scope (ownOf N [k]) := by rw [xo.hN, xo.hsc]; exact blkOk_by h2
  have hx0 : ∃ x p, x0 = .Name x p := by
    unfold chV at h6
    split at h6
    · exact ⟨_, _, rfl⟩
    · cases h6
  have hy0 : ∃ x p, y0 = .Name x p := by
    unfold chV at h7
    split at h7
    · exact ⟨_, _, rfl⟩
    · cases h7
  obtain ⟨xx, px, rfl⟩ := hx0
  obtain ⟨yy, py, rfl⟩ := hy0
  refine ⟨_, gName k, tTest (tOp (rC Γ .eq) (tDGet (tVar i) (tVar k)) (tVar j)), tVar k, pi_keys pi, hb, fun s H Ca cl fp => ?_, fun s H Ca cl fp => pts_one ?_, fun s H Ca cl fp => (chV_of (xo.blk s H scope cl Ca fp) h8).1, fold_ok (by rw [ei]; rfl), fun σ H Q ⟨env, S, QW, XW, he, hs, h, k', kx⟩ => ?_⟩
  · obtain ⟨x, p, rfl, q1, q2, q3⟩ := nm_of (X := X.blk s H scope (compEnvC scope cl Ca X.env) fp) xo.hN blk_loc h3
    exact pg_name (by show X.N.Nodup; rw [xo.hN]; exact xo.nd) q1 q2 q3
  · have xb := xo.blk s H scope cl Ca fp
    refine pt_cmpR (op_C xb.hK xb.un .eq) (pe_dget (by have := xb.un; omega) (chV_of xb h5).1 (chV_of xb h6).1 (fun _ _ => rfl)) (chV_of xb h7).1 (nomark' (o := .eq) (fun _ _ _ z => by cases z))
  simp only [wE] at h
  obtain ⟨hlt, h⟩ := h
  obtain ⟨w, e1, h⟩ := wVar_el h
  obtain ⟨y, f1, h⟩ := wVar_el h
  obtain ⟨v, e2, r⟩ := he.2 i w e1
  obtain ⟨u, f2, ry⟩ := he.2 j y f1
  cases w with
  | dct ks ws =>
    obtain ⟨dw, dy, dep, hok, hz, q⟩ := h
    obtain ⟨a, vs, rfl, ⟨hS, hd⟩, hl, rr⟩ := r
    refine ⟨a, _, hd, trivial, fun od => ?_⟩
    rw [h1]
    have hσ : k < σ.length := by rw [← he.1]; exact hlt
    refine keys_of (φ := fitB ks ws y) (kk := k) rfl (hl.trans rr.len) hz upd_same (fun R r => ⟨_, e2, r⟩) (fun ky jj σ2 H2 P ek e hk' hp => ?_) (fun ky σ2 H2 P e hlt2 hp => ?_) hσ fun D H' hD hk' hl' => ?_
    · subst e
      have gi : ((wipe σ [k]).set k (some (kV (keyV ky))))[i]? = some (some (.ref a)) := by
        rw [List.getElem?_set_ne (fun z => hik z.symm), wipe_get, if_neg (by simp [hik]), e2]
      have gj : ((wipe σ [k]).set k (some (kV (keyV ky))))[j]? = some (some u) := by
        rw [List.getElem?_set_ne (fun z => hjk z.symm), wipe_get, if_neg (by simp [hjk]), f2]
      have gk : ((wipe σ [k]).set k (some (kV (keyV ky))))[k]? = some (some (kV (keyV ky))) := by
        rw [List.getElem?_set_self (by rw [wipe_length]; exact hσ)]
      have mv : ∀ b o, S b = none → H b = some o → b ≠ a → H2 b = some o := fun b o h1 h2 n => hk' b o (by rw [upd_ne n]; exact h2)
      have hd2 : H2 a = some (.frz od (.dK (dkz ks vs))) := hk' a _ upd_same
      obtain ⟨g1, g2⟩ := dkz_val (Γ := Γ) ky hl rr
      have hkm : ky ∈ ks := List.mem_of_getElem? ek
      cases hq : lookD ks ws ky with
      | none =>
        exfalso
        have : ∀ (ks : List Ky) (ws : List W), ks.length = ws.length → ky ∈ ks → lookD ks ws ky ≠ none := fun ks => by
          induction ks with
          | nil => intro ws _ hm; cases hm
          | cons z r ih =>
            intro ws hl hm
            cases ws with
            | nil => simp at hl
            | cons w ws =>
              unfold lookD
              split
              · intro z; cases z
              · rename_i hne
                rcases List.mem_cons.mp hm with e | hm
                · exact absurd e.symm hne
                · exact ih ws (by simpa using hl) hm
        exact this ks ws hl hkm hq
      | some w =>
        obtain ⟨x, hx, rw1⟩ := g1 w hq
        obtain ⟨z1, z2⟩ := zip_data dw ky w (look_mem hq)
        have r1 := data_mv (H' := H2) hd mv w x z1 rw1
        have r2 := data_mv (H' := H2) hd mv y u dy ry
        refine ⟨_, gi, _, gk, a, x, rfl, .inl ⟨_, _, .inr ⟨od, hd2⟩, rfl, hx.symm⟩, _, gj, w, y, S0, fun b S' => b = .bl (fitB ks ws y ky), r1, r2, (fun b o z => by cases z), ?_, fun b S' v H3 rb s3 f3 e => ?_⟩
        · have e0 : ∀ w : W, dataW w = true → deref S0 w = w := fun w h => by
            cases w with
            | ref b => simp [dataW] at h
            | _ => rfl
          simp only [wCmp]
          unfold wEq
          rw [e0 w z1, e0 y dy]
          refine ⟨z1, dy, by omega, ?_⟩
          unfold fitB
          rw [hq]
          simp
        · subst e
          cases rb
          exact ⟨_, rfl, hp H3 fun b o h => (f3.1 b o rfl h).2⟩
    · subst e
      refine ⟨_, ?_, hp⟩
      rw [List.getElem?_set_self (by rw [wipe_length]; exact hlt2)]
    · have hr := reps_ky (Γ := Γ) (φ := fitB ks ws y) hok
      exact unlock hS hd hs k' hD hk' hl' hr q
  | _ => exact h.elim
theorem s_lk (xo : XO Γ G C N sc Wx X) (nh : G.hot = false) {scope : Scope} {tg0 iter0 elt0 : Expr} {ifs0 : List Expr} {k : Nat} {pos : Pos} {e : E} (h : ∃ wi g tt te, LkOk Γ C N Wx X scope tg0 iter0 ifs0 elt0 k e wi g tt te) :
    PE X (.ListComp elt0 [⟨tg0, iter0, ifs0, 0⟩] scope pos) (tE Γ C Wx e) := by
  obtain ⟨wi, g, tt, te, l⟩ := h
  exact PEimp (pe_lock (pe_lc (own := ownOf N [k]) (xo.calm nh) (by rw [xo.hN]; exact xo.nd) l.i l.b l.g l.t l.e l.s)) l.m
end
end Bw

/-! Ev13: every expression that the checker takes. -/
namespace Bw
open PySem L2 PySem.Spec PyProof.Rows
section
variable {Γ : Gm} {G : GT} {C : CT} {N : List Str}
theorem chL_1 {f : Expr → E → Bool} {x : Expr} {es' : List E} (h : chL f [x] es' = true) : ∃ x', es' = [x'] ∧ f x x' = true := by
  cases es' with
  | nil => simp [chL] at h
  | cons a r =>
    rw [chL, Bool.and_eq_true] at h
    cases r with
    | nil => exact ⟨a, rfl, h.1⟩
    | cons _ _ => have := h.2; simp [chL] at this
theorem chL_2 {f : Expr → E → Bool} {x y : Expr} {es' : List E} (h : chL f [x, y] es' = true) : ∃ x' y', es' = [x', y'] ∧ f x x' = true ∧ f y y' = true := by
  cases es' with
  | nil => simp [chL] at h
  | cons a r =>
    rw [chL, Bool.and_eq_true] at h
    obtain ⟨b, rfl, hb⟩ := chL_1 h.2
    exact ⟨a, b, rfl, h.1, hb⟩
theorem tabs_eq : ∀ {t kvs : List (List Nat × W)}, chL (fun p q => p.1 == q.1 && eqB p.2 q.2) t kvs = true → t = kvs
  | [], [], _ => rfl
  | [], _ :: _, h => by simp [chL] at h
  | _ :: _, [], h => by simp [chL] at h
  | (a, b) :: t, (c, d) :: kvs, h => by
    rw [chL, Bool.and_eq_true, Bool.and_eq_true, beq_iff_eq] at h
    have e1 : a = c := h.1.1
    have e2 : b = d := eqB_eq h.1.2
    rw [e1, e2, tabs_eq h.2]
theorem sndE : ∀ (n : Nat) {sc : Scope} {Wx : WX} {X : Cx} {e : Expr} {e' : E}, XO Γ G C N sc Wx X → chE G N n sc e e' = true → PE X e (tE Γ C Wx e') ∧ (okT e = true → PT X e (tT Γ C Wx e'))
  | 0, _, _, _, _, _, _, h => by simp [chE] at h
  | n + 1, sc, Wx, X, e, e', xo, h => by
    have ih : ∀ {sc : Scope} {Wx : WX} {X : Cx} {e : Expr} {e' : E}, XO Γ G C N sc Wx X → chE G N n sc e e' = true → PE X e (tE Γ C Wx e') ∧ (okT e = true → PT X e (tT Γ C Wx e')) := fun xo q => sndE n xo q
    have ihP : ∀ e e', chE G N n sc e e' = true → PE X e (tE Γ C Wx e') := fun e e' q => (ih xo q).1
    have ihT : ∀ e e', (chE G N n sc e e' && okT e) = true → PT X e (tT Γ C Wx e') := fun e e' q => by
      rw [Bool.and_eq_true] at q
      exact (ih xo q.1).2 q.2
    have ihN : ∀ e e', chE G N n sc e e' = true → noStar e = true ∧ PE X e (tE Γ C Wx e') := fun e e' q => ⟨(chE_ns q).1, (ih xo q).1⟩
    have ihA : ∀ {es : List Expr} {es' : List E}, chL (chE G N n sc) es es' = true → PA X es (tEs Γ C Wx es') := fun q => pa_of xo ihN q
    unfold chE at h
    rw [Bool.and_eq_true] at h
    obtain ⟨ok, h⟩ := h
    have pl : ∀ {e'' : E}, plainT e = true → PE X e (tE Γ C Wx e'') → PE X e (tE Γ C Wx e'') ∧ (okT e = true → PT X e (tT Γ C Wx e'')) := fun q p => ⟨p, fun _ => t_plain p q⟩
    cases e' with
    | var i =>
      simp only at h
      split at h
      · simp only [Bool.and_eq_true] at h
        exact pl rfl (s_var xo (of_decide_eq_true h.1.1) h.1.2 h.2)
      · cases h
    | cst w =>
      simp only at h
      split at h
      · have e := eqB_eq h
        subst e
        exact pl rfl (s_cst pe_int fun S H => rfl)
      · have e := eqB_eq h
        subst e
        exact pl rfl (s_cst pe_bl fun S H => rfl)
      · have e := eqB_eq h
        subst e
        exact pl rfl (s_cst pe_non fun S H => rfl)
      · rw [Bool.and_eq_true] at h
        have e := eqB_eq h.1
        subst e
        refine pl rfl (s_cst pe_str fun S H => ⟨?_, h.2⟩)
        unfold strV
        congr 1
      · simp only [Bool.and_eq_true] at h
        obtain ⟨⟨g, d⟩, h⟩ := h
        split at h
        · rename_i u q
          have e := eqB_eq h
          subst e
          obtain ⟨v, u', hm, rv, rp⟩ := xo.con _ _ q
          exact pl rfl (s_cst (pe_glob (xo.glo g) hm rv (dbg_of d).1) rp)
        · split at h
          · rename_i p q
            have e := eqB_eq h
            subst e
            have hm := xo.fnv _ p.1 p.2 (mem_of_lookup q)
            exact pl rfl (s_cst (pe_glob (v := .ref _) (xo.glo g) hm rfl (dbg_of d).1) fun S H => rfl)
          · cases h
      · cases h
    | tup es' =>
      simp only at h
      split at h
      · exact pl rfl (s_tup (ihA h))
      · cases h
    | lst fz es' =>
      simp only at h
      split at h
      · exact pl rfl (s_lst (ihA h))
      · cases h
    | bin o a b =>
      simp only at h
      split at h
      · simp only [Bool.and_eq_true] at h
        have e := of_decide_eq_true h.1.1
        subst e
        exact pl rfl (s_bin xo (ihP _ _ h.1.2) (ihP _ _ h.2))
      · cases h
    | cmp o a b =>
      simp only at h
      split at h
      · simp only [Bool.and_eq_true] at h
        have e := of_decide_eq_true h.1.1
        subst e
        exact ⟨s_cmp xo (ihP _ _ h.1.2) (ihP _ _ h.2) (chE_ns h.2).2.2, fun _ => t_cmp xo (ihP _ _ h.1.2) (ihP _ _ h.2) (chE_ns h.2).2.2⟩
      · cases h
    | chain o o' a b c =>
      simp only at h
      split at h
      · simp only [Bool.and_eq_true] at h
        obtain ⟨⟨⟨⟨e1, e2⟩, ha⟩, hb⟩, hc⟩ := h
        have e1 := of_decide_eq_true e1
        have e2 := of_decide_eq_true e2
        subst e1
        subst e2
        exact ⟨s_chain xo (ihP _ _ ha) (ihP _ _ hb) (ihP _ _ hc) (chE_ns hb).2.2 (chE_ns hc).2.2, fun _ => t_chain xo (ihP _ _ ha) (ihP _ _ hb) (ihP _ _ hc) (chE_ns hb).2.2 (chE_ns hc).2.2⟩
      · cases h
    | isN neg a =>
      simp only at h
      split at h
      · simp only [Bool.and_eq_true] at h
        have e := of_decide_eq_true h.1
        subst e
        exact ⟨s_isN xo (ihP _ _ h.2), fun _ => t_isN xo (ihP _ _ h.2)⟩
      · cases h
    | and es' =>
      simp only at h
      split at h
      · simp only [Bool.and_eq_true] at h
        exact ⟨s_and ihP h.2 (ne_nil h.1.1), fun _ => (w_and ihT (chL_and h.2 h.1.2) (ne_nil h.1.1)).pt⟩
      · cases h
    | or es' =>
      simp only at h
      split at h
      · simp only [Bool.and_eq_true] at h
        exact ⟨s_or ihP h.2 (ne_nil h.1.1), fun _ => (w_or ihT (chL_and h.2 h.1.2) (ne_nil h.1.1)).pt⟩
      · cases h
    | not a =>
      simp only at h
      split at h
      · rw [Bool.and_eq_true] at h
        exact ⟨s_not (ihP _ _ h.2), fun _ => t_not ((ih xo h.2).2 h.1)⟩
      · cases h
    | neg a =>
      simp only at h
      split at h
      · exact pl rfl (s_neg (ihP _ _ h))
      · cases h
    | ite c a b =>
      simp only at h
      split at h
      · simp only [Bool.and_eq_true] at h
        exact ⟨s_ite ((ih xo h.1.1.2).2 h.1.1.1) (ihP _ _ h.1.2) (ihP _ _ h.2), fun o => by cases o⟩
      · cases h
    | idx a i =>
      simp only at h
      split at h
      · simp only [Bool.and_eq_true] at h
        exact pl rfl (s_idx xo (ihP _ _ h.1) (ihP _ _ h.2) (chE_ns h.2).2.1)
      · cases h
    | sl fz a lo hi =>
      simp only at h
      split at h
      · simp only [Bool.and_eq_true] at h
        exact pl rfl (s_sl xo ihP (ihP _ _ h.1.1) h.1.2 h.2)
      · cases h
    | call f es' =>
      simp only [Bool.and_eq_true, Bool.not_eq_true'] at h
      obtain ⟨nh, h⟩ := h
      split at h
      · simp only [Bool.and_eq_true] at h
        obtain ⟨⟨⟨⟨h1, h2⟩, h3⟩, h4⟩, h5⟩ := h
        exact pl rfl (s_call xo nh h1 h2 (List.contains_iff_mem.mp h3) (ne_nil h4) (chL_ns h5) (ihA h5))
      · cases h
    | callD f es' ds =>
      simp only [Bool.and_eq_true, Bool.not_eq_true'] at h
      obtain ⟨nh, h⟩ := h
      split at h
      · simp only [Bool.and_eq_true] at h
        obtain ⟨⟨⟨⟨⟨h1, h2⟩, h3⟩, h4⟩, h6⟩, h5⟩ := h
        split at h6
        · cases h6
        · rename_i ws q
          rw [Bool.and_eq_true] at h6
          exact pl rfl (s_callD xo nh h1 h2 (List.contains_iff_mem.mp h3) (ne_nil h4) q (of_decide_eq_true h6.1) (eqBs_eq h6.2) (chL_ns h5) (ihA h5))
      · cases h
    | dnew =>
      simp only at h
      split at h
      · exact pl rfl s_dnew
      · cases h
    | fzv a =>
      simp only [Bool.and_eq_true] at h
      have pt : plainT e = true := by
        have h1 := h.1
        cases e <;> first | rfl | (simp [fzE] at h1)
      exact pl pt (s_fzv (ihP _ _ h.2))
    | meb m a es' =>
      simp only at h
      split at h
      · simp only [Bool.and_eq_true] at h
        obtain ⟨⟨⟨⟨⟨⟨h0, h1⟩, h2⟩, h3⟩, h4⟩, h5⟩, h6⟩ := h
        have e1 := of_decide_eq_true h1
        subst e1
        exact pl rfl (s_meb xo (of_decide_eq_true h0) h2 h3 (of_decide_eq_true h4) (chL_len h6) (chL_ns h6) (ihP _ _ h5) (ihA h6))
      · cases h
    | fld cs a f =>
      simp only at h
      split at h
      · simp only [Bool.and_eq_true] at h
        obtain ⟨⟨h1, h2⟩, h3⟩ := h
        have e1 := of_decide_eq_true h1
        subst e1
        exact pl rfl (s_fld xo h2 (ihP _ _ h3))
      · cases h
    | meth tb m a es' =>
      simp only [Bool.and_eq_true, Bool.not_eq_true'] at h
      obtain ⟨nh, h⟩ := h
      split at h
      · simp only [Bool.and_eq_true] at h
        obtain ⟨⟨⟨⟨⟨⟨h1, h2⟩, h3⟩, h4⟩, h5⟩, h6⟩, h7⟩ := h
        have e1 := of_decide_eq_true h1
        subst e1
        exact pl rfl (s_meth xo nh h2 h3 (of_decide_eq_true h4) (chL_len h7) (of_decide_eq_true h5) (chL_ns h7) (ihP _ _ h6) (ihA h7))
      · cases h
    | mk c fi es' =>
      simp only [Bool.and_eq_true, Bool.not_eq_true'] at h
      obtain ⟨nh, h⟩ := h
      split at h
      · simp only [Bool.and_eq_true] at h
        obtain ⟨⟨⟨h1, h2⟩, h3⟩, h4⟩ := h
        exact pl rfl (s_mk xo nh h1 h2 (of_decide_eq_true h3) (chL_len h4) (chL_ns h4) (ihA h4))
      · cases h
    | mkx c z =>
      simp only [Bool.and_eq_true, Bool.not_eq_true'] at h
      obtain ⟨nh, h⟩ := h
      split at h
      · simp only [Bool.and_eq_true] at h
        obtain ⟨⟨⟨h1, h2⟩, h3⟩, h4⟩ := h
        exact pl rfl (s_mkx xo nh h1 h2 (of_decide_eq_true h3))
      · cases h
    | isC yes no a =>
      simp only at h
      split at h
      · simp only [Bool.and_eq_true] at h
        obtain ⟨⟨⟨⟨h1, h2⟩, h3⟩, h4⟩, h5⟩ := h
        exact pl rfl (s_isC xo h1 h2 h3 (of_decide_eq_true h4) (chE_ns h5).1 (ihP _ _ h5))
      · cases h
    | callV i fs es' =>
      simp only [Bool.and_eq_true, Bool.not_eq_true'] at h
      obtain ⟨nh, h⟩ := h
      split at h
      · simp only [Bool.and_eq_true] at h
        obtain ⟨⟨⟨⟨⟨h1, h2⟩, h3⟩, h4⟩, h5⟩, h6⟩ := h
        exact pl rfl (s_callV xo nh (of_decide_eq_true h1) h2 h3 h4 (ne_nil h5) (chL_ns h6) (ihA h6))
      · cases h
    | bi b es' =>
      rw [Bool.and_eq_true] at h
      obtain ⟨hh, h⟩ := h
      have nh : coolB b = false → G.hot = false := fun z => by rw [z, Bool.or_false] at hh; simpa using hh
      cases b with
      | maxd =>
        simp only at h
        split at h
        · simp only [Bool.and_eq_true, beq_iff_eq] at h
          obtain ⟨⟨h1, h2⟩, h3⟩ := h
          subst h2
          obtain ⟨a', d', rfl, ha, hd⟩ := chL_2 h3
          exact pl rfl (s_maxd xo (nh rfl) h1 (chE_ns ha).1 (ihP _ _ ha) (ihP _ _ hd))
        · cases h
      | listrev fz =>
        simp only at h
        split at h
        · simp only [Bool.and_eq_true] at h
          obtain ⟨⟨h1, h2⟩, h3⟩ := h
          obtain ⟨a', rfl, ha⟩ := chL_1 h3
          exact pl rfl (s_listrev xo (nh rfl) h1 h2 (chE_ns ha).1 (ihP _ _ ha))
        · cases h
      | lenset =>
        simp only at h
        split at h
        · simp only [Bool.and_eq_true] at h
          obtain ⟨⟨h1, h2⟩, h3⟩ := h
          obtain ⟨a', rfl, ha⟩ := chL_1 h3
          exact pl rfl (s_lenset xo (nh rfl) h1 h2 (chE_ns ha).1 (ihP _ _ ha))
        · cases h
      | _ =>
        simp only at h
        split at h
        · simp only [Bool.and_eq_true] at h
          obtain ⟨⟨h1, h2⟩, h3⟩ := h
          exact pl rfl (s_bi xo h1 hh (ne_nil h2) (by intro z; cases z) (chL_ns h3) (ihA h3))
        · cases h
    | isi t a =>
      simp only at h
      split at h
      · simp only [Bool.and_eq_true] at h
        exact pl rfl (s_isi xo h.1.1 h.1.2 (chE_ns h.2).1 (ihP _ _ h.2))
      · cases h
    | comp fz tg ik its cond elt own =>
      simp only [Bool.and_eq_true, Bool.not_eq_true'] at h
      obtain ⟨nh, h⟩ := h
      split at h
      · exact pl rfl (s_lc xo nh (lc_of ih xo nh (by unfold chLc; simpa only [Bool.and_eq_true] using h)))
      · cases h
    | fits i j k =>
      simp only [Bool.and_eq_true, Bool.not_eq_true'] at h
      obtain ⟨nh, h⟩ := h
      split at h
      · simp only [Bool.and_eq_true] at h
        obtain ⟨⟨⟨⟨⟨⟨⟨⟨⟨h1, h2⟩, h3⟩, hik⟩, hjk⟩, h4⟩, h5⟩, h6⟩, h7⟩, h8⟩ := h
        exact pl rfl (s_lk xo nh (fits_all xo (of_decide_eq_true h1) h2 h3 (of_decide_eq_true hik) (of_decide_eq_true hjk) h4 h5 h6 h7 h8))
      · cases h
    | keysOf i k =>
      simp only [Bool.and_eq_true, Bool.not_eq_true'] at h
      obtain ⟨nh, h⟩ := h
      split at h
      · simp only [Bool.and_eq_true] at h
        obtain ⟨⟨⟨⟨⟨h1, h2⟩, h3⟩, hik⟩, h4⟩, h5⟩ := h
        exact pl rfl (s_lk xo nh (keys_all xo (of_decide_eq_true h1) h2 h3 (of_decide_eq_true hik) h4 h5))
      · cases h
    | tab kvs i =>
      simp only at h
      split at h
      · simp only [Bool.and_eq_true] at h
        obtain ⟨⟨⟨h1, h2⟩, h3⟩, h4⟩ := h
        split at h3
        · rename_i t q
          have e := tabs_eq h3
          subst e
          exact pl rfl (s_tab xo h1 h2 q (chE_ns h4).2.1 (ihP _ _ h4))
        · cases h3
      · cases h
    | app a e1 =>
      simp only at h
      split at h
      · simp only [Bool.and_eq_true, beq_iff_eq] at h
        obtain ⟨⟨⟨⟨h1, h2⟩, h3⟩, h4⟩, h5⟩ := h
        subst h1
        exact pl rfl (s_app xo h2 (by simpa using h3) (chE_ns h5).1 (ihP _ _ h4) (ihP _ _ h5))
      · cases h
    | dic ks es' =>
      simp only at h
      split at h
      · simp only [Bool.and_eq_true] at h
        obtain ⟨⟨⟨⟨⟨h1, h2⟩, h3⟩, h4⟩, h5⟩, h6⟩ := h
        exact pl rfl (s_dic xo ihP h1 (of_decide_eq_true h2) (ne_nil h3) (of_decide_eq_true h4) (of_decide_eq_true h5) h6)
      · cases h
    | dicV kvs =>
      simp only at h
      split at h
      · simp only [Bool.and_eq_true] at h
        exact pl rfl (s_dicV xo ihP (ne_nil h.1.1) (of_decide_eq_true h.1.2) h.2)
      · cases h
    | dEq a b =>
      simp only at h
      split at h
      · simp only [Bool.and_eq_true] at h
        exact ⟨s_dEq xo (ihP _ _ h.1) (ihP _ _ h.2) (chE_ns h.2).2.2, fun _ => t_dEq xo (ihP _ _ h.1) (ihP _ _ h.2) (chE_ns h.2).2.2⟩
      · cases h
    | ext a b =>
      simp only at h
      split at h
      · simp only [Bool.and_eq_true, beq_iff_eq] at h
        obtain ⟨⟨⟨⟨h1, h2⟩, h3⟩, h4⟩, h5⟩ := h
        subst h1
        exact pl rfl (s_ext xo h2 (by simpa using h3) (chE_ns h5).1 (ihP _ _ h4) (ihP _ _ h5))
      · cases h
    | pop a =>
      simp only at h
      split at h
      · simp only [Bool.and_eq_true, beq_iff_eq] at h
        obtain ⟨⟨⟨h1, h2⟩, h3⟩, h4⟩ := h
        subst h1
        exact pl rfl (s_pop xo h2 (by simpa using h3) (ihP _ _ h4))
      · cases h
end
end Bw

/-! Ev14: statements. -/
namespace Bw
open PySem L2 PySem.Spec PyProof.Rows
/-- not a comprehension -/
def noLc : Expr → Bool
  | .ListComp _ _ _ _ => false
  | .SetComp _ _ _ _ => false
  | .DictComp _ _ _ _ _ => false
  | _ => true
/-- name = [..]: whether the name takes the list from within -/
def swB (sc scope : Scope) (y : Str) (py pos : Pos) : Bool := (sc.names.lookup y == some .local) && (py.line == pos.line) && !(scope.names.any fun (n, k) => n == y && (k == .local || k == .cell))
/-- one text -/
def chTx : List Expr → List E → Bool
  | [.Constant (.str _) _ _], [.cst (.str _)] => true
  | _, _ => false
def chH (G : GT) (N : List Str) (ch : Stmt → St → Bool) (sc : Scope) : ExceptHandler → Hn → Bool
  | .ExceptHandler (some (.Name x _)) nm suite _, .mk yes no nm' suite' => gloB sc x && nodbg x && decide (G.exm.lookup x = some (yes, no)) && !suite.isEmpty && (match nm, nm' with
    | none, none => true
    | some y, some i => decide (N[i]? = some y) && (sc.names.lookup y == some .local)
    | _, _ => false) && chL ch suite suite'
  | _, _ => false
section
variable (N : List Str)
def chS (G : GT) : Nat → Scope → Stmt → St → Bool
  | 0, _, _, _ => false
  | n + 1, sc, s, s' =>
    match s' with
    | .pass => (match s with
      | .Pass _ => true
      | .Expr (.Constant (.str _) _ _) _ => true
      | _ => false)
    | .ex e' => (match s with
      | .Expr e _ => noLc e && chE G N 60 sc e e'
      | _ => false)
    | .ret e' => (match s with
      | .Return (some e) _ => chE G N 60 sc e e'
      | _ => false)
    | .retN => (match s with
      | .Return none _ => true
      | _ => false)
    | .asg i e' => (match s with
      | .Assign [.Name y py] e _ => decide (N[i]? = some y) && locB sc y && (match e with
        | .ListComp elt0 [⟨tg0, iter0, ifs0, 0⟩] scope pos => !G.hot && (match e' with
          | .comp _ tg ik its cond elt own => swB sc scope y py pos && chLc G N 60 sc scope tg0 iter0 ifs0 elt0 tg ik its cond elt own
          | .fits i2 j k => swB sc scope y py pos && (match ifs0 with
            | [.Compare (.Subscript d0 x0 _) [.Eq] [y0] _] => decide ((ownOf N [k]).map (·.2) = [k]) && blkC N sc scope (ownOf N [k]) && chNm N scope tg0 k && decide (i2 ≠ k) && decide (j ≠ k) &&
              chV N sc iter0 i2 && chV N (relS scope sc) d0 i2 && chV N (relS scope sc) x0 k && chV N (relS scope sc) y0 j && chV N (relS scope sc) elt0 k
            | _ => false)
          | .keysOf i2 k => swB sc scope y py pos && (match ifs0 with
            | [] => decide ((ownOf N [k]).map (·.2) = [k]) && blkC N sc scope (ownOf N [k]) && chNm N scope tg0 k && decide (i2 ≠ k) && chV N sc iter0 i2 && chV N (relS scope sc) elt0 k
            | _ => false)
          | _ => false)
        | e => noLc e && chE G N 60 sc e e')
      | _ => false)
    | .asgT is e' => !G.hot && (match s with
      | .Assign [.Tuple es _ _] e _ => chL (chNm N sc) es is && noLc e && !isTup e && chE G N 60 sc e e'
      | _ => false)
    | .par i j a b => !G.hot && (match s with
      | .Assign [.Tuple [.Name x px, .Name y py] _ _] (.Tuple [.Name u pu, .Name v pv] _ _) _ => decide (N[i]? = some x) && decide (N[j]? = some y) && decide (i ≠ j) && decide (x ≠ y) && (sc.names.lookup x == some .local) && (sc.names.lookup y == some .local) && (px.line == py.line) && (u != ("__debug__" : Str)) && (v != ("__debug__" : Str)) && chE G N 60 sc (.Name u pu) a && chE G N 60 sc (.Name v pv) b
      | _ => false)
    | .setIx o i e' => (match s with
      | .Assign [.Subscript o0 i0 _] e _ => noLc e && chE G N 60 sc e e' && chE G N 60 sc o0 o && chE G N 60 sc i0 i
      | _ => false)
    | .ite c a b => (match s with
      | .If c0 a0 b0 _ => okT c0 && chE G N 60 sc c0 c && chL (chS G n sc) a0 a && chL (chS G n sc) b0 b
      | _ => false)
    | .for tg ik its body => !G.hot && (match s with
      | .For tg0 iter body0 [] _ => chTg N sc tg0 tg && chI G (chE G N 60 sc) sc tg0 iter ik its && chL (chS G n sc) body0 body
      | _ => false)
    | .whl c body => !G.hot && (match s with
      | .While c0 body0 [] _ => okT c0 && chE G N 60 sc c0 c && chL (chS G n sc) body0 body
      | _ => false)
    | .brk => (match s with
      | .Break _ => true
      | _ => false)
    | .cnt => (match s with
      | .Continue _ => true
      | _ => false)
    | .fldS cs o f e' => (match s with
      | .Assign [.Attribute o0 nm _] e _ => decide (nm = sZ f) && noLc e && cs.all (fun c => (match G.fld.lookup c with
        | some fs => fs.contains f
        | none => false)) && chE G N 60 sc e e' && chE G N 60 sc o0 o
      | _ => false)
    | .augF _ _ _ _ => false
    | .rse c fs es' => !G.hot && (match s with
      | .Raise (some (.Call (.Name x _) es [] _)) none _ => gloB sc x && nodbg x && decide (G.xcl.lookup x = some (c, fs)) && (match fs with
        | [] => chTx es es'
        | _ => !es.isEmpty && decide (es.length = fs.length) && chL (chE G N 60 sc) es es')
      | _ => false)
    | .trys body hs orelse => !G.hot && (match s with
      | .Try body0 hds orelse0 [] _ => !hds.isEmpty && chL (chS G n sc) body0 body && chL (chS G n sc) orelse0 orelse && chL (chH G N (fun s s' => chS { G with hot := true } n sc s s') sc) hds hs
      | _ => false)
end
structure KD (Γ : Gm) (Wx : WX) (S : Sto) (H : Hp) (DW : Dn) (D : Ends) : Prop where
  nx : ∀ env' S' σ' H', envR Γ S' H' env' σ' → SR Γ S' H' → Fr S H S' H' → DW.nx env' S' → D.nx σ' H'
  rt : ∀ w S' v H', rep Γ S' H' w v → SR Γ S' H' → Fr S H S' H' → DW.rt w S' → D.rt v H'
  bk : ∀ env' S' σ' H', envR Γ S' H' env' σ' → SR Γ S' H' → Fr S H S' H' → DW.bk env' S' → D.bk σ' H'
  ct : ∀ env' S' σ' H', envR Γ S' H' env' σ' → SR Γ S' H' → Fr S H S' H' → DW.ct env' S' → D.ct σ' H'
  xc : ∀ x env' S' cls d σ' H', xrep Γ S' H' x cls d → envR Γ S' H' env' σ' → SR Γ S' H' → Fr S H S' H' → DW.xc x env' S' → Wx cls d σ' H'
section
variable {Γ : Gm} {G : GT} {C : CT} {N : List Str} {sc : Scope} {Wx : WX} {X : Cx}
theorem KD.fr {S S1 : Sto} {H H1 : Hp} {DW : Dn} {D : Ends} (k : KD Γ Wx S H DW D) (f : Fr S H S1 H1) : KD Γ Wx S1 H1 DW D where
  nx := fun env' S' σ' H' he hs f2 q => k.nx env' S' σ' H' he hs (f.trans f2) q
  rt := fun w S' v H' r hs f2 q => k.rt w S' v H' r hs (f.trans f2) q
  bk := fun env' S' σ' H' he hs f2 q => k.bk env' S' σ' H' he hs (f.trans f2) q
  ct := fun env' S' σ' H' he hs f2 q => k.ct env' S' σ' H' he hs (f.trans f2) q
  xc := fun x env' S' cls d σ' H' r he hs f2 q => k.xc x env' S' cls d σ' H' r he hs (f.trans f2) q
theorem KD.kx {S : Sto} {H : Hp} {DW : Dn} {D : Ends} {env : Env} {σ : L2.St} (k : KD Γ Wx S H DW D) (he : envR Γ S H env σ) : KX Γ S H (fun x S1 => DW.xc x env S1) (fun cls d H' => Wx cls d σ H') :=
  fun x S' cls d H' r hs f q => k.xc x env S' cls d σ H' r (he.fr f) hs f q
def tS (Γ : Gm) (C : CT) (Wx : WX) (s : St) : TS := fun D σ H => ∃ env S DW, envR Γ S H env σ ∧ SR Γ S H ∧ wS C s env S DW ∧ KD Γ Wx S H DW D
def tSs (Γ : Gm) (C : CT) (Wx : WX) (ss : List St) : TS := fun D σ H => ∃ env S DW, envR Γ S H env σ ∧ SR Γ S H ∧ wSs C ss env S DW ∧ KD Γ Wx S H DW D
/-- an exception class that is made by its __init__, which sets the fields fs -/
def spI (C : Addr) (fs : List (List Nat)) : Sp := fun vs H Q _ => ∃ (a : Addr) (us : List V), vs = .ref a :: us ∧ us.length = fs.length ∧ H a = some (exo a C none) ∧ ∀ dx, H dx = none → dx ≠ a → Q .non (upd (upd H dx (exd dx (insz fs.reverse us.reverse))) a (exo a C (some dx)))
def XiR (Γ : Gm) (X : Cx) (x : Str) (c : Nat) (fs : List (List Nat)) : Prop :=
  ∃ (ve : Bool) (k : Nat) (fI : Addr) (fd : FuncData) (ps : List Str), OxC X.K (Γ.ca c) ve ∧ PySem.W.findIn X.K (.ref (Γ.ca c)) "__init__" = some (some (.ref fI)) ∧ PySem.W.typeIn X.K (.ref fI) = some (.type "function") ∧
    FnOk X.prog X.w X.K X.mg X.base (L2.CX X.prog X.w) k fI fd ps (spI (Γ.ca c) fs) ∧ Room (k + 1) X.A ∧ Binds X.K fd ps [] ∧ X.mg x = some (.ref (Γ.ca c)) ∧ XkC X.K (Γ.ca c) ∧ ∀ f ∈ fs, PySem.W.findIn X.K (.ref (Γ.ca c)) (sZ f) = some none
/-- a class that a clause names -/
def ExR (Γ : Gm) (X : Cx) (x : Str) (yes no : List Nat) : Prop :=
  ∃ cv, (X.mg x = some cv ∨ (X.mg x = none ∧ bootBuiltins x = some cv ∧ x ≠ ("__name__" : Str))) ∧ (∀ c ∈ yes, PySem.W.exmOne X.K (.ref (Γ.ca c)) cv = some true) ∧ ∀ c ∈ no, PySem.W.exmOne X.K (.ref (Γ.ca c)) cv = some false
structure XS (Γ : Gm) (G : GT) (C : CT) (N : List Str) (sc : Scope) (Wx : WX) (X : Cx) : Prop extends XO Γ G C N sc Wx X where
  hp : G.hot = false → PassesOwn (model X.prog X.w) X.A X.env X.xe
  fnT : ∀ x, X.fn x = true
  kd : sc.kind = .function
  st : X.stack = X.env :: X.outer
  fm : X.env.frame = some X.env.locals
  xin : ∀ x c fs, G.hot = false → G.xcl.lookup x = some (c, fs) → fs ≠ [] → XiR Γ X x c fs
  exm : ∀ x yes no, G.exm.lookup x = some (yes, no) → ExR Γ X x yes no
theorem XS.loc (xs : XS Γ G C N sc Wx X) : ∀ x, locB sc x = true → Loc X.env.scope x ∧ (X.fn x = true ∨ X.env.scope.names.lookup x = some .local) := fun x h => ⟨xs.toXO.loc h, .inl (xs.fnT x)⟩
theorem XS.nN (xs : XS Γ G C N sc Wx X) : X.N.Nodup := by rw [xs.hN]; exact xs.nd
/-! ### blocks -/
theorem ss_of {f : Stmt → St → Bool} (hf : ∀ s s', f s s' = true → PS X s (tS Γ C Wx s')) : ∀ {ss : List Stmt} {ss' : List St}, chL f ss ss' = true → PSs X ss (tSs Γ C Wx ss')
  | [], [], _ => PSsimp pss_nil fun D σ H ⟨env, S, DW, he, hs, h, k⟩ => by
    simp only [wSs] at h
    exact k.nx env S σ H he hs (Fr.refl _ _) h
  | [], _ :: _, h => by simp [chL] at h
  | _ :: _, [], h => by simp [chL] at h
  | s :: ss, s' :: ss', h => by
    rw [chL, Bool.and_eq_true] at h
    refine PSsimp (pss_cons (hf _ _ h.1) (ss_of hf h.2)) fun D σ H ⟨env, S, DW, he, hs, h, k⟩ => ?_
    simp only [wSs] at h
    refine ⟨env, S, _, he, hs, h, ⟨fun env' S' σ' H' he' hs' f q => ?_, k.rt, k.bk, k.ct, k.xc⟩⟩
    exact ⟨env', S', DW, he', hs', q, k.fr f⟩
/-! ### the forms -/
theorem sw_no {e : Expr} (h : noLc e = true) (t : Option Expr) (l : Nat) (env : PySem.Env) : swapsWith e t l env = pure false := by
  cases e <;> first | rfl | (simp [noLc] at h)
theorem sw_sole {e : Expr} (h : noLc e = true) (t : Expr) (l : Nat) (env : PySem.Env) : swapsWithSole [t] e l env = pure false := by
  cases e <;> first | rfl | (simp [noLc] at h)
theorem st_ex {e : Expr} {e' : E} {pos : Pos} (p : PE X e (tE Γ C Wx e')) (h : noLc e = true) : PS X (.Expr e pos) (tS Γ C Wx (.ex e')) := by
  refine PSimp (ps_expr p (sw_no h _ _ _)) fun D σ H ⟨env, S, DW, he, hs, h, k⟩ => ?_
  simp only [wS] at h
  exact ⟨env, S, _, _, he, hs, h, fun w S1 v H1 r1 s1 f1 q1 => k.nx env S1 σ H1 (he.fr f1) s1 f1 q1, k.kx he⟩
theorem st_ret {e : Expr} {e' : E} {pos : Pos} (p : PE X e (tE Γ C Wx e')) : PS X (.Return (some e) pos) (tS Γ C Wx (.ret e')) := by
  refine PSimp (ps_ret p) fun D σ H ⟨env, S, DW, he, hs, h, k⟩ => ?_
  simp only [wS] at h
  exact ⟨env, S, _, _, he, hs, h, fun w S1 v H1 r1 s1 f1 q1 => k.rt w S1 v H1 r1 s1 f1 q1, k.kx he⟩
theorem st_retN {pos : Pos} : PS X (.Return none pos) (tS Γ C Wx .retN) := by
  refine PSimp ps_retN fun D σ H ⟨env, S, DW, he, hs, h, k⟩ => ?_
  simp only [wS] at h
  exact k.rt .non S .non H rfl hs (Fr.refl _ _) h
theorem asg_of {i : Nat} {e' : E} {D : Ends} {σ : L2.St} {H : Hp} (q : tS Γ C Wx (.asg i e') D σ H) : tE Γ C Wx e' σ H fun x H1 => gName i x σ H1 D.nx := by
  obtain ⟨env, S, DW, he, hs, h, k⟩ := q
  simp only [wS] at h
  exact ⟨env, S, _, _, he, hs, h, fun w S1 v H1 r1 s1 f1 q1 => k.nx _ S1 _ H1 ((he.fr f1).set i r1) s1 f1 q1, k.kx he⟩
theorem st_asg (xs : XS Γ G C N sc Wx X) {i : Nat} {y : Str} {e : Expr} {e' : E} {py pos : Pos} (h1 : N[i]? = some y) (h2 : locB sc y = true) (p : PE X e (tE Γ C Wx e')) (h : noLc e = true) : PS X (.Assign [.Name y py] e pos) (tS Γ C Wx (.asg i e')) :=
  PSimp (ps_set xs.nN (by rw [xs.hN]; exact h1) (xs.loc y h2).1 p (sw_no h _ _ _) (xs.loc y h2).2) fun D σ H q => asg_of q
theorem st_asgL (xs : XS Γ G C N sc Wx X) (nh : G.hot = false) {i : Nat} {y : Str} {py spos : Pos} {scope : Scope} {tg0 iter0 : Expr} {ifs0 : List Expr} {elt0 : Expr} {tg : Tg} {ik : IK} {its cond : List E} {elt : E} {own : List Nat} {fz : Bool} {pos : Pos} (h1 : N[i]? = some y) (sw : swB sc scope y py pos = true) (l : LcOk G C Γ N sc Wx X scope tg0 iter0 ifs0 elt0 tg ik its cond elt own) :
    PS X (.Assign [.Name y py] (.ListComp elt0 [⟨tg0, iter0, ifs0, 0⟩] scope pos) spos) (tS Γ C Wx (.asg i (.comp fz tg ik its cond elt own))) := by
  unfold swB at sw
  simp only [Bool.and_eq_true, Bool.not_eq_true'] at sw
  have hy : X.env.scope.names.lookup y = some .local := by rw [xs.hsc]; simpa using sw.1.1
  refine PSimp (ps_setLc (xs.calm nh) xs.nN (by rw [xs.hN]; exact h1) hy (sw_true (by rw [xs.hsc]; exact xs.kd) hy sw.1.2 sw.2) l.i l.b l.g l.t l.e l.s) fun D σ H q => ?_
  have q := asg_of q
  show tLc _ _ _ _ _ σ H fun x H1 => gName i x σ H1 D.nx
  rw [l.e1]
  exact comp_of xs.hK l.e2 q
theorem st_asgK (xs : XS Γ G C N sc Wx X) (nh : G.hot = false) {i : Nat} {y : Str} {py spos : Pos} {scope : Scope} {tg0 iter0 : Expr} {ifs0 : List Expr} {elt0 : Expr} {k : Nat} {e : E} {pos : Pos} (h1 : N[i]? = some y) (sw : swB sc scope y py pos = true) (h : ∃ wi g tt te, LkOk Γ C N Wx X scope tg0 iter0 ifs0 elt0 k e wi g tt te) :
    PS X (.Assign [.Name y py] (.ListComp elt0 [⟨tg0, iter0, ifs0, 0⟩] scope pos) spos) (tS Γ C Wx (.asg i e)) := by
  unfold swB at sw
  simp only [Bool.and_eq_true, Bool.not_eq_true'] at sw
  have hy : X.env.scope.names.lookup y = some .local := by rw [xs.hsc]; simpa using sw.1.1
  obtain ⟨wi, g, tt, te, l⟩ := h
  exact PSimp (ps_lock (ps_setLc (xs.calm nh) xs.nN (by rw [xs.hN]; exact h1) hy (sw_true (by rw [xs.hsc]; exact xs.kd) hy sw.1.2 sw.2) l.i l.b l.g l.t l.e l.s)) fun D σ H q => l.m σ H _ (asg_of q)
theorem st_asgT (xs : XS Γ G C N sc Wx X) (nh : G.hot = false) {is : List Nat} {es : List Expr} {k0 : Nat} {tp pos : Pos} {e : Expr} {e' : E} (h1 : chL (chNm N sc) es is = true) (p : PE X e (tE Γ C Wx e')) (h : noLc e = true) (ht : isTup e = false) : PS X (.Assign [.Tuple es k0 tp] e pos) (tS Γ C Wx (.asgT is e')) := by
  have pg : PG X (.Tuple es k0 tp) (gW Γ (.pr is)) := pg_of xs.nN (xs.calm nh) xs.hK (tg := .pr is) ⟨es, k0, tp, rfl, nms_of xs.hN xs.loc h1⟩
  refine PSimp (ps_asg p pg (sw_sole h _ _ _) (by cases e <;> first | rfl | (simp [isTup] at ht)) rfl) fun D σ H ⟨env, S, DW, he, hs, h, k⟩ => ?_
  simp only [wS] at h
  refine ⟨env, S, _, _, he, hs, h, fun w S1 v H1 r1 s1 f1 q1 => ?_, k.kx he⟩
  obtain ⟨env', e1, q1⟩ := wSome_el q1
  exact ⟨env, S1, w, env', he.fr f1, r1, e1, fun σ' _ he' => k.nx env' S1 σ' H1 he' s1 f1 q1⟩
theorem sw_par {env : PySem.Env} {x y u v : Str} {px py pu pv pt pt2 : Pos} {kt k2 : Nat} (hk : env.scope.kind = .function) (hx : env.scope.names.lookup x = some .local) (hy : env.scope.names.lookup y = some .local) (hxy : x ≠ y) (hl : (px.line == py.line) = true) (hu : (u != ("__debug__" : Str)) = true) (hv : (v != ("__debug__" : Str)) = true) :
    swappedStores [.Tuple [.Name x px, .Name y py] kt pt] (.Tuple [.Name u pu, .Name v pv] k2 pt2) env = pure (some [x, y]) := by
  have e0 : (env.blockKind != ScopeKind.function) = false := by
    unfold Env.blockKind
    rw [hk]
    rfl
  have e1 : (py.line == px.line) = true := by rw [beq_iff_eq] at hl ⊢; exact hl.symm
  have e2 : ((u : Str) == ("__debug__" : Str)) = false := by simpa using hu
  have e4 : (y == x) = false := by simpa using (Ne.symm hxy)
  have e5 : ((v : Str) == ("__debug__" : Str)) = false := by simpa using hv
  have e3 : [x, y].eraseDups = [x, y] := by
    simp only [List.eraseDups, List.eraseDupsBy, List.eraseDupsBy.loop, List.any_nil, List.any_cons, e4, Bool.or_false, List.reverse_cons, List.reverse_nil, List.nil_append, List.cons_append]
  have e6 : constantsAlone 8 (.Name u pu) = false := e2
  have e7 : foldedForSure 8 (.Name u pu) = false := rfl
  unfold swappedStores
  simp only [e0, Env.kindOf, hx, hy, List.length_cons, List.length_nil, List.any_cons, List.any_nil, List.head?_cons, Option.map_some, Option.getD_some, List.filterMap_cons, List.filterMap_nil, List.all_cons, List.all_nil, e6, e7, Expr.pos, beq_self_eq_true, Bool.and_self, if_true, e1, e3, Bool.true_and, Bool.false_and, Bool.and_true, Bool.false_eq_true, if_false, Bool.or_false, Bool.or_true, bne_self_eq_false, Nat.reduceAdd, Nat.reduceBEq, Bool.true_or, Bool.not_true, pure_bind]
  try rfl
theorem st_par (xs : XS Γ G C N sc Wx X) (nh : G.hot = false) {i j : Nat} {x y u v : Str} {px py pu pv pt pt2 pos : Pos} {kt k2 : Nat} {a b : E} (hi : N[i]? = some x) (hj : N[j]? = some y) (hij : i ≠ j) (hxy : x ≠ y) (hx : sc.names.lookup x = some .local) (hy : sc.names.lookup y = some .local)
    (hl : (px.line == py.line) = true) (hu : (u != ("__debug__" : Str)) = true) (hv : (v != ("__debug__" : Str)) = true) (pa : PE X (.Name u pu) (tE Γ C Wx a)) (pb : PE X (.Name v pv) (tE Γ C Wx b)) :
    PS X (.Assign [.Tuple [.Name x px, .Name y py] kt pt] (.Tuple [.Name u pu, .Name v pv] k2 pt2) pos) (tS Γ C Wx (.par i j a b)) := by
  have hw : swappedStores [.Tuple [.Name x px, .Name y py] kt pt] (.Tuple [.Name u pu, .Name v pv] k2 pt2) X.env = pure (some [x, y]) :=
    sw_par (by rw [xs.hsc]; exact xs.kd) (by rw [xs.hsc]; exact hx) (by rw [xs.hsc]; exact hy) hxy hl hu hv
  refine PSimp (ps_par (xs.calm nh) xs.nN (by rw [xs.hN]; exact hi) (by rw [xs.hN]; exact hj) hij (by rw [xs.hsc]; exact hx) (by rw [xs.hsc]; exact hy) (pa_cons pa (pa_cons pb pa_nil (star_cons rfl)) (star_cons rfl)) hw rfl) fun D σ H ⟨env, S, DW, he, hs, h, k⟩ => ?_
  simp only [wS] at h
  refine ⟨env, S, _, _, he, hs, h, fun w S1 v1 H1 r1 s1 f1 q1 => ?_, k.kx he⟩
  refine ⟨env, S1, _, _, he.fr f1, s1, q1, fun w2 S2 v2 H2 r2 s2 f2 q2 => ?_, (k.fr f1).kx (he.fr f1)⟩
  refine ⟨v1, v2, rfl, ?_⟩
  exact k.nx _ S2 _ H2 (((he.fr (f1.trans f2)).set i (rep.fr f2 _ _ r1)).set j r2) s2 (f1.trans f2) q2
theorem ixW_N {n : Nat} {i : Int} : ixW n i = ixN n i := rfl
def rSetW (Γ : Gm) : TSet := fun o i v H Q => ∃ x y w S QS, rep Γ S H x o ∧ rep Γ S H y i ∧ rep Γ S H w v ∧ SR Γ S H ∧ wSetIx x y w S QS ∧ ∀ S' H', SR Γ S' H' → Fr S H S' H' → QS S' → Q H'
theorem set_W (hu : X.A.units + 64 < cLine) : PSet X (rSetW Γ) := by
  intro pins s σ H o i v ov iv u Q I ro ri rv h
  obtain ⟨x, y, w, S, QS, r1, r2, r3, sr, h, k⟩ := h
  unfold wSetIx at h
  split at h
  · rename_i a
    split at h
    · rename_i ws e
      split at h
      · rename_i j
        split at h
        · rename_i jj e3
          cases r1
          cases r2
          obtain ⟨vs, h3, rr⟩ := sr a _ e
          exact set_list pins s σ H _ _ v ov iv u Q I ro ri rv ⟨a, vs, j, jj, rfl, rfl, h3, by rw [← rr.len, ← ixW_N]; exact e3, k _ _ (sr.wrL e (rr.set jj r3)) (Fr.wr e) h⟩
        · exact h.elim
      · exact h.elim
    · rename_i ks ws e
      split at h
      · rename_i ky e2
        cases r1
        obtain ⟨vs, h3, hl, rr⟩ := sr a _ e
        have ei := key_rep e2 r2
        subst ei
        obtain ⟨vs', p1, p2, p3⟩ := putD_rep (z := ky) hl rr r3
        refine set_dk (by omega) pins s σ H _ _ v ov iv u Q I ro ri rv ⟨a, _, rfl, DPut.k h3 (by rw [dkz_len (hl.trans rr.len), hl]; exact h.1), k _ _ ?_ (Fr.wr e) h.2⟩
        rw [p1]
        exact orep.wr sr e ⟨vs', upd_same, p2, reps.fr (Fr.wr e) _ _ p3⟩
      · exact h.elim
    · exact h.elim
  · exact h.elim
theorem st_setIx (xs : XS Γ G C N sc Wx X) {o i e : Expr} {o' i' e' : E} {p pos : Pos} (pe : PE X e (tE Γ C Wx e')) (po : PE X o (tE Γ C Wx o')) (pi : PE X i (tE Γ C Wx i')) (hi : ∀ l u st p, i ≠ .Slice l u st p) (h : noLc e = true) : PS X (.Assign [.Subscript o i p] e pos) (tS Γ C Wx (.setIx o' i' e')) := by
  have pg : PG X (.Subscript o i p) (gSub (tE Γ C Wx o') (tE Γ C Wx i') (rSetW Γ)) := pg_sub po pi (set_W xs.un) (by intro v; cases i <;> first | rfl | exact absurd rfl (hi _ _ _ _))
  refine PSimp (ps_asg pe pg (sw_sole h _ _ _) rfl rfl) fun D σ H ⟨env, S, DW, he, hs, h, k⟩ => ?_
  simp only [wS] at h
  refine ⟨env, S, _, _, he, hs, h, fun w S1 v H1 r1 s1 f1 q1 => ?_, k.kx he⟩
  refine ⟨env, S1, _, _, he.fr f1, s1, q1, fun x S2 ov H2 r2 s2 f2 q2 => ?_, (k.fr f1).kx (he.fr f1)⟩
  refine ⟨env, S2, _, _, he.fr (f1.trans f2), s2, q2, fun y S3 iv H3 r3 s3 f3 q3 => ?_, (k.fr (f1.trans f2)).kx (he.fr (f1.trans f2))⟩
  exact ⟨x, y, w, S3, _, rep.fr f3 _ _ r2, r3, rep.fr (f2.trans f3) _ _ r1, s3, q3, fun S4 H4 s4 f4 q4 => k.nx env S4 σ H4 (he.fr (f1.trans (f2.trans (f3.trans f4)))) s4 (f1.trans (f2.trans (f3.trans f4))) q4⟩
/-! ### fields set -/
theorem insz_put {f : List Nat} {w : W} {v : V} {S : Sto} {H : Hp} (rw' : rep Γ S H w v) : ∀ {ks : List (List Nat)} {ws : List W} {vs : List V}, ks.length = ws.length → reps Γ S H ws vs →
    ∃ vs', putF (sZ f) v (insz ks vs) = insz (putW ks ws f w).1 vs' ∧ (putW ks ws f w).1.length = (putW ks ws f w).2.length ∧ reps Γ S H (putW ks ws f w).2 vs' ∧ ∀ k ∈ (putW ks ws f w).1, k ∈ ks ∨ k = f
  | [], [], vs, _, r => by
    cases r
    exact ⟨[v], rfl, rfl, reps.one rw', fun k hk => by simpa [putW] using hk⟩
  | [], _ :: _, _, h, _ => by simp at h
  | _ :: _, [], _, h, _ => by simp at h
  | k :: ks, x :: ws, vs, hl, ⟨u, vr, e, q, t⟩ => by
    subst e
    by_cases e : k = f
    · subst e
      refine ⟨v :: vr, ?_, ?_, ?_, fun k' hk => ?_⟩
      · show putF (sZ k) v ((sZ k, u) :: insz ks vr) = insz (putW (k :: ks) (x :: ws) k w).1 (v :: vr)
        unfold putF putW
        rw [if_pos rfl]
        simp
        rfl
      · unfold putW; rw [if_pos rfl]; simpa using hl
      · unfold putW; rw [if_pos rfl]; exact ⟨v, vr, rfl, rw', t⟩
      · unfold putW at hk; rw [if_pos rfl] at hk; exact .inl hk
    · obtain ⟨vs', h1, h2, h3, h4⟩ := insz_put (f := f) (w := w) rw' (ks := ks) (ws := ws) (by simpa using hl) t
      refine ⟨u :: vs', ?_, ?_, ?_, fun k' hk => ?_⟩
      · have ne : (sZ k == sZ f) = false := by
          rw [beq_eq_false_iff_ne]
          exact fun z => e (sZ_inj z)
        show putF (sZ f) v ((sZ k, u) :: insz ks vr) = insz (putW (k :: ks) (x :: ws) f w).1 (u :: vs')
        unfold putF putW
        rw [if_neg e, if_neg (fun z => e (sZ_inj z)), h1]
        rfl
      · unfold putW; rw [if_neg e]; simpa using h2
      · unfold putW; rw [if_neg e]; exact ⟨u, vs', rfl, q, h3⟩
      · unfold putW at hk
        rw [if_neg e] at hk
        rcases List.mem_cons.mp hk with hk | hk
        · exact .inl (by rw [hk]; exact List.mem_cons_self)
        · rcases h4 k' hk with h5 | h5
          · exact .inl (List.mem_cons_of_mem _ h5)
          · exact .inr h5
theorem st_fldS (xs : XS Γ G C N sc Wx X) {cs : List Nat} {o e : Expr} {o' e' : E} {f : List Nat} {p pos : Pos} (hc : cs.all (fun c => (match G.fld.lookup c with
        | some fs => fs.contains f
        | none => false)) = true) (pe : PE X e (tE Γ C Wx e')) (po : PE X o (tE Γ C Wx o')) (h : noLc e = true) : PS X (.Assign [.Attribute o (sZ f) p] e pos) (tS Γ C Wx (.fldS cs o' f e')) := by
  refine PSimp (ps_fld po pe (sw_no h _ _ _)) fun D σ H ⟨env, S, DW, he, hs, h, k⟩ => ?_
  simp only [wS] at h
  refine ⟨env, S, _, _, he, hs, h, fun w S1 v H1 r1 s1 f1 q1 => ?_, k.kx he⟩
  refine ⟨env, S1, _, _, he.fr f1, s1, q1, fun x S2 ov H2 r2 s2 f2 q2 => ?_, (k.fr f1).kx (he.fr f1)⟩
  dsimp only at q2
  unfold wFldS at q2
  split at q2
  · rename_i a
    split at q2
    · rename_i c ks ws e2
      obtain ⟨hm, hz, q2⟩ := q2
      cases r2
      obtain ⟨dx, vs, h3, ⟨hl, ic⟩, rr⟩ := s2 a _ e2
      have hf := List.all_eq_true.mp hc c hm
      split at hf
      · rename_i fs e4
        have na := xs.fld c fs f e4 (List.contains_iff_mem.mp hf)
        obtain ⟨vs', p1, p2, p3, p4⟩ := insz_put (f := f) (rep.fr f2 _ _ r1) hl rr
        have ff := f1.trans (f2.trans (Fr.wr e2 (u' := .ins c (putW ks ws f w).1 (putW ks ws f w).2) (o := .ins (Γ.ca c) dx (insz (putW ks ws f w).1 vs'))))
        refine ⟨a, Γ.ca c, dx, insz ks vs, rfl, h3, by rw [xs.hK]; exact ic.1.cl, na, ?_, ?_⟩
        · have : (insz ks vs).length ≤ vs.length := by unfold insz; rw [List.length_map, List.length_zip]; omega
          have := rr.len
          omega
        · rw [p1]
          refine k.nx env _ σ _ (he.fr ff) (orep.wr s2 e2 ⟨dx, vs', upd_same, ⟨p2, ic.1, fun k' hk => ?_⟩, reps.fr (Fr.wr e2) _ _ p3⟩) ff q2
          rcases p4 k' hk with h5 | h5
          · exact ic.2 k' h5
          · rw [h5, ← xs.hK]; exact na
      · cases hf
    · exact q2.elim
  · exact q2.elim
/-! ### raised -/
theorem st_rseT (xs : XS Γ G C N sc Wx X) (nh : G.hot = false) {x : Str} {c : Nat} {es : List Expr} {es' : List E} {p p2 pos : Pos} (h1 : gloB sc x = true) (h2 : nodbg x = true) (h3 : G.xcl.lookup x = some (c, [])) (ht : chTx es es' = true) : PS X (.Raise (some (.Call (.Name x p) es [] p2)) none pos) (tS Γ C Wx (.rse c [] es')) := by
  unfold chTx at ht
  split at ht
  · obtain ⟨q, hm, hk, rb, rt, xk⟩ := xs.xcl x c nh h3
    refine PSimp (ps_raise (xs.calm nh) xs.tk (pmk_own F.excBase_ValueError q hm hk (raises_own rb rt) (xs.glo h1) (dbg_of h2).1)) fun D σ H ⟨env, S, DW, he, hs, h, k⟩ => ?_
    simp only [wS, wEs, wE, wVar] at h
    exact k.xc ⟨c, [], []⟩ env S _ none σ H ⟨rfl, ⟨rfl, by rw [← xs.hK]; exact xk, fun k hk => by cases hk⟩, [], .inl ⟨rfl, rfl⟩, rfl⟩ he hs (Fr.refl _ _) h.2.2
  · cases ht
theorem del_upd {H1 : Hp} {a dx : Addr} {o1 o2 o3 : HO} (ha : H1 a = none) (ne : dx ≠ a) : L2.del (upd (upd (upd H1 a o1) dx o2) a o3) a = upd H1 dx o2 := by
  funext b
  unfold L2.del upd
  by_cases h : b = a
  · subst h
    rw [if_pos rfl, if_neg (Ne.symm ne), ha]
  · rw [if_neg h, if_neg h]
    by_cases h2 : b = dx
    · rw [if_pos h2, if_pos h2]
    · rw [if_neg h2, if_neg h2, if_neg h]
theorem st_rseI (xs : XS Γ G C N sc Wx X) (nh : G.hot = false) {x : Str} {c : Nat} {fs : List (List Nat)} {es : List Expr} {es' : List E} {p p2 pos : Pos} (hf : fs ≠ []) (h1 : gloB sc x = true) (h2 : nodbg x = true) (h3 : G.xcl.lookup x = some (c, fs)) (h4 : es ≠ []) (hn : es.all noStar = true) (pa : PA X es (tEs Γ C Wx es')) :
    PS X (.Raise (some (.Call (.Name x p) es [] p2)) none pos) (tS Γ C Wx (.rse c fs es')) := by
  obtain ⟨ve, kk, fI, fd, ps, T, iC, tI, F1, hr, hb, hm, xk, hno⟩ := xs.xin x c fs nh h3 hf
  cases es with
  | nil => exact absurd rfl h4
  | cons e es =>
    rw [List.all_cons, Bool.and_eq_true] at hn
    have hx : Passes (L2.CX X.prog X.w) X (fun _ _ _ => False) := fun pins σ H s e s' I c => passAt (X := X) (W := W0) takes00 σ pins H s e s' I c
    refine PSimp (ps_raise (xs.calm nh) xs.tk (pmk_ox T iC tI F1 hr hb hx (xs.glo h1) hm pa (dbg_of h2).1 (star_cons hn.1) (star_any hn.2))) fun D σ H ⟨env, S, DW, he, hs, h, k⟩ => ?_
    simp only [wS] at h
    refine ⟨env, S, _, _, he, hs, h, fun ws S1 us H1 r1 s1 f1 q1 => ?_, k.kx he⟩
    obtain ⟨hz, hl, q1⟩ := q1
    have hl := hl hf
    have lu := r1.len
    refine ⟨by omega, fun a ha => ⟨a, us, rfl, by omega, upd_same, fun dx hdx ne => ⟨rfl, dx, insz fs.reverse us.reverse, upd_same, ?_, ?_, ?_⟩⟩⟩
    · rw [upd_ne ne, upd_same]
    · rw [upd_ne ne] at hdx; exact hdx
    · rw [upd_ne ne] at hdx
      rw [del_upd ha ne]
      have e2 : ∀ (o1 o2 : HO), upd (upd H1 dx o1) dx o2 = upd H1 dx o2 := fun o1 o2 => by
        funext b
        unfold upd
        split <;> rfl
      rw [e2]
      rw [if_neg hf] at q1
      refine k.xc _ env S1 _ (some dx) σ _ ⟨rfl, ⟨by simp [hl], by rw [← xs.hK]; exact xk, fun f hf' => by rw [← xs.hK]; exact hno f (List.mem_reverse.mp hf')⟩, us.reverse, .inr ⟨dx, rfl, s1.nil hdx, upd_same⟩, (reps.fr (Fr.new hdx) _ _ r1).rev⟩ (he.fr (f1.trans (Fr.new hdx))) (s1.new hdx) (f1.trans (Fr.new hdx)) q1
/-! ### tried -/
inductive HcR (Γ : Gm) (C : CT) (K : PySem.W.Frag) : List Hn → List Hc → Prop
  | nil : HcR Γ C K [] []
  | cons {yes no : List Nat} {nm : Option Nat} {suite : List St} {hs : List Hn} {cv : Value} {l : List Hc} (hy : ∀ c ∈ yes, PySem.W.exmOne K (.ref (Γ.ca c)) cv = some true) (hn : ∀ c ∈ no, PySem.W.exmOne K (.ref (Γ.ca c)) cv = some false) (r : HcR Γ C K hs l) :
      HcR Γ C K (.mk yes no nm suite :: hs) (⟨cv, nm, tSs Γ C W0 suite⟩ :: l)
theorem kd_suite {S : Sto} {H : Hp} {DW : Dn} {D : Ends} {nm : Option Nat} (k : KD Γ Wx S H DW D) : KD Γ W0 S H (sutD nm DW) (endH nm D) := by
  cases nm with
  | none => exact ⟨k.nx, k.rt, k.bk, k.ct, fun _ _ _ _ _ _ _ _ _ _ _ q => q⟩
  | some i =>
    exact ⟨fun env' S' σ' H' he hs f q => k.nx _ S' _ H' (he.clr i) hs f q, k.rt, fun env' S' σ' H' he hs f q => k.bk _ S' _ H' (he.clr i) hs f q, fun env' S' σ' H' he hs f q => k.ct _ S' _ H' (he.clr i) hs f q, fun _ _ _ _ _ _ _ _ _ _ _ q => q⟩
theorem hs_of {K : PySem.W.Frag} {hs : List Hn} {l : List Hc} (r : HcR Γ C K hs l) {D : Ends} {S : Sto} {H : Hp} {DW : Dn} {x : Xn} {env : Env} {cls : Value} {d : Option Addr} {σ : L2.St} (k : KD Γ Wx S H DW D) (xr : xrep Γ S H x cls d) (he : envR Γ S H env σ) (sr : SR Γ S H) (q : wHs C hs x env S DW) : wHc K Wx D l cls d σ H := by
  induction r with
  | nil =>
    simp only [wHs] at q
    exact k.xc x env S cls d σ H xr he sr (Fr.refl _ _) q
  | @cons yes no nm suite hs cv l hy hn r ih =>
    simp only [wHs, wHn] at q
    have xr0 := xr
    obtain ⟨rfl, ⟨lx, xc⟩, vs, xd, rr⟩ := xr
    by_cases hm : x.c ∈ yes
    · rw [if_pos hm] at q
      refine ⟨true, hy _ hm, fun _ a ha => ?_, (fun z => nomatch z)⟩
      have f : Fr S H S (upd H a (ExT (.ref (Γ.ca x.c)) d a)) := Fr.new ha
      refine ⟨bindH nm x env, S, sutD nm DW, ?_, sr.new ha, q, kd_suite (k.fr f)⟩
      have rx : rep Γ S (upd H a (ExT (.ref (Γ.ca x.c)) d a)) (.exn x.c x.ks x.ws) (.ref a) := ⟨a, d, vs, rfl, ⟨sr.nil ha, upd_same⟩, xd.fr0 f.1, ⟨lx, xc⟩, reps.fr f _ _ rr⟩
      cases nm with
      | none => exact he.fr f
      | some i => exact (he.fr f).set i rx
    · rw [if_neg hm] at q
      exact ⟨false, hn _ q.1, (fun z => nomatch z), fun _ => ih q.2⟩
theorem xs_tr (xs : XS Γ G C N sc Wx X) {W : WX} {pn : List (Addr × Obj)} {xe : Value → Shared → Prop} (tk : Takes (X.tr pn xe) W) (hp : PassesOwn (model X.prog X.w) X.A X.env xe) : XS Γ G C N sc W (X.tr pn xe) := {
  hN := xs.hN
  nd := xs.nd
  hsc := xs.hsc
  calm := xs.calm
  hK := xs.hK
  tk := tk
  un := xs.un
  bi := xs.bi
  con := xs.con
  fn := xs.fn
  fnv := xs.fnv
  cls := xs.cls
  xcl := xs.xcl
  mth := xs.mth
  fld := xs.fld
  isC := xs.isC
  tab := xs.tab
  hp := fun _ => hp
  fnT := xs.fnT
  kd := xs.kd
  st := xs.st
  fm := xs.fm
  xin := xs.xin
  exm := xs.exm }
theorem xs_suite (xs : XS Γ G C N sc Wx X) (a : Addr) (pn : List (Addr × Obj)) : XS Γ { G with hot := true } C N sc W0 (X.suite a pn) := {
  hN := xs.hN
  nd := xs.nd
  hsc := xs.hsc
  calm := fun z => by cases z
  hK := xs.hK
  tk := takes00
  un := xs.un
  bi := xs.bi
  con := xs.con
  fn := fun _ _ _ z => by cases z
  fnv := xs.fnv
  cls := fun _ _ _ z => by cases z
  xcl := fun _ _ z => by cases z
  mth := fun _ _ _ _ z => by cases z
  fld := xs.fld
  isC := xs.isC
  tab := xs.tab
  hp := fun z => by cases z
  fnT := xs.fnT
  kd := xs.kd
  st := xs.st
  fm := xs.fm
  xin := fun _ _ _ z => by cases z
  exm := xs.exm }
theorem hc_of (xs : XS Γ G C N sc Wx X) {ch : Stmt → St → Bool} (hf : ∀ (a : Addr) (pn : List (Addr × Obj)) {ss : List Stmt} {ss' : List St}, chL ch ss ss' = true → PSs (X.suite a pn) ss (tSs Γ C W0 ss')) : ∀ {hds : List ExceptHandler} {hs : List Hn}, chL (chH G N ch sc) hds hs = true → ∃ l, HcOk X hds l ∧ HcR Γ C X.K hs l
  | [], [], _ => ⟨[], .nil, .nil⟩
  | [], _ :: _, h => by simp [chL] at h
  | _ :: _, [], h => by simp [chL] at h
  | hd :: hds, hn :: hs, h => by
    rw [chL, Bool.and_eq_true] at h
    obtain ⟨l, h1, h2⟩ := hc_of xs hf h.2
    have h := h.1
    unfold chH at h
    split at h
    · rename_i x px nm suite np2 yes no nm' suite' _
      simp only [Bool.and_eq_true] at h
      obtain ⟨⟨⟨⟨⟨g1, g2⟩, g3⟩, g4⟩, g5⟩, g6⟩ := h
      obtain ⟨cv, hcv, hy, hno⟩ := xs.exm x yes no (of_decide_eq_true g3)
      have nm0 : Names X x cv := ⟨xs.glo g1, (dbg_of g2).1, hcv⟩
      cases suite with
      | nil => simp at g4
      | cons st0 sts =>
        split at g5
        · exact ⟨_, .cons nm0 (fun a pn => hf a pn g6) h1, .cons hy hno h2⟩
        · simp only [Bool.and_eq_true, beq_iff_eq] at g5
          exact ⟨_, .consN xs.nN (by rw [xs.hN]; exact of_decide_eq_true g5.1) (by show X.env.scope.names.lookup _ = _; rw [xs.hsc]; exact g5.2) nm0 (fun a pn => hf a pn g6) h1, .cons hy hno h2⟩
        · cases g5
    · cases h
theorem st_trys (xs : XS Γ G C N sc Wx X) {body orelse : List Stmt} {hds : List ExceptHandler} {body' orelse' : List St} {hs : List Hn} {l : List Hc} {pos : Pos} (hne : hds ≠ []) (pb : ∀ (W : WX) (pn : List (Addr × Obj)) (xe : Value → Shared → Prop), Takes (X.tr pn xe) W → PassesOwn (model X.prog X.w) X.A X.env xe → PSs (X.tr pn xe) body (tSs Γ C W body')) (po : PSs X orelse (tSs Γ C Wx orelse')) (h1 : HcOk X hds l) (h2 : HcR Γ C X.K hs l) :
    PS X (.Try body hds orelse [] pos) (tS Γ C Wx (.trys body' hs orelse')) := by
  cases hds with
  | nil => exact absurd rfl hne
  | cons h0 hds =>
    refine PSimp (ps_try_all po xs.st xs.fm xs.tk (tb := fun W => tSs Γ C W body') pb h1) fun D σ H ⟨env, S, DW, he, hs, h, k⟩ => ?_
    simp only [wS] at h
    refine ⟨env, S, _, he, hs, h, ⟨fun env' S' σ' H' he' hs' f q => ⟨env', S', DW, he', hs', q, k.fr f⟩, k.rt, k.bk, k.ct, fun x env' S' cls d σ' H' xr he' hs' f q => hs_of h2 (k.fr f) xr he' hs' q⟩⟩
theorem st_if {c : Expr} {a b : List Stmt} {c' : E} {a' b' : List St} {pos : Pos} (pc : PT X c (tT Γ C Wx c')) (pa : PSs X a (tSs Γ C Wx a')) (pb : PSs X b (tSs Γ C Wx b')) : PS X (.If c a b pos) (tS Γ C Wx (.ite c' a' b')) := by
  refine PSimp (ps_if pc pa pb) fun D σ H ⟨env, S, DW, he, hs, h, k⟩ => ?_
  simp only [wS] at h
  refine ⟨env, S, _, _, he, hs, h, fun x S1 H1 s1 f1 q1 => ?_, k.kx he⟩
  rcases wB_el q1 with ⟨rfl, q1⟩ | ⟨rfl, q1⟩
  · exact ⟨true, rfl, iteT ⟨env, S1, DW, he.fr f1, s1, q1, k.fr f1⟩⟩
  · exact ⟨false, rfl, iteF ⟨env, S1, DW, he.fr f1, s1, q1, k.fr f1⟩⟩
theorem st_for (xs : XS Γ G C N sc Wx X) (nh : G.hot = false) {tg0 iter : Expr} {body : List Stmt} {tg : Tg} {ik : IK} {its : List E} {body' : List St} {pos : Pos} (pi : PI X tg0 iter (iW Γ C Wx ik its)) (pg : PG X tg0 (gW Γ tg)) (pb : PSs X body (tSs Γ C Wx body')) (hs : ∀ x, foldedSetIterable iter X.env x = pure x) :
    PS X (.For tg0 iter body [] pos) (tS Γ C Wx (.for tg ik its body')) := by
  refine PSimp (ps_for (xs.hp nh) (xs.calm nh) pi pg pb hs) fun D σ H ⟨env, S, DW, he, hs, h, k⟩ => ?_
  simp only [wS] at h
  refine ⟨env, S, (fun items lk S1 => wFor lk tg (fun e S D => wSs C body' e S D) items env S1 DW), _, he, hs, h, fun items lk S1 H1 J P wk p0 s1 f1 lv q1 => ?_, k.kx he⟩
  refine ⟨fun i m σ H' => m = items.length - i ∧ ∃ env' S', i ≤ items.length ∧ envR Γ S' H' env' σ ∧ SR Γ S' H' ∧ Fr S1 H1 S' H' ∧ wFor lk tg (fun e S D => wSs C body' e S D) (items.drop i) env' S' DW, ⟨items.length, by simp, env, S1, Nat.zero_le _, he.fr f1, s1, Fr.refl _ _, q1⟩, ?_⟩
  rintro i m σ2 H2 ⟨rfl, env2, S2, hi, he2, s2, f2, q2⟩
  have p2 : P S2 H2 := wk.st _ _ _ _ f2 p0
  by_cases hlt : i < items.length
  · right
    rw [List.drop_eq_getElem_cons hlt] at q2
    obtain ⟨lv2, q2⟩ := q2
    refine ⟨wk.go i S2 H2 s2 p2 lv2 hlt, fun σ' H' => ∃ env' S', i + 1 ≤ items.length ∧ envR Γ S' H' env' σ' ∧ SR Γ S' H' ∧ Fr S1 H1 S' H' ∧ wFor lk tg (fun e S D => wSs C body' e S D) (items.drop (i + 1)) env' S' DW, fun σ' H' hn => ⟨items.length - (i + 1), by omega, rfl, hn⟩, fun x H3 y => ?_⟩
    obtain ⟨w, e1, s3, f3, r3⟩ := wk.yld i S2 H2 x H3 s2 p2 lv2 hlt y
    have e2 : items[i] = w := by rw [List.getElem?_eq_getElem hlt] at e1; exact Option.some.inj e1
    rw [e2] at q2
    obtain ⟨env', e3, q2⟩ := wSome_el q2
    refine ⟨env2, S2, w, env', he2.fr f3, r3, e3, fun σ' _ he' => ?_⟩
    have ff : Fr S1 H1 S2 H3 := f2.trans f3
    refine ⟨env', S2, _, he', s3, q2, ⟨fun e4 S4 σ4 H4 he4 s4 f4 q4 => ⟨e4, S4, hlt, he4, s4, ff.trans f4, q4⟩, fun w S4 v H4 r4 s4 f4 q4 => k.rt w S4 v H4 r4 s4 (f1.trans (ff.trans f4)) q4, fun e4 S4 σ4 H4 he4 s4 f4 q4 => k.nx e4 S4 σ4 H4 he4 s4 (f1.trans (ff.trans f4)) q4,
      fun e4 S4 σ4 H4 he4 s4 f4 q4 => ⟨e4, S4, hlt, he4, s4, ff.trans f4, q4⟩, fun x e4 S4 cls d σ4 H4 r4 he4 s4 f4 q4 => k.xc x e4 S4 cls d σ4 H4 r4 he4 s4 (f1.trans (ff.trans f4)) q4⟩⟩
  · left
    have e : i = items.length := by omega
    subst e
    rw [List.drop_of_length_le (Nat.le_refl _)] at q2
    obtain ⟨lv2, q2⟩ := q2
    exact ⟨wk.stop _ S2 H2 s2 p2 lv2 (Nat.le_refl _), k.nx env2 S2 σ2 H2 he2 s2 (f1.trans f2) q2⟩
theorem st_whl (xs : XS Γ G C N sc Wx X) (nh : G.hot = false) {c : Expr} {body : List Stmt} {c' : E} {body' : List St} {pos : Pos} (pc : PT X c (tT Γ C Wx c')) (pb : PSs X body (tSs Γ C Wx body')) : PS X (.While c body [] pos) (tS Γ C Wx (.whl c' body')) := by
  refine PSimp (ps_while (xs.hp nh) pc pb) fun D σ H ⟨env, S, DW, he, hs, h, k⟩ => ?_
  simp only [wS] at h
  obtain ⟨n, h⟩ := h
  refine ⟨fun m σ H' => ∃ env' S', envR Γ S' H' env' σ ∧ SR Γ S' H' ∧ Fr S H S' H' ∧ wWhl (fun e S Q X => wE C c' e S Q X) (fun e S D => wSs C body' e S D) m env' S' DW, ⟨n, env, S, he, hs, Fr.refl _ _, h⟩, ?_⟩
  rintro m σ2 H2 ⟨env2, S2, he2, s2, f2, q2⟩
  cases m with
  | zero => exact q2.elim
  | succ m =>
    refine ⟨env2, S2, _, _, he2, s2, q2, fun x S3 H3 s3 f3 q3 => ?_, (k.fr f2).kx he2⟩
    have ff : Fr S H S3 H3 := f2.trans f3
    rcases wB_el q3 with ⟨rfl, q3⟩ | ⟨rfl, q3⟩
    · refine ⟨true, rfl, iteT ⟨fun σ' H' => ∃ env' S', envR Γ S' H' env' σ' ∧ SR Γ S' H' ∧ Fr S H S' H' ∧ wWhl (fun e S Q X => wE C c' e S Q X) (fun e S D => wSs C body' e S D) m env' S' DW, fun σ' H' hn => ⟨m, Nat.lt_succ_self _, hn⟩, ?_⟩⟩
      refine ⟨env2, S3, _, he2.fr f3, s3, q3, ⟨fun e4 S4 σ4 H4 he4 s4 f4 q4 => ⟨e4, S4, he4, s4, ff.trans f4, q4⟩, fun w S4 v H4 r4 s4 f4 q4 => k.rt w S4 v H4 r4 s4 (ff.trans f4) q4, fun e4 S4 σ4 H4 he4 s4 f4 q4 => k.nx e4 S4 σ4 H4 he4 s4 (ff.trans f4) q4,
        fun e4 S4 σ4 H4 he4 s4 f4 q4 => ⟨e4, S4, he4, s4, ff.trans f4, q4⟩, fun x e4 S4 cls d σ4 H4 r4 he4 s4 f4 q4 => k.xc x e4 S4 cls d σ4 H4 r4 he4 s4 (ff.trans f4) q4⟩⟩
    · exact ⟨false, rfl, iteF (k.nx env2 S3 σ2 H3 (he2.fr f3) s3 ff q3)⟩
/-! ### every statement that the checker takes -/
theorem sndS : ∀ (n : Nat) {G : GT} {Wx : WX} {X : Cx} {s : Stmt} {s' : St}, XS Γ G C N sc Wx X → chS N G n sc s s' = true → PS X s (tS Γ C Wx s')
  | 0, _, _, _, _, _, _, h => by simp [chS] at h
  | n + 1, G, Wx, X, s, s', xs, h => by
    have ih0 : ∀ {G : GT} {Wx : WX} {X : Cx} {ss : List Stmt} {ss' : List St}, XS Γ G C N sc Wx X → chL (chS N G n sc) ss ss' = true → PSs X ss (tSs Γ C Wx ss') := fun xs q => ss_of (fun s s' q => sndS n xs q) q
    have ih : ∀ {ss : List Stmt} {ss' : List St}, chL (chS N G n sc) ss ss' = true → PSs X ss (tSs Γ C Wx ss') := fun q => ih0 xs q
    have ihP : ∀ {e : Expr} {e' : E}, chE G N 60 sc e e' = true → PE X e (tE Γ C Wx e') := fun q => (sndE 60 xs.toXO q).1
    have ihT : ∀ {e : Expr} {e' : E}, okT e = true → chE G N 60 sc e e' = true → PT X e (tT Γ C Wx e') := fun o q => (sndE 60 xs.toXO q).2 o
    unfold chS at h
    cases s' with
    | pass =>
      simp only at h
      split at h
      · exact PSimp ps_pass fun D σ H ⟨env, S, DW, he, hs, h, k⟩ => k.nx env S σ H he hs (Fr.refl _ _) (by simpa only [wS] using h)
      · exact PSimp ps_doc fun D σ H ⟨env, S, DW, he, hs, h, k⟩ => k.nx env S σ H he hs (Fr.refl _ _) (by simpa only [wS] using h)
      · cases h
    | ex e' =>
      simp only at h
      split at h
      · rw [Bool.and_eq_true] at h
        exact st_ex (ihP h.2) h.1
      · cases h
    | ret e' =>
      simp only at h
      split at h
      · exact st_ret (ihP h)
      · cases h
    | retN =>
      simp only at h
      split at h
      · exact st_retN
      · cases h
    | asg i e' =>
      simp only at h
      split at h
      · rw [Bool.and_eq_true, Bool.and_eq_true] at h
        obtain ⟨⟨h1, h2⟩, h3⟩ := h
        split at h3
        · simp only [Bool.and_eq_true, Bool.not_eq_true'] at h3
          obtain ⟨nh, h3⟩ := h3
          split at h3
          · rw [Bool.and_eq_true] at h3
            exact st_asgL xs nh (of_decide_eq_true h1) h3.1 (lc_of (fun xo q => sndE 60 xo q) xs.toXO nh h3.2)
          · rw [Bool.and_eq_true] at h3
            obtain ⟨sw, h3⟩ := h3
            split at h3
            · simp only [Bool.and_eq_true] at h3
              obtain ⟨⟨⟨⟨⟨⟨⟨⟨⟨g1, g2⟩, g3⟩, hik⟩, hjk⟩, g4⟩, g5⟩, g6⟩, g7⟩, g8⟩ := h3
              exact st_asgK xs nh (of_decide_eq_true h1) sw (fits_all xs.toXO (of_decide_eq_true g1) g2 g3 (of_decide_eq_true hik) (of_decide_eq_true hjk) g4 g5 g6 g7 g8)
            · cases h3
          · rw [Bool.and_eq_true] at h3
            obtain ⟨sw, h3⟩ := h3
            split at h3
            · simp only [Bool.and_eq_true] at h3
              obtain ⟨⟨⟨⟨⟨g1, g2⟩, g3⟩, hik⟩, g4⟩, g5⟩ := h3
              exact st_asgK xs nh (of_decide_eq_true h1) sw (keys_all xs.toXO (of_decide_eq_true g1) g2 g3 (of_decide_eq_true hik) g4 g5)
            · cases h3
          · cases h3
        · rw [Bool.and_eq_true] at h3
          exact st_asg xs (of_decide_eq_true h1) h2 (ihP h3.2) h3.1
      · cases h
    | asgT is e' =>
      simp only [Bool.and_eq_true, Bool.not_eq_true'] at h
      obtain ⟨nh, h⟩ := h
      split at h
      · simp only [Bool.and_eq_true, Bool.not_eq_true'] at h
        exact st_asgT xs nh h.1.1.1 (ihP h.2) h.1.1.2 h.1.2
      · cases h
    | par i j a b =>
      simp only [Bool.and_eq_true, Bool.not_eq_true'] at h
      obtain ⟨nh, h⟩ := h
      split at h
      · simp only [Bool.and_eq_true] at h
        obtain ⟨⟨⟨⟨⟨⟨⟨⟨⟨⟨h1, h2⟩, h3⟩, h4⟩, h5⟩, h6⟩, h7⟩, h8⟩, h9⟩, ha⟩, hb⟩ := h
        exact st_par xs nh (of_decide_eq_true h1) (of_decide_eq_true h2) (of_decide_eq_true h3) (of_decide_eq_true h4) (by simpa using h5) (by simpa using h6) h7 h8 h9 (ihP ha) (ihP hb)
      · cases h
    | setIx o i e' =>
      simp only at h
      split at h
      · simp only [Bool.and_eq_true] at h
        exact st_setIx xs (ihP h.1.1.2) (ihP h.1.2) (ihP h.2) (chE_ns h.2).2.1 h.1.1.1
      · cases h
    | ite c a b =>
      simp only at h
      split at h
      · simp only [Bool.and_eq_true] at h
        exact st_if (ihT h.1.1.1 h.1.1.2) (ih h.1.2) (ih h.2)
      · cases h
    | «for» tg ik its body =>
      simp only [Bool.and_eq_true, Bool.not_eq_true'] at h
      obtain ⟨nh, h⟩ := h
      split at h
      · simp only [Bool.and_eq_true] at h
        exact st_for xs nh (i_of xs.toXO (fun e e' q => ⟨(chE_ns q).1, ihP q⟩) h.1.2) (pg_of xs.nN (xs.calm nh) xs.hK (tg_of xs.hN xs.loc h.1.1)) (ih h.2) (fold_ok (chI_ok h.1.2))
      · cases h
    | whl c body =>
      simp only [Bool.and_eq_true, Bool.not_eq_true'] at h
      obtain ⟨nh, h⟩ := h
      split at h
      · simp only [Bool.and_eq_true] at h
        exact st_whl xs nh (ihT h.1.1 h.1.2) (ih h.2)
      · cases h
    | brk =>
      simp only at h
      split at h
      · exact PSimp ps_break fun D σ H ⟨env, S, DW, he, hs, h, k⟩ => k.bk env S σ H he hs (Fr.refl _ _) (by simpa only [wS] using h)
      · cases h
    | cnt =>
      simp only at h
      split at h
      · exact PSimp ps_continue fun D σ H ⟨env, S, DW, he, hs, h, k⟩ => k.ct env S σ H he hs (Fr.refl _ _) (by simpa only [wS] using h)
      · cases h
    | fldS cs o f e' =>
      simp only at h
      split at h
      · simp only [Bool.and_eq_true] at h
        obtain ⟨⟨⟨⟨h1, h2⟩, h3⟩, h4⟩, h5⟩ := h
        have e1 := of_decide_eq_true h1
        subst e1
        exact st_fldS xs h3 (ihP h4) (ihP h5) h2
      · cases h
    | augF cs o f e' => cases h
    | rse c fs es' =>
      simp only [Bool.and_eq_true, Bool.not_eq_true'] at h
      obtain ⟨nh, h⟩ := h
      split at h
      · simp only [Bool.and_eq_true] at h
        obtain ⟨⟨⟨h1, h2⟩, h3⟩, h4⟩ := h
        have h3 := of_decide_eq_true h3
        cases fs with
        | nil => exact st_rseT xs nh h1 h2 h3 h4
        | cons f fs =>
          simp only [Bool.and_eq_true] at h4
          exact st_rseI xs nh (by simp) h1 h2 h3 (ne_nil h4.1.1) (chL_ns h4.2) (pa_of xs.toXO (fun e e' q => ⟨(chE_ns q).1, ihP q⟩) h4.2)
      · cases h
    | trys body hs orelse =>
      simp only [Bool.and_eq_true, Bool.not_eq_true'] at h
      obtain ⟨nh, h⟩ := h
      split at h
      · simp only [Bool.and_eq_true] at h
        obtain ⟨⟨⟨h1, h2⟩, h3⟩, h4⟩ := h
        obtain ⟨l, k1, k2⟩ := hc_of xs (ch := fun s s' => chS N { G with hot := true } n sc s s') (fun a pn ss ss' q => ih0 (xs_suite xs a pn) q) h4
        exact st_trys xs (ne_nil h1) (fun W pn xe tk hp => ih0 (xs_tr xs tk hp) h2) (ih h3) k1 k2
      · cases h
end
end Bw

/-! Ev15: the defs of a text keep what wF says. -/
namespace Bw
open PySem L2 PySem.Spec PyProof.Rows
/-- a def, as it stands in the written part; dV: its defaults -/
structure FunY (K : PySem.W.Frag) (x qual : Str) (st : Stmt) (f : Addr) (fd : FuncData) : Prop where
  ex : ∃ (oc : Value) (od : Option Addr) (dV kV doc pm : Value) (an : Option Addr) (cdv ct : Value) (osl : Array (Option Value)),
    fd = PySem.W.fnOf x qual (defArgs st) (defBody st) (defScope st) dV kV doc pm an cdv ct ∧ K.lookup f = some ⟨oc, od, .func fd, osl⟩ ∧ PySem.W.codeIn K cdv qual = true
structure DD where
  x : Str
  qual : Str
  st : Stmt
  N : List Str
  ps : List Str
structure FnC (Γ : Gm) (G : GT) (i : Nat) (dd : DD) (d : FD) (fd : FuncData) : Prop where
  F : FunY Γ.K dd.x dd.qual dd.st (Γ.fa i) fd
  S : FnScope dd.N dd.ps (defScope dd.st)
  ar : d.ar = dd.ps.length
  sl : d.slots = dd.N.length
  ch : chL (chS dd.N G 60 (defScope dd.st)) (defBody dd.st) d.body = true
  b : Binds Γ.K fd dd.ps []
def NmW (mg : Str → Option Value) (y : Str) (D : Value) : Prop := mg y = some D ∧ (∃ a, D = .ref a) ∨ mg y = none ∧ ∃ n, D = .type n ∧ bootBuiltins y = some D ∧ y ≠ ("__name__" : Str)
structure Wd (Γ : Gm) (G : GT) (T : Nat → Option FD) (P : Program) (w : World) (base : Heap) (mg : Str → Option Value) (dd : Nat → DD) (fd : Nat → FuncData) : Prop where
  hot : G.hot = false
  fns : ∀ i d, T i = some d → FnC Γ G i (dd i) d (fd i)
  fnv : ∀ x f ar, (x, f, ar) ∈ G.fns → (∃ d, T f = some d) ∧ mg x = some (.ref (Γ.fa f)) ∧ PySem.W.keepIn Γ.K (.ref (Γ.fa f)) = true
  dfl : ∀ x f ar ws, (x, f, ar) ∈ G.fns → G.dfl.lookup x = some ws → ∀ m, m ≤ ws.length → ∃ dvs ds, Binds Γ.K (fd f) (dd f).ps ds ∧ Vals dvs ds ∧ ∀ S H, reps Γ S H (ws.drop (ws.length - m)) dvs
  bi : ∀ x, G.bis.contains x = true → mg x = none
  con : ∀ x w, G.cons.lookup x = some w → ∃ v u, mg x = some u ∧ RelV v u ∧ ∀ S H, rep Γ S H w v
  tab : ∀ x kvs, G.tabs.lookup x = some kvs → ∃ p, mg x = some (.ref p) ∧ ∀ k w', kvs.lookup k = some w' → ∃ v, KDct Γ.K w p ⟨k.toArray⟩ v ∧ ∀ S H, rep Γ S H w' v
  cls : ∀ x c fi, G.cls.lookup x = some (c, fi) → (∃ d, T fi = some d) ∧ Mk Γ.K (Γ.ca c) (Γ.fa fi) ∧ mg x = some (.ref (Γ.ca c)) ∧ InsC Γ.K (Γ.ca c)
  mth : ∀ m tb c f, G.mth.lookup m = some tb → tb.lookup c = some f → (∃ d, T f = some d) ∧ Meth Γ.K (Γ.ca c) (sZ m) (Γ.fa f)
  fld : ∀ c fs f, G.fld.lookup c = some fs → f ∈ fs → NoAttr Γ.K (Γ.ca c) (sZ f)
  xcl : ∀ x c, G.xcl.lookup x = some (c, []) → PySem.W.excIn Γ.K (Γ.ca c) [.type "ValueError", .type "Exception", .type "BaseException", .type "object"] "ValueError.__new__" = true ∧ mg x = some (.ref (Γ.ca c)) ∧ PySem.W.keepIn Γ.K (.ref (Γ.ca c)) = true ∧
    PySem.W.subIn Γ.K (.ref (Γ.ca c)) (.type "BaseException") = some true ∧ PySem.W.typeIn Γ.K (.ref (Γ.ca c)) = some (.type "type") ∧ XkC Γ.K (Γ.ca c)
  xin : ∀ x c fs, G.xcl.lookup x = some (c, fs) → fs ≠ [] → ∃ (ve : Bool) (fI : Addr) (fd : FuncData) (ps : List Str), OxC Γ.K (Γ.ca c) ve ∧ PySem.W.findIn Γ.K (.ref (Γ.ca c)) "__init__" = some (some (.ref fI)) ∧ PySem.W.typeIn Γ.K (.ref fI) = some (.type "function") ∧
    FnOk P w Γ.K mg base (L2.CX P w) 1 fI fd ps (spI (Γ.ca c) fs) ∧ Binds Γ.K fd ps [] ∧ mg x = some (.ref (Γ.ca c)) ∧ XkC Γ.K (Γ.ca c) ∧ ∀ f ∈ fs, PySem.W.findIn Γ.K (.ref (Γ.ca c)) (sZ f) = some none
  isC : ∀ y yes no, G.isC.lookup y = some (yes, no) → ∃ D, NmW mg y D ∧ (∀ c ∈ yes, PySem.W.kitOne Γ.K (.ref (Γ.ca c)) D = some true) ∧ (∀ c ∈ no, PySem.W.kitOne Γ.K (.ref (Γ.ca c)) D = some false) ∧ ∀ n ∈ ["NoneType", "bool", "int"], PySem.W.kitOne Γ.K (.type n) D = some false
  exm : ∀ x yes no, G.exm.lookup x = some (yes, no) → ∃ cv, (mg x = some cv ∨ (mg x = none ∧ bootBuiltins x = some cv ∧ x ≠ ("__name__" : Str))) ∧ (∀ c ∈ yes, PySem.W.exmOne Γ.K (.ref (Γ.ca c)) cv = some true) ∧ ∀ c ∈ no, PySem.W.exmOne Γ.K (.ref (Γ.ca c)) cv = some false
section
variable {Γ : Gm} {S S' : Sto} {H H' : Hp}
theorem xrep.fr {x : Xn} {cls : Value} {d : Option Addr} (f : Fr S H S' H') (r : xrep Γ S H x cls d) : xrep Γ S' H' x cls d := by
  obtain ⟨e, l, vs, xd, rr⟩ := r
  exact ⟨e, l, vs, xd.fr0 f.1, reps.fr f _ _ rr⟩
theorem env_start {N : List Str} {ws : List W} {vs : List V} {d : FD} (r : reps Γ S H ws vs) (h : d.slots = N.length) : envR Γ S H (entry d ws) (L2.start N vs) := by
  unfold entry L2.start
  refine ⟨by simp [r.len, h], fun i w e => ?_⟩
  by_cases hi : i < ws.length
  · rw [List.getElem?_append_left (by simpa using hi)] at e
    obtain ⟨v, e1, e2⟩ := r.getS e
    exact ⟨v, by rw [List.getElem?_append_left (by simpa [← r.len] using hi)]; exact e1, e2⟩
  · rw [List.getElem?_append_right (by simpa using hi)] at e
    rw [List.getElem?_replicate] at e
    split at e <;> cases e
theorem kd_of {Q : VK} {E : XK} {QW : VQ} {XW : XQ} (k : KQ Γ S H QW Q) (kx : KX Γ S H XW E) : KD Γ (fun cls d _ H => E cls d H) S H (dnOf QW XW) { nx := fun _ H' => Q .non H', rt := Q } where
  nx := fun env' S1 σ' H1 he hs f ⟨S2, sb, q⟩ => k .non S2 .non H1 rfl (hs.sub sb) (f.trans (Fr.sub sb)) q
  rt := fun w S1 v H1 r hs f ⟨w', S2, z, q⟩ => by
    obtain ⟨r2, s2, f2⟩ := z.rep hs r
    exact k w' S2 v H1 r2 s2 (f.trans f2) q
  bk := fun _ _ _ _ _ _ _ q => q.elim
  ct := fun _ _ _ _ _ _ _ q => q.elim
  xc := fun x env' S1 cls d σ' H1 r he hs f ⟨S2, sb, q⟩ => kx x S2 cls d H1 (r.fr (Fr.sub sb)) (hs.sub sb) (f.trans (Fr.sub sb)) q
end
section
variable {Γ : Gm} {G : GT} {T : Nat → Option FD} {w : World} {mg : Str → Option Value} {dd : Nat → DD} {fd : Nat → FuncData} {P : Program} {base : Heap}
theorem FunY.ok {K : PySem.W.Frag} {x qual : Str} {st : Stmt} {f : Addr} {fd : FuncData} {N ps : List Str} {k : Nat} {sp : Sp} (F : FunY K x qual st f fd) (S : FnScope N ps (defScope st)) (len : ∀ vs H Q E, sp vs H Q E → vs.length = ps.length)
    (hbody : ∀ (cdv : Value) (A : Around) (outer : List PySem.Env) (s : Shared) (H : Hp) (vs : List V) (Q : VK) (E : XK), Room k (A.deeper (envOfC qual (defScope st) s.heap.objs.size f cdv)) → sp vs H Q E →
      ∃ t, PSs (cxOf (L2.CX P w) P w K mg base N qual (defScope st) f cdv A outer s H E) (defBody st) t ∧ t { nx := fun _ H' => Q .non H', rt := Q } (L2.start N vs) H) : FnOk P w K mg base (L2.CX P w) (k + 1) f fd ps sp := by
  obtain ⟨oc, od, dV, kV, doc, pm, an, cdv, ct, osl, rfl, lk, hcd⟩ := F.ex
  exact fn_of lk hcd S len fun A outer s H vs Q E hr hsp => hbody cdv A outer s H vs Q E hr hsp
theorem fn_ok (wd : Wd Γ G T P w base mg dd fd) : ∀ (n i : Nat) (d : FD), T i = some d → FnOk P w Γ.K mg base (L2.CX P w) (2 * n + 4) (Γ.fa i) (fd i) (dd i).ps (spF Γ (wF T n) i)
  | 0, i, d, h => ⟨fun vs H Q E q => by obtain ⟨ws, S, QW, XW, r, sr, c, _⟩ := q; exact (show False from c).elim, fun A outer s H args us vs Q E _ _ _ _ q => by obtain ⟨ws, S, QW, XW, r, sr, c, _⟩ := q; exact (show False from c).elim⟩
  | n + 1, i, d, h => by
    have c := wd.fns i d h
    refine c.F.ok (k := 2 * n + 5) c.S (fun vs H Q E q => ?_) (fun cdv A outer s H vs Q E hr q => ?_)
    · obtain ⟨ws, S, QW, XW, r, sr, c2, _⟩ := q
      obtain ⟨d', e, hl, _⟩ := wSome_el (show wSome (T i) _ from c2)
      rw [h] at e
      cases e
      rw [← r.len, hl, c.ar]
    · obtain ⟨ws, S, QW, XW, r, sr, c2, k, kx⟩ := q
      obtain ⟨d', e, hl, hb⟩ := wSome_el (show wSome (T i) (fun d => ws.length = d.ar ∧ wSs (wF T n) d.body (entry d ws) S (dnOf QW XW)) from c2)
      rw [h] at e
      cases e
      have xs : XS Γ G (wF T n) (dd i).N (defScope (dd i).st) (fun cls d _ H => E cls d H) (cxOf (L2.CX P w) P w Γ.K mg base (dd i).N (dd i).qual (defScope (dd i).st) (Γ.fa i) cdv A outer s H E) := {
        hN := rfl
        nd := c.S.nd
        hsc := rfl
        calm := fun _ => rfl
        hK := rfl
        tk := takes_of rfl rfl rfl rfl
        un := hr.units
        bi := wd.bi
        con := wd.con
        fn := fun x f ar _ e => by
          obtain ⟨⟨d2, h2⟩, hm, hk⟩ := wd.fnv x f ar e
          have c3 := wd.fns f d2 h2
          exact ⟨2 * n + 4, fd f, (dd f).ps, fn_ok wd n f d2 h2, hr.mono (by omega), hk, c3.b, fun ws q => wd.dfl x f ar ws e q⟩
        fnv := fun x f ar e => (wd.fnv x f ar e).2.1
        cls := fun x c fi _ e => by
          obtain ⟨⟨d2, h2⟩, hM, hm, hi⟩ := wd.cls x c fi e
          exact ⟨2 * n + 4, fd fi, (dd fi).ps, fn_ok wd n fi d2 h2, (wd.fns fi d2 h2).b, hr, hM, hm, hi⟩
        xcl := fun x c _ e => wd.xcl x c e
        mth := fun m tb c f _ e1 e2 => by
          obtain ⟨⟨d2, h2⟩, hm⟩ := wd.mth m tb c f e1 e2
          exact ⟨2 * n + 4, ⟨fd f, (dd f).ps, fn_ok wd n f d2 h2, (wd.fns f d2 h2).b⟩, hr.mono (by omega), hm⟩
        fld := wd.fld
        isC := wd.isC
        tab := wd.tab
        hp := fun _ => passes_of rfl
        fnT := fun _ => rfl
        kd := c.S.kind
        st := rfl
        fm := rfl
        xin := fun x c fs _ e ne => by
          obtain ⟨ve, fI, fd, ps, T, iC, tI, F, hb, hm, xk, hn⟩ := wd.xin x c fs e ne
          exact ⟨ve, 1, fI, fd, ps, T, iC, tI, F, hr.mono (by omega), hb, hm, xk, hn⟩
        exm := wd.exm }
      exact ⟨_, ss_of (fun s s' q => sndS 60 xs q) c.ch, entry d ws, S, dnOf QW XW, env_start r c.sl, sr, hb, kd_of k kx⟩
/-! ### an exception's __init__ -/
def chSets (N : List Str) (sc : Scope) (self : Str) : Nat → List Stmt → List (List Nat) → Bool
  | _, [], [] => true
  | i, .Assign [.Attribute (.Name s _) nm _] (.Name y _) _ :: r, f :: fs => s == self && decide (nm = sZ f) && decide (N[i]? = some y) && visB sc y && nodbg y && chSets N sc self (i + 1) r fs
  | _, _, _ => false
def addAll : List (Str × V) → List (List Nat) → List V → List (Str × V)
  | d, f :: fs, y :: ys => addAll ((sZ f, y) :: d) fs ys
  | d, _, _ => d
theorem insz_app : ∀ {ks : List (List Nat)} {vs : List V} {k : List Nat} {v : V}, ks.length = vs.length → insz (ks ++ [k]) (vs ++ [v]) = insz ks vs ++ [(sZ k, v)]
  | [], [], _, _, _ => rfl
  | [], _ :: _, _, _, h => by simp at h
  | _ :: _, [], _, _, h => by simp at h
  | k' :: ks, v' :: vs, k, v, h => by
    show (sZ k', v') :: insz (ks ++ [k]) (vs ++ [v]) = _
    rw [insz_app (by simpa using h)]; rfl
theorem addAll_eq : ∀ {fs : List (List Nat)} {ys : List V} {d : List (Str × V)}, fs.length = ys.length → addAll d fs ys = insz fs.reverse ys.reverse ++ d
  | [], [], d, _ => rfl
  | [], _ :: _, _, h => by simp at h
  | _ :: _, [], _, h => by simp at h
  | f :: fs, y :: ys, d, h => by
    have h' : fs.length = ys.length := by simpa using h
    show addAll ((sZ f, y) :: d) fs ys = _
    rw [addAll_eq h', List.reverse_cons, List.reverse_cons, insz_app (by simpa using h')]
    simp
section
variable {X : Cx} {N : List Str} {sc : Scope} {C : Addr} {ve : Bool}
/-- the heap behind the settings -/
def heapI (H : Hp) (a dx : Addr) (C : Addr) (d : List (Str × V)) : Hp := upd (upd H dx (exd dx d)) a (exo a C (some dx))
theorem heapI_ne {H : Hp} {a dx : Addr} {d d' : List (Str × V)} (ne : dx ≠ a) : upd (heapI H a dx C d) dx (exd dx d') = heapI H a dx C d' := by
  funext b
  unfold heapI upd
  by_cases h : b = a
  · subst h
    rw [if_neg (Ne.symm ne), if_pos rfl, if_pos rfl]
  · by_cases h2 : b = dx
    · rw [if_pos h2, if_neg h, if_pos h2]
    · rw [if_neg h2, if_neg h, if_neg h, if_neg h2, if_neg h2]
theorem vis_of (hsc : X.env.scope = sc) {x : Str} (h : visB sc x = true) : Vis X.env.scope x := by
  rw [hsc]
  unfold visB at h
  split at h <;> first | exact .inl (by assumption) | exact .inr (.inl (by assumption)) | exact .inr (.inr (by assumption)) | cases h
/-- the settings -/
theorem sets_ok (hN : X.N = N) (hsc : X.env.scope = sc) {self : Str} (h0 : N[0]? = some self) (v0 : visB sc self = true) (d0 : nodbg self = true) (T : OxC X.K C ve) : ∀ {r : List Stmt} {fs : List (List Nat)} {i : Nat}, chSets N sc self i r fs = true → (∀ f ∈ fs, PySem.W.findIn X.K (.ref C) (sZ f) = some none) → fs.length ≤ 400 →
    PSs X r fun D σ H => ∃ (a dx : Addr) (H0 : Hp) (d : List (Str × V)) (ys : List V), σ[0]? = some (some (.ref a)) ∧ dx ≠ a ∧ H = heapI H0 a dx C d ∧ d.length + fs.length ≤ 500 ∧ ys.length = fs.length ∧ (∀ j y, ys[j]? = some y → σ[i + j]? = some (some y)) ∧ D.nx σ (heapI H0 a dx C (addAll d fs ys))
  | [], [], i, _, _, _ => PSsimp pss_nil fun D σ H ⟨a, dx, H0, d, ys, s0, ne, e, hl, hy, hs, q⟩ => by
    have : ys = [] := List.eq_nil_of_length_eq_zero hy
    subst this
    subst e
    exact q
  | [], _ :: _, i, h, _, _ => by simp [chSets] at h
  | st :: r, fs, i, h, hno, hl => by
    unfold chSets at h
    split at h
    · rename_i e1; cases e1
    · rename_i i _ _ _ s p1 nm p2 y p3 p4 r' f fs' e1
      cases e1
      simp only [Bool.and_eq_true, beq_iff_eq] at h
      obtain ⟨⟨⟨⟨⟨g1, g2⟩, g3⟩, g4⟩, g5⟩, g6⟩ := h
      have g2 := of_decide_eq_true g2
      subst g1
      subst g2
      have pself : PE X (.Name s p1) (tVar 0) := pe_var (by rw [hN]; exact h0) (vis_of hsc v0) (dbg_of d0).1 (dbg_of d0).2.1
      have py : PE X (.Name y p3) (tVar i) := pe_var (by rw [hN]; exact of_decide_eq_true g3) (vis_of hsc g4) (dbg_of g5).1 (dbg_of g5).2.1
      have ih := sets_ok hN hsc h0 v0 d0 T g6 (fun f hf => hno f (List.mem_cons_of_mem _ hf)) (by simp at hl; omega)
      refine PSsimp (pss_cons (ps_oxs pself py) ih) fun D σ H ⟨a, dx, H0, d, ys, s0, ne, e, hl, hy, hs, q⟩ => ?_
      subst e
      cases ys with
      | nil => cases hy
      | cons y0 ys =>
        have ya := hs 0 y0 rfl
        refine ⟨y0, ya, .ref a, s0, a, C, ve, rfl, T, hno f (by simp), .inr ⟨dx, d, ?_, ?_, ?_, ?_⟩⟩
        · exact upd_same
        · show upd _ a _ dx = _
          rw [upd_ne ne]; exact upd_same
        · simp at hl; omega
        · rw [heapI_ne ne]
          refine ⟨a, dx, H0, (sZ f, y0) :: d, ys, s0, ne, rfl, by simp at hl ⊢; omega, by simpa using hy, fun j y' q' => ?_, q⟩
          have := hs (j + 1) y' (by simpa using q')
          rw [show i + 1 + j = i + (j + 1) from by omega]
          exact this
    · cases h
/-- the first one, too -/
theorem sets0_ok (hN : X.N = N) (hsc : X.env.scope = sc) {self : Str} (h0 : N[0]? = some self) (v0 : visB sc self = true) (d0 : nodbg self = true) (T : OxC X.K C ve) {r : List Stmt} {fs : List (List Nat)} (hf : fs ≠ []) (h : chSets N sc self 1 r fs = true) (hno : ∀ f ∈ fs, PySem.W.findIn X.K (.ref C) (sZ f) = some none) (hl : fs.length ≤ 400) :
    PSs X r fun D σ H => ∃ (a : Addr) (ys : List V), σ[0]? = some (some (.ref a)) ∧ H a = some (exo a C none) ∧ ys.length = fs.length ∧ (∀ j y, ys[j]? = some y → σ[1 + j]? = some (some y)) ∧ ∀ dx, H dx = none → dx ≠ a → D.nx σ (heapI H a dx C (insz fs.reverse ys.reverse)) := by
  cases r with
  | nil => cases fs with | nil => exact absurd rfl hf | cons _ _ => simp [chSets] at h
  | cons st r =>
    unfold chSets at h
    split at h
    · rename_i e1; cases e1
    · rename_i s p1 nm p2 y p3 p4 r' f fs' e1
      cases e1
      simp only [Bool.and_eq_true, beq_iff_eq] at h
      obtain ⟨⟨⟨⟨⟨g1, g2⟩, g3⟩, g4⟩, g5⟩, g6⟩ := h
      have g2 := of_decide_eq_true g2
      subst g1
      subst g2
      have pself : PE X (.Name s p1) (tVar 0) := pe_var (by rw [hN]; exact h0) (vis_of hsc v0) (dbg_of d0).1 (dbg_of d0).2.1
      have py : PE X (.Name y p3) (tVar 1) := pe_var (by rw [hN]; exact of_decide_eq_true g3) (vis_of hsc g4) (dbg_of g5).1 (dbg_of g5).2.1
      have ih := sets_ok hN hsc h0 v0 d0 T g6 (fun f hf => hno f (List.mem_cons_of_mem _ hf)) (by simp at hl; omega)
      refine PSsimp (pss_cons (ps_oxs pself py) ih) fun D σ H ⟨a, ys, s0, ha, hy, hs, q⟩ => ?_
      cases ys with
      | nil => cases hy
      | cons y0 ys =>
        have ya := hs 0 y0 rfl
        refine ⟨y0, ya, .ref a, s0, a, C, ve, rfl, T, hno f (by simp), .inl ⟨ha, fun dx hdx ne => ?_⟩⟩
        refine ⟨a, dx, H, [(sZ f, y0)], ys, s0, ne, rfl, by simp at hl ⊢; omega, by simpa using hy, fun j y' q' => ?_, ?_⟩
        · have := hs (j + 1) y' (by simpa using q')
          rw [show 1 + 1 + j = 1 + (j + 1) from by omega]
          exact this
        · have q := q dx hdx ne
          rw [addAll_eq (by simpa using hy.symm)]
          rw [List.reverse_cons, List.reverse_cons, insz_app (by simpa using hy.symm)] at q
          exact q
    · cases h
/-- a whole body; B: the base whose __init__ is called first -/
def chIn (N : List Str) (sc : Scope) (B : Option Str) (body : List Stmt) (fs : List (List Nat)) : Bool :=
  match N with
  | [] => false
  | self :: _ => visB sc self && nodbg self && !fs.isEmpty && decide (fs.length ≤ 400) && (match B, body with
    | none, r => chSets N sc self 1 r fs
    | some b, .Expr (.Call (.Attribute (.Name x _) im p2) [.Name s _, .Constant (.str _) _ _] [] pos) _ :: r => x == b && gloB sc x && nodbg x && im == ("__init__" : Str) && s == self && (p2.endLine == pos.line) && chSets N sc self 1 r fs
    | _, _ => false)
end
theorem init_ok {K : PySem.W.Frag} {x qual : Str} {st : Stmt} {f C : Addr} {fd : FuncData} {N ps : List Str} {fs : List (List Nat)} {B : Option Str} {ve : Bool} (F : FunY K x qual st f fd) (S : FnScope N ps (defScope st)) (hp : ps.length = fs.length + 1) (T : OxC K C ve)
    (hB : match B with | none => True | some b => ve = true ∧ ∃ bA, mg b = some (.ref bA) ∧ XbC K bA) (hc : chIn N (defScope st) B (defBody st) fs = true) (hno : ∀ f ∈ fs, PySem.W.findIn K (.ref C) (sZ f) = some none) : FnOk P w K mg base (L2.CX P w) 1 f fd ps (spI C fs) := by
  refine F.ok (k := 0) S (fun vs H Q E q => ?_) (fun cdv A outer s H vs Q E hr q => ?_)
  · obtain ⟨a, us, rfl, hl, _⟩ := q
    rw [hp, List.length_cons, hl]
  · obtain ⟨a, us, rfl, hl, ha, q⟩ := q
    cases N with
    | nil => simp [chIn] at hc
    | cons self Nr =>
      simp only [chIn, Bool.and_eq_true] at hc
      obtain ⟨⟨⟨⟨v0, d0⟩, hne⟩, h4⟩, hc⟩ := hc
      have hn : fs ≠ [] := ne_nil hne
      have h4 := of_decide_eq_true h4
      have st0 : (L2.start (self :: Nr) (V.ref a :: us))[0]? = some (some (.ref a)) := rfl
      have stj : ∀ j y, us[j]? = some y → (L2.start (self :: Nr) (V.ref a :: us))[1 + j]? = some (some y) := fun j y hy => by
        have hlt : j < us.length := by
          rcases Nat.lt_or_ge j us.length with h | h
          · exact h
          · rw [List.getElem?_eq_none h] at hy; cases hy
        unfold L2.start
        rw [List.getElem?_append_left (by simp; omega), List.getElem?_map, show 1 + j = j + 1 from by omega, List.getElem?_cons_succ, hy]
        rfl
      cases B with
      | none =>
        exact ⟨_, sets0_ok rfl rfl rfl v0 d0 T hn hc hno h4, a, us, st0, ha, hl, stj, fun dx h1 h2 => q dx h1 h2⟩
      | some b =>
        obtain ⟨rfl, bA, hm, xb⟩ := hB
        split at hc
        · exact absurd (by assumption : some b = none) (by simp)
        · rename_i b' x1 p1 im p2 s1 p3 t1 j1 p4 p5 p6 r e1 e2
          cases e1
          simp only [Bool.and_eq_true, beq_iff_eq] at hc
          obtain ⟨⟨⟨⟨⟨⟨g1, g2⟩, g3⟩, g4⟩, g5⟩, g6⟩, g7⟩ := hc
          subst g1
          subst g4
          subst g5
          rw [e2]
          have hg : Gl (cxOf (L2.CX P w) P w K mg base (s1 :: Nr) qual (defScope st) f cdv A outer s H E) x1 := by
            show (defScope st).names.lookup x1 = some .globalImplicit
            unfold gloB at g2
            split at g2 <;> first | assumption | cases g2
          have pself : PE (cxOf (L2.CX P w) P w K mg base (s1 :: Nr) qual (defScope st) f cdv A outer s H E) (.Name s1 p3) (tVar 0) := pe_var rfl (vis_of rfl v0) (dbg_of d0).1 (dbg_of d0).2.1
          refine ⟨_, pss_cons (ps_expr (pe_xinit xb hg hm (dbg_of g3).1 (pa_cons pself (pa_cons pe_str pa_nil rfl) rfl) (mc_eq rfl (by simpa using g6) rfl (by simp)) rfl rfl) rfl) (sets0_ok rfl rfl rfl v0 d0 T hn g7 hno h4), ?_⟩
          refine ⟨.ref a, st0, a, C, _, rfl, by simp, T, ha, ?_⟩
          exact ⟨a, us, st0, ha, hl, stj, fun dx h1 h2 => q dx h1 h2⟩
        · cases hc
/-- what law(script) promises -/
def spL (K : PySem.W.Frag) : Sp := fun vs H Q _ => ∃ (a : Addr) (ns : List Int), vs = [.ref a] ∧ SqL K H a (ns.map V.int) ∧ ns.length ≤ 63 ∧ (∀ z ∈ ns, Builtin.Int.intBits z ≤ 1048576) ∧ ∀ H', Q (.bl true) H'
theorem ints_reps {S : Sto} {H : Hp} : ∀ (ns : List Int), reps Γ S H (ns.map W.int) (ns.map V.int)
  | [] => rfl
  | n :: ns => ⟨_, _, rfl, rfl, ints_reps ns⟩
theorem law_end (wd : Wd Γ G T P w base mg dd fd) {n li : Nat} {d : FD} (h : T li = some d) (m : ∀ ns : List Int, ns.length ≤ 63 → (∀ z ∈ ns, Builtin.Int.intBits z ≤ 1048576) → wF T n li [.sc (ns.map W.int)] (fun _ => none) (fun w _ => w = .bl true) (fun _ _ => False)) :
    FnOk P w Γ.K mg base (L2.CX P w) (2 * n + 4) (Γ.fa li) (fd li) (dd li).ps (spL Γ.K) := by
  refine (fn_ok wd n li d h).imp fun vs H Q E q => ?_
  obtain ⟨a, ns, rfl, hS, hl, hb, q⟩ := q
  refine ⟨[.sc (ns.map W.int)], fun _ => none, _, _, reps.one ⟨a, ns.map V.int, rfl, ?_, ints_reps ns⟩, fun a o e => (by cases e), m ns hl hb, fun w S' v H' r s f e => ?_, fun _ _ _ _ _ _ _ _ q => q.elim⟩
  · rcases hS with hS | hS
    · exact .inl ⟨rfl, hS⟩
    · exact .inr hS
  · subst e
    cases r
    exact q H'
end
end Bw

/-! Ev15b: words for the head: classes. -/
namespace Bw
open PySem L2 PySem.Spec PyProof.Rows
theorem _root_.L2.Fun.y {K : PySem.W.Frag} {x qual : Str} {st : Stmt} {f : Addr} {fd : FuncData} (F : Fun K x qual st f fd) : FunY K x qual st f fd := by
  obtain ⟨oc, od, kV, doc, pm, an, cdv, ct, osl, e, l, c⟩ := F.ex
  exact ⟨⟨oc, od, .none, kV, doc, pm, an, cdv, ct, osl, e, l, c⟩⟩
theorem mem_of_lookupA {α β : Type} [BEq α] [LawfulBEq α] : ∀ {l : List (α × β)} {n : α} {c : β}, l.lookup n = some c → (n, c) ∈ l
  | [], _, _, h => by cases h
  | (k, v) :: r, n, c, h => by
    rw [List.lookup_cons] at h
    cases q : n == k with
    | true =>
      rw [q] at h
      cases h
      rw [beq_iff_eq] at q
      subst q
      exact List.mem_cons_self
    | false =>
      rw [q] at h
      exact List.mem_cons_of_mem _ (mem_of_lookupA h)
section
variable {K : PySem.W.Frag} {A B : Addr} {b : Bool}
theorem kitc_own (iB : PySem.W.isClsIn K B = true) (tB : PySem.W.typeIn K (.ref B) = some (.type "type")) {t : Value} (s : PySem.W.subIn K t (.ref B) = some b) : PySem.W.kitCls K t (.ref B) = some b := by
  have e2 : ((PySem.W.clsIn K B).isSome && PySem.W.typeIn K (.ref B) == some (.type "type")) = true := by
    have h2' : (PySem.W.clsIn K B).isSome = true := iB
    rw [h2', tB] <;> rfl
  show (if ((PySem.W.clsIn K B).isSome && PySem.W.typeIn K (.ref B) == some (.type "type")) = true then PySem.W.subIn K t (.ref B) else none) = some b
  rw [if_pos e2]
  exact s
theorem kit_bt {n : String} (hm : PySem.W.kitMeta n = true) (s : PySem.W.subIn K (.ref A) (.type n) = some b) : PySem.W.kitOne K (.ref A) (.type n) = some b := by
  show (if PySem.W.kitMeta n = true then PySem.W.subIn K (.ref A) (.type n) else none) = some b
  rw [if_pos hm]
  exact s
theorem exm_own (eB : PySem.W.subIn K (.ref B) (.type "BaseException") = some true) (iB : PySem.W.isClsIn K B = true) (tB : PySem.W.typeIn K (.ref B) = some (.type "type")) (s : PySem.W.subIn K (.ref A) (.ref B) = some b) : PySem.W.exmOne K (.ref A) (.ref B) = some b := by
  unfold PySem.W.exmOne
  rw [if_pos (by rw [eB]; rfl)]
  exact kitc_own iB tB s
end
end Bw

/-! Ev16: small words for a law's head. -/
namespace Bw
open PySem L2 PySem.Spec PyProof.Rows
inductive AllL {α : Type} (φ : α → Prop) : List α → Prop
  | nil : AllL φ []
  | cons {a : α} {l : List α} : φ a → AllL φ l → AllL φ (a :: l)
theorem AllL.mem {α : Type} {φ : α → Prop} {l : List α} (h : AllL φ l) {a : α} (m : a ∈ l) : φ a := by
  induction h with
  | nil => cases m
  | cons q _ ih =>
    rcases List.mem_cons.mp m with rfl | m
    · exact q
    · exact ih m
theorem mem_of_lookupN {α : Type} : ∀ {l : List (List Nat × α)} {n : List Nat} {c : α}, l.lookup n = some c → (n, c) ∈ l
  | [], _, _, h => by cases h
  | (k, v) :: r, n, c, h => by
    rw [List.lookup_cons] at h
    cases q : n == k with
    | true =>
      rw [q] at h
      cases h
      rw [beq_iff_eq] at q
      subst q
      exact List.mem_cons_self
    | false =>
      rw [q] at h
      exact List.mem_cons_of_mem _ (mem_of_lookupN h)
end Bw

/-! Ev17: words for reading wF: comprehensions, loops, returns. -/
namespace Bw
open PySem (sizeLine)
theorem wMap_pure {lk : Lk} {f : W → Sto → (List W → Sto → Prop) → Prop} {S : Sto} (g : W → List W) (hl : liveS lk S) : ∀ {xs : List W} {Q : List W → Sto → Prop}, (∀ x ∈ xs, ∀ R : List W → Sto → Prop, R (g x) S → f x S R) → Q (xs.flatMap g) S → wMap lk f xs S Q
  | [], _, _, q => ⟨hl, q⟩
  | x :: xs, Q, h, q => ⟨hl, h x List.mem_cons_self _ (wMap_pure g hl (fun y hy => h y (List.mem_cons_of_mem _ hy)) (by simpa using q))⟩
theorem set_del {S : Sto} {D : PySem.Addr} {o : O} (h : S D = none) : (S.set D o).del D = S := by
  funext b
  unfold Sto.set Sto.del
  by_cases e : b = D
  · rw [if_pos e, e, h]
  · rw [if_neg e]; simp only [if_neg e]
theorem liveS_set {D : PySem.Addr} {o : O} : ∀ {lk : Lk} {S : Sto}, liveS lk S → S D = none → liveS lk (S.set D o)
  | [], _, _, _ => trivial
  | p :: r, S, h, e => ⟨by
    have n : p.1 ≠ D := fun z => by have q := h.1; rw [z, e] at q; cases q
    rw [Sto.set_ne n]
    exact h.1, liveS_set h.2 e⟩
/-- the same, the reading as it stands -/
theorem compQ {f : W → Sto → (List W → Sto → Prop) → Prop} {S : Sto} {P : PySem.Addr → List W → Sto → Prop} {items : List W} {lk : Lk} (g : W → List W) (hl : liveS lk S)
    (h : ∀ x ∈ items, ∀ D, S D = none → ∀ R : List W → Sto → Prop, R (g x) (S.set D .hid) → f x (S.set D .hid) R) (q : ∀ D, S D = none → P D (items.flatMap g) (S.set D .hid)) :
    ∀ D, S D = none → wMap lk f items (S.set D .hid) (P D) :=
  fun D hD => wMap_pure g (liveS_set hl hD) (fun x hx R r => h x hx D hD R r) (q D hD)
theorem flatMap_one {α β : Type} (g : α → β) : ∀ l : List α, l.flatMap (fun x => [g x]) = l.map g
  | [] => rfl
  | x :: l => by rw [List.flatMap_cons, flatMap_one g l]; rfl
theorem compM {f : W → Sto → (List W → Sto → Prop) → Prop} {S : Sto} {P : PySem.Addr → List W → Sto → Prop} {items : List W} {lk : Lk} (g : W → W) (hl : liveS lk S)
    (h : ∀ x ∈ items, ∀ D, S D = none → ∀ R : List W → Sto → Prop, R [g x] (S.set D .hid) → f x (S.set D .hid) R) (q : ∀ D, S D = none → P D (items.map g) (S.set D .hid)) :
    ∀ D, S D = none → wMap lk f items (S.set D .hid) (P D) :=
  compQ (fun x => [g x]) hl h fun D hD => by rw [flatMap_one]; exact q D hD
theorem mem_rng {lo : Int} {n : Nat} {x : W} (hx : x ∈ rngW lo n) : ∃ i : Nat, i < n ∧ x = .int (lo + (i : Int)) := by
  unfold rngW at hx
  obtain ⟨i, hi, e⟩ := List.mem_map.mp hx
  exact ⟨i, List.mem_range.mp hi, e.symm⟩
theorem mem_rng0 {n : Nat} {x : W} (hx : x ∈ rngW 0 n) : ∃ i : Nat, i < n ∧ x = .int (i : Int) := by
  obtain ⟨i, h1, h2⟩ := mem_rng hx
  exact ⟨i, h1, by rw [h2]; simp⟩
theorem forI {lk : Lk} {tg : Tg} {body : Env → Sto → Dn → Prop} {D : Dn} (I : Nat → Env → Sto → Prop) : ∀ {items : List W} {env : Env} {S : Sto} (k : Nat), I k env S →
    (∀ i env S, i ≤ k + items.length → I i env S → liveS lk S) →
    (∀ i w env S (nx : Env → Sto → Prop), items[i]? = some w → I (k + i) env S → (∀ e S', I (k + i + 1) e S' → nx e S') → wSome (bindTg tg w env) fun env' => body env' S { D with nx := nx, ct := nx, bk := D.nx }) →
    (∀ env S, I (k + items.length) env S → D.nx env S) → wFor lk tg body items env S D
  | [], env, S, k, h, hl, step, fin => ⟨hl k env S (Nat.le_refl _) h, fin env S h⟩
  | w :: ws, env, S, k, h, hl, step, fin => ⟨hl k env S (Nat.le_add_right _ _) h, step 0 w env S _ rfl h fun e S' h' => forI I (k + 1) h' (fun i env S hi => hl i env S (by rw [List.length_cons]; omega))
      (fun i w env S nx e hI hn => step (i + 1) w env S nx e (by rw [show k + (i + 1) = k + 1 + i by omega]; exact hI) (fun e' S'' z => hn e' S'' (by rw [show k + 1 + i + 1 = k + (i + 1) + 1 by omega]; exact z)))
      (fun env S z => fin env S (by rw [List.length_cons, show k + (ws.length + 1) = k + 1 + ws.length by omega]; exact z))⟩
theorem whlI {c : Env → Sto → VQ → XQ → Prop} {body : Env → Sto → Dn → Prop} {D : Dn} (I : Nat → Env → Sto → Prop)
    (step : ∀ m env S (nx : Env → Sto → Prop), I m env S → (∀ m' e S', m' < m → I m' e S' → nx e S') → c env S (fun x S1 => wB x (body env S1 { D with nx := nx, ct := nx, bk := D.nx }) (D.nx env S1)) (fun x S1 => D.xc x env S1)) :
    ∀ (n m : Nat) {env : Env} {S : Sto}, m < n → I m env S → wWhl c body n env S D
  | 0, m, _, _, h, _ => absurd h (Nat.not_lt_zero _)
  | n + 1, m, env, S, h, i => step m env S _ i fun m' e S' hm i' => whlI I step n m' (by omega) i'
/-! ### returns -/
theorem Sub.refl (S : Sto) : Sub S S := ⟨fun _ _ h => h, fun _ h => h⟩
theorem Sub.trans {S S1 S2 : Sto} (a : Sub S S1) (b : Sub S1 S2) : Sub S S2 := ⟨fun p o h => b.1 p o (a.1 p o h), fun p h => a.2 p (b.2 p h)⟩
theorem Sub.set {S : Sto} {p : PySem.Addr} {ws : List W} (h : S p = none) : Sub S (S.set p (.lst ws)) := by
  refine ⟨fun a o e => ?_, fun a e => ?_⟩
  · have n : a ≠ p := fun z => by rw [z, h] at e; cases e
    rw [Sto.set_ne n]; exact e
  · by_cases n : a = p
    · subst n; rw [Sto.set_same] at e; cases e
    · rw [Sto.set_ne n] at e; exact e
theorem rt0 {S : Sto} {w : W} {Q : VQ} (q : Q w S) : ∃ w' S', Fz S w w' S' ∧ Q w' S' := ⟨w, S, ⟨Sub.refl S, .inl rfl⟩, q⟩
theorem rtG {S S0 : Sto} {w : W} {Q : VQ} (s : Sub S0 S) (q : Q w S0) : ∃ w' S', Fz S w w' S' ∧ Q w' S' := ⟨w, S0, ⟨s, .inl rfl⟩, q⟩
/-- a list of one's own is given back: known by content from here on -/
theorem rtL {S S0 : Sto} {a : PySem.Addr} {ws : List W} {Q : VQ} (s : Sub S0 S) (e : S a = some (.lst ws)) (e0 : S0 a = none) (q : Q (.rl ws) S0) : ∃ w' S', Fz S (.ref a) w' S' ∧ Q w' S' := ⟨.rl ws, S0, ⟨s, .inr ⟨a, rfl, e0, .inl ⟨ws, e, rfl⟩⟩⟩, q⟩
theorem rtD {S S0 : Sto} {a : PySem.Addr} {ks : List Ky} {ws : List W} {Q : VQ} (s : Sub S0 S) (e : S a = some (.dic ks ws)) (e0 : S0 a = none) (q : Q (.dct ks ws) S0) : ∃ w' S', Fz S (.ref a) w' S' ∧ Q w' S' := ⟨.dct ks ws, S0, ⟨s, .inr ⟨a, rfl, e0, .inr (.inl ⟨ks, ws, e, rfl⟩)⟩⟩, q⟩
theorem nx0 {S : Sto} {Q : VQ} (q : Q .non S) : ∃ S', Sub S' S ∧ Q .non S' := ⟨S, Sub.refl S, q⟩
/-! ### tests -/
theorem wB_t {t f : Prop} : wB (.bl true) t f = t := rfl
theorem wB_f {t f : Prop} : wB (.bl false) t f = f := rfl
theorem wB_if {b : Bool} {t f : Prop} (ht : b = true → t) (hf : b = false → f) : wB (.bl b) t f := by
  cases b
  · exact hf rfl
  · exact ht rfl
theorem wB_dec {p : Prop} [Decidable p] {t f : Prop} (ht : p → t) (hf : ¬ p → f) : wB (.bl (decide p)) t f := by
  by_cases h : p
  · rw [decide_eq_true h]; exact ht h
  · rw [decide_eq_false h]; exact hf h
theorem wSome_s {α : Type} {x : α} {P : α → Prop} : wSome (some x) P = P x := rfl
theorem wWalk_s {p : List W × Lk} {P : List W → Lk → Prop} : wWalk (some p) P = P p.1 p.2 := rfl
/-! ### places, cuts -/
theorem cut_to {α : Type} {xs : List α} {k : Nat} : cutW xs none (some (k : Int)) = xs.take k := by
  unfold cutW
  rw [HT.sIx_nat, HT.sIx_none, List.drop_zero, Nat.sub_zero]
  by_cases h : k ≤ xs.length
  · rw [Nat.min_eq_left h]
  · rw [Nat.min_eq_right (by omega), List.take_of_length_le (Nat.le_refl _), List.take_of_length_le (by omega)]
theorem cut_from {α : Type} {xs : List α} {k : Nat} : cutW xs (some (k : Int)) none = xs.drop k := by
  unfold cutW
  rw [HT.sIx_nat, HT.sIx_none]
  by_cases h : k ≤ xs.length
  · rw [Nat.min_eq_left h, List.take_of_length_le (by rw [List.length_drop]; omega)]
  · rw [Nat.min_eq_right (by omega), List.drop_of_length_le (Nat.le_refl _), List.drop_of_length_le (by omega)]; simp
theorem cut1 {α : Type} {xs : List α} : cutW xs (some 1) none = xs.drop 1 := cut_from (k := 1)
theorem cut01 {α : Type} {xs : List α} : cutW xs none (some 1) = xs.take 1 := cut_to (k := 1)
theorem at_nat {α : Type} {xs : List α} {k : Nat} (h : k < xs.length) : atW xs (k : Int) = xs[k]? := by
  unfold atW ixW
  rw [if_pos (by omega), if_pos (by omega)]
  rfl
theorem at0 {α : Type} {x : α} {xs : List α} : atW (x :: xs) 0 = some x := by
  have := at_nat (xs := x :: xs) (k := 0) (by simp)
  simpa using this
theorem at1 {α : Type} {x y : α} {xs : List α} : atW (x :: y :: xs) 1 = some y := by
  have := at_nat (xs := x :: y :: xs) (k := 1) (by simp)
  simpa using this
theorem at2 {α : Type} {x y z : α} {xs : List α} : atW (x :: y :: z :: xs) 2 = some z := by
  have := at_nat (xs := x :: y :: z :: xs) (k := 2) (by simp)
  simpa using this
theorem at3 {α : Type} {x y z u : α} {xs : List α} : atW (x :: y :: z :: u :: xs) 3 = some u := by
  have := at_nat (xs := x :: y :: z :: u :: xs) (k := 3) (by simp)
  simpa using this
theorem at_int {α : Type} {xs : List α} {i : Int} {x : α} (h0 : 0 ≤ i) (h : xs[i.toNat]? = some x) : atW xs i = some x := by
  obtain ⟨k, rfl⟩ := Int.eq_ofNat_of_zero_le h0
  have hk : k < xs.length := by
    by_cases q : k < xs.length
    · exact q
    · rw [List.getElem?_eq_none (by simpa using q)] at h; cases h
  rw [show ((k : Nat) : Int) = ((k : Nat) : Int) from rfl, at_nat hk]
  simpa using h
/-! ### a script's cells -/
def cellI (ns : List Int) (k : Int) : Int := if k < ns.length then (ns[k.toNat]?).getD 0 else 0
/-! data of one sort only: the due things of the laws -/
end Bw

/-! Ev18: equations for reading wF, by the values' heads. -/
namespace Bw
open PySem (sizeLine)
def Ret (w : W) (S : Sto) (Q : VQ) : Prop := ∃ w' S', Fz S w w' S' ∧ Q w' S'
def RetX (x : Xn) (S : Sto) (X : XQ) : Prop := ∃ S', Sub S' S ∧ X x S'
def RetN (S : Sto) (Q : VQ) : Prop := ∃ S', Sub S' S ∧ Q .non S'
theorem dn_rt {Q : VQ} {X : XQ} {w : W} {S : Sto} : (dnOf Q X).rt w S = Ret w S Q := rfl
theorem dn_nx {Q : VQ} {X : XQ} {env : Env} {S : Sto} : (dnOf Q X).nx env S = RetN S Q := rfl
theorem ret0 {S : Sto} {w : W} {Q : VQ} (q : Q w S) : Ret w S Q := rt0 q
theorem retG {S S0 : Sto} {w : W} {Q : VQ} (s : Sub S0 S) (q : Q w S0) : Ret w S Q := rtG s q
theorem retL {S S0 : Sto} {a : PySem.Addr} {ws : List W} {Q : VQ} (s : Sub S0 S) (e : S a = some (.lst ws)) (e0 : S0 a = none) (q : Q (.rl ws) S0) : Ret (.ref a) S Q := rtL s e e0 q
theorem retD {S S0 : Sto} {a : PySem.Addr} {ks : List Ky} {ws : List W} {Q : VQ} (s : Sub S0 S) (e : S a = some (.dic ks ws)) (e0 : S0 a = none) (q : Q (.dct ks ws) S0) : Ret (.ref a) S Q := rtD s e e0 q
theorem dn_xc {Q : VQ} {X : XQ} {x : Xn} {env : Env} {S : Sto} : (dnOf Q X).xc x env S = RetX x S X := rfl
theorem retX0 {S : Sto} {x : Xn} {X : XQ} (q : X x S) : RetX x S X := ⟨S, Sub.refl S, q⟩
theorem retXG {S S0 : Sto} {x : Xn} {X : XQ} (s : Sub S0 S) (q : X x S0) : RetX x S X := ⟨S0, s, q⟩
theorem retN0 {S : Sto} {Q : VQ} (q : Q .non S) : RetN S Q := nx0 q
section
variable {S : Sto} {Q : VQ} {P : W → Prop} {t f : Prop} {ws us : List W} {i j l : Int} {x y : W} {a : PySem.Addr} {neg : Bool} {fz : Bool}
theorem wF_eq {T : Nat → Option FD} {n i : Nat} {d : FD} {args : List W} {X : XQ} (h : T i = some d) : wF T (n + 1) i args S Q X = (args.length = d.ar ∧ wSs (wF T n) d.body (entry d args) S (dnOf Q X)) := by
  show wSome (T i) _ = _
  rw [h]
  rfl
theorem wEq_c {b : Bool} (hx : dataW (deref S x) = true) (hy : dataW (deref S y) = true) (hd : depW (deref S y) ≤ 60) (he : eqv (deref S x) (deref S y) = b) (q : Q (.bl (b != neg)) S) : wEq neg x y S Q := by
  unfold wEq
  rw [he]
  exact ⟨hx, hy, Nat.le_trans (Nat.min_le_right _ _) hd, q⟩
theorem wTab_c {kvs : List (List Nat × W)} {k : List Nat} {w : W} (h : kvs.lookup k = some w) (q : Q w S) : wTab kvs (.str k) S Q := by
  unfold wTab
  simp only [h]
  exact q
theorem wVar_s {w : W} : wVar (some (some w)) P = P w := rfl
theorem wNon_non : wNon .non t f = t := rfl
theorem wNon_bl {b : Bool} : wNon (.bl b) t f = f := rfl
theorem wNon_int  : wNon (.int i) t f = f := rfl
theorem wNon_str {z : List Nat} : wNon (.str z) t f = f := rfl
theorem wNon_tup  : wNon (.tup ws) t f = f := rfl
theorem wNon_rl  : wNon (.rl ws) t f = f := rfl
theorem wNon_sc  : wNon (.sc ws) t f = f := rfl
theorem wNot_b {b : Bool} {P : Bool → Prop} : wNot (.bl b) P = P (!b) := rfl
theorem wI1_i {P : Int → Prop} : wI1 (.int i) P = P i := rfl
theorem wInts_i {P : Int → Int → Prop} : wInts (.int i) (.int j) P = P i j := rfl
theorem wIdx_tup : wIdx (.tup ws) (.int i) S Q = wSome (atW ws i) (fun w => Q w S) := by unfold wIdx; simp only [dicOf, seqOf, deref]; cases atW ws i <;> rfl
theorem wLen_tup : wLen (.tup ws) S Q = Q (.int ws.length) S := rfl
theorem wSl_tup0 : wSl fz (.tup ws) [] [] S Q = Q (.tup (cutW ws none none)) S := rfl
theorem wSl_tup1 : wSl fz (.tup ws) [.int i] [] S Q = Q (.tup (cutW ws (some i) none)) S := rfl
theorem wSl_tup2 : wSl fz (.tup ws) [] [.int j] S Q = Q (.tup (cutW ws none (some j))) S := rfl
theorem wSl_tup3 : wSl fz (.tup ws) [.int i] [.int j] S Q = Q (.tup (cutW ws (some i) (some j))) S := rfl
theorem walkOf_tup : walkOf S (.tup ws) = some (ws, []) := rfl
theorem seqOf_tup : seqOf S (.tup ws) = some ws := rfl
theorem deref_tup : deref S (.tup ws) = .tup ws := rfl
theorem wIdx_rl : wIdx (.rl ws) (.int i) S Q = wSome (atW ws i) (fun w => Q w S) := by unfold wIdx; simp only [dicOf, seqOf, deref]; cases atW ws i <;> rfl
theorem wLen_rl : wLen (.rl ws) S Q = Q (.int ws.length) S := rfl
theorem wSl_rl0 : wSl fz (.rl ws) [] [] S Q = mkL fz (cutW ws none none) S Q := rfl
theorem wSl_rl1 : wSl fz (.rl ws) [.int i] [] S Q = mkL fz (cutW ws (some i) none) S Q := rfl
theorem wSl_rl2 : wSl fz (.rl ws) [] [.int j] S Q = mkL fz (cutW ws none (some j)) S Q := rfl
theorem wSl_rl3 : wSl fz (.rl ws) [.int i] [.int j] S Q = mkL fz (cutW ws (some i) (some j)) S Q := rfl
theorem walkOf_rl : walkOf S (.rl ws) = some (ws, []) := rfl
theorem seqOf_rl : seqOf S (.rl ws) = some ws := rfl
theorem deref_rl : deref S (.rl ws) = .rl ws := rfl
theorem wIdx_sc : wIdx (.sc ws) (.int i) S Q = wSome (atW ws i) (fun w => Q w S) := by unfold wIdx; simp only [dicOf, seqOf, deref]; cases atW ws i <;> rfl
theorem wLen_sc : wLen (.sc ws) S Q = Q (.int ws.length) S := rfl
theorem wSl_sc0 : wSl fz (.sc ws) [] [] S Q = mkL fz (cutW ws none none) S Q := rfl
theorem wSl_sc1 : wSl fz (.sc ws) [.int i] [] S Q = mkL fz (cutW ws (some i) none) S Q := rfl
theorem wSl_sc2 : wSl fz (.sc ws) [] [.int j] S Q = mkL fz (cutW ws none (some j)) S Q := rfl
theorem wSl_sc3 : wSl fz (.sc ws) [.int i] [.int j] S Q = mkL fz (cutW ws (some i) (some j)) S Q := rfl
theorem walkOf_sc : walkOf S (.sc ws) = some (ws, []) := rfl
theorem seqOf_sc : seqOf S (.sc ws) = some ws := rfl
theorem deref_sc : deref S (.sc ws) = .sc ws := rfl
theorem walkL_rl : walkL S (.rl ws) = some (ws, []) := rfl
theorem walkL_sc : walkL S (.sc ws) = some (ws, []) := rfl
theorem deref_non : deref S .non = .non := rfl
theorem deref_bl {b : Bool} : deref S (.bl b) = .bl b := rfl
theorem deref_int : deref S (.int i) = .int i := rfl
theorem deref_str {z : List Nat} : deref S (.str z) = .str z := rfl
theorem lstOf_rl : lstOf S (.rl ws) = some ws := rfl
theorem wIdx_ref (h : S a = some (.lst ws)) : wIdx (.ref a) (.int i) S Q = wSome (atW ws i) (fun w => Q w S) := by unfold wIdx; simp only [dicOf, seqOf, deref, h]; cases atW ws i <;> rfl
theorem wLen_ref (h : S a = some (.lst ws)) : wLen (.ref a) S Q = Q (.int ws.length) S := by simp only [wLen, dicOf, seqOf, deref, h]; rfl
theorem wLen_dic {ks : List Ky} (h : S a = some (.dic ks ws)) : wLen (.ref a) S Q = Q (.int ks.length) S := by simp only [wLen, dicOf, h]
theorem walkOf_ref (h : S a = some (.lst ws)) : walkOf S (.ref a) = some (ws, [(a, ws)]) := by simp only [walkOf, h]
theorem lstOf_ref (h : S a = some (.lst ws)) : lstOf S (.ref a) = some ws := by simp only [lstOf, deref, h]
theorem wApp_ref {w : W} (h : S a = some (.lst ws)) : wApp (.ref a) w S Q = (ws.length < sizeLine ∧ Q .non (S.set a (.lst (ws ++ [w])))) := by simp only [wApp, h]
theorem wLen_str {z : List Nat} : wLen (.str z) S Q = (z.length ≤ sizeLine ∧ Q (.int z.length) S) := rfl
theorem optI0 : optInt [] = some none := rfl
theorem optI1 : optInt [.int i] = some (some i) := rfl
theorem optS0 : (optInt []).isSome = true := rfl
theorem optS1 : (optInt [.int i]).isSome = true := rfl
theorem mkL_t : mkL true ws S Q = Q (.rl ws) S := rfl
theorem mkL_f : mkL false ws S Q = ∀ p, S p = none → Q (.ref p) (S.set p (.lst ws)) := rfl
theorem wEq_i : wEq neg (.int i) (.int j) S Q = Q (.bl ((i == j) != neg)) S := by simp [wEq, deref, dataW, depW, eqv]
theorem wEq_s {z u : List Nat} : wEq neg (.str z) (.str u) S Q = Q (.bl ((z == u) != neg)) S := by simp [wEq, deref, dataW, depW, eqv]
theorem wEq_b {b c : Bool} : wEq neg (.bl b) (.bl c) S Q = Q (.bl ((b == c) != neg)) S := by simp [wEq, deref, dataW, depW, eqv]
theorem wAdd_i : wAdd fz (.int i) (.int j) S Q = Q (.int (i + j)) S := rfl
theorem wAdd_s {z u : List Nat} : wAdd fz (.str z) (.str u) S Q = (z.length + u.length ≤ sizeLine ∧ Q (.str (z ++ u)) S) := rfl
theorem wAdd_t : wAdd fz (.tup ws) (.tup us) S Q = (ws.length + us.length ≤ sizeLine ∧ Q (.tup (ws ++ us)) S) := rfl
theorem wAdd_l {A B : List W} (hx : lstOf S x = some A) (hy : lstOf S y = some B) (q : A.length + B.length ≤ sizeLine ∧ mkL fz (A ++ B) S Q) : wAdd fz x y S Q := by
  unfold wAdd
  split
  · cases hx
  · cases hx
  · cases hx
  · rw [hx, hy]; exact q
theorem wBin_add : wBin (.add fz) x y S Q = (wAdd fz x y S Q) := rfl
theorem wBin_sub : wBin (.sub) x y S Q = (wInts x y fun i j => Q (.int (i - j)) S) := rfl
theorem wBin_fdiv : wBin (.fdiv) x y S Q = (wInts x y fun i j => (0 < j ∧ j.natAbs.log2 < 9000) ∧ Q (.int (i / j)) S) := rfl
theorem wBin_mod : wBin (.mod) x y S Q = (wInts x y fun i j => 0 < j ∧ Q (.int (i % j)) S) := rfl
theorem wBin_pow : wBin (.pow) x y S Q = (wInts x y fun i j => L2.CPow i j ∧ Q (.int (i ^ j.toNat)) S) := rfl
theorem wMeb_count {z : List Nat} : wMeb .count x [.str z] S Q = wSome ((lstOf S x).bind strsOf) (fun zs => Q (.int ((zs.countP (· == z) : Nat) : Int)) S) := rfl
theorem wMeb_index {z : List Nat} : wMeb .index x [.str z] S Q = wSome ((lstOf S x).bind strsOf) (fun zs => wSome (ixOf z zs) fun i => Q (.int (i : Nat)) S) := rfl
theorem wMeb_dget1 : wMeb .dget1 x [y] S Q = wSome (dicOf S x) (fun p => wSome (kyOf y) fun k => Q ((lookD p.1 p.2 k).getD .non) S) := rfl
theorem wMeb_dget2 {d : W} : wMeb .dget2 x [y, d] S Q = wSome (dicOf S x) (fun p => wSome (kyOf y) fun k => Q ((lookD p.1 p.2 k).getD d) S) := rfl
theorem wMeb_dcopy : wMeb .dcopy x [] S Q = wSome (dicOf S x) (fun p => ∀ a, S a = none → Q (.ref a) (S.set a (.dic p.1 p.2))) := by unfold wMeb; simp
theorem recv_count : recvOf .count S x = (lstOf S x).isSome := rfl
theorem recv_index : recvOf .index S x = (lstOf S x).isSome := rfl
theorem recv_dget1 : recvOf .dget1 S x = (dicOf S x).isSome := rfl
theorem recv_dget2 : recvOf .dget2 S x = (dicOf S x).isSome := rfl
theorem recv_dcopy : recvOf .dcopy S x = (dicOf S x).isSome := rfl
theorem dicOf_dct {ks : List Ky} : dicOf S (.dct ks ws) = some (ks, ws) := rfl
theorem kyOf_int : kyOf (.int i) = some (.inl i) := rfl
theorem kyOf_str {z : List Nat} : kyOf (.str z) = some (.inr z) := rfl
theorem wIdx_dct {ks : List Ky} : wIdx (.dct ks ws) y S Q = wSome (kyOf y) (fun k => wSome (lookD ks ws k) fun w => Q w S) := by
  show (match kyOf y with | some k => (match lookD ks ws k with | some w => Q w S | none => False) | none => False) = _
  cases kyOf y with
  | none => rfl
  | some k => show (match lookD ks ws k with | some w => Q w S | none => False) = _; cases h : lookD ks ws k <;> simp only [wSome, h]
theorem wIdxD_ref {ks : List Ky} (h : S a = some (.dic ks ws)) : wIdx (.ref a) y S Q = wSome (kyOf y) (fun k => wSome (lookD ks ws k) fun w => Q w S) := by
  unfold wIdx
  simp only [dicOf, h]
  cases kyOf y with
  | none => rfl
  | some k => show (match lookD ks ws k with | some w => Q w S | none => False) = _; cases h : lookD ks ws k <;> simp only [wSome, h]
theorem wIn_dct {ks : List Ky} : wIn neg x (.dct ks ws) S Q = wSome (kyOf x) (fun k => Q (.bl ((lookD ks ws k).isSome != neg)) S) := by
  show (match kyOf x with | some k => Q (.bl ((lookD ks ws k).isSome != neg)) S | none => False) = _
  cases kyOf x <;> rfl
theorem fld_obj {c : Nat} {ks : List (List Nat)} : fldOf S (.obj c ks ws) = some (c, ks, ws) := rfl
theorem fld_exn {c : Nat} {ks : List (List Nat)} : fldOf S (.exn c ks ws) = some (c, ks, ws) := rfl
theorem fld_ref {c : Nat} {ks : List (List Nat)} (h : S a = some (.ins c ks ws)) : fldOf S (.ref a) = some (c, ks, ws) := by simp only [fldOf, objOf, h]
theorem obj_obj {c : Nat} {ks : List (List Nat)} : objOf S (.obj c ks ws) = some (c, ks, ws) := rfl
theorem obj_ref {c : Nat} {ks : List (List Nat)} (h : S a = some (.ins c ks ws)) : objOf S (.ref a) = some (c, ks, ws) := by simp only [objOf, h]
theorem isCW_non {yes no : List Nat} : isCW yes no S .non = some false := rfl
theorem isCW_bl {yes no : List Nat} {b : Bool} : isCW yes no S (.bl b) = some false := rfl
theorem isCW_int {yes no : List Nat} : isCW yes no S (.int i) = some false := rfl
theorem isCW_exn {yes no : List Nat} {c : Nat} {ks : List (List Nat)} : isCW yes no S (.exn c ks ws) = if c ∈ yes then some true else if c ∈ no then some false else none := rfl
theorem wSetD_ref {ks : List Ky} {w : W} {Q : Sto → Prop} (h : S a = some (.dic ks ws)) : wSetIx (.ref a) y w S Q = wSome (kyOf y) (fun k => ws.length < sizeLine ∧ Q (S.set a (.dic (putD ks ws k w).1 (putD ks ws k w).2))) := by
  unfold wSetIx
  simp only [h]
  cases kyOf y <;> rfl
theorem bindH_n {x : Xn} {env : Env} : bindH none x env = env := rfl
theorem bindH_s {k : Nat} {x : Xn} {env : Env} : bindH (some k) x env = env.set k (some (.exn x.c x.ks x.ws)) := rfl
theorem goneH_n {env : Env} : goneH none env = env := rfl
theorem goneH_s {k : Nat} {env : Env} : goneH (some k) env = env.set k none := rfl
theorem sutD_nx {nm : Option Nat} {D : Dn} {e : Env} : (sutD nm D).nx e S = D.nx (goneH nm e) S := rfl
theorem sutD_rt {nm : Option Nat} {D : Dn} : (sutD nm D).rt = D.rt := rfl
theorem wOrd_s {c : Nat} : wOrd (.str [c]) S Q = Q (.int (c : Int)) S := rfl
theorem pair0 : pairUp [] = some ([], []) := rfl
theorem pair_i {v : W} : pairUp (.int i :: v :: ws) = (pairUp ws).map fun p => (.inl i :: p.1, v :: p.2) := rfl
theorem strs0 : strsOf [] = some [] := rfl
theorem strs1 {z : List Nat} : strsOf (.str z :: ws) = (strsOf ws).map (z :: ·) := rfl
theorem wBin_mul_i : wBin (.mul fz) (.int i) y S Q = (wInts (.int i) y fun i j => (L2.CMul i j ∨ L2.CMulW i j) ∧ Q (.int (i * j)) S) := rfl
theorem wBin_mul_t : wBin (.mul fz) (.tup ws) (.int i) S Q = (ws ≠ [] ∧ 0 ≤ i ∧ i ≤ 1000 ∧ ws.length ≤ 1000 ∧ Q (.tup (List.replicate i.toNat ws).flatten) S) := rfl
theorem wCmp_eq : wCmp .eq x y S Q = (wEq false x y S Q) := rfl
theorem wCmp_ne : wCmp .ne x y S Q = (wEq true x y S Q) := rfl
theorem wCmp_lt : wCmp .lt x y S Q = (wInts x y fun i j => Q (.bl (decide (i < j))) S) := rfl
theorem wCmp_le : wCmp .le x y S Q = (wInts x y fun i j => Q (.bl (decide (i ≤ j))) S) := rfl
theorem wCmp_gt : wCmp .gt x y S Q = (wInts x y fun i j => Q (.bl (decide (j < i))) S) := rfl
theorem wCmp_ge : wCmp .ge x y S Q = (wInts x y fun i j => Q (.bl (decide (j ≤ i))) S) := rfl
theorem wCmp_isin : wCmp .isin x y S Q = (wIn false x y S Q) := rfl
theorem wCmp_notin : wCmp .notin x y S Q = (wIn true x y S Q) := rfl
theorem wBi_len : wBi (.len) [x] S Q = (wLen x S Q) := rfl
theorem wBi_int1 : wBi (.int1) [x] S Q = (wIntOf x S Q) := rfl
theorem wBi_max2 : wBi (.max2) [.int i, .int j] S Q = (Q (.int (max i j)) S) := rfl
theorem wBi_max3 : wBi (.max3) [.int i, .int j, .int l] S Q = (Q (.int (max (max i j) l)) S) := rfl
theorem wBi_min2 : wBi (.min2) [.int i, .int j] S Q = (Q (.int (min i j)) S) := rfl
theorem wBi_abs : wBi (.abs) [.int i] S Q = (Q (.int (if i < 0 then -i else i)) S) := rfl
theorem wBi_maxd : wBi (.maxd) ws S Q = (wMaxd ws S Q) := rfl
theorem wBi_tuple1 : wBi (.tuple1) [x] S Q = (wSome (seqOf S x) fun us => Q (.tup us) S) := rfl
theorem wBi_list1 : wBi (.list1 fz) [x] S Q = (wSome (seqOf S x) fun us => mkL fz us S Q) := rfl
theorem wBi_listrev : wBi (.listrev fz) [x] S Q = (wSome (walkL S x) fun p => mkL fz p.1.reverse S Q) := rfl
theorem wBi_all1 : wBi (.all1) [x] S Q = (wSome ((lstOf S x).bind blsOf) fun bs => Q (.bl (bs.all id)) S) := rfl
theorem wBi_any1 : wBi (.any1) [x] S Q = (wSome ((lstOf S x).bind blsOf) fun bs => Q (.bl (bs.any id)) S) := rfl
theorem wBi_sum1 : wBi (.sum1) [x] S Q = (wSome ((lstOf S x).bind intsOf) fun ns => Q (.int ns.sum) S) := rfl
theorem wBi_ord1 : wBi (.ord1) [x] S Q = (wOrd x S Q) := rfl
theorem wBi_lenset : wBi (.lenset) [x] S Q = (wSome ((lstOf S x).bind intsOf) fun ns => ns.Nodup ∧ ns.length ≤ 4000 ∧ Q (.int (ns.length : Nat)) S) := rfl
theorem wBi_dict1 : wBi (.dict1) [x] S Q = (wSome (dicOf S x) fun p => ∀ a, S a = none → Q (.ref a) (S.set a (.dic p.1 p.2))) := rfl
theorem wBi_max1 : wBi (.max1) [x] S Q = (wSome ((lstOf S x).bind intsOf) fun ns => 0 < ns.length ∧ Q (.int (maxL ns)) S) := rfl
theorem it_seq : itemsOf .seq [x] S = walkOf S x := rfl
theorem it_rng1 : itemsOf .rng1 [.int i] S = if fits i = true then some (rngW 0 i.toNat, []) else none := rfl
theorem it_rng2 : itemsOf .rng2 [.int i, .int j] S = if (fits i && fits j) = true then some (rngW i (j - i).toNat, []) else none := rfl
theorem it_enum : itemsOf .enum [x] S = (walkL S x).map fun p => (enumW 0 p.1, p.2) := rfl
theorem it_rev : itemsOf .rev [x] S = (walkL S x).map fun p => (p.1.reverse, p.2) := rfl
theorem it_zipT : itemsOf .zip [.tup ws, .tup us] S = some (zipW ws us, []) := rfl
theorem wipe0 {env : Env} : wipeE env [] = env := rfl
theorem wipe1 {env : Env} {v : Nat} {vs : List Nat} : wipeE env (v :: vs) = (wipeE env vs).set v none := rfl
theorem bt_nm {k : Nat} {w : W} {env : Env} : bindTg (.nm k) w env = some (env.set k (some w)) := rfl
theorem bt_pr {is : List Nat} {env : Env} : bindTg (.pr is) (.tup ws) env = bindIs is ws env := rfl
theorem bt_prl {is : List Nat} {env : Env} : bindTg (.pr is) (.rl ws) env = bindIs is ws env := rfl
theorem bi0 {env : Env} : bindIs [] [] env = some env := rfl
theorem bi1 {k : Nat} {is : List Nat} {w : W} {env : Env} : bindIs (k :: is) (w :: ws) env = bindIs is ws (env.set k (some w)) := rfl
theorem fits_of {i : Int} (h0 : -1000000000 ≤ i) (h : i ≤ 1000000000) : fits i = true := decide_eq_true ⟨by omega, by omega⟩
theorem sz0 : (0 ≤ sizeLine) = True := eq_true (by decide)
theorem sz1 : (1 ≤ sizeLine) = True := eq_true (by decide)
theorem sz2 : (2 ≤ sizeLine) = True := eq_true (by decide)
theorem sz3 : (3 ≤ sizeLine) = True := eq_true (by decide)
theorem sz4 : (4 ≤ sizeLine) = True := eq_true (by decide)
theorem sz5 : (5 ≤ sizeLine) = True := eq_true (by decide)
theorem sz6 : (6 ≤ sizeLine) = True := eq_true (by decide)
theorem sz7 : (7 ≤ sizeLine) = True := eq_true (by decide)
theorem sz8 : (8 ≤ sizeLine) = True := eq_true (by decide)
theorem sz9 : (9 ≤ sizeLine) = True := eq_true (by decide)
theorem sz10 : (10 ≤ sizeLine) = True := eq_true (by decide)
theorem sz11 : (11 ≤ sizeLine) = True := eq_true (by decide)
theorem sz12 : (12 ≤ sizeLine) = True := eq_true (by decide)
theorem isi_dict_dct {ks : List Ky} : isiW .dict S (.dct ks ws) = some true := rfl
theorem isi_tuple_dct {ks : List Ky} : isiW .tuple S (.dct ks ws) = some false := rfl
theorem isi_int_non  : isiW .int S .non = some false := rfl
theorem isi_bool_non  : isiW .bool S .non = some false := rfl
theorem isi_str_non  : isiW .str S .non = some false := rfl
theorem isi_tuple_non  : isiW .tuple S .non = some false := rfl
theorem isi_list_non  : isiW .list S .non = some false := rfl
theorem isi_dict_non  : isiW .dict S .non = some false := rfl
theorem isi_int_bl {b : Bool} : isiW .int S (.bl b) = some true := rfl
theorem isi_bool_bl {b : Bool} : isiW .bool S (.bl b) = some true := rfl
theorem isi_str_bl {b : Bool} : isiW .str S (.bl b) = some false := rfl
theorem isi_tuple_bl {b : Bool} : isiW .tuple S (.bl b) = some false := rfl
theorem isi_list_bl {b : Bool} : isiW .list S (.bl b) = some false := rfl
theorem isi_dict_bl {b : Bool} : isiW .dict S (.bl b) = some false := rfl
theorem isi_int_int  : isiW .int S (.int i) = some true := rfl
theorem isi_bool_int  : isiW .bool S (.int i) = some false := rfl
theorem isi_str_int  : isiW .str S (.int i) = some false := rfl
theorem isi_tuple_int  : isiW .tuple S (.int i) = some false := rfl
theorem isi_list_int  : isiW .list S (.int i) = some false := rfl
theorem isi_dict_int  : isiW .dict S (.int i) = some false := rfl
theorem isi_int_str {z : List Nat} : isiW .int S (.str z) = some false := rfl
theorem isi_bool_str {z : List Nat} : isiW .bool S (.str z) = some false := rfl
theorem isi_str_str {z : List Nat} : isiW .str S (.str z) = some true := rfl
theorem isi_tuple_str {z : List Nat} : isiW .tuple S (.str z) = some false := rfl
theorem isi_list_str {z : List Nat} : isiW .list S (.str z) = some false := rfl
theorem isi_dict_str {z : List Nat} : isiW .dict S (.str z) = some false := rfl
theorem isi_int_tup  : isiW .int S (.tup ws) = some false := rfl
theorem isi_bool_tup  : isiW .bool S (.tup ws) = some false := rfl
theorem isi_str_tup  : isiW .str S (.tup ws) = some false := rfl
theorem isi_tuple_tup  : isiW .tuple S (.tup ws) = some true := rfl
theorem isi_list_tup  : isiW .list S (.tup ws) = some false := rfl
theorem isi_dict_tup  : isiW .dict S (.tup ws) = some false := rfl
theorem isi_int_rl  : isiW .int S (.rl ws) = some false := rfl
theorem isi_bool_rl  : isiW .bool S (.rl ws) = some false := rfl
theorem isi_str_rl  : isiW .str S (.rl ws) = some false := rfl
theorem isi_tuple_rl  : isiW .tuple S (.rl ws) = some false := rfl
theorem isi_list_rl  : isiW .list S (.rl ws) = some true := rfl
theorem isi_dict_rl  : isiW .dict S (.rl ws) = some false := rfl
theorem isi_int_sc  : isiW .int S (.sc ws) = some false := rfl
theorem isi_bool_sc  : isiW .bool S (.sc ws) = some false := rfl
theorem isi_str_sc  : isiW .str S (.sc ws) = some false := rfl
theorem isi_tuple_sc  : isiW .tuple S (.sc ws) = some false := rfl
theorem isi_list_sc  : isiW .list S (.sc ws) = some true := rfl
theorem isi_dict_sc  : isiW .dict S (.sc ws) = some false := rfl
end
end Bw

namespace Bw
/-- kinds_in -/
def d0 : FD := ⟨1, 1, [.ret (.bi (.list1 false) [(.sl true (.var 0) [(.cst (.int 1))] [])])]⟩
/-- with_kinds -/
def d1 : FD := ⟨2, 2, [.ret (.bin (.add false) (.sl true (.var 0) [] [(.cst (.int 1))]) (.bi .tuple1 [(.var 1)]))]⟩
/-- ground -/
def d2 : FD := ⟨1, 2, [.ret (.call 1 [(.var 0), (.comp true (.nm 1) .seq [(.sl true (.var 0) [(.cst (.int 1))] [])] [] (.cst (.tup [.str [63]])) [1])])]⟩
/-- other_side -/
def d3 : FD := ⟨1, 1, [.ite (.cmp .eq (.var 0) (.cst (.str [105, 110]))) [.ret (.cst (.str [111, 117, 116]))] [], .ret (.cst (.str [105, 110]))]⟩
/-- _law_cell_at -/
def d8 : FD := ⟨2, 2, [.ite (.cmp .lt (.var 1) (.bi .len [(.var 0)])) [.ret (.idx (.var 0) (.var 1))] [], .ret (.cst (.int 0))]⟩
/-- depth -/
def d11 : FD := ⟨1, 2, [.ret (.bin (.add false) (.cst (.int 1)) (.bi .maxd [(.comp true (.nm 1) .seq [(.sl true (.var 0) [(.cst (.int 1))] [])] [] (.call 11 [(.var 1)]) [1]), (.cst (.int 0))]))]⟩
/-- join -/
def d21 : FD := ⟨2, 4, [.ite (.cmp .ne (.idx (.var 0) (.cst (.int 0))) (.idx (.var 1) (.cst (.int 0)))) [.ret (.cst (.tup [.str [63]]))] [], .ret (.call 1 [(.var 0), (.comp true (.pr [2, 3]) .zip [(.sl true (.var 0) [(.cst (.int 1))] []), (.sl true (.var 1) [(.cst (.int 1))] [])] [] (.call 21 [(.var 2), (.var 3)]) [2, 3])])]⟩
/-- steps_of -/
def d68 : FD := ⟨1, 1, [.ite (.cmp .eq (.idx (.var 0) (.cst (.int 0))) (.cst (.str [116, 111]))) [.ret (.lst false [(.cst (.str [97, 114, 103])), (.cst (.str [114, 101, 115]))])] [], .ite (.cmp .eq (.idx (.var 0) (.cst (.int 0))) (.cst (.str [112, 97, 105, 114]))) [.ret (.lst false [(.cst (.str [111, 110, 101])), (.cst (.str [116, 119, 111]))])] [], .ite (.cmp .eq (.idx (.var 0) (.cst (.int 0))) (.cst (.str [114, 111, 119]))) [.ret (.lst false [(.cst (.str [105, 116, 101, 109]))])] [], .ret (.lst false [])]⟩
/-- parting -/
def d69 : FD := ⟨2, 5, [.ite (.or [(.cmp .eq (.var 0) (.cst (.tup [.str [63]]))), (.cmp .eq (.var 1) (.cst (.tup [.str [63]])))]) [.ret (.cst (.non))] [], .ite (.cmp .ne (.idx (.var 0) (.cst (.int 0))) (.idx (.var 1) (.cst (.int 0)))) [.ret (.tup [])] [], .for (.pr [2, 3]) .enum [(.call 68 [(.var 0)])] [.asg 4 (.call 69 [(.idx (.var 0) (.bin (.add true) (.cst (.int 1)) (.var 2))), (.idx (.var 1) (.bin (.add true) (.cst (.int 1)) (.var 2)))]), .ite (.isN true (.var 4)) [.ret (.bin (.add false) (.tup [(.var 3)]) (.var 4))] []], .ret (.cst (.non))]⟩
/-- same -/
def d70 : FD := ⟨2, 2, [.ret (.isN false (.call 69 [(.var 0), (.var 1)]))]⟩
/-- parts -/
def d87 : FD := ⟨1, 1, [.ite (.cmp .eq (.idx (.var 0) (.cst (.int 0))) (.cst (.str [114, 111, 119]))) [.ret (.bi (.list1 false) [(.idx (.var 0) (.cst (.int 3)))])] [], .ret (.bi (.list1 false) [(.sl true (.var 0) [(.tab [([119, 104, 111, 108, 101], .int 3), ([116, 114, 117, 116, 104], .int 3), ([103, 105, 118, 101, 110], .int 3), ([110, 97, 109, 101], .int 3), ([102, 110], .int 4), ([115, 101, 108, 102], .int 6), ([99, 97, 108, 108], .int 2), ([108, 101, 116], .int 3), ([105, 102], .int 2), ([100, 111], .int 3), ([97, 116], .int 2), ([115, 105, 122, 101], .int 2), ([112, 97, 105, 114], .int 2), ([111, 110, 101], .int 2), ([116, 119, 111], .int 2), ([97, 115], .int 3), ([108, 111, 111, 107], .int 4)] (.idx (.var 0) (.cst (.int 0))))] [])])]⟩
/-- with_parts -/
def d88 : FD := ⟨2, 2, [.ite (.cmp .eq (.idx (.var 0) (.cst (.int 0))) (.cst (.str [114, 111, 119]))) [.ret (.bin (.add false) (.sl true (.var 0) [] [(.cst (.int 3))]) (.tup [(.bi .tuple1 [(.var 1)])]))] [], .ret (.bin (.add false) (.sl true (.var 0) [] [(.tab [([119, 104, 111, 108, 101], .int 3), ([116, 114, 117, 116, 104], .int 3), ([103, 105, 118, 101, 110], .int 3), ([110, 97, 109, 101], .int 3), ([102, 110], .int 4), ([115, 101, 108, 102], .int 6), ([99, 97, 108, 108], .int 2), ([108, 101, 116], .int 3), ([105, 102], .int 2), ([100, 111], .int 3), ([97, 116], .int 2), ([115, 105, 122, 101], .int 2), ([112, 97, 105, 114], .int 2), ([111, 110, 101], .int 2), ([116, 119, 111], .int 2), ([97, 115], .int 3), ([108, 111, 111, 107], .int 4)] (.idx (.var 0) (.cst (.int 0))))]) (.bi .tuple1 [(.var 1)]))]⟩
/-- written -/
def d89 : FD := ⟨1, 1, [.ite (.cmp .eq (.idx (.var 0) (.cst (.int 0))) (.cst (.str [102, 110]))) [.ret (.lst false [(.idx (.var 0) (.cst (.int 3)))])] [], .ite (.cmp .eq (.idx (.var 0) (.cst (.int 0))) (.cst (.str [115, 101, 108, 102]))) [.ret (.lst false [(.idx (.var 0) (.cst (.int 4))), (.idx (.var 0) (.cst (.int 5)))])] [], .ite (.or [(.cmp .eq (.idx (.var 0) (.cst (.int 0))) (.cst (.str [114, 111, 119]))), (.cmp .eq (.idx (.var 0) (.cst (.int 0))) (.cst (.str [97, 115])))]) [.ret (.lst false [(.idx (.var 0) (.cst (.int 2)))])] [], .ret (.lst false [])]⟩
/-- places -/
def d91 : FD := ⟨1, 3, [.asg 1 (.lst false [(.idx (.var 0) (.cst (.int 1)))]), .for (.nm 2) .seq [(.call 87 [(.var 0)])] [.ex (.ext (.var 1) (.call 91 [(.var 2)]))], .ret (.var 1)]⟩
/-- names_within -/
def d139 : FD := ⟨3, 3, [.ite (.or [(.cmp .eq (.idx (.var 0) (.cst (.int 0))) (.cst (.str [102, 110]))), (.and [(.cmp .eq (.idx (.var 0) (.cst (.int 0))) (.cst (.str [108, 101, 116]))), (.cmp .eq (.var 1) (.cst (.int 1)))])]) [.ret (.bin (.add false) (.var 2) (.lst true [(.idx (.var 0) (.cst (.int 2)))]))] [], .ite (.cmp .eq (.idx (.var 0) (.cst (.int 0))) (.cst (.str [115, 101, 108, 102]))) [.ret (.bin (.add false) (.var 2) (.lst true [(.idx (.var 0) (.cst (.int 2))), (.idx (.var 0) (.cst (.int 3)))]))] [], .ret (.var 2)]⟩
/-- free_name -/
def d140 : FD := ⟨2, 5, [.ite (.and [(.cmp .eq (.idx (.var 0) (.cst (.int 0))) (.cst (.str [110, 97, 109, 101]))), (.cmp .notin (.idx (.var 0) (.cst (.int 2))) (.var 1))]) [.ret (.idx (.var 0) (.cst (.int 1)))] [], .for (.pr [2, 3]) .enum [(.call 87 [(.var 0)])] [.asg 4 (.call 140 [(.var 3), (.call 139 [(.var 0), (.var 2), (.var 1)])]), .ite (.isN true (.var 4)) [.ret (.var 4)] []], .ret (.cst (.non))]⟩
/-- need_names -/
def d141 : FD := ⟨1, 2, [.asg 1 (.call 140 [(.var 0), (.lst true [])]), .ite (.isN true (.var 1)) [.rse 4 [[112, 108, 97, 99, 101]] [(.var 1)]] []]⟩
/-- need_shallow -/
def d155 : FD := ⟨2, 2, [.ite (.cmp .gt (.call 11 [(.var 0)]) (.cst (.int 4))) [.rse 5 [[112, 108, 97, 99, 101]] [(.var 1)]] []]⟩
/-- bound -/
def d156 : FD := ⟨3, 4, [.asg 3 (.bi .dict1 [(.var 0)]), .setIx (.var 3) (.var 1) (.var 2), .ret (.var 3)]⟩
/-- Looker.__init__ -/
def d157 : FD := ⟨1, 1, [.fldS [9] (.var 0) [102, 111, 117, 110, 100] .dnew, .fldS [9] (.var 0) [119, 97, 110, 116, 101, 100] .dnew]⟩
/-- Looker.hold -/
def d158 : FD := ⟨4, 5, [.asg 4 (.idx (.fld [] (.var 0) [102, 111, 117, 110, 100]) (.idx (.var 1) (.cst (.int 1)))), .ite (.not (.call 70 [(.var 4), (.var 2)])) [.rse 8 [[112, 108, 97, 99, 101], [107, 105, 110, 100], [98, 121], [119, 97, 110, 116, 101, 100], [119, 97, 121]] [(.idx (.var 1) (.cst (.int 1))), (.var 4), (.var 3), (.var 2), (.call 69 [(.var 4), (.var 2)])]] [], .setIx (.fld [] (.var 0) [119, 97, 110, 116, 101, 100]) (.idx (.var 1) (.cst (.int 1))) (.var 2)]⟩
/-- Looker.look -/
def d159 : FD := ⟨3, 4, [.for (.nm 3) .seq [(.call 89 [(.var 1)])] [.ex (.call 155 [(.var 3), (.idx (.var 1) (.cst (.int 1)))])], .asg 3 (.meth [(9, 162)] [98, 121, 95, 119, 111, 114, 100] (.var 0) [(.var 1), (.var 2)]), .ex (.call 155 [(.var 3), (.idx (.var 1) (.cst (.int 1)))]), .setIx (.fld [] (.var 0) [102, 111, 117, 110, 100]) (.idx (.var 1) (.cst (.int 1))) (.var 3), .setIx (.fld [] (.var 0) [119, 97, 110, 116, 101, 100]) (.idx (.var 1) (.cst (.int 1))) (.var 3), .ret (.var 3)]⟩
/-- Looker.held -/
def d160 : FD := ⟨5, 5, [.ex (.meth [(9, 159)] [108, 111, 111, 107] (.var 0) [(.var 1), (.var 4)]), .ex (.meth [(9, 158)] [104, 111, 108, 100] (.var 0) [(.var 1), (.var 2), (.var 3)])]⟩
/-- Looker.shaped -/
def d161 : FD := ⟨5, 6, [.asg 5 (.meth [(9, 159)] [108, 111, 111, 107] (.var 0) [(.var 1), (.var 4)]), .ite (.cmp .eq (.idx (.var 5) (.cst (.int 0))) (.idx (.var 2) (.cst (.int 0)))) [.ret (.var 5)] [], .ex (.meth [(9, 158)] [104, 111, 108, 100] (.var 0) [(.var 1), (.var 2), (.var 3)]), .ret (.var 2)]⟩
/-- Looker.by_word -/
def d162 : FD := ⟨3, 5, [.asg 3 (.idx (.var 1) (.cst (.int 0))), .ite (.or [(.cmp .eq (.var 3) (.cst (.str [119, 104, 111, 108, 101]))), (.cmp .eq (.var 3) (.cst (.str [103, 105, 118, 101, 110])))]) [.ret (.cst (.tup [.str [119, 104, 111, 108, 101]]))] [], .ite (.cmp .eq (.var 3) (.cst (.str [116, 114, 117, 116, 104]))) [.ret (.cst (.tup [.str [116, 114, 117, 116, 104]]))] [], .ite (.cmp .eq (.var 3) (.cst (.str [110, 97, 109, 101]))) [.ret (.idx (.var 2) (.idx (.var 1) (.cst (.int 2))))] [], .ite (.or [(.cmp .eq (.var 3) (.cst (.str [102, 110]))), (.cmp .eq (.var 3) (.cst (.str [115, 101, 108, 102]))), (.cmp .eq (.var 3) (.cst (.str [108, 101, 116])))]) [.ret (.meth [(9, 163)] [98, 105, 110, 100, 105, 110, 103] (.var 0) [(.var 1), (.var 2)])] [], .ite (.cmp .eq (.var 3) (.cst (.str [105, 102]))) [.ret (.meth [(9, 164)] [102, 111, 114, 107, 101, 100] (.var 0) [(.var 1), (.var 2)])] [], .ite (.cmp .eq (.var 3) (.cst (.str [99, 97, 108, 108]))) [.asg 4 (.meth [(9, 161)] [115, 104, 97, 112, 101, 100] (.var 0) [(.idx (.var 1) (.cst (.int 2))), (.cst (.tup [.str [116, 111], .tup [.str [63]], .tup [.str [63]]])), (.idx (.var 1) (.cst (.int 1))), (.var 2)]), .ex (.meth [(9, 160)] [104, 101, 108, 100] (.var 0) [(.idx (.var 1) (.cst (.int 3))), (.idx (.var 4) (.cst (.int 1))), (.idx (.var 1) (.cst (.int 1))), (.var 2)]), .ret (.idx (.var 4) (.cst (.int 2)))] [], .ite (.or [(.cmp .eq (.var 3) (.cst (.str [97, 116]))), (.cmp .eq (.var 3) (.cst (.str [115, 105, 122, 101]))), (.cmp .eq (.var 3) (.cst (.str [111, 110, 101]))), (.cmp .eq (.var 3) (.cst (.str [116, 119, 111])))]) [.ret (.meth [(9, 165)] [114, 101, 97, 100, 105, 110, 103] (.var 0) [(.var 1), (.var 2)])] [], .ret (.meth [(9, 166)] [109, 97, 107, 105, 110, 103] (.var 0) [(.var 1), (.var 2)])]⟩
/-- Looker.binding -/
def d163 : FD := ⟨3, 6, [.ite (.cmp .eq (.idx (.var 1) (.cst (.int 0))) (.cst (.str [102, 110]))) [.ret (.tup [(.cst (.str [116, 111])), (.idx (.var 1) (.cst (.int 3))), (.meth [(9, 159)] [108, 111, 111, 107] (.var 0) [(.idx (.var 1) (.cst (.int 4))), (.call 156 [(.var 2), (.idx (.var 1) (.cst (.int 2))), (.idx (.var 1) (.cst (.int 3)))])])])] [], .ite (.cmp .eq (.idx (.var 1) (.cst (.int 0))) (.cst (.str [108, 101, 116]))) [.asg 5 (.meth [(9, 159)] [108, 111, 111, 107] (.var 0) [(.idx (.var 1) (.cst (.int 3))), (.var 2)]), .ret (.meth [(9, 159)] [108, 111, 111, 107] (.var 0) [(.idx (.var 1) (.cst (.int 4))), (.call 156 [(.var 2), (.idx (.var 1) (.cst (.int 2))), (.var 5)])])] [], .asg 3 (.tup [(.cst (.str [116, 111])), (.idx (.var 1) (.cst (.int 4))), (.idx (.var 1) (.cst (.int 5)))]), .asg 4 (.call 156 [(.call 156 [(.var 2), (.idx (.var 1) (.cst (.int 2))), (.var 3)]), (.idx (.var 1) (.cst (.int 3))), (.idx (.var 1) (.cst (.int 4)))]), .ex (.meth [(9, 160)] [104, 101, 108, 100] (.var 0) [(.idx (.var 1) (.cst (.int 6))), (.idx (.var 1) (.cst (.int 5))), (.idx (.var 1) (.cst (.int 1))), (.var 4)]), .ret (.var 3)]⟩
/-- Looker.forked -/
def d164 : FD := ⟨3, 6, [.ex (.meth [(9, 160)] [104, 101, 108, 100] (.var 0) [(.idx (.var 1) (.cst (.int 2))), (.cst (.tup [.str [116, 114, 117, 116, 104]])), (.idx (.var 1) (.cst (.int 1))), (.var 2)]), .asg 3 (.meth [(9, 159)] [108, 111, 111, 107] (.var 0) [(.idx (.var 1) (.cst (.int 3))), (.var 2)]), .asg 4 (.meth [(9, 159)] [108, 111, 111, 107] (.var 0) [(.idx (.var 1) (.cst (.int 4))), (.var 2)]), .ite (.not (.call 70 [(.var 3), (.var 4)])) [.rse 8 [[112, 108, 97, 99, 101], [107, 105, 110, 100], [98, 121], [119, 97, 110, 116, 101, 100], [119, 97, 121]] [(.idx (.idx (.var 1) (.cst (.int 4))) (.cst (.int 1))), (.var 4), (.idx (.idx (.var 1) (.cst (.int 3))) (.cst (.int 1))), (.var 3), (.call 69 [(.var 4), (.var 3)])]] [], .asg 5 (.call 21 [(.var 3), (.var 4)]), .setIx (.fld [] (.var 0) [119, 97, 110, 116, 101, 100]) (.idx (.idx (.var 1) (.cst (.int 3))) (.cst (.int 1))) (.var 5), .setIx (.fld [] (.var 0) [119, 97, 110, 116, 101, 100]) (.idx (.idx (.var 1) (.cst (.int 4))) (.cst (.int 1))) (.var 5), .ret (.var 5)]⟩
/-- Looker.reading -/
def d165 : FD := ⟨3, 4, [.ite (.cmp .eq (.idx (.var 1) (.cst (.int 0))) (.cst (.str [111, 110, 101]))) [.ret (.idx (.meth [(9, 161)] [115, 104, 97, 112, 101, 100] (.var 0) [(.idx (.var 1) (.cst (.int 2))), (.cst (.tup [.str [112, 97, 105, 114], .tup [.str [63]], .tup [.str [63]]])), (.idx (.var 1) (.cst (.int 1))), (.var 2)]) (.cst (.int 1)))] [], .ite (.cmp .eq (.idx (.var 1) (.cst (.int 0))) (.cst (.str [116, 119, 111]))) [.ret (.idx (.meth [(9, 161)] [115, 104, 97, 112, 101, 100] (.var 0) [(.idx (.var 1) (.cst (.int 2))), (.cst (.tup [.str [112, 97, 105, 114], .tup [.str [63]], .tup [.str [63]]])), (.idx (.var 1) (.cst (.int 1))), (.var 2)]) (.cst (.int 2)))] [], .asg 3 (.meth [(9, 161)] [115, 104, 97, 112, 101, 100] (.var 0) [(.idx (.var 1) (.cst (.int 2))), (.cst (.tup [.str [114, 111, 119], .tup [.str [63]]])), (.idx (.var 1) (.cst (.int 1))), (.var 2)]), .ite (.cmp .eq (.idx (.var 1) (.cst (.int 0))) (.cst (.str [115, 105, 122, 101]))) [.ret (.cst (.tup [.str [119, 104, 111, 108, 101]]))] [], .ex (.meth [(9, 160)] [104, 101, 108, 100] (.var 0) [(.idx (.var 1) (.cst (.int 3))), (.cst (.tup [.str [119, 104, 111, 108, 101]])), (.idx (.var 1) (.cst (.int 1))), (.var 2)]), .ret (.idx (.var 3) (.cst (.int 1)))]⟩
/-- Looker.making -/
def d166 : FD := ⟨3, 5, [.ite (.cmp .eq (.idx (.var 1) (.cst (.int 0))) (.cst (.str [100, 111]))) [.ex (.meth [(9, 160)] [104, 101, 108, 100] (.var 0) [(.idx (.var 1) (.cst (.int 3))), (.cst (.tup [.str [119, 104, 111, 108, 101]])), (.idx (.var 1) (.cst (.int 1))), (.var 2)]), .ex (.meth [(9, 160)] [104, 101, 108, 100] (.var 0) [(.idx (.var 1) (.cst (.int 4))), (.cst (.tup [.str [119, 104, 111, 108, 101]])), (.idx (.var 1) (.cst (.int 1))), (.var 2)]), .ite (.or [(.cmp .eq (.idx (.var 1) (.cst (.int 2))) (.cst (.str [60]))), (.cmp .eq (.idx (.var 1) (.cst (.int 2))) (.cst (.str [61])))]) [.ret (.cst (.tup [.str [116, 114, 117, 116, 104]]))] [], .ret (.cst (.tup [.str [119, 104, 111, 108, 101]]))] [], .ite (.cmp .eq (.idx (.var 1) (.cst (.int 0))) (.cst (.str [114, 111, 119]))) [.for (.nm 3) .seq [(.idx (.var 1) (.cst (.int 3)))] [.ex (.meth [(9, 160)] [104, 101, 108, 100] (.var 0) [(.var 3), (.idx (.var 1) (.cst (.int 2))), (.idx (.var 1) (.cst (.int 1))), (.var 2)])], .ret (.tup [(.cst (.str [114, 111, 119])), (.idx (.var 1) (.cst (.int 2)))])] [], .ite (.cmp .eq (.idx (.var 1) (.cst (.int 0))) (.cst (.str [112, 97, 105, 114]))) [.asg 4 (.meth [(9, 159)] [108, 111, 111, 107] (.var 0) [(.idx (.var 1) (.cst (.int 2))), (.var 2)]), .ret (.tup [(.cst (.str [112, 97, 105, 114])), (.var 4), (.meth [(9, 159)] [108, 111, 111, 107] (.var 0) [(.idx (.var 1) (.cst (.int 3))), (.var 2)])])] [], .ex (.meth [(9, 160)] [104, 101, 108, 100] (.var 0) [(.idx (.var 1) (.cst (.int 3))), (.idx (.var 1) (.cst (.int 2))), (.idx (.var 1) (.cst (.int 1))), (.var 2)]), .ret (.idx (.var 1) (.cst (.int 2)))]⟩
/-- looked -/
def d167 : FD := ⟨1, 2, [.ex (.call 141 [(.var 0)]), .asg 1 (.mk 9 157 []), .ex (.meth [(9, 159)] [108, 111, 111, 107] (.var 1) [(.var 0), (.fzv .dnew)]), .ret (.tup [(.fld [] (.var 1) [102, 111, 117, 110, 100]), (.fld [] (.var 1) [119, 97, 110, 116, 101, 100])])]⟩
/-- _law_steps -/
def d170 : FD := ⟨1, 1, [.ite (.cmp .eq (.var 0) (.cst (.str [116, 111]))) [.ret (.lst false [(.cst (.str [97, 114, 103])), (.cst (.str [114, 101, 115]))])] [], .ite (.cmp .eq (.var 0) (.cst (.str [114, 111, 119]))) [.ret (.lst false [(.cst (.str [105, 116, 101, 109]))])] [], .ret (.lst false [(.cst (.str [111, 110, 101])), (.cst (.str [116, 119, 111]))])]⟩
/-- _law_parting -/
def d171 : FD := ⟨2, 4, [.ite (.or [(.cmp .eq (.idx (.var 0) (.cst (.int 0))) (.cst (.str [63]))), (.cmp .eq (.idx (.var 1) (.cst (.int 0))) (.cst (.str [63])))]) [.ret (.cst (.non))] [], .ite (.cmp .ne (.idx (.var 0) (.cst (.int 0))) (.idx (.var 1) (.cst (.int 0)))) [.ret (.tup [])] [], .for (.nm 2) .rng2 [(.cst (.int 1)), (.bi .len [(.var 0)])] [.asg 3 (.call 171 [(.idx (.var 0) (.var 2)), (.idx (.var 1) (.var 2))]), .ite (.isN true (.var 3)) [.ret (.bin (.add false) (.tup [(.idx (.call 170 [(.idx (.var 0) (.cst (.int 0)))]) (.bin .sub (.var 2) (.cst (.int 1))))]) (.var 3))] []], .ret (.cst (.non))]⟩
/-- _law_words -/
def d176 : FD := ⟨1, 8, [.asg 1 (.cst (.str [97, 98, 99, 100, 101, 102, 103, 104, 105, 106, 107, 108, 109, 110, 111, 112, 113, 114, 115, 116, 117, 118, 119, 120, 121, 122])), .asg 2 (.comp true (.nm 5) .rng1 [(.bin (.add true) (.cst (.int 1)) (.bin .mod (.var 0) (.cst (.int 8))))] [] (.bin .mod (.bin (.add true) (.bin .fdiv (.var 0) (.bin (.add true) (.var 5) (.cst (.int 1)))) (.bin (.mul true) (.var 5) (.var 5))) (.cst (.int 26))) [5]), .asg 3 (.bin .mod (.bin .fdiv (.var 0) (.cst (.int 8))) (.bi .len [(.var 2)])), .asg 4 (.lst false []), .for (.nm 5) .rng1 [(.cst (.int 5))] [.asg 6 (.cst (.str [])), .for (.nm 7) .rng1 [(.bi .len [(.var 2)])] [.asg 6 (.bin (.add true) (.var 6) (.idx (.var 1) (.bin .mod (.bin (.add true) (.idx (.var 2) (.var 7)) (.bin (.mul true) (.bin (.mul true) (.cst (.int 5)) (.var 5)) (.bi .int1 [(.cmp .eq (.var 7) (.var 3))]))) (.cst (.int 26)))))], .ite (.or [(.cmp .eq (.var 6) (.cst (.str [121, 101, 115]))), (.cmp .eq (.var 6) (.cst (.str [110, 111])))]) [.asg 6 (.bin (.add true) (.var 6) (.cst (.str [120])))] [], .ex (.app (.var 4) (.var 6))], .ret (.var 4)]⟩
/-- _law_next -/
def d177 : FD := ⟨1, 1, [.setIx (.var 0) (.cst (.int 1)) (.bin (.add true) (.idx (.var 0) (.cst (.int 1))) (.cst (.int 1))), .ite (.or [(.cmp .gt (.idx (.var 0) (.cst (.int 3))) (.cst (.int 20))), (.cmp .ge (.idx (.var 0) (.cst (.int 1))) (.bi .len [(.idx (.var 0) (.cst (.int 0)))]))]) [.ret (.cst (.int 3))] [], .ret (.bin .mod (.bin (.add true) (.bin (.mul true) (.idx (.idx (.var 0) (.cst (.int 0))) (.idx (.var 0) (.cst (.int 1)))) (.cst (.int 6364136223846793005))) (.bin (.mul true) (.cst (.int 7919)) (.idx (.var 0) (.cst (.int 1))))) (.cst (.int 1000000000039)))]⟩
/-- _law_place -/
def d178 : FD := ⟨1, 1, [.setIx (.var 0) (.cst (.int 3)) (.bin (.add true) (.idx (.var 0) (.cst (.int 3))) (.cst (.int 1))), .ret (.bin .mod (.bin (.add true) (.idx (.var 0) (.cst (.int 2))) (.bin (.mul true) (.cst (.int 379)) (.idx (.var 0) (.cst (.int 3))))) (.cst (.int 997)))]⟩
/-- _law_leaf -/
def d180 : FD := ⟨3, 4, [.asg 3 (.call 178 [(.var 0)]), .ite (.and [(.cmp .gt (.bi .len [(.var 1)]) (.cst (.int 0))), (.cmp .eq (.bin .mod (.var 2) (.cst (.int 2))) (.cst (.int 0)))]) [.ret (.tup [(.cst (.str [110, 97, 109, 101])), (.var 3), (.idx (.var 1) (.bin .mod (.bin .fdiv (.var 2) (.cst (.int 2))) (.bi .len [(.var 1)])))])] [], .ite (.cmp .eq (.bin .mod (.var 2) (.cst (.int 4))) (.cst (.int 1))) [.ret (.tup [(.cst (.str [116, 114, 117, 116, 104])), (.var 3), (.cmp .eq (.bin .mod (.bin .fdiv (.var 2) (.cst (.int 4))) (.cst (.int 2))) (.cst (.int 0)))])] [], .ite (.cmp .eq (.bin .mod (.var 2) (.cst (.int 16))) (.cst (.int 3))) [.ret (.tup [(.cst (.str [103, 105, 118, 101, 110])), (.var 3), (.bin .mod (.bin .fdiv (.var 2) (.cst (.int 16))) (.cst (.int 8)))])] [], .ret (.tup [(.cst (.str [119, 104, 111, 108, 101])), (.var 3), (.bin .sub (.bin .mod (.bin .fdiv (.var 2) (.cst (.int 4))) (.cst (.int 14))) (.cst (.int 3)))])]⟩
/-- _law_more -/
def d182 : FD := ⟨3, 4, [.asg 3 (.bi .dict1 [(.var 0)]), .setIx (.var 3) (.var 1) (.var 2), .ret (.var 3)]⟩
/-- _law_parts -/
def d185 : FD := ⟨1, 3, [.asg 1 (.idx (.var 0) (.cst (.int 0))), .ite (.or [(.cmp .eq (.var 1) (.cst (.str [119, 104, 111, 108, 101]))), (.cmp .eq (.var 1) (.cst (.str [116, 114, 117, 116, 104]))), (.cmp .eq (.var 1) (.cst (.str [103, 105, 118, 101, 110]))), (.cmp .eq (.var 1) (.cst (.str [110, 97, 109, 101])))]) [.ret (.lst false [])] [], .ite (.cmp .eq (.var 1) (.cst (.str [114, 111, 119]))) [.ret (.bi (.list1 false) [(.idx (.var 0) (.cst (.int 3)))])] [], .ret (.comp false (.nm 2) .seq [(.sl true (.var 0) [(.cst (.int 2))] [])] [(.and [(.isi .tuple (.var 2)), (.cmp .gt (.bi .len [(.var 2)]) (.cst (.int 1))), (.isi .int (.idx (.var 2) (.cst (.int 1))))])] (.var 2) [2])]⟩
/-- _law_names -/
def d186 : FD := ⟨3, 3, [.ite (.cmp .eq (.idx (.var 0) (.cst (.int 0))) (.cst (.str [102, 110]))) [.ret (.call 182 [(.var 1), (.idx (.var 0) (.cst (.int 2))), (.idx (.var 0) (.cst (.int 3)))])] [], .ite (.cmp .eq (.idx (.var 0) (.cst (.int 0))) (.cst (.str [115, 101, 108, 102]))) [.ret (.call 182 [(.call 182 [(.var 1), (.idx (.var 0) (.cst (.int 2))), (.tup [(.cst (.str [116, 111])), (.idx (.var 0) (.cst (.int 4))), (.idx (.var 0) (.cst (.int 5)))])]), (.idx (.var 0) (.cst (.int 3))), (.idx (.var 0) (.cst (.int 4)))])] [], .ite (.and [(.cmp .eq (.idx (.var 0) (.cst (.int 0))) (.cst (.str [108, 101, 116]))), (.cmp .eq (.bi .len [(.var 2)]) (.cst (.int 1)))]) [.ret (.call 182 [(.var 1), (.idx (.var 0) (.cst (.int 2))), (.idx (.var 2) (.cst (.int 0)))])] [], .ret (.var 1)]⟩
/-- _law_shaped -/
def d187 : FD := ⟨2, 2, [.ite (.cmp .eq (.idx (.var 0) (.cst (.int 0))) (.idx (.var 1) (.cst (.int 0)))) [.ret (.var 0)] [], .ret (.var 1)]⟩
/-- _law_want -/
def d188 : FD := ⟨2, 4, [.asg 2 (.idx (.var 0) (.cst (.int 0))), .asg 3 (.cmp .eq (.bi .len [(.var 1)]) (.cst (.int 1))), .ite (.or [(.cmp .eq (.var 2) (.cst (.str [100, 111]))), (.and [(.cmp .eq (.var 2) (.cst (.str [97, 116]))), (.not (.var 3))])]) [.ret (.tup [(.cst (.str [119, 104, 111, 108, 101]))])] [], .ite (.or [(.cmp .eq (.var 2) (.cst (.str [97, 115]))), (.cmp .eq (.var 2) (.cst (.str [114, 111, 119])))]) [.ret (.idx (.var 0) (.cst (.int 2)))] [], .ite (.cmp .eq (.var 2) (.cst (.str [115, 101, 108, 102]))) [.ret (.idx (.var 0) (.cst (.int 5)))] [], .ite (.and [(.cmp .eq (.var 2) (.cst (.str [105, 102]))), (.var 3)]) [.ret (.tup [(.cst (.str [116, 114, 117, 116, 104]))])] [], .ite (.and [(.cmp .eq (.var 2) (.cst (.str [99, 97, 108, 108]))), (.not (.var 3))]) [.ret (.idx (.call 187 [(.idx (.var 1) (.cst (.int 0))), (.tup [(.cst (.str [116, 111])), (.tup [(.cst (.str [63]))]), (.tup [(.cst (.str [63]))])])]) (.cst (.int 1)))] [], .ite (.cmp .eq (.var 2) (.cst (.str [99, 97, 108, 108]))) [.ret (.call 187 [(.idx (.var 1) (.cst (.int 0))), (.tup [(.cst (.str [116, 111])), (.tup [(.cst (.str [63]))]), (.tup [(.cst (.str [63]))])])])] [], .ite (.or [(.cmp .eq (.var 2) (.cst (.str [97, 116]))), (.cmp .eq (.var 2) (.cst (.str [115, 105, 122, 101])))]) [.ret (.call 187 [(.idx (.var 1) (.cst (.int 0))), (.tup [(.cst (.str [114, 111, 119])), (.tup [(.cst (.str [63]))])])])] [], .ite (.or [(.cmp .eq (.var 2) (.cst (.str [111, 110, 101]))), (.cmp .eq (.var 2) (.cst (.str [116, 119, 111])))]) [.ret (.call 187 [(.idx (.var 1) (.cst (.int 0))), (.tup [(.cst (.str [112, 97, 105, 114])), (.tup [(.cst (.str [63]))]), (.tup [(.cst (.str [63]))])])])] [], .ret (.idx (.var 1) (.neg (.cst (.int 1))))]⟩
/-- _law_own -/
def d189 : FD := ⟨3, 4, [.asg 3 (.idx (.var 0) (.cst (.int 0))), .ite (.cmp .eq (.var 3) (.cst (.str [110, 97, 109, 101]))) [.ret (.idx (.var 1) (.idx (.var 0) (.cst (.int 2))))] [], .ite (.or [(.cmp .eq (.var 3) (.cst (.str [116, 114, 117, 116, 104]))), (.and [(.cmp .eq (.var 3) (.cst (.str [100, 111]))), (.cmp .isin (.idx (.var 0) (.cst (.int 2))) (.lst true [(.cst (.str [60])), (.cst (.str [61]))]))])]) [.ret (.tup [(.cst (.str [116, 114, 117, 116, 104]))])] [], .ite (.or [(.cmp .eq (.var 3) (.cst (.str [119, 104, 111, 108, 101]))), (.cmp .eq (.var 3) (.cst (.str [103, 105, 118, 101, 110]))), (.cmp .eq (.var 3) (.cst (.str [100, 111]))), (.cmp .eq (.var 3) (.cst (.str [115, 105, 122, 101])))]) [.ret (.tup [(.cst (.str [119, 104, 111, 108, 101]))])] [], .ite (.cmp .eq (.var 3) (.cst (.str [102, 110]))) [.ret (.tup [(.cst (.str [116, 111])), (.idx (.var 0) (.cst (.int 3))), (.idx (.var 2) (.cst (.int 0)))])] [], .ite (.cmp .eq (.var 3) (.cst (.str [115, 101, 108, 102]))) [.ret (.tup [(.cst (.str [116, 111])), (.idx (.var 0) (.cst (.int 4))), (.idx (.var 0) (.cst (.int 5)))])] [], .ite (.cmp .eq (.var 3) (.cst (.str [108, 101, 116]))) [.ret (.idx (.var 2) (.cst (.int 1)))] [], .ite (.cmp .eq (.var 3) (.cst (.str [105, 102]))) [.ret (.call 184 [(.idx (.var 2) (.cst (.int 1))), (.idx (.var 2) (.cst (.int 2)))])] [], .ite (.cmp .eq (.var 3) (.cst (.str [99, 97, 108, 108]))) [.ret (.idx (.call 187 [(.idx (.var 2) (.cst (.int 0))), (.tup [(.cst (.str [116, 111])), (.tup [(.cst (.str [63]))]), (.tup [(.cst (.str [63]))])])]) (.cst (.int 2)))] [], .ite (.cmp .eq (.var 3) (.cst (.str [114, 111, 119]))) [.ret (.tup [(.cst (.str [114, 111, 119])), (.idx (.var 0) (.cst (.int 2)))])] [], .ite (.cmp .eq (.var 3) (.cst (.str [97, 116]))) [.ret (.idx (.call 187 [(.idx (.var 2) (.cst (.int 0))), (.tup [(.cst (.str [114, 111, 119])), (.tup [(.cst (.str [63]))])])]) (.cst (.int 1)))] [], .ite (.cmp .eq (.var 3) (.cst (.str [112, 97, 105, 114]))) [.ret (.tup [(.cst (.str [112, 97, 105, 114])), (.idx (.var 2) (.cst (.int 0))), (.idx (.var 2) (.cst (.int 1)))])] [], .ite (.cmp .eq (.var 3) (.cst (.str [97, 115]))) [.ret (.idx (.var 0) (.cst (.int 2)))] [], .ret (.idx (.call 187 [(.idx (.var 2) (.cst (.int 0))), (.tup [(.cst (.str [112, 97, 105, 114])), (.tup [(.cst (.str [63]))]), (.tup [(.cst (.str [63]))])])]) (.bin (.add true) (.cst (.int 1)) (.bi .int1 [(.cmp .eq (.var 3) (.cst (.str [116, 119, 111])))])))]⟩
/-- _law_written -/
def d192 : FD := ⟨1, 1, [.ite (.cmp .eq (.idx (.var 0) (.cst (.int 0))) (.cst (.str [102, 110]))) [.ret (.lst false [(.idx (.var 0) (.cst (.int 3)))])] [], .ite (.cmp .eq (.idx (.var 0) (.cst (.int 0))) (.cst (.str [115, 101, 108, 102]))) [.ret (.lst false [(.idx (.var 0) (.cst (.int 4))), (.idx (.var 0) (.cst (.int 5)))])] [], .ite (.or [(.cmp .eq (.idx (.var 0) (.cst (.int 0))) (.cst (.str [114, 111, 119]))), (.cmp .eq (.idx (.var 0) (.cst (.int 0))) (.cst (.str [97, 115])))]) [.ret (.lst false [(.idx (.var 0) (.cst (.int 2)))])] [], .ret (.lst false [])]⟩
/-- _law_come_to -/
def d193 : FD := ⟨2, 7, [.for (.nm 2) .seq [(.call 192 [(.var 0)])] [.ite (.cmp .gt (.call 190 [(.var 2)]) (.cst (.int 4))) [.ret (.tup [(.cst (.str [100, 101, 101, 112])), (.idx (.var 0) (.cst (.int 1)))])] []], .asg 3 (.lst false []), .for (.nm 4) .seq [(.call 185 [(.var 0)])] [.asg 6 (.call 193 [(.var 4), (.call 186 [(.var 0), (.var 1), (.var 3)])]), .ite (.cmp .ne (.idx (.var 6) (.cst (.int 0))) (.cst (.str [116, 97, 107, 101, 110]))) [.ret (.var 6)] [], .ex (.app (.var 3) (.idx (.var 6) (.cst (.int 1)))), .asg 6 (.call 191 [(.var 0), (.var 4), (.var 3)]), .ite (.isN true (.var 6)) [.ret (.var 6)] []], .asg 5 (.call 189 [(.var 0), (.var 1), (.var 3)]), .ite (.cmp .gt (.call 190 [(.var 5)]) (.cst (.int 4))) [.ret (.tup [(.cst (.str [100, 101, 101, 112])), (.idx (.var 0) (.cst (.int 1)))])] [], .ret (.tup [(.cst (.str [116, 97, 107, 101, 110])), (.var 5)])]⟩
/-- _law_kind -/
def d198 : FD := ⟨1, 4, [.asg 1 (.lst true [(.tup [(.cst (.str [119, 104, 111, 108, 101]))]), (.tup [(.cst (.str [116, 114, 117, 116, 104]))]), (.tup [(.cst (.str [63]))])]), .asg 2 (.idx (.var 1) (.bin .mod (.var 0) (.cst (.int 3)))), .asg 3 (.idx (.var 1) (.bin .mod (.bin .fdiv (.var 0) (.cst (.int 3))) (.cst (.int 3)))), .ret (.idx (.lst true [(.var 2), (.tup [(.cst (.str [116, 111])), (.var 3), (.var 2)]), (.tup [(.cst (.str [114, 111, 119])), (.var 2)]), (.tup [(.cst (.str [112, 97, 105, 114])), (.var 2), (.var 3)]), (.var 2)]) (.bin .mod (.bin .fdiv (.var 0) (.cst (.int 9))) (.cst (.int 5))))]⟩
/-- _law_holds -/
def d224 : FD := ⟨4, 7, [.asg 4 (.lst false []), .for (.nm 5) .seq [(.call 185 [(.var 0)])] [.ite (.not (.call 224 [(.var 5), (.call 186 [(.var 0), (.var 1), (.var 4)]), (.var 2), (.var 3)])) [.ret (.cst (.bl false))] [], .ex (.app (.var 4) (.idx (.var 2) (.idx (.var 5) (.cst (.int 1))))), .asg 6 (.call 188 [(.var 0), (.var 4)]), .ite (.and [(.cmp .eq (.idx (.var 0) (.cst (.int 0))) (.cst (.str [105, 102]))), (.cmp .gt (.bi .len [(.var 4)]) (.cst (.int 1)))]) [.asg 6 (.idx (.var 2) (.idx (.var 0) (.cst (.int 1))))] [], .ite (.or [(.cmp .ne (.meb .dget1 (.var 3) [(.idx (.var 5) (.cst (.int 1)))]) (.var 6)), (.isN true (.call 171 [(.idx (.var 4) (.neg (.cst (.int 1)))), (.var 6)]))]) [.ret (.cst (.bl false))] []], .ite (.and [(.cmp .eq (.idx (.var 0) (.cst (.int 0))) (.cst (.str [105, 102]))), (.isN true (.call 171 [(.idx (.var 4) (.cst (.int 1))), (.idx (.var 4) (.cst (.int 2)))]))]) [.ret (.cst (.bl false))] [], .ret (.and [(.cmp .isin (.idx (.var 0) (.cst (.int 1))) (.var 2)), (.cmp .eq (.idx (.var 2) (.idx (.var 0) (.cst (.int 1)))) (.call 189 [(.var 0), (.var 1), (.var 4)]))])]⟩
/-- _law_places -/
def d225 : FD := ⟨1, 3, [.asg 1 (.lst true [(.idx (.var 0) (.cst (.int 1)))]), .for (.nm 2) .seq [(.call 185 [(.var 0)])] [.asg 1 (.bin (.add true) (.var 1) (.call 225 [(.var 2)]))], .ret (.var 1)]⟩
/-- refusal -/
def d234 : FD := ⟨1, 2, [.trys [.ex (.call 167 [(.var 0)])] [.mk [8] [4, 5] (some 1) [.ret (.tup [(.fld [] (.var 1) [112, 108, 97, 99, 101]), (.fld [] (.var 1) [107, 105, 110, 100]), (.fld [] (.var 1) [98, 121]), (.fld [] (.var 1) [119, 97, 110, 116, 101, 100]), (.fld [] (.var 1) [119, 97, 121])])]] [], .ret (.cst (.non))]⟩
/-- covered -/
def d235 : FD := ⟨3, 4, [.ite (.cmp .eq (.idx (.var 0) (.cst (.int 1))) (.var 1)) [.ret (.tup [(.cst (.str [97, 115])), (.var 2), (.cst (.tup [.str [63]])), (.var 0)])] [], .ret (.call 88 [(.var 0), (.comp true (.nm 3) .seq [(.call 87 [(.var 0)])] [] (.call 235 [(.var 3), (.var 1), (.var 2)]) [3])])]⟩
/-- softened -/
def d236 : FD := ⟨1, 4, [.asg 1 (.lst false []), .asg 2 (.call 234 [(.var 0)]), .whl (.isN true (.var 2)) [.asg 3 (.bin (.add true) (.bi .max1 [(.call 91 [(.var 0)])]) (.cst (.int 1))), .asg 0 (.call 235 [(.var 0), (.idx (.var 2) (.cst (.int 0))), (.var 3)]), .ex (.app (.var 1) (.bin (.add true) (.tup [(.idx (.var 2) (.cst (.int 0))), (.var 3)]) (.sl true (.var 2) [(.cst (.int 1))] []))), .asg 2 (.call 234 [(.var 0)])], .ret (.tup [(.var 0), (.var 1)])]⟩
/-- _law_any -/
def d237 : FD := ⟨3, 13, [.asg 3 (.call 177 [(.var 0)]), .ite (.or [(.cmp .lt (.var 2) (.cst (.int 2))), (.cmp .eq (.bin .mod (.var 3) (.cst (.int 5))) (.cst (.int 3)))]) [.ret (.call 180 [(.var 0), (.var 1), (.bin .fdiv (.var 3) (.cst (.int 5)))])] [], .asg 4 (.call 178 [(.var 0)]), .asg 5 (.bin .mod (.bin .fdiv (.var 3) (.cst (.int 5))) (.cst (.int 13))), .asg 3 (.bin .fdiv (.var 3) (.cst (.int 65))), .asg 6 (.idx (.idx (.var 0) (.cst (.int 4))) (.bin .mod (.var 3) (.cst (.int 5)))), .ite (.cmp .eq (.var 5) (.cst (.int 0))) [.ret (.tup [(.cst (.str [102, 110])), (.var 4), (.var 6), (.call 198 [(.bin .fdiv (.var 3) (.cst (.int 5)))]), (.call 237 [(.var 0), (.bin (.add true) (.var 1) (.lst true [(.var 6)])), (.bin .sub (.var 2) (.cst (.int 1)))])])] [], .ite (.cmp .eq (.var 5) (.cst (.int 1))) [.asg 9 (.idx (.idx (.var 0) (.cst (.int 4))) (.bin .mod (.bin .fdiv (.var 3) (.cst (.int 5))) (.cst (.int 5)))), .asg 10 (.call 237 [(.var 0), (.bin (.add true) (.var 1) (.lst true [(.var 9), (.var 6)])), (.bin .sub (.var 2) (.cst (.int 1)))]), .ret (.tup [(.cst (.str [115, 101, 108, 102])), (.var 4), (.var 9), (.var 6), (.call 198 [(.bin .fdiv (.var 3) (.cst (.int 25)))]), (.call 198 [(.bin .fdiv (.var 3) (.cst (.int 50)))]), (.var 10)])] [], .ite (.cmp .eq (.var 5) (.cst (.int 2))) [.asg 7 (.call 237 [(.var 0), (.var 1), (.bin .sub (.var 2) (.cst (.int 1)))]), .ret (.tup [(.cst (.str [108, 101, 116])), (.var 4), (.var 6), (.var 7), (.call 237 [(.var 0), (.bin (.add true) (.var 1) (.lst true [(.var 6)])), (.bin .sub (.var 2) (.cst (.int 1)))])])] [], .ite (.cmp .eq (.var 5) (.cst (.int 3))) [.asg 11 (.comp true (.nm 12) .rng1 [(.bin .mod (.var 3) (.cst (.int 5)))] [] (.call 237 [(.var 0), (.var 1), (.bin .sub (.var 2) (.cst (.int 1)))]) [12]), .ret (.tup [(.cst (.str [114, 111, 119])), (.var 4), (.call 198 [(.bin .fdiv (.var 3) (.cst (.int 4)))]), (.bi .tuple1 [(.var 11)])])] [], .ite (.cmp .eq (.var 5) (.cst (.int 4))) [.ret (.tup [(.cst (.str [97, 115])), (.var 4), (.call 198 [(.var 3)]), (.call 237 [(.var 0), (.var 1), (.bin .sub (.var 2) (.cst (.int 1)))])])] [], .ite (.cmp .lt (.var 5) (.cst (.int 8))) [.ret (.tup [(.idx (.lst true [(.cst (.str [115, 105, 122, 101])), (.cst (.str [111, 110, 101])), (.cst (.str [116, 119, 111]))]) (.bin .sub (.var 5) (.cst (.int 5)))), (.var 4), (.call 237 [(.var 0), (.var 1), (.bin .sub (.var 2) (.cst (.int 1)))])])] [], .asg 7 (.call 237 [(.var 0), (.var 1), (.bin .sub (.var 2) (.cst (.int 1)))]), .asg 8 (.call 237 [(.var 0), (.var 1), (.bin .sub (.var 2) (.cst (.int 1)))]), .ite (.cmp .eq (.var 5) (.cst (.int 8))) [.ret (.tup [(.cst (.str [105, 102])), (.var 4), (.var 7), (.var 8), (.call 237 [(.var 0), (.var 1), (.bin .sub (.var 2) (.cst (.int 1)))])])] [], .ite (.cmp .eq (.var 5) (.cst (.int 9))) [.ret (.tup [(.cst (.str [100, 111])), (.var 4), (.idx (.cst (.str [43, 45, 42, 60, 61])) (.bin .mod (.var 3) (.cst (.int 5)))), (.var 7), (.var 8)])] [], .ret (.tup [(.idx (.lst true [(.cst (.str [99, 97, 108, 108])), (.cst (.str [99, 97, 108, 108])), (.cst (.str [97, 116])), (.cst (.str [112, 97, 105, 114]))]) (.bin .mod (.bin (.add true) (.var 5) (.var 3)) (.cst (.int 4)))), (.var 4), (.var 7), (.var 8)])]⟩
/-- _law_covered -/
def d238 : FD := ⟨3, 5, [.ite (.or [(.not (.isi .tuple (.var 0))), (.cmp .eq (.bi .len [(.var 0)]) (.cst (.int 0)))]) [.ret (.var 0)] [], .ite (.and [(.not (.isi .tuple (.idx (.var 0) (.cst (.int 0))))), (.or [(.cmp .lt (.bi .len [(.var 0)]) (.cst (.int 2))), (.not (.isi .int (.idx (.var 0) (.cst (.int 1)))))])]) [.ret (.var 0)] [], .asg 3 (.bi .tuple1 [(.comp true (.nm 4) .seq [(.var 0)] [] (.call 238 [(.var 4), (.var 1), (.var 2)]) [4])]), .ite (.cmp .eq (.sl true (.var 0) [(.cst (.int 1))] [(.cst (.int 2))]) (.tup [(.var 1)])) [.ret (.tup [(.cst (.str [97, 115])), (.var 2), (.tup [(.cst (.str [63]))]), (.var 3)])] [], .ret (.var 3)]⟩
/-- _law_refusal -/
def d239 : FD := ⟨1, 3, [.asg 1 (.cst (.non)), .trys [.ex (.call 167 [(.var 0)])] [.mk [8] [4, 5] (some 2) [.asg 1 (.tup [(.fld [] (.var 2) [112, 108, 97, 99, 101]), (.fld [] (.var 2) [107, 105, 110, 100]), (.fld [] (.var 2) [98, 121]), (.fld [] (.var 2) [119, 97, 110, 116, 101, 100]), (.fld [] (.var 2) [119, 97, 121])])], .mk [5] [4, 8] (some 2) [.asg 1 (.tup [(.cst (.str [100, 101, 101, 112])), (.fld [] (.var 2) [112, 108, 97, 99, 101])])], .mk [4] [5, 8] (some 2) [.asg 1 (.tup [(.cst (.str [110, 97, 109, 101])), (.fld [] (.var 2) [112, 108, 97, 99, 101])])]] [], .ret (.var 1)]⟩
/-- _law_found -/
def d240 : FD := ⟨1, 3, [.asg 1 (.cst (.non)), .trys [.asg 1 (.call 236 [(.var 0)])] [.mk [5] [4, 8] (some 2) [.asg 1 (.tup [(.cst (.str [100, 101, 101, 112])), (.fld [] (.var 2) [112, 108, 97, 99, 101])])], .mk [4] [5, 8] (some 2) [.asg 1 (.tup [(.cst (.str [110, 97, 109, 101])), (.fld [] (.var 2) [112, 108, 97, 99, 101])])]] [], .ret (.var 1)]⟩
/-- law -/
def d241 : FD := ⟨1, 10, [.asg 1 (.bin .mod (.bin (.mul true) (.call 8 [(.var 0), (.cst (.int 0))]) (.cst (.int 6364136223846793005))) (.cst (.int 1000000000039))), .asg 2 (.lst false [(.var 0), (.cst (.int 1)), (.bin .mod (.call 8 [(.var 0), (.cst (.int 1))]) (.cst (.int 997))), (.cst (.int 0)), (.call 176 [(.var 1)])]), .ite (.cmp .eq (.bin .mod (.var 1) (.cst (.int 8))) (.cst (.int 1))) [.asg 7 (.tup [(.cst (.str [99, 97, 108, 108])), (.cst (.int 998)), (.call 237 [(.var 2), (.lst true []), (.cst (.int 3))]), (.tup [(.cst (.str [110, 97, 109, 101])), (.cst (.int 999)), (.idx (.idx (.var 2) (.cst (.int 4))) (.bin .mod (.bin .fdiv (.var 1) (.cst (.int 8))) (.cst (.int 5))))])])] [.asg 7 (.call 237 [(.var 2), (.lst true []), (.cst (.int 4))])], .asg 3 (.call 240 [(.var 7)]), .asg 4 (.lst false []), .asg 5 (.var 7), .asg 6 (.call 239 [(.var 5)]), .whl (.and [(.isN true (.var 6)), (.cmp .notin (.idx (.var 6) (.cst (.int 0))) (.lst true [(.cst (.str [100, 101, 101, 112])), (.cst (.str [110, 97, 109, 101]))])), (.cmp .le (.bi .len [(.var 4)]) (.bi .len [(.call 225 [(.var 7)])]))]) [.asg 8 (.bin (.add true) (.cst (.int 1)) (.bi .max1 [(.call 225 [(.var 5)])])), .ex (.app (.var 4) (.bin (.add true) (.tup [(.idx (.var 6) (.cst (.int 0))), (.var 8)]) (.sl true (.var 6) [(.cst (.int 1))] []))), .asg 5 (.call 238 [(.var 5), (.idx (.var 6) (.cst (.int 0))), (.var 8)]), .asg 6 (.call 239 [(.var 5)])], .ite (.isN true (.var 6)) [.ret (.cmp .eq (.var 3) (.var 6))] [], .ite (.or [(.not (.isi .tuple (.var 3))), (.cmp .ne (.bi .len [(.var 3)]) (.cst (.int 2))), (.not (.isi .list (.idx (.var 3) (.cst (.int 1)))))]) [.ret (.cst (.bl false))] [], .ret (.and [(.cmp .eq (.idx (.var 3) (.cst (.int 0))) (.var 5)), (.cmp .eq (.idx (.var 3) (.cst (.int 1))) (.var 4)), (.cmp .eq (.bi .lenset [(.comp true (.nm 9) .seq [(.var 4)] [] (.idx (.var 9) (.cst (.int 0))) [9])]) (.bi .len [(.var 4)]))])]⟩
end Bw
open Bw
/-! Kd: kinds, and what is due. -/
namespace Bw
open PySem (sizeLine)
inductive Kd where
  | whole | truth | unt | row (a : Kd) | to (a b : Kd) | pair (a b : Kd)
  deriving DecidableEq
def hS : Kd → List Nat
  | .whole => [119, 104, 111, 108, 101]
  | .truth => [116, 114, 117, 116, 104]
  | .unt => [63]
  | .row _ => [114, 111, 119]
  | .to _ _ => [116, 111]
  | .pair _ _ => [112, 97, 105, 114]
def parts : Kd → List Kd
  | .row a => [a]
  | .to a b => [a, b]
  | .pair a b => [a, b]
  | _ => []
def kW : Kd → W
  | .whole => .tup [.str [119, 104, 111, 108, 101]]
  | .truth => .tup [.str [116, 114, 117, 116, 104]]
  | .unt => .tup [.str [63]]
  | .row a => .tup [.str [114, 111, 119], kW a]
  | .to a b => .tup [.str [116, 111], kW a, kW b]
  | .pair a b => .tup [.str [112, 97, 105, 114], kW a, kW b]
theorem kW_eq (k : Kd) : kW k = .tup (.str (hS k) :: (parts k).map kW) := by cases k <;> rfl
def kdep : Kd → Nat
  | .row a => kdep a + 1
  | .to a b => max (kdep a) (kdep b) + 1
  | .pair a b => max (kdep a) (kdep b) + 1
  | _ => 1
theorem kdep_pos (k : Kd) : 1 ≤ kdep k := by cases k <;> simp [kdep]
theorem dep_kW : ∀ k : Kd, depW (kW k) = kdep k
  | .whole => rfl
  | .truth => rfl
  | .unt => rfl
  | .row a => by
    show max 0 (max (depW (kW a)) 0) + 1 = _
    rw [dep_kW a]; simp [kdep]
  | .to a b => by
    show max 0 (max (depW (kW a)) (max (depW (kW b)) 0)) + 1 = _
    rw [dep_kW a, dep_kW b]; simp [kdep]
  | .pair a b => by
    show max 0 (max (depW (kW a)) (max (depW (kW b)) 0)) + 1 = _
    rw [dep_kW a, dep_kW b]; simp [kdep]
theorem kdep_part {k a : Kd} (h : a ∈ parts k) : kdep a < kdep k := by
  cases k with
  | row x => simp only [parts, List.mem_singleton] at h; subst h; simp [kdep]
  | to x y => simp only [parts, List.mem_cons, List.not_mem_nil, or_false] at h; rcases h with rfl | rfl <;> simp only [kdep] <;> omega
  | pair x y => simp only [parts, List.mem_cons, List.not_mem_nil, or_false] at h; rcases h with rfl | rfl <;> simp only [kdep] <;> omega
  | _ => simp [parts] at h
theorem parts_len (k : Kd) : (parts k).length ≤ 2 := by cases k <;> simp [parts]
/-! what may be due: tuples, lists known by content -/
mutual
def due2 : W → Bool
  | .non => true
  | .int _ => true
  | .bl _ => true
  | .str _ => true
  | .tup ws => decide (ws.length ≤ 1000) && due2s ws
  | .rl ws => decide (ws.length ≤ 1000) && due2s ws
  | _ => false
def due2s : List W → Bool
  | [] => true
  | w :: ws => due2 w && due2s ws
end
theorem due2s_mem : ∀ {ws : List W} {w : W}, due2s ws = true → w ∈ ws → due2 w = true
  | x :: ws, w, h, m => by
    have h : (due2 x && due2s ws) = true := h
    rw [Bool.and_eq_true] at h
    rcases List.mem_cons.mp m with rfl | m
    · exact h.1
    · exact due2s_mem h.2 m
theorem due2s_of : ∀ {ws : List W}, (∀ w ∈ ws, due2 w = true) → due2s ws = true
  | [], _ => rfl
  | w :: ws, h => by
    show (due2 w && due2s ws) = true
    rw [h w List.mem_cons_self, due2s_of fun x hx => h x (List.mem_cons_of_mem _ hx)]; rfl
theorem due2_tup {ws : List W} (hl : ws.length ≤ 1000) (h : ∀ w ∈ ws, due2 w = true) : due2 (.tup ws) = true := by
  show (decide (ws.length ≤ 1000) && due2s ws) = true
  rw [decide_eq_true hl, due2s_of h]; rfl
theorem due2_k : ∀ k : Kd, due2 (kW k) = true
  | .whole => rfl
  | .truth => rfl
  | .unt => rfl
  | .row a => due2_tup (by simp) fun w hw => by
    simp only [List.mem_cons, List.not_mem_nil, or_false] at hw
    rcases hw with rfl | rfl
    · rfl
    · exact due2_k a
  | .to a b => due2_tup (by simp) fun w hw => by
    simp only [List.mem_cons, List.not_mem_nil, or_false] at hw
    rcases hw with rfl | rfl | rfl
    · rfl
    · exact due2_k a
    · exact due2_k b
  | .pair a b => due2_tup (by simp) fun w hw => by
    simp only [List.mem_cons, List.not_mem_nil, or_false] at hw
    rcases hw with rfl | rfl | rfl
    · rfl
    · exact due2_k a
    · exact due2_k b
mutual
theorem eqv_refl2 : ∀ {w : W}, due2 w = true → eqv w w = true
  | .non, _ => rfl
  | .bl b, _ => by simp [eqv]
  | .int i, _ => by simp [eqv]
  | .str x, _ => by simp [eqv]
  | .tup ws, h => by
    have h : (decide (ws.length ≤ 1000) && due2s ws) = true := h
    rw [Bool.and_eq_true] at h
    exact eqvs_refl2 h.2
  | .rl ws, h => by
    have h : (decide (ws.length ≤ 1000) && due2s ws) = true := h
    rw [Bool.and_eq_true] at h
    exact eqvs_refl2 h.2
  | .sc _, h => by cases h
  | .ref _, h => by cases h
  | .fn _, h => by cases h
theorem eqvs_refl2 : ∀ {ws : List W}, due2s ws = true → eqvs ws ws = true
  | [], _ => rfl
  | w :: ws, h => by
    have h : (due2 w && due2s ws) = true := h
    rw [Bool.and_eq_true] at h
    show (eqv w w && eqvs ws ws) = true
    rw [eqv_refl2 h.1, eqvs_refl2 h.2]; rfl
end
mutual
theorem data_due2 : ∀ {w : W}, due2 w = true → dataW w = true
  | .non, _ => rfl
  | .bl b, _ => rfl
  | .int i, _ => rfl
  | .str x, _ => rfl
  | .tup ws, h => by
    have h : (decide (ws.length ≤ 1000) && due2s ws) = true := h
    rw [Bool.and_eq_true] at h
    exact datas_due2 h.2
  | .rl ws, h => by
    have h : (decide (ws.length ≤ 1000) && due2s ws) = true := h
    rw [Bool.and_eq_true] at h
    exact datas_due2 h.2
  | .sc _, h => by cases h
  | .ref _, h => by cases h
  | .fn _, h => by cases h
theorem datas_due2 : ∀ {ws : List W}, due2s ws = true → dataWs ws = true
  | [], _ => rfl
  | w :: ws, h => by
    have h : (due2 w && due2s ws) = true := h
    rw [Bool.and_eq_true] at h
    show (dataW w && dataWs ws) = true
    rw [data_due2 h.1, datas_due2 h.2]; rfl
end
theorem eqv_k : ∀ a b : Kd, eqv (kW a) (kW b) = decide (a = b)
  | .whole, b => by cases b <;> simp [kW, eqv, eqvs]
  | .truth, b => by cases b <;> simp [kW, eqv, eqvs]
  | .unt, b => by cases b <;> simp [kW, eqv, eqvs]
  | .row a, b => by
    cases b with
    | row c => simp [kW, eqv, eqvs, eqv_k a c]
    | _ => simp [kW, eqv, eqvs]
  | .to a a', b => by
    cases b with
    | to c c' => simp [kW, eqv, eqvs, eqv_k a c, eqv_k a' c']
    | _ => simp [kW, eqv, eqvs]
  | .pair a a', b => by
    cases b with
    | pair c c' => simp [kW, eqv, eqvs, eqv_k a c, eqv_k a' c']
    | _ => simp [kW, eqv, eqvs]
section
variable {S : Sto} {Q : VQ} {X : XQ} {k a b : Kd} {fz neg : Bool} {t f : Prop}
theorem deref_k : deref S (kW k) = kW k := by rw [kW_eq]; rfl
theorem k_sl1 : wSl fz (kW k) [.int 1] [] S Q = Q (.tup ((parts k).map kW)) S := by
  rw [kW_eq]
  show Q (.tup (cutW _ (some 1) none)) S = _
  rw [cut1]; rfl
theorem k_sl01 : wSl fz (kW k) [] [.int 1] S Q = Q (.tup [.str (hS k)]) S := by
  rw [kW_eq]
  show Q (.tup (cutW _ none (some 1))) S = _
  rw [cut01]; rfl
theorem k_idx0 : wIdx (kW k) (.int 0) S Q = Q (.str (hS k)) S := by
  rw [kW_eq, wIdx_tup, at0]; rfl
theorem k_len : wLen (kW k) S Q = Q (.int (((parts k).length + 1 : Nat) : Int)) S := by
  rw [kW_eq, wLen_tup]; simp
theorem k_non : wNon (kW k) t f = f := by rw [kW_eq]; rfl
theorem k_isi_tuple : isiW .tuple S (kW k) = some true := by rw [kW_eq]; rfl
theorem k_isi_int : isiW .int S (kW k) = some false := by rw [kW_eq]; rfl
theorem k_isi_bool : isiW .bool S (kW k) = some false := by rw [kW_eq]; rfl
theorem k_isi_str : isiW .str S (kW k) = some false := by rw [kW_eq]; rfl
theorem k_isi_list : isiW .list S (kW k) = some false := by rw [kW_eq]; rfl
theorem k_equ : wEq neg (kW k) (.tup [.str [63]]) S Q = Q (.bl (decide (k = .unt) != neg)) S := by
  have e := eqv_k k .unt
  unfold wEq
  rw [deref_k, deref_tup]
  rw [show eqv (kW k) (.tup [.str [63]]) = decide (k = .unt) from e, data_due2 (due2_k k)]
  have h1 : dataW (.tup [.str [63]]) = true := rfl
  have h2 : min (depW (kW k)) (depW (.tup [.str [63]])) ≤ 60 := Nat.le_trans (Nat.min_le_right _ _) (by show 1 ≤ 60; omega)
  rw [h1]
  simp [h2]
/-- two like data -/
theorem same_eq {x y : W} (e : deref S x = deref S y) (h : due2 (deref S y) = true) (hd : depW (deref S y) ≤ 60) (q : Q (.bl (true != neg)) S) : wEq neg x y S Q := by
  refine wEq_c ?_ (data_due2 h) hd ?_ q
  · rw [e]; exact data_due2 h
  · rw [e]; exact eqv_refl2 h
end
/-! ### comprehensions over a mapped list -/
theorem compA {α : Type} {f : W → Sto → (List W → Sto → Prop) → Prop} {S : Sto} {P : PySem.Addr → List W → Sto → Prop} {lk : Lk} (l : List α) (φ ψ : α → W) (hl : liveS lk S)
    (h : ∀ a ∈ l, ∀ D, S D = none → ∀ R : List W → Sto → Prop, R [ψ a] (S.set D .hid) → f (φ a) (S.set D .hid) R) (q : ∀ D, S D = none → P D (l.map ψ) (S.set D .hid)) :
    ∀ D, S D = none → wMap lk f (l.map φ) (S.set D .hid) (P D) := fun D hD => by
  have lv := liveS_set (o := .hid) hl hD
  have key : ∀ (l : List α) (Q : List W → Sto → Prop), (∀ a ∈ l, ∀ R : List W → Sto → Prop, R [ψ a] (S.set D .hid) → f (φ a) (S.set D .hid) R) → Q (l.map ψ) (S.set D .hid) → wMap lk f (l.map φ) (S.set D .hid) Q := by
    intro l
    induction l with
    | nil => intro Q _ q; exact ⟨lv, q⟩
    | cons a l ih => intro Q h q; exact ⟨lv, h a List.mem_cons_self _ (ih _ (fun b hb => h b (List.mem_cons_of_mem _ hb)) q)⟩
  exact key l _ (fun a ha R r => h a ha D hD R r) (q D hD)
/-- a walk through a mapped list, by what is left -/
theorem forR {α : Type} {lk : Lk} {tg : Tg} {body : Env → Sto → Dn → Prop} {D : Dn} (φ : α → W) (I : List α → Env → Sto → Prop) : ∀ {l : List α} {env : Env} {S : Sto}, I l env S → (∀ l env S, I l env S → liveS lk S) →
    (∀ a l env S (nx : Env → Sto → Prop), I (a :: l) env S → (∀ e S', I l e S' → nx e S') → wSome (bindTg tg (φ a) env) fun env' => body env' S { D with nx := nx, ct := nx, bk := D.nx }) →
    (∀ env S, I [] env S → D.nx env S) → wFor lk tg body (l.map φ) env S D
  | [], env, S, i, lv, _, fin => ⟨lv _ _ _ i, fin env S i⟩
  | a :: l, env, S, i, lv, step, fin => ⟨lv _ _ _ i, step a l env S _ i fun e S' i' => forR φ I i' lv step fin⟩
theorem set_comm {S : Sto} {p p2 : PySem.Addr} {x y : O} (h : p ≠ p2) : (S.set p x).set p2 y = (S.set p2 y).set p x := by
  funext b
  unfold Sto.set
  by_cases e : b = p2
  · subst e; simp [Ne.symm h]
  · simp [e]
theorem fresh_ne {S : Sto} {p p2 : PySem.Addr} {o : O} (h : S.set p o p2 = none) : p2 ≠ p := fun e => by rw [e, Sto.set_same] at h; cases h
theorem fresh_old {S : Sto} {p p2 : PySem.Addr} {o : O} (h : S.set p o p2 = none) : S p2 = none := by rw [Sto.set_ne (fresh_ne h)] at h; exact h
theorem wB_or {b c : Bool} {A B : Prop} (hA : b = true ∨ c = true → A) (hB : b = false → c = false → B) : wB (.bl b) A (wB (.bl c) A B) := by
  cases b
  · cases c
    · exact hB rfl rfl
    · exact hA (.inr rfl)
  · exact hA (.inl rfl)
theorem wMaxd_l {ws : List W} {d : Int} {ns : List Int} {S : Sto} {Q : VQ} (h : intsOf ws = some ns) (q : Q (.int (if ns = [] then d else maxL ns)) S) : wMaxd [.rl ws, .int d] S Q := by
  show wSome ((lstOf S (.rl ws)).bind intsOf) _
  rw [lstOf_rl, Option.bind_some, h]
  exact q
/-! ### stacks of cells -/
def nv (c : List Int) (m : Int) : Int := match c with | [] => 0 | x :: _ => x % m
theorem set_self {S : Sto} {p : PySem.Addr} {o : O} (h : S p = some o) : S.set p o = S := by
  funext b
  unfold Sto.set
  by_cases e : b = p
  · rw [if_pos e, e, h]
  · rw [if_neg e]
theorem set_set {S : Sto} {p : PySem.Addr} {o u : O} : (S.set p o).set p u = S.set p u := by funext b; unfold Sto.set; by_cases e : b = p <;> simp [e]
end Bw

local macro_rules | `(tactic| walk_at "w") => `(tactic| try simp -implicitDefEqProofs only [wSs, wS, wHs, wHn, wE, wEs, wAnd, wOr, wB_t, wB_f, wSome_s, wWalk_s, entry, cF, Option.map_some, Option.bind_some, List.map_cons, List.map_nil, List.length_cons, List.length_nil, List.length_map, List.replicate, List.cons_append, List.nil_append, List.getElem?_cons_zero, List.getElem?_cons_succ, List.set_cons_zero, List.set_cons_succ, Nat.reduceSub, Nat.reduceAdd, Int.reduceAdd, Int.reduceSub, at0, at1, at2, at3, cut1, cut01, Option.isSome_some, true_and, and_true, if_true, Bool.false_eq_true, if_false, Bool.not_true, Bool.not_false, beq_self_eq_true, Bool.or_true, Bool.true_or, Bool.or_false, Bool.bne_false, Bool.bne_true, implies_true, Int.toNat_natCast, List.drop_succ_cons, List.drop_zero, List.take_succ_cons, List.take_zero, List.take_nil, List.drop_nil, dn_rt, dn_nx, dn_xc, wVar_s, wNon_non, wNon_bl, wNon_int, wNon_str, wNon_tup, wNon_rl, wNon_sc, wNot_b, wI1_i, wInts_i, wIdx_tup, wLen_tup, wSl_tup0, wSl_tup1, wSl_tup2, wSl_tup3, walkOf_tup, seqOf_tup, deref_tup, wIdx_rl, wLen_rl, wSl_rl0, wSl_rl1, wSl_rl2, wSl_rl3, walkOf_rl, seqOf_rl, deref_rl, wIdx_sc, wLen_sc, wSl_sc0, wSl_sc1, wSl_sc2, wSl_sc3, walkOf_sc, seqOf_sc, deref_sc, walkL_rl, walkL_sc, deref_non, deref_bl, deref_int, deref_str, lstOf_rl, wLen_dic, wLen_str, optI0, optI1, optS0, optS1, mkL_t, mkL_f, wEq_i, wEq_s, wEq_b, wAdd_i, wAdd_s, wAdd_t, wBin_add, wBin_sub, wBin_fdiv, wBin_mod, wBin_pow, wMeb_count, wMeb_index, wMeb_dget1, wMeb_dget2, wMeb_dcopy, recv_count, recv_index, recv_dget1, recv_dget2, recv_dcopy, dicOf_dct, kyOf_int, kyOf_str, wIdx_dct, wIn_dct, fld_obj, fld_exn, obj_obj, isCW_non, isCW_bl, isCW_int, isCW_exn, bindH_n, bindH_s, goneH_n, goneH_s, sutD_nx, sutD_rt, wOrd_s, pair0, pair_i, strs0, strs1, wBin_mul_i, wBin_mul_t, wCmp_eq, wCmp_ne, wCmp_lt, wCmp_le, wCmp_gt, wCmp_ge, wCmp_isin, wCmp_notin, wBi_len, wBi_int1, wBi_max2, wBi_max3, wBi_min2, wBi_abs, wBi_maxd, wBi_tuple1, wBi_list1, wBi_listrev, wBi_all1, wBi_any1, wBi_sum1, wBi_ord1, wBi_lenset, wBi_dict1, wBi_max1, it_seq, it_rng1, it_rng2, it_enum, it_rev, it_zipT, wipe0, wipe1, bt_nm, bt_pr, bt_prl, bi0, bi1, sz0, sz1, sz2, sz3, sz4, sz5, sz6, sz7, sz8, sz9, sz10, sz11, sz12, isi_dict_dct, isi_tuple_dct, isi_int_non, isi_bool_non, isi_str_non, isi_tuple_non, isi_list_non, isi_dict_non, isi_int_bl, isi_bool_bl, isi_str_bl, isi_tuple_bl, isi_list_bl, isi_dict_bl, isi_int_int, isi_bool_int, isi_str_int, isi_tuple_int, isi_list_int, isi_dict_int, isi_int_str, isi_bool_str, isi_str_str, isi_tuple_str, isi_list_str, isi_dict_str, isi_int_tup, isi_bool_tup, isi_str_tup, isi_tuple_tup, isi_list_tup, isi_dict_tup, isi_int_rl, isi_bool_rl, isi_str_rl, isi_tuple_rl, isi_list_rl, isi_dict_rl, isi_int_sc, isi_bool_sc, isi_str_sc, isi_tuple_sc, isi_list_sc, isi_dict_sc, k_sl1, k_sl01, k_idx0, k_len, k_non, k_isi_tuple, k_isi_int, k_isi_bool, k_isi_str, k_isi_list, k_equ])
/-! AL: the laws' own small functions. -/
namespace Bw
open PySem (sizeLine)
def cellFD : FD := ⟨2, 2, [.ite (.cmp .lt (.var 1) (.bi .len [(.var 0)])) [.ret (.idx (.var 0) (.var 1))] [], .ret (.cst (.int 0))]⟩
section
variable {T : Nat → Option FD} {S : Sto} {Q : VQ} {X : XQ} {n : Nat}
theorem cell_ok {i : Nat} (h : T i = some cellFD) {ns : List Int} {k : Int} (hk : 0 ≤ k) (q : Q (.int (cellI ns k)) S) : wF T (n + 1) i [.sc (ns.map W.int), .int k] S Q X := by
  rw [wF_eq h, cellFD]
  walk_at "w"
  unfold cellI at q
  refine wB_dec (fun hl => ?_) (fun hl => ?_)
  · have e : (ns.map W.int)[k.toNat]? = some (.int (ns[k.toNat]?.getD 0)) := by
      rw [List.getElem?_map, List.getElem?_eq_getElem (by omega)]; rfl
    rw [at_int hk e]
    rw [if_pos hl] at q
    exact ret0 q
  · rw [if_neg hl] at q
    exact ret0 q
end
end Bw

/-! Kd2: kinds made from cells, looser, meet, join, paths (plain). -/
namespace Bw
open PySem (sizeLine)
/-! ### kinds from cells -/
/-! ### looser, join, meet -/
def lsr : Kd → Kd → Bool
  | _, .unt => true
  | .whole, .whole => true
  | .truth, .truth => true
  | .row a, .row b => lsr a b
  | .to a b, .to c d => lsr a c && lsr b d
  | .pair a b, .pair c d => lsr a c && lsr b d
  | _, _ => false
def jn : Kd → Kd → Kd
  | .whole, .whole => .whole
  | .truth, .truth => .truth
  | .unt, .unt => .unt
  | .row a, .row b => .row (jn a b)
  | .to a b, .to c d => .to (jn a c) (jn b d)
  | .pair a b, .pair c d => .pair (jn a c) (jn b d)
  | _, _ => .unt
theorem lsr_unt (k : Kd) : lsr k .unt = true := by cases k <;> rfl
theorem lsr_refl : ∀ k : Kd, lsr k k = true
  | .whole => rfl
  | .truth => rfl
  | .unt => rfl
  | .row a => lsr_refl a
  | .to a b => by show (lsr a a && lsr b b) = true; rw [lsr_refl a, lsr_refl b]; rfl
  | .pair a b => by show (lsr a a && lsr b b) = true; rw [lsr_refl a, lsr_refl b]; rfl
theorem jn_dep : ∀ a b : Kd, kdep (jn a b) ≤ kdep a
  | .whole, b => by cases b <;> simp [jn, kdep]
  | .truth, b => by cases b <;> simp [jn, kdep]
  | .unt, b => by cases b <;> simp [jn, kdep]
  | .row a, b => by
    cases b with
    | row c => have := jn_dep a c; simp [jn, kdep, this]
    | _ => simp [jn, kdep]
  | .to a a', b => by
    cases b with
    | to c d => have h1 := jn_dep a c; have h2 := jn_dep a' d; simp [jn, kdep]; omega
    | _ => simp [jn, kdep]
  | .pair a a', b => by
    cases b with
    | pair c d => have h1 := jn_dep a c; have h2 := jn_dep a' d; simp [jn, kdep]; omega
    | _ => simp [jn, kdep]
/-! ### paths -/
end Bw

/-! TR: programs as trees; parts, names (printed by gtr.py) -/
namespace Bw
open PySem (sizeLine)
inductive Wo where
  | whole | truth | given | name | fn | self | call | let_ | if_ | do_ | row | at_ | size | pair | one | two | as_ | look
  deriving DecidableEq
def woS : Wo → List Nat
  | .whole => [119, 104, 111, 108, 101]
  | .truth => [116, 114, 117, 116, 104]
  | .given => [103, 105, 118, 101, 110]
  | .name => [110, 97, 109, 101]
  | .fn => [102, 110]
  | .self => [115, 101, 108, 102]
  | .call => [99, 97, 108, 108]
  | .let_ => [108, 101, 116]
  | .if_ => [105, 102]
  | .do_ => [100, 111]
  | .row => [114, 111, 119]
  | .at_ => [97, 116]
  | .size => [115, 105, 122, 101]
  | .pair => [112, 97, 105, 114]
  | .one => [111, 110, 101]
  | .two => [116, 119, 111]
  | .as_ => [97, 115]
  | .look => [108, 111, 111, 107]
/-- names, signs, numbers in front -/
def nF : Wo → Nat
  | .whole => 1
  | .truth => 1
  | .given => 1
  | .name => 1
  | .fn => 1
  | .self => 2
  | .call => 0
  | .let_ => 1
  | .if_ => 0
  | .do_ => 1
  | .row => 0
  | .at_ => 0
  | .size => 0
  | .pair => 0
  | .one => 0
  | .two => 0
  | .as_ => 0
  | .look => 0
/-- kinds -/
def nK : Wo → Nat
  | .whole => 0
  | .truth => 0
  | .given => 0
  | .name => 0
  | .fn => 1
  | .self => 2
  | .call => 0
  | .let_ => 0
  | .if_ => 0
  | .do_ => 0
  | .row => 1
  | .at_ => 0
  | .size => 0
  | .pair => 0
  | .one => 0
  | .two => 0
  | .as_ => 1
  | .look => 2
def shp (w : Wo) (p : Int) (fr ks us : List W) : W :=
  match w with
  | .row => .tup (.str (woS .row) :: .int p :: (ks ++ [.tup us]))
  | w => .tup (.str (woS w) :: .int p :: (fr ++ (ks ++ us)))
theorem woS_inj : ∀ {a b : Wo}, woS a = woS b → a = b := by
  intro a b h
  cases a <;> cases b <;> first | rfl | (simp [woS] at h)
theorem woS_beq (a b : Wo) : (woS a == woS b) = decide (a = b) := by
  by_cases h : a = b
  · subst h; simp
  · rw [decide_eq_false h]
    exact beq_eq_false_iff_ne.mpr fun z => h (woS_inj z)
theorem len0 {α : Type} {l : List α} (h : l.length = 0) : l = [] := List.eq_nil_of_length_eq_zero h
theorem len1 {α : Type} {l : List α} (h : l.length = 1) : ∃ a, l = [a] := List.length_eq_one_iff.mp h
theorem len2 {α : Type} {l : List α} (h : l.length = 2) : ∃ a b, l = [a, b] := by
  match l, h with
  | [a, b], _ => exact ⟨a, b, rfl⟩
theorem cut_f2 {α : Type} {xs : List α} : cutW xs (some 2) none = xs.drop 2 := cut_from (k := 2)
theorem cut_f3 {α : Type} {xs : List α} : cutW xs (some 3) none = xs.drop 3 := cut_from (k := 3)
theorem cut_f4 {α : Type} {xs : List α} : cutW xs (some 4) none = xs.drop 4 := cut_from (k := 4)
theorem cut_f6 {α : Type} {xs : List α} : cutW xs (some 6) none = xs.drop 6 := cut_from (k := 6)
theorem cut_t2 {α : Type} {xs : List α} : cutW xs none (some 2) = xs.take 2 := cut_to (k := 2)
theorem cut_t3 {α : Type} {xs : List α} : cutW xs none (some 3) = xs.take 3 := cut_to (k := 3)
theorem cut_t4 {α : Type} {xs : List α} : cutW xs none (some 4) = xs.take 4 := cut_to (k := 4)
theorem cut_t6 {α : Type} {xs : List α} : cutW xs none (some 6) = xs.take 6 := cut_to (k := 6)
section
variable {T : Nat → Option FD} {S : Sto} {Q : VQ} {X : XQ} {n : Nat} {w : Wo} {p : Int} {fr ks us : List W}
theorem shp_idx0 : wIdx (shp w p fr ks us) (.int 0) S Q = Q (.str (woS w)) S := by
  cases w <;> (show wIdx (.tup _) _ _ _ = _; rw [wIdx_tup, at0]; rfl)
theorem shp_idx1 : wIdx (shp w p fr ks us) (.int 1) S Q = Q (.int p) S := by
  cases w <;> (show wIdx (.tup _) _ _ _ = _; rw [wIdx_tup, at1]; rfl)
theorem shp_idx2 {f : W} {r : List W} (h : w ≠ .row) (e : fr = f :: r) : wIdx (shp w p fr ks us) (.int 2) S Q = Q f S := by
  subst e
  cases w <;> first | exact absurd rfl h | (show wIdx (.tup _) _ _ _ = _; rw [wIdx_tup]; simp only [List.cons_append, at2]; rfl)
theorem shp_idx3 {f g : W} {r : List W} (h : w ≠ .row) (e : fr = f :: g :: r) : wIdx (shp w p fr ks us) (.int 3) S Q = Q g S := by
  subst e
  cases w <;> first | exact absurd rfl h | (show wIdx (.tup _) _ _ _ = _; rw [wIdx_tup]; simp only [List.cons_append, at3]; rfl)
theorem parts_shp (h : T 87 = some d87) (hf : fr.length = nF w) (hk : ks.length = nK w) (q : ∀ a, S a = none → Ret (.ref a) (S.set a (.lst us)) Q) : wF T (n + 1) 87 [shp w p fr ks us] S Q X := by
  rw [wF_eq h, d87]
  walk_at "w"
  rw [shp_idx0, wEq_s, show [114, 111, 119] = woS .row from rfl, woS_beq]
  cases w <;> ((first | (obtain ⟨f1, f2, rfl⟩ := len2 hf) | (obtain ⟨f1, rfl⟩ := len1 hf) | (obtain rfl := len0 hf)); (first | (obtain ⟨k1, k2, rfl⟩ := len2 hk) | (obtain ⟨k1, rfl⟩ := len1 hk) | (obtain rfl := len0 hk)))
  all_goals simp only [reduceCtorEq, decide_true, decide_false]
  all_goals walk_at "w"
  all_goals first | (rw [shp_idx0]; refine wTab_c rfl ?_) | skip
  all_goals simp only [shp]
  all_goals walk_at "w"
  all_goals (try simp only [cut_f2, cut_f3, cut_f4, cut_f6, at3])
  all_goals walk_at "w"
  all_goals exact q
end
/-! ### trees -/
abbrev Ns := List (List Nat)
def nmW : W → List Nat
  | .str z => z
  | _ => []
inductive Tr where
  | nd (w : Wo) (p : Int) (fr : List W) (ks : List Kd) (ps : List Tr)
mutual
def tW : Tr → W
  | .nd w p fr ks ps => shp w p fr (ks.map kW) (tWs ps)
def tWs : List Tr → List W
  | [] => []
  | t :: ts => tW t :: tWs ts
end
mutual
def dT : Tr → Nat
  | .nd _ _ _ _ ps => dTs ps + 1
def dTs : List Tr → Nat
  | [] => 0
  | t :: ts => max (dT t) (dTs ts)
end
def binds (w : Wo) : Bool := w == .name || w == .fn || w == .self || w == .let_
def okN (w : Wo) (fr : List W) (ks : List Kd) (n : Nat) : Prop := fr.length = nF w ∧ ks.length = nK w ∧ n ≤ 100 ∧ (binds w = true → fr = fr.map fun x => W.str (nmW x))
mutual
def okTr : Tr → Prop
  | .nd w _ fr ks ps => okN w fr ks ps.length ∧ okTrs ps
def okTrs : List Tr → Prop
  | [] => True
  | t :: ts => okTr t ∧ okTrs ts
end
theorem tWs_map : ∀ ts : List Tr, tWs ts = ts.map tW
  | [] => rfl
  | t :: ts => by rw [tWs, tWs_map ts]; rfl
theorem okTrs_mem : ∀ {ts : List Tr} {t : Tr}, okTrs ts → t ∈ ts → okTr t
  | x :: ts, t, h, m => by
    rcases List.mem_cons.mp m with rfl | m
    · exact h.1
    · exact okTrs_mem h.2 m
theorem okTrs_of : ∀ {ts : List Tr}, (∀ t ∈ ts, okTr t) → okTrs ts
  | [], _ => trivial
  | t :: ts, h => ⟨h t List.mem_cons_self, okTrs_of fun x hx => h x (List.mem_cons_of_mem _ hx)⟩
theorem dTs_mem : ∀ {ts : List Tr} {t : Tr}, t ∈ ts → dT t ≤ dTs ts
  | x :: ts, t, m => by
    rcases List.mem_cons.mp m with rfl | m
    · exact Nat.le_max_left _ _
    · exact Nat.le_trans (dTs_mem m) (Nat.le_max_right _ _)
theorem dTs_le : ∀ {ts : List Tr} {n : Nat}, (∀ t ∈ ts, dT t ≤ n) → dTs ts ≤ n
  | [], _, _ => Nat.zero_le _
  | t :: ts, n, h => Nat.max_le.mpr ⟨h t List.mem_cons_self, dTs_le fun x hx => h x (List.mem_cons_of_mem _ hx)⟩
/-! ### names -/
def within (w : Wo) (fr : List W) (i : Nat) (ns : Ns) : Ns := if w = .fn ∨ w = .self ∨ (w = .let_ ∧ i = 1) then ns ++ fr.map nmW else ns
mutual
def frees : Tr → Ns → List (Int × List Nat)
  | .nd w p fr _ ps, ns => (if w = .name ∧ nmW (fr.headD .non) ∉ ns then [(p, nmW (fr.headD .non))] else []) ++ freess w fr 0 ps ns
def freess (w : Wo) (fr : List W) : Nat → List Tr → Ns → List (Int × List Nat)
  | _, [], _ => []
  | i, t :: ts, ns => frees t (within w fr i ns) ++ freess w fr (i + 1) ts ns
end
def woI : Option Int → W
  | some i => .int i
  | none => .non
theorem inW_str {z : List Nat} : ∀ {zs : Ns}, inW (.str z) (zs.map W.str) = decide (z ∈ zs)
  | [] => by simp [inW]
  | y :: ys => by
    show (eqv (.str y) (.str z) || inW (.str z) (ys.map W.str)) = _
    rw [inW_str (zs := ys)]
    by_cases e : y = z
    · simp [eqv, e]
    · have : ¬ z = y := fun h => e h.symm
      simp [eqv, e, this]
theorem strs_flat {zs : Ns} : (zs.map W.str).all flatW = true := by
  rw [List.all_map]; exact List.all_eq_true.mpr fun _ _ => rfl
theorem wIn_rls {neg : Bool} {z : List Nat} {zs : Ns} {S : Sto} {Q : VQ} : wIn neg (.str z) (.rl (zs.map W.str)) S Q = Q (.bl (decide (z ∈ zs) != neg)) S := by
  have ok : inOk S (.str z) (zs.map W.str) = true := by unfold inOk; rw [strs_flat]; rfl
  have e : (inOk S (.str z) (zs.map W.str) = true ∧ Q (.bl (inW (.str z) (zs.map W.str) != neg)) S) = Q (.bl (decide (z ∈ zs) != neg)) S := by
    rw [ok, inW_str]; simp
  rw [← e]
  unfold wIn
  simp only [dicOf]
  cases z with
  | nil => rfl
  | cons a r => cases r <;> rfl
section
variable {T : Nat → Option FD} {S : Sto} {Q : VQ} {X : XQ} {n : Nat} {w : Wo} {p : Int} {fr ks us : List W}
theorem within_ok (h : T 139 = some d139) {i : Nat} {ns : Ns} (hf : fr.length = nF w) (hb : binds w = true → fr = fr.map fun x => W.str (nmW x)) (hl : ns.length ≤ 1000) (q : Q (.rl ((within w fr i ns).map W.str)) S) :
    wF T (n + 1) 139 [shp w p fr ks us, .int (i : Int), .rl (ns.map W.str)] S Q X := by
  rw [wF_eq h, d139]
  walk_at "w"
  have fin : ∀ l : List W, l.length ≤ 2 → l = (l.map fun x => W.str (nmW x)) → within w fr i ns = ns ++ l.map nmW → wAdd false (.rl (ns.map W.str)) (.rl l) S (dnOf Q X).rt := fun l hl2 e0 e => by
    have sz : 1002 ≤ sizeLine := by decide
    refine wAdd_l rfl rfl ⟨by simp; omega, fun a ha => ?_⟩
    have e3 : ns.map W.str ++ l = (within w fr i ns).map W.str := by
      rw [e, List.map_append, List.map_map]
      congr 1
    rw [e3]
    exact retL (Sub.set ha) Sto.set_same ha q
  rw [shp_idx0, wEq_s, show [102, 110] = woS .fn from rfl, woS_beq]
  by_cases e1 : w = .fn
  · subst e1
    obtain ⟨f1, rfl⟩ := len1 hf
    have hb := hb rfl
    rw [decide_eq_true rfl]
    walk_at "w"
    rw [shp_idx2 (by simp) rfl]
    walk_at "w"
    exact fin [f1] (by simp) hb (by simp [within])
  · rw [decide_eq_false e1]
    walk_at "w"
    rw [shp_idx0, wEq_s, show [108, 101, 116] = woS .let_ from rfl, woS_beq]
    by_cases e2 : w = .let_
    · subst e2
      obtain ⟨f1, rfl⟩ := len1 hf
      have hb := hb rfl
      rw [decide_eq_true rfl]
      walk_at "w"
      refine wB_if (fun e3 => ?_) (fun e3 => ?_)
      · have e3 : i = 1 := by
          have e4 : ((i : Int) == 1) = true := e3
          have := beq_iff_eq.mp e4
          omega
        rw [shp_idx2 (by simp) rfl]
        walk_at "w"
        exact fin [f1] (by simp) hb (by simp [within, e3])
      · have e3 : i ≠ 1 := fun z => by subst z; simp at e3
        rw [shp_idx0, wEq_s, show [115, 101, 108, 102] = woS .self from rfl, woS_beq, decide_eq_false (by simp)]
        walk_at "w"
        refine ret0 ?_
        simpa [within, e3] using q
    · rw [decide_eq_false e2]
      walk_at "w"
      rw [shp_idx0, wEq_s, show [115, 101, 108, 102] = woS .self from rfl, woS_beq]
      by_cases e3 : w = .self
      · subst e3
        obtain ⟨f1, f2, rfl⟩ := len2 hf
        have hb := hb rfl
        rw [decide_eq_true rfl]
        walk_at "w"
        rw [shp_idx2 (by simp) rfl, shp_idx3 (by simp) rfl]
        walk_at "w"
        exact fin [f1, f2] (by simp) hb (by simp [within])
      · rw [decide_eq_false e3]
        walk_at "w"
        refine ret0 ?_
        simpa [within, e1, e2, e3] using q
theorem name_test {ns : Ns} {A B : Sto → Prop} (hf : fr.length = nF w) (hb : binds w = true → fr = fr.map fun x => W.str (nmW x)) (hA : w = .name → nmW (fr.headD .non) ∉ ns → A S) (hB : ¬ (w = .name ∧ nmW (fr.headD .non) ∉ ns) → B S) :
    wB (W.bl (decide (w = Wo.name) != false)) (wIdx (shp w p fr ks us) (W.int 2) S fun x S1 => wIn true x (W.rl (ns.map W.str)) S1 fun x S1 => wB x (A S1) (B S1)) (B S) := by
  by_cases e : w = .name
  · subst e
    obtain ⟨f1, rfl⟩ := len1 hf
    have hb := hb rfl
    have hz : f1 = .str (nmW f1) := by simpa using hb
    rw [decide_eq_true rfl, shp_idx2 (by simp) rfl]
    have e1 : wB (W.bl (true != false)) = fun t f => t := rfl
    rw [e1]
    dsimp only
    rw [hz, wIn_rls]
    refine wB_if (fun e => ?_) (fun e => ?_)
    · exact hA rfl (by simpa using e)
    · exact hB fun z => z.2 (by simpa using e)
  · rw [decide_eq_false e]
    exact hB fun z => e z.1
theorem free_ok (h : T 140 = some d140) (h87 : T 87 = some d87) (h139 : T 139 = some d139) : ∀ {n : Nat} {t : Tr} {ns : Ns} {S : Sto} {Q : VQ} {X : XQ}, dT t ≤ n → okTr t → ns.length + 2 * dT t ≤ 900 → Q (woI ((frees t ns).head?.map (·.1))) S → wF T (n + 1) 140 [tW t, .rl (ns.map W.str)] S Q X := by
  intro n
  induction n with
  | zero => intro t ns S Q X hd; cases t; simp [dT] at hd
  | succ n ih =>
    intro t ns S Q X hd hok hl q
    cases t with
    | nd w p fr ks ps =>
    obtain ⟨⟨hf, hk, hn, hb⟩, hps⟩ := hok
    have hk' : (ks.map kW).length = nK w := by rw [List.length_map]; exact hk
    rw [wF_eq h, d140]
    show _ ∧ _
    walk_at "w"
    simp only [tW]
    rw [shp_idx0, wEq_s, show [110, 97, 109, 101] = woS .name from rfl, woS_beq]
    refine name_test hf hb (fun e1 e2 => ?_) (fun e1 => ?_)
    · rw [shp_idx1]
      refine ret0 ?_
      have : frees (.nd w p fr ks ps) ns = [(p, nmW (fr.headD .non))] ++ freess w fr 0 ps ns := by rw [frees, if_pos ⟨e1, e2⟩]
      rw [this] at q
      exact q
    · have ef : frees (.nd w p fr ks ps) ns = freess w fr 0 ps ns := by rw [frees, if_neg e1]; rfl
      rw [ef] at q
      refine parts_shp h87 hf hk' fun a ha => retL (Sub.set ha) Sto.set_same ha ?_
      walk_at "w"
      have hlen : (tWs ps).length = ps.length := by rw [tWs_map, List.length_map]
      refine forI (fun i e S' => S' = S ∧ ∃ x y z, e = [some (shp w p fr (ks.map kW) (tWs ps)), some (.rl (ns.map W.str)), x, y, z] ∧ (freess w fr i (ps.drop i) ns).head?.map (·.1) = (freess w fr 0 ps ns).head?.map (·.1)) 0 ⟨rfl, _, _, _, rfl, rfl⟩ (fun _ _ _ _ _ => trivial) ?_ ?_
      · rintro i w0 e S' nx hi ⟨rfl, x, y, z, rfl, hh⟩ hn2
        rw [enumW_get, tWs_map, List.getElem?_map] at hi
        cases hs : ps[i]? with
        | none => rw [hs] at hi; cases hi
        | some t =>
          rw [hs] at hi
          cases hi
          have hlt : i < ps.length := by
            rcases Nat.lt_or_ge i ps.length with h | h
            · exact h
            · rw [List.getElem?_eq_none h] at hs; cases hs
          have hm : t ∈ ps := List.mem_of_getElem? hs
          have hdr : ps.drop i = t :: ps.drop (i + 1) := by
            rw [List.drop_eq_getElem_cons hlt]
            rw [List.getElem?_eq_getElem hlt] at hs
            rw [Option.some.inj hs]
          rw [Nat.zero_add] at hh hn2
          rw [hdr, freess] at hh
          walk_at "w"
          rw [Nat.zero_add]
          have hdt : dT t ≤ dTs ps := dTs_mem hm
          have hd1 : dT (.nd w p fr ks ps) = dTs ps + 1 := rfl
          refine within_ok h139 hf hb (by omega) ?_
          have hwl : (within w fr i ns).length ≤ ns.length + 2 := by
            unfold within
            split
            · have : nF w ≤ 2 := by cases w <;> simp [nF]
              simp; omega
            · omega
          refine ih (t := t) (ns := within w fr i ns) (by omega) (okTrs_mem hps hm) (by omega) ?_
          walk_at "w"
          cases hfr : (frees t (within w fr i ns)) with
          | nil =>
            rw [hfr] at hh
            simp only [List.head?_nil, Option.map_none, woI]
            walk_at "w"
            exact hn2 _ _ ⟨rfl, _, _, _, rfl, by simpa using hh⟩
          | cons a r =>
            rw [hfr] at hh
            simp only [List.head?_cons, Option.map_some, woI]
            walk_at "w"
            refine ret0 ?_
            rw [← hh] at q
            exact q
      · rintro e S' ⟨rfl, x, y, z, rfl, hh⟩
        rw [enumW_len, hlen, Nat.zero_add, List.drop_of_length_le (Nat.le_refl _)] at hh
        refine ret0 ?_
        rw [← hh] at q
        exact q
end
end Bw

namespace Bw
open PySem (sizeLine)
section
variable {T : Nat → Option FD} {S : Sto} {Q : VQ} {X : XQ} {n : Nat}
theorem k_idx {k a : Kd} {i : Nat} (h : (parts k)[i]? = some a) (q : Q (kW a) S) : wIdx (kW k) (.int ((i + 1 : Nat) : Int)) S Q := by
  rw [kW_eq, wIdx_tup]
  have hi : i < (parts k).length := by
    by_cases z : i < (parts k).length
    · exact z
    · rw [List.getElem?_eq_none (by omega)] at h; cases h
  rw [at_nat (by simp; omega), List.getElem?_cons_succ, List.getElem?_map, h]
  exact q
theorem with1_ok (h : T 1 = some d1) {k : Kd} {x : W} {us : List W} (hx : seqOf S x = some us) (hl : us.length ≤ 1000) (q : Q (.tup (.str (hS k) :: us)) S) : wF T (n + 1) 1 [kW k, x] S Q X := by
  rw [wF_eq h, d1]
  walk_at "w"
  rw [hx]
  walk_at "w"
  have : (1000 : Nat) + 1 ≤ sizeLine := by decide
  exact ⟨by omega, ret0 q⟩
theorem zipW_map (l1 l2 : List Kd) : zipW (l1.map kW) (l2.map kW) = (l1.zip l2).map fun ab => W.tup [kW ab.1, kW ab.2] := by
  induction l1 generalizing l2 with
  | nil => rfl
  | cons a l ih => cases l2 with
    | nil => rfl
    | cons b l2 => simp only [List.map_cons, zipW, List.zip_cons_cons, ih]
theorem jn_zip {k o : Kd} : (¬ (hS k == hS o) = true → jn k o = .unt) ∧ ((hS k == hS o) = true → kW (jn k o) = .tup (.str (hS k) :: ((parts k).zip (parts o)).map fun ab => kW (jn ab.1 ab.2))) := by
  cases k <;> cases o <;> simp [jn, hS, parts, kW]
theorem join_ok (h : T 21 = some d21) (h1 : T 1 = some d1) : ∀ {n : Nat} {k o : Kd} {S : Sto} {Q : VQ} {X : XQ}, kdep k ≤ n → Q (kW (jn k o)) S → wF T (n + 1) 21 [kW k, kW o] S Q X := by
  intro n
  induction n with
  | zero => intro k o S Q X hd; have := kdep_pos k; omega
  | succ n ih =>
    intro k o S Q X hd q
    rw [wF_eq h, d21]
    walk_at "w"
    refine wB_if (fun e2 => ?_) (fun e2 => ?_)
    · have e2 : ¬ (hS k == hS o) = true := by simpa using e2
      rw [jn_zip.1 e2] at q
      exact ret0 q
    · have e2 : (hS k == hS o) = true := by simpa using e2
      rw [jn_zip.2 e2] at q
      rw [zipW_map]
      have hl := parts_len k
      have h1000 : (1000 : Nat) ≤ sizeLine := by decide
      have hlz : ((parts k).zip (parts o)).length ≤ 2 := by rw [List.length_zip]; omega
      refine ⟨by rw [List.length_map]; omega, ?_⟩
      refine compA ((parts k).zip (parts o)) (fun ab => W.tup [kW ab.1, kW ab.2]) (fun ab => kW (jn ab.1 ab.2)) trivial ?_ ?_
      · intro ab hab D hD R r
        walk_at "w"
        have := kdep_part (List.of_mem_zip hab).1
        refine ih (by omega) ?_
        exact r
      · intro D hD
        rw [set_del hD]
        refine with1_ok h1 seqOf_rl (by rw [List.length_map]; omega) ?_
        exact ret0 q
end
end Bw

/-! PR: parting, depth (from M23, M21) -/
namespace Bw
open PySem (sizeLine)
abbrev Way := List (List Nat)
def stepsK : Kd → Way
  | .row _ => [[105, 116, 101, 109]]
  | .to _ _ => [[97, 114, 103], [114, 101, 115]]
  | .pair _ _ => [[111, 110, 101], [116, 119, 111]]
  | _ => []
def prt : Kd → Kd → Option Way
  | .unt, _ => none
  | _, .unt => none
  | .whole, .whole => none
  | .truth, .truth => none
  | .row a, .row b => (prt a b).map fun w => [105, 116, 101, 109] :: w
  | .to a a', .to b b' => match prt a b with
    | some w => some ([97, 114, 103] :: w)
    | none => (prt a' b').map fun w => [114, 101, 115] :: w
  | .pair a a', .pair b b' => match prt a b with
    | some w => some ([111, 110, 101] :: w)
    | none => (prt a' b').map fun w => [116, 119, 111] :: w
  | _, _ => some []
def wys : Kd → Kd → List Way
  | .unt, _ => []
  | _, .unt => []
  | .whole, .whole => []
  | .truth, .truth => []
  | .row a, .row b => (wys a b).map fun w => [105, 116, 101, 109] :: w
  | .to a a', .to b b' => (wys a b).map (fun w => [97, 114, 103] :: w) ++ (wys a' b').map fun w => [114, 101, 115] :: w
  | .pair a a', .pair b b' => (wys a b).map (fun w => [111, 110, 101] :: w) ++ (wys a' b').map fun w => [116, 119, 111] :: w
  | _, _ => [[]]
theorem prt_wys : ∀ a b : Kd, prt a b = (wys a b).head?
  | .unt, b => by cases b <;> rfl
  | .whole, b => by cases b <;> rfl
  | .truth, b => by cases b <;> rfl
  | .row a, b => by
    cases b with
    | row b => simp [prt, wys, prt_wys a b]
    | _ => rfl
  | .to a a', b => by
    cases b with
    | to b b' =>
      simp only [prt, wys, prt_wys a b, prt_wys a' b']
      cases wys a b <;> simp
    | _ => rfl
  | .pair a a', b => by
    cases b with
    | pair b b' =>
      simp only [prt, wys, prt_wys a b, prt_wys a' b']
      cases wys a b <;> simp
    | _ => rfl
theorem prt_comm : ∀ a b : Kd, prt a b = prt b a
  | .unt, b => by cases b <;> rfl
  | .whole, b => by cases b <;> rfl
  | .truth, b => by cases b <;> rfl
  | .row a, b => by
    cases b with
    | row b => simp [prt, prt_comm a b]
    | _ => rfl
  | .to a a', b => by
    cases b with
    | to b b' => simp only [prt, prt_comm a b, prt_comm a' b']
    | _ => rfl
  | .pair a a', b => by
    cases b with
    | pair b b' => simp only [prt, prt_comm a b, prt_comm a' b']
    | _ => rfl
theorem prt_self : ∀ a : Kd, prt a a = none
  | .unt => rfl
  | .whole => rfl
  | .truth => rfl
  | .row a => by simp [prt, prt_self a]
  | .to a b => by simp [prt, prt_self a, prt_self b]
  | .pair a b => by simp [prt, prt_self a, prt_self b]
def prtL : Way → List Kd → List Kd → Option Way
  | st :: sts, a :: as, b :: bs => match prt a b with
    | some w => some (st :: w)
    | none => prtL sts as bs
  | _, _, _ => none
theorem prt_ne {k o : Kd} (hk : k ≠ .unt) (ho : o ≠ .unt) (h : (hS k == hS o) = false) : prt k o = some [] := by cases k <;> cases o <;> simp [hS, prt] at hk ho h ⊢
theorem prt_eq {k o : Kd} (hk : k ≠ .unt) (ho : o ≠ .unt) (h : (hS k == hS o) = true) : prt k o = prtL (stepsK k) (parts k) (parts o) ∧ (parts o).length = (parts k).length ∧ (stepsK k).length = (parts k).length := by
  cases k <;> cases o <;> simp [hS, prt, prtL, stepsK, parts] at hk ho h ⊢
  · rename_i a b; cases prt a b <;> rfl
  · rename_i a b c d; cases prt a c <;> simp <;> cases prt b d <;> rfl
  · rename_i a b c d; cases prt a c <;> simp <;> cases prt b d <;> rfl
theorem prt_unt {k o : Kd} (h : k = .unt ∨ o = .unt) : prt k o = none := by rcases h with rfl | rfl <;> (try cases k) <;> (try cases o) <;> rfl
theorem wys_len : ∀ a b : Kd, (wys a b).length + 1 ≤ 2 ^ kdep a ∧ ∀ w ∈ wys a b, w.length < kdep a
  | .unt, b => by cases b <;> simp [wys, kdep]
  | .whole, b => by cases b <;> simp [wys, kdep]
  | .truth, b => by cases b <;> simp [wys, kdep]
  | .row a, b => by
    cases b with
    | row b =>
      obtain ⟨h1, h2⟩ := wys_len a b
      simp only [wys, kdep, List.length_map]
      refine ⟨by rw [Nat.pow_succ]; omega, fun w hw => ?_⟩
      obtain ⟨v, hv, rfl⟩ := List.mem_map.mp hw
      have := h2 v hv
      simp only [List.length_cons]; omega
    | unt => simp [wys, kdep, Nat.one_le_two_pow]
    | _ => simp only [wys, kdep, List.length_singleton, List.mem_singleton]; refine ⟨?_, fun w hw => by subst hw; simp⟩; rw [Nat.pow_succ]; have : 1 ≤ 2 ^ kdep a := Nat.one_le_two_pow; omega
  | .to a a', b => by
    have m1 : 2 ^ kdep a ≤ 2 ^ max (kdep a) (kdep a') := Nat.pow_le_pow_right (by omega) (Nat.le_max_left _ _)
    have m2 : 2 ^ kdep a' ≤ 2 ^ max (kdep a) (kdep a') := Nat.pow_le_pow_right (by omega) (Nat.le_max_right _ _)
    have m3 : 1 ≤ 2 ^ max (kdep a) (kdep a') := Nat.one_le_two_pow
    cases b with
    | to b b' =>
      obtain ⟨h1, h2⟩ := wys_len a b
      obtain ⟨h1', h2'⟩ := wys_len a' b'
      simp only [wys, kdep, List.length_map, List.length_append]
      refine ⟨by rw [Nat.pow_succ]; omega, fun w hw => ?_⟩
      rcases List.mem_append.mp hw with hw | hw
      · obtain ⟨v, hv, rfl⟩ := List.mem_map.mp hw
        have := h2 v hv
        simp only [List.length_cons]; omega
      · obtain ⟨v, hv, rfl⟩ := List.mem_map.mp hw
        have := h2' v hv
        simp only [List.length_cons]; omega
    | unt => simp [wys, kdep, Nat.one_le_two_pow]
    | _ => simp only [wys, kdep, List.length_singleton, List.mem_singleton]; refine ⟨?_, fun w hw => by subst hw; simp⟩; rw [Nat.pow_succ]; omega
  | .pair a a', b => by
    have m1 : 2 ^ kdep a ≤ 2 ^ max (kdep a) (kdep a') := Nat.pow_le_pow_right (by omega) (Nat.le_max_left _ _)
    have m2 : 2 ^ kdep a' ≤ 2 ^ max (kdep a) (kdep a') := Nat.pow_le_pow_right (by omega) (Nat.le_max_right _ _)
    have m3 : 1 ≤ 2 ^ max (kdep a) (kdep a') := Nat.one_le_two_pow
    cases b with
    | pair b b' =>
      obtain ⟨h1, h2⟩ := wys_len a b
      obtain ⟨h1', h2'⟩ := wys_len a' b'
      simp only [wys, kdep, List.length_map, List.length_append]
      refine ⟨by rw [Nat.pow_succ]; omega, fun w hw => ?_⟩
      rcases List.mem_append.mp hw with hw | hw
      · obtain ⟨v, hv, rfl⟩ := List.mem_map.mp hw
        have := h2 v hv
        simp only [List.length_cons]; omega
      · obtain ⟨v, hv, rfl⟩ := List.mem_map.mp hw
        have := h2' v hv
        simp only [List.length_cons]; omega
    | unt => simp [wys, kdep, Nat.one_le_two_pow]
    | _ => simp only [wys, kdep, List.length_singleton, List.mem_singleton]; refine ⟨?_, fun w hw => by subst hw; simp⟩; rw [Nat.pow_succ]; omega
abbrev wyW (w : Way) : W := .tup (w.map W.str)
def woW : Option Way → W
  | some w => wyW w
  | none => .non
def enF : Nat → Way → List (Nat × List Nat)
  | _, [] => []
  | i, s :: ss => (i, s) :: enF (i + 1) ss
theorem enumW_enF : ∀ (ss : Way) (i : Nat), enumW i (ss.map W.str) = (enF i ss).map fun p => .tup [.int ((p.1 : Nat) : Int), .str p.2]
  | [], _ => rfl
  | s :: ss, i => by simp only [List.map_cons, enumW, enF, enumW_enF ss (i + 1)]
theorem strs_due {w : Way} (h : w.length ≤ 1000) : due2 (wyW w) = true := due2_tup (by simpa using h) fun x hx => by
  obtain ⟨s, _, rfl⟩ := List.mem_map.mp hx; rfl
theorem strs_dep (w : Way) : depW (wyW w) = 1 := by
  show depWs (w.map W.str) + 1 = 1
  have : ∀ w : Way, depWs (w.map W.str) = 0 := by
    intro w
    induction w with
    | nil => rfl
    | cons a l ih => show max 0 (depWs (l.map W.str)) = 0; rw [ih]; rfl
  rw [this]
section
variable {T : Nat → Option FD} {S : Sto} {Q : VQ} {X : XQ} {n : Nat}
theorem steps_ok (h : T 68 = some d68) {k : Kd} (q : Q (.rl ((stepsK k).map W.str)) S) : wF T (n + 1) 68 [kW k] S Q X := by
  rw [wF_eq h, d68]
  walk_at "w"
  cases k <;> (simp only [hS]; walk_at "w") <;> intro p hp <;> exact retL (Sub.set hp) Sto.set_same hp q
theorem parting_ok (h : T 69 = some d69) (h68 : T 68 = some d68) : ∀ {n : Nat} {k o : Kd} {S : Sto} {Q : VQ} {X : XQ}, kdep k ≤ n → kdep k ≤ 1000 → Q (woW (prt k o)) S → wF T (n + 1) 69 [kW k, kW o] S Q X := by
  intro n
  induction n with
  | zero => intro k o S Q X hd; have := kdep_pos k; omega
  | succ n ih =>
    intro k o S Q X hd h1000 q
    rw [wF_eq h, d69]
    walk_at "w"
    refine wB_or (fun e => ?_) (fun e1 e2 => ?_)
    · have e : k = .unt ∨ o = .unt := e.imp of_decide_eq_true of_decide_eq_true
      rw [prt_unt e] at q
      exact ret0 q
    have hk : k ≠ .unt := of_decide_eq_false e1
    have ho : o ≠ .unt := of_decide_eq_false e2
    refine wB_if (fun e => ?_) (fun e => ?_)
    · have e : (hS k == hS o) = false := by simpa using e
      rw [prt_ne hk ho e] at q
      exact ret0 q
    have e : (hS k == hS o) = true := by simpa using e
    obtain ⟨h1, h2, h3⟩ := prt_eq hk ho e
    refine steps_ok h68 ?_
    walk_at "w"
    rw [enumW_enF]
    have hsz : (1000 : Nat) + 1 ≤ sizeLine := by decide
    refine forR (fun p : Nat × List Nat => .tup [.int ((p.1 : Nat) : Int), .str p.2]) (fun l env S' => S' = S ∧ (∃ x y z, env = [some (kW k), some (kW o), x, y, z]) ∧ ∃ (j : Nat) (ss : Way), l = enF j ss ∧ ss.length + j = (parts k).length ∧ prtL ss ((parts k).drop j) ((parts o).drop j) = prt k o)
      ⟨rfl, ⟨_, _, _, rfl⟩, 0, stepsK k, rfl, by omega, by rw [h1]; rfl⟩ (fun _ _ _ _ => trivial) ?_ ?_
    · rintro p l env S' nx ⟨rfl, ⟨x, y, z, rfl⟩, j, ss, hl, hlen, hp⟩ hn
      cases ss with
      | nil => simp [enF] at hl
      | cons s ss =>
        simp only [enF, List.cons.injEq] at hl
        obtain ⟨rfl, rfl⟩ := hl
        simp only [List.length_cons] at hlen
        walk_at "w"
        have ha : (parts k)[j]? = some (parts k)[j] := List.getElem?_eq_getElem (by omega)
        have hb : (parts o)[j]? = some (parts o)[j] := List.getElem?_eq_getElem (by omega)
        rw [show (1 : Int) + (j : Int) = ((j + 1 : Nat) : Int) by omega]
        refine k_idx ha ?_
        walk_at "w"
        try rw [show (1 : Int) + (j : Int) = ((j + 1 : Nat) : Int) by omega]
        refine k_idx hb ?_
        walk_at "w"
        have hm : (parts k)[j] ∈ parts k := List.getElem_mem (by omega)
        have hd2 := kdep_part hm
        refine ih (by omega) (by omega) ?_
        rw [List.drop_eq_getElem_cons (show j < (parts k).length by omega), List.drop_eq_getElem_cons (show j < (parts o).length by omega)] at hp
        simp only [prtL] at hp
        cases hpr : prt (parts k)[j] (parts o)[j] with
        | none =>
          rw [hpr] at hp
          rw [woW]
          walk_at "w"
          exact hn _ _ ⟨rfl, ⟨_, _, _, rfl⟩, j + 1, ss, rfl, by omega, hp⟩
        | some w =>
          rw [hpr] at hp
          rw [← hp] at q
          rw [woW]
          walk_at "w"
          have hw : w.length < kdep (parts k)[j] := by
            have := prt_wys (parts k)[j] (parts o)[j]
            rw [hpr] at this
            exact (wys_len _ _).2 w (List.mem_of_mem_head? this.symm)
          exact ⟨by omega, ret0 q⟩
    · rintro env S' ⟨rfl, ⟨x, y, z, rfl⟩, j, ss, hl, hlen, hp⟩
      cases ss with
      | cons s ss => simp [enF] at hl
      | nil =>
        have : prt k o = none := by rw [← hp]; rfl
        rw [this] at q
        walk_at "w"
        exact ret0 q
theorem same_ok (h : T 70 = some d70) (h69 : T 69 = some d69) (h68 : T 68 = some d68) {k o : Kd} (hd : kdep k ≤ n) (h10 : kdep k ≤ 1000) (q : Q (.bl (prt k o).isNone) S) : wF T (n + 2) 70 [kW k, kW o] S Q X := by
  rw [wF_eq h, d70]
  walk_at "w"
  refine parting_ok h69 h68 hd h10 ?_
  cases hp : prt k o with
  | none => rw [hp] at q; rw [woW]; walk_at "w"; exact ret0 q
  | some w => rw [hp] at q; rw [woW]; walk_at "w"; exact ret0 q
theorem intsOf_map {α : Type} (l : List α) (φ : α → Int) : intsOf (l.map fun a => W.int (φ a)) = some (l.map φ) := by
  induction l with
  | nil => rfl
  | cons a l ih => simp only [List.map_cons, intsOf, ih, Option.map_some]
theorem depth_ok (h : T 11 = some d11) : ∀ {n : Nat} {k : Kd} {S : Sto} {Q : VQ} {X : XQ}, kdep k ≤ n → Q (.int (kdep k : Nat)) S → wF T (n + 1) 11 [kW k] S Q X
  | 0, k, _, _, _, hd, _ => by have := kdep_pos k; omega
  | n + 1, k, S, Q, X, hd, q => by
    rw [wF_eq h, d11]
    walk_at "w"
    have hl := parts_len k
    refine ⟨by have : (1000 : Nat) ≤ sizeLine := by decide
               omega, ?_⟩
    refine compA (parts k) kW (fun a => .int ((kdep a : Nat) : Int)) trivial ?_ ?_
    · intro a ha D hD R r
      walk_at "w"
      have := kdep_part ha
      refine depth_ok h (by omega) ?_
      exact r
    · intro D hD
      rw [set_del hD]
      refine wMaxd_l (intsOf_map _ _) ?_
      walk_at "w"
      refine ret0 ?_
      have e : (1 : Int) + (if (parts k).map (fun a => ((kdep a : Nat) : Int)) = [] then 0 else maxL ((parts k).map (fun a => ((kdep a : Nat) : Int)))) = ((kdep k : Nat) : Int) := by
        cases k <;> simp [parts, kdep, maxL] <;> omega
      rw [e]
      exact q
end
end Bw

/-! LO: the looker -/
namespace Bw
open PySem (sizeLine)
abbrev Tbl := List (Int × Kd)
def getT : Tbl → Int → Option Kd
  | [], _ => none
  | (q, k) :: r, p => if q = p then some k else getT r p
def putT (F : Tbl) (p : Int) (k : Kd) : Tbl := if (F.any fun e => decide (e.1 = p)) = true then F.map (fun e => if e.1 = p then (e.1, k) else e) else F ++ [(p, k)]
def kyT (F : Tbl) : List Ky := F.map fun e => .inl e.1
def wsT (F : Tbl) : List W := F.map fun e => kW e.2
def dO (F : Tbl) : O := .dic (kyT F) (wsT F)
theorem look_T : ∀ {F : Tbl} {p : Int}, lookD (kyT F) (wsT F) (.inl p) = (getT F p).map kW
  | [], _ => rfl
  | (q, k) :: r, p => by
    show (if (Sum.inl q : Ky) = Sum.inl p then some (kW k) else lookD (kyT r) (wsT r) (.inl p)) = Option.map kW (if q = p then some k else getT r p)
    rw [look_T (F := r)]
    by_cases e : q = p
    · rw [if_pos e, if_pos (by rw [e])]; rfl
    · rw [if_neg e, if_neg (fun z => e (by injection z))]
theorem put_T {F : Tbl} {p : Int} {k : Kd} : putD (kyT F) (wsT F) (.inl p) (kW k) = (kyT (putT F p k), wsT (putT F p k)) := by
  have ea : ((kyT F).any fun x => decide (x = Sum.inl p)) = F.any fun e => decide (e.1 = p) := by
    unfold kyT
    rw [List.any_map]
    congr 1
    funext e
    show decide ((Sum.inl e.1 : Ky) = Sum.inl p) = _
    by_cases h : e.1 = p
    · rw [decide_eq_true h, decide_eq_true (by rw [h])]
    · rw [decide_eq_false h, decide_eq_false (fun z => h (by injection z))]
  have er : ∀ F : Tbl, repD (kyT F) (wsT F) (.inl p) (kW k) = wsT (F.map fun e => if e.1 = p then (e.1, k) else e) := fun F => by
    induction F with
    | nil => rfl
    | cons e r ih =>
      show (if (Sum.inl e.1 : Ky) = Sum.inl p then kW k else kW e.2) :: repD (kyT r) (wsT r) (.inl p) (kW k) = kW (if e.1 = p then (e.1, k) else e).2 :: wsT (r.map _)
      rw [ih]
      congr 1
      by_cases h : e.1 = p
      · rw [if_pos h, if_pos (by rw [h])]
      · rw [if_neg h, if_neg (fun z => h (by injection z))]
  have ek : kyT (F.map fun e => if e.1 = p then (e.1, k) else e) = kyT F := by
    unfold kyT
    rw [List.map_map]
    refine List.map_congr_left fun e _ => ?_
    show (Sum.inl (if e.1 = p then (e.1, k) else e).1 : Ky) = Sum.inl e.1
    split <;> rfl
  unfold putD putT
  rw [ea]
  by_cases h : (F.any fun e => decide (e.1 = p)) = true
  · rw [if_pos h, if_pos h, er, ek]
  · rw [if_neg h, if_neg h]
    unfold kyT wsT
    rw [List.map_append, List.map_append]
    rfl
theorem ws_len {F : Tbl} : (wsT F).length = F.length := List.length_map _
theorem putT_len {F : Tbl} {p : Int} {k : Kd} : (putT F p k).length ≤ F.length + 1 := by
  unfold putT
  split
  · rw [List.length_map]; omega
  · simp
theorem get_put {F : Tbl} {p q : Int} {k : Kd} : getT (putT F p k) q = if q = p then some k else getT F q := by
  have h1 : ∀ F : Tbl, (F.any fun e => decide (e.1 = p)) = true → getT (F.map fun e => if e.1 = p then (e.1, k) else e) q = if q = p then some k else getT F q := fun F => by
    induction F with
    | nil => intro h; cases h
    | cons e r ih =>
      intro h
      rw [List.map_cons]
      by_cases e1 : e.1 = p
      · rw [if_pos e1]
        by_cases e2 : q = p
        · rw [if_pos e2]
          show (if e.1 = q then some k else _) = _
          rw [if_pos (by rw [e1, e2])]
        · rw [if_neg e2]
          show (if e.1 = q then some k else getT (r.map _) q) = (if e.1 = q then some e.2 else getT r q)
          have e3 : ¬ e.1 = q := fun z => e2 (by rw [← z, e1])
          rw [if_neg e3, if_neg e3]
          by_cases h2 : (r.any fun e => decide (e.1 = p)) = true
          · rw [ih h2, if_neg e2]
          · have : r.map (fun e => if e.1 = p then (e.1, k) else e) = r := by
              rw [List.map_congr_left (g := id), List.map_id]
              intro x hx
              rw [if_neg]
              · rfl
              · intro z
                exact h2 (List.any_eq_true.mpr ⟨x, hx, decide_eq_true z⟩)
            rw [this]
      · rw [if_neg e1]
        have h2 : (r.any fun e => decide (e.1 = p)) = true := by
          rw [List.any_cons, decide_eq_false e1, Bool.false_or] at h
          exact h
        show (if e.1 = q then some e.2 else getT (r.map _) q) = _
        rw [ih h2]
        by_cases e2 : q = p
        · rw [if_pos e2, if_pos e2, if_neg (fun z => e1 (by rw [z, e2]))]
        · rw [if_neg e2, if_neg e2]; rfl
  have h2 : ∀ F : Tbl, ¬ (F.any fun e => decide (e.1 = p)) = true → getT (F ++ [(p, k)]) q = if q = p then some k else getT F q := fun F => by
    induction F with
    | nil =>
      intro _
      show (if p = q then some k else none) = _
      by_cases e2 : q = p
      · rw [if_pos e2, if_pos e2.symm]
      · rw [if_neg e2, if_neg (fun z => e2 z.symm)]; rfl
    | cons e r ih =>
      intro h
      rw [List.any_cons, Bool.or_eq_true, not_or] at h
      have e1 : ¬ e.1 = p := fun z => h.1 (decide_eq_true z)
      show (if e.1 = q then some e.2 else getT (r ++ [(p, k)]) q) = _
      rw [ih h.2]
      by_cases e2 : q = p
      · rw [if_pos e2, if_pos e2, if_neg (fun z => e1 (by rw [z, e2]))]
      · rw [if_neg e2, if_neg e2]; rfl
  unfold putT
  split
  · rename_i h; exact h1 F h
  · rename_i h; exact h2 F h
/-! names -/
abbrev Nm := List (List Nat × Kd)
def getN : Nm → List Nat → Option Kd
  | [], _ => none
  | (q, k) :: r, p => if q = p then some k else getN r p
def putN (F : Nm) (p : List Nat) (k : Kd) : Nm := if (F.any fun e => decide (e.1 = p)) = true then F.map (fun e => if e.1 = p then (e.1, k) else e) else F ++ [(p, k)]
def kyN (F : Nm) : List Ky := F.map fun e => .inr e.1
def wsN (F : Nm) : List W := F.map fun e => kW e.2
abbrev nmD (F : Nm) : W := .dct (kyN F) (wsN F)
theorem look_N : ∀ {F : Nm} {p : List Nat}, lookD (kyN F) (wsN F) (.inr p) = (getN F p).map kW
  | [], _ => rfl
  | (q, k) :: r, p => by
    show (if (Sum.inr q : Ky) = Sum.inr p then some (kW k) else lookD (kyN r) (wsN r) (.inr p)) = Option.map kW (if q = p then some k else getN r p)
    rw [look_N (F := r)]
    by_cases e : q = p
    · rw [if_pos e, if_pos (by rw [e])]; rfl
    · rw [if_neg e, if_neg (fun z => e (by injection z))]
theorem put_N {F : Nm} {p : List Nat} {k : Kd} : putD (kyN F) (wsN F) (.inr p) (kW k) = (kyN (putN F p k), wsN (putN F p k)) := by
  have ea : ((kyN F).any fun x => decide (x = Sum.inr p)) = F.any fun e => decide (e.1 = p) := by
    unfold kyN
    rw [List.any_map]
    congr 1
    funext e
    show decide ((Sum.inr e.1 : Ky) = Sum.inr p) = _
    by_cases h : e.1 = p
    · rw [decide_eq_true h, decide_eq_true (by rw [h])]
    · rw [decide_eq_false h, decide_eq_false (fun z => h (by injection z))]
  have er : ∀ F : Nm, repD (kyN F) (wsN F) (.inr p) (kW k) = wsN (F.map fun e => if e.1 = p then (e.1, k) else e) := fun F => by
    induction F with
    | nil => rfl
    | cons e r ih =>
      show (if (Sum.inr e.1 : Ky) = Sum.inr p then kW k else kW e.2) :: repD (kyN r) (wsN r) (.inr p) (kW k) = kW (if e.1 = p then (e.1, k) else e).2 :: wsN (r.map _)
      rw [ih]
      congr 1
      by_cases h : e.1 = p
      · rw [if_pos h, if_pos (by rw [h])]
      · rw [if_neg h, if_neg (fun z => h (by injection z))]
  have ek : kyN (F.map fun e => if e.1 = p then (e.1, k) else e) = kyN F := by
    unfold kyN
    rw [List.map_map]
    refine List.map_congr_left fun e _ => ?_
    show (Sum.inr (if e.1 = p then (e.1, k) else e).1 : Ky) = Sum.inr e.1
    split <;> rfl
  unfold putD putN
  rw [ea]
  by_cases h : (F.any fun e => decide (e.1 = p)) = true
  · rw [if_pos h, if_pos h, er, ek]
  · rw [if_neg h, if_neg h]
    unfold kyN wsN
    rw [List.map_append, List.map_append]
    rfl
theorem putN_len {F : Nm} {p : List Nat} {k : Kd} : (putN F p k).length ≤ F.length + 1 := by
  unfold putN
  split
  · rw [List.length_map]; omega
  · simp
/-! ### what the looker does -/
def fP : List Nat := [112, 108, 97, 99, 101]
def xDeep (p : Int) : Xn := ⟨5, [fP], [.int p]⟩
def xPart (p : Int) (k : Kd) (b : Int) (w : Kd) : Xn := ⟨8, [[119, 97, 121], [119, 97, 110, 116, 101, 100], [98, 121], [107, 105, 110, 100], fP], [woW (prt k w), kW w, .int b, kW k, .int p]⟩
inductive RL where
  | ok (k : Kd) (F G : Tbl)
  | bad (x : Xn) (F G : Tbl)
def RL.bind (r : RL) (f : Kd → Tbl → Tbl → RL) : RL := match r with
  | .ok k F G => f k F G
  | .bad x F G => .bad x F G
def fin (p : Int) (r : RL) : RL := r.bind fun k F G => if 4 < kdep k then .bad (xDeep p) F G else .ok k (putT F p k) (putT G p k)
def holdT (p b : Int) (w : Kd) (F G : Tbl) (f : Tbl → Tbl → RL) : RL := match getT F p with
  | some k => if prt k w = none then f F (putT G p w) else .bad (xPart p k b w) F G
  | none => .bad (xDeep p) F G
def plT : Tr → Int
  | .nd _ p _ _ _ => p
def wrT : Wo → List Kd → List Kd
  | .look, _ => []
  | _, ks => ks
section
variable {pl pf pw : PySem.Addr}
/-- the store with the looker's two dicts -/
def up (pf pw : PySem.Addr) (S : Sto) (F G : Tbl) : Sto := (S.set pf (dO F)).set pw (dO G)
def LkO (pf pw : PySem.Addr) : O := .ins 9 [[102, 111, 117, 110, 100], [119, 97, 110, 116, 101, 100]] [.ref pf, .ref pw]
theorem up_pl {S : Sto} {F G : Tbl} (n1 : pl ≠ pf) (n2 : pl ≠ pw) (h : S pl = some (LkO pf pw)) : up pf pw S F G pl = some (LkO pf pw) := by
  unfold up; rw [Sto.set_ne n2, Sto.set_ne n1]; exact h
theorem up_pf {S : Sto} {F G : Tbl} (n3 : pf ≠ pw) : up pf pw S F G pf = some (dO F) := by
  unfold up; rw [Sto.set_ne n3]; exact Sto.set_same
theorem up_pw {S : Sto} {F G : Tbl} : up pf pw S F G pw = some (dO G) := Sto.set_same
theorem up_set_pf {S : Sto} {F G F' : Tbl} (n3 : pf ≠ pw) : (up pf pw S F G).set pf (dO F') = up pf pw S F' G := by
  funext b
  unfold up Sto.set
  by_cases h1 : b = pf
  · subst h1; simp [n3]
  · simp [h1]
theorem up_set_pw {S : Sto} {F G G' : Tbl} : (up pf pw S F G).set pw (dO G') = up pf pw S F G' := by
  unfold up; rw [set_set]
end
section
variable {T : Nat → Option FD} {S : Sto} {Q : VQ} {X : XQ} {n : Nat} {pl pf pw : PySem.Addr}
theorem meth1 {a : PySem.Addr} {c : Nat} {kk : List (List Nat)} {ws0 : List W} {tb : List (Nat × Nat)} {m : List Nat} {f : Nat} {P : Nat → Prop} (h : S a = some (.ins c kk ws0)) (hf : lookF kk ws0 m = none) (ht : tb.lookup c = some f) :
    (wSome (objOf S (.ref a)) fun p => lookF p.2.1 p.2.2 m = none ∧ wSome (tb.lookup p.1) P) = P f := by
  rw [obj_ref h]
  simp only [wSome, hf, ht, true_and]
theorem fldR {a : PySem.Addr} {c : Nat} {kk : List (List Nat)} {ws0 : List W} {f : List Nat} {w : W} {cs : List Nat} (h : S a = some (.ins c kk ws0)) (hf : lookF kk ws0 f = some w) : wFld cs (.ref a) f S Q = Q w S := by
  unfold wFld
  rw [fld_ref h]
  simp only [wSome, hf]
theorem Sub.setO {S : Sto} {p : PySem.Addr} {o : O} (h : S p = none) (ho : o ≠ .hid) : Sub S (S.set p o) := by
  refine ⟨fun a u e => ?_, fun a e => ?_⟩
  · have n : a ≠ p := fun z => by rw [z, h] at e; cases e
    rw [Sto.set_ne n]; exact e
  · by_cases n : a = p
    · subst n
      rw [Sto.set_same] at e
      cases e
      exact absurd rfl ho
    · rw [Sto.set_ne n] at e; exact e
theorem idx_pf {F G : Tbl} {p : Int} {k : Kd} (n3 : pf ≠ pw) (hk : getT F p = some k) : wIdx (.ref pf) (.int p) (up pf pw S F G) Q = Q (kW k) (up pf pw S F G) := by
  rw [wIdxD_ref (show up pf pw S F G pf = some (.dic (kyT F) (wsT F)) from up_pf n3), kyOf_int]
  simp only [wSome, look_T, hk, Option.map_some]
theorem set_pw {F G : Tbl} {p : Int} {k : Kd} {Q : Sto → Prop} (hG : G.length < 1000000) (q : Q (up pf pw S F (putT G p k))) : wSetIx (.ref pw) (.int p) (kW k) (up pf pw S F G) Q := by
  have sz : 1000000 ≤ sizeLine := by decide
  rw [wSetD_ref (show up pf pw S F G pw = some (.dic (kyT G) (wsT G)) from up_pw), kyOf_int]
  simp only [wSome]
  rw [put_T]
  refine ⟨by rw [ws_len]; omega, ?_⟩
  have := @up_set_pw pf pw S F G (putT G p k)
  unfold dO at this
  rw [this]
  exact q
theorem set_pf {F G : Tbl} {p : Int} {k : Kd} {Q : Sto → Prop} (n3 : pf ≠ pw) (hF : F.length < 1000000) (q : Q (up pf pw S (putT F p k) G)) : wSetIx (.ref pf) (.int p) (kW k) (up pf pw S F G) Q := by
  have sz : 1000000 ≤ sizeLine := by decide
  rw [wSetD_ref (show up pf pw S F G pf = some (.dic (kyT F) (wsT F)) from up_pf n3), kyOf_int]
  simp only [wSome]
  rw [put_T]
  refine ⟨by rw [ws_len]; omega, ?_⟩
  have := @up_set_pf pf pw S F G (putT F p k) n3
  unfold dO at this
  rw [this]
  exact q
theorem shallow_ok (h : T 155 = some d155) (h11 : T 11 = some d11) {k : Kd} {p : Int} (hd : kdep k ≤ n) (q : if 4 < kdep k then X (xDeep p) S else Q .non S) : wF T (n + 2) 155 [kW k, .int p] S Q X := by
  rw [wF_eq h, d155]
  walk_at "w"
  refine depth_ok h11 hd ?_
  walk_at "w"
  refine wB_dec (fun e => ?_) (fun e => ?_)
  · rw [if_pos (by omega)] at q
    exact ⟨by omega, retX0 q⟩
  · rw [if_neg (by omega)] at q
    exact retN0 q
theorem bound_ok (h : T 156 = some d156) {N : Nm} {z : List Nat} {k : Kd} (hl : N.length ≤ 10000) (q : Q (nmD (putN N z k)) S) : wF T (n + 1) 156 [nmD N, .str z, kW k] S Q X := by
  have sz : 100000 ≤ sizeLine := by decide
  rw [wF_eq h, d156]
  walk_at "w"
  intro a ha
  rw [wSetD_ref Sto.set_same]
  walk_at "w"
  rw [put_N]
  refine ⟨by unfold wsN; rw [List.length_map]; omega, ?_⟩
  rw [set_set]
  refine retD (Sub.setO ha (fun z => by cases z)) Sto.set_same ha q
theorem hold_ok (h : T 158 = some d158) (h70 : T 70 = some d70) (h69 : T 69 = some d69) (h68 : T 68 = some d68) (n1 : pl ≠ pf) (n2 : pl ≠ pw) (n3 : pf ≠ pw) (hpl : S pl = some (LkO pf pw)) {F G : Tbl} {t : Tr} {w : Kd} {b : Int} {k : Kd} (hk : getT F (plT t) = some k) (hd : kdep k ≤ n) (h10 : kdep k ≤ 1000) (hG : G.length ≤ 100000)
    (q : if prt k w = none then Q .non (up pf pw S F (putT G (plT t) w)) else X (xPart (plT t) k b w) (up pf pw S F G)) : wF T (n + 3) 158 [.ref pl, tW t, kW w, .int b] (up pf pw S F G) Q X := by
  have sz : 1000000 ≤ sizeLine := by decide
  have ul := @up_pl pl pf pw S F G n1 n2 hpl
  cases t with
  | nd w0 p fr ks ps =>
  have hk : getT F p = some k := hk
  rw [wF_eq h, d158]
  simp only [tW]
  walk_at "w"
  rw [fldR ul rfl, shp_idx1, idx_pf n3 hk]
  refine same_ok h70 h69 h68 hd h10 ?_
  walk_at "w"
  simp only [plT] at q
  cases hp : prt k w with
  | none =>
    rw [if_pos hp] at q
    rw [show (!(none : Option Way).isNone) = false from rfl, wB_f]
    rw [fldR ul rfl, shp_idx1]
    exact set_pw (G := G) (by omega) (retN0 q)
  | some wy =>
    rw [if_neg (by rw [hp]; simp)] at q
    rw [show (!(some wy).isNone) = true from rfl, wB_t, shp_idx1]
    refine parting_ok h69 h68 (by omega) h10 ?_
    walk_at "w"
    exact ⟨by omega, retX0 q⟩
/-! ### by its word -/
abbrev LF := Tr → Nm → Tbl → Tbl → RL
def heldT (L : LF) (t : Tr) (w : Kd) (b : Int) (N : Nm) (F G : Tbl) (f : Tbl → Tbl → RL) : RL := (L t N F G).bind fun _ F G => holdT (plT t) b w F G f
def shapedT (L : LF) (t : Tr) (s : Kd) (b : Int) (N : Nm) (F G : Tbl) (f : Kd → Tbl → Tbl → RL) : RL := (L t N F G).bind fun k F G => if hS k = hS s then f k F G else holdT (plT t) b s F G fun F G => f s F G
def rowT (L : LF) : List Tr → Kd → Int → Nm → Tbl → Tbl → (Tbl → Tbl → RL) → RL
  | [], _, _, _, F, G, f => f F G
  | t :: ts, w, b, N, F, G, f => heldT L t w b N F G fun F G => rowT L ts w b N F G f
def kp (k : Kd) (i : Nat) : Kd := (parts k).getD i .unt
def nm0 (fr : List W) : List Nat := nmW (fr.headD .non)
def nm1 (fr : List W) : List Nat := nmW (fr.getD 1 .non)
def k0 (ks : List Kd) : Kd := ks.headD .unt
def k1 (ks : List Kd) : Kd := ks.getD 1 .unt
def byW (L : LF) (w : Wo) (p : Int) (fr : List W) (ks : List Kd) (ps : List Tr) (N : Nm) (F G : Tbl) : RL := match w, ps with
  | .whole, _ => .ok .whole F G
  | .given, _ => .ok .whole F G
  | .truth, _ => .ok .truth F G
  | .name, _ => .ok ((getN N (nm0 fr)).getD .unt) F G
  | .fn, [b] => (L b (putN N (nm0 fr) (k0 ks)) F G).bind fun k F G => .ok (.to (k0 ks) k) F G
  | .let_, [a, b] => (L a N F G).bind fun k F G => L b (putN N (nm0 fr) k) F G
  | .self, [b] => heldT L b (k1 ks) p (putN (putN N (nm0 fr) (.to (k0 ks) (k1 ks))) (nm1 fr) (k0 ks)) F G fun F G => .ok (.to (k0 ks) (k1 ks)) F G
  | .if_, [a, b, c] => heldT L a .truth p N F G fun F G => (L b N F G).bind fun k F G => (L c N F G).bind fun o F G =>
      if prt k o = none then .ok (jn k o) F (putT (putT G (plT b) (jn k o)) (plT c) (jn k o)) else .bad (xPart (plT c) o (plT b) k) F G
  | .call, [a, b] => shapedT L a (.to .unt .unt) p N F G fun k F G => heldT L b (kp k 0) p N F G fun F G => .ok (kp k 1) F G
  | .one, [a] => shapedT L a (.pair .unt .unt) p N F G fun k F G => .ok (kp k 0) F G
  | .two, [a] => shapedT L a (.pair .unt .unt) p N F G fun k F G => .ok (kp k 1) F G
  | .size, [a] => shapedT L a (.row .unt) p N F G fun _ F G => .ok .whole F G
  | .at_, [a, b] => shapedT L a (.row .unt) p N F G fun k F G => heldT L b .whole p N F G fun F G => .ok (kp k 0) F G
  | .do_, [a, b] => heldT L a .whole p N F G fun F G => heldT L b .whole p N F G fun F G => .ok (if nm0 fr = [60] ∨ nm0 fr = [61] then .truth else .whole) F G
  | .row, ts => rowT L ts (k0 ks) p N F G fun F G => .ok (.row (k0 ks)) F G
  | .pair, [a, b] => (L a N F G).bind fun k F G => (L b N F G).bind fun o F G => .ok (.pair k o) F G
  | .as_, [a] => heldT L a (k0 ks) p N F G fun F G => .ok (k0 ks) F G
  | _, _ => .bad (xDeep p) F G
def lookN : Nat → LF
  | 0, t, _, F, G => .bad (xDeep (plT t)) F G
  | n + 1, .nd w p fr ks ps, N, F, G => if (wrT w ks).any (fun k => decide (4 < kdep k)) = true then .bad (xDeep p) F G else fin p (byW (lookN n) w p fr ks ps N F G)
/-! what is known of what is found -/
def wpR (r : RL) (P : Kd → Tbl → Tbl → Prop) : Prop := match r with
  | .ok k F G => P k F G
  | .bad _ _ _ => True
theorem wpR_bind {r : RL} {f : Kd → Tbl → Tbl → RL} {P P' : Kd → Tbl → Tbl → Prop} (h : wpR r P) (k : ∀ x F G, P x F G → wpR (f x F G) P') : wpR (r.bind f) P' := by
  cases r with
  | ok x F G => exact k x F G h
  | bad x F G => trivial
theorem wpR_hold {p b : Int} {w : Kd} {F G : Tbl} {f : Tbl → Tbl → RL} {P : Kd → Tbl → Tbl → Prop} (k : wpR (f F (putT G p w)) P) : wpR (holdT p b w F G f) P := by
  unfold holdT
  split
  · split
    · exact k
    · trivial
  · trivial
mutual
def szT : Tr → Nat
  | .nd _ _ _ _ ps => szTs ps + 1
def szTs : List Tr → Nat
  | [] => 0
  | t :: ts => szT t + szTs ts
end
theorem szT_pos (t : Tr) : 1 ≤ szT t := by cases t; simp [szT]
/-- some items a node; found by its place, not too deep -/
def LP (p : Int) (m : Nat) (F G : Tbl) (k : Kd) (F' G' : Tbl) : Prop := getT F' p = some k ∧ kdep k ≤ 4 ∧ F'.length ≤ F.length + m ∧ G'.length ≤ G.length + m
def LB (m : Nat) (F G : Tbl) (_ : Kd) (F' G' : Tbl) : Prop := F'.length ≤ F.length + m ∧ G'.length ≤ G.length + m
theorem look_prop : ∀ {n : Nat} {t : Tr} {N : Nm} {F G : Tbl}, wpR (lookN n t N F G) (LP (plT t) (6 * szT t - 2) F G) := by
  intro n
  induction n with
  | zero => intro t N F G; trivial
  | succ n ih =>
    intro t N F G
    cases t with
    | nd w p fr ks ps =>
    rw [lookN]
    split
    · trivial
    · have hb : wpR (byW (lookN n) w p fr ks ps N F G) (LB (6 * szTs ps) F G) := by
        have ih2 : ∀ {t : Tr} {N : Nm} {F G : Tbl}, wpR (lookN n t N F G) (LB (6 * szT t - 2) F G) := fun {t N F G} => by
          have := @ih t N F G
          cases h : lookN n t N F G with
          | bad _ _ _ => trivial
          | ok k F' G' => rw [h] at this; exact ⟨this.2.2.1, this.2.2.2⟩
        have hd : ∀ {t : Tr} {w : Kd} {b : Int} {N : Nm} {F G : Tbl} {f : Tbl → Tbl → RL} {P : Kd → Tbl → Tbl → Prop}, (∀ F' G', 1 ≤ szT t → F'.length ≤ F.length + (6 * szT t - 2) → G'.length ≤ G.length + (6 * szT t - 1) → wpR (f F' G') P) → wpR (heldT (lookN n) t w b N F G f) P := fun {t w b N F G f P} k =>
          wpR_bind ih2 fun x F' G' h => wpR_hold (k _ _ (szT_pos t) h.1 (Nat.le_trans putT_len (by have := h.2; have := szT_pos t; omega)))
        have sh : ∀ {t : Tr} {w : Kd} {b : Int} {N : Nm} {F G : Tbl} {f : Kd → Tbl → Tbl → RL} {P : Kd → Tbl → Tbl → Prop}, (∀ x F' G', 1 ≤ szT t → F'.length ≤ F.length + (6 * szT t - 2) → G'.length ≤ G.length + (6 * szT t - 1) → wpR (f x F' G') P) → wpR (shapedT (lookN n) t w b N F G f) P := fun {t w b N F G f P} k =>
          wpR_bind ih2 fun x F' G' h => by
            split
            · exact k x F' G' (szT_pos t) h.1 (by have := h.2; have := szT_pos t; omega)
            · exact wpR_hold (k _ _ _ (szT_pos t) h.1 (Nat.le_trans putT_len (by have := h.2; have := szT_pos t; omega)))
        have lk : ∀ {t : Tr} {N : Nm} {F G : Tbl} {f : Kd → Tbl → Tbl → RL} {P : Kd → Tbl → Tbl → Prop}, (∀ x F' G', 1 ≤ szT t → F'.length ≤ F.length + (6 * szT t - 2) → G'.length ≤ G.length + (6 * szT t - 2) → wpR (f x F' G') P) → wpR ((lookN n t N F G).bind f) P := fun {t N F G f P} k => wpR_bind ih2 fun x F' G' h => k x F' G' (szT_pos t) h.1 h.2
        have rw' : ∀ (ts : List Tr) {w : Kd} {b : Int} {N : Nm} {F G : Tbl} {f : Tbl → Tbl → RL} {P : Kd → Tbl → Tbl → Prop}, (∀ F' G', F'.length ≤ F.length + 6 * szTs ts → G'.length ≤ G.length + 6 * szTs ts → wpR (f F' G') P) → wpR (rowT (lookN n) ts w b N F G f) P := fun ts => by
          induction ts with
          | nil => intro w b N F G f P k; exact k F G (by omega) (by omega)
          | cons t ts ih3 =>
            intro w b N F G f P k
            refine hd fun F' G' h0 h1 h2 => ih3 fun F'' G'' h3 h4 => k F'' G'' ?_ ?_
            · show _ ≤ _ + 6 * (szT t + szTs ts); omega
            · show _ ≤ _ + 6 * (szT t + szTs ts); omega
        have ok : ∀ {k : Kd} {F' G' : Tbl}, F'.length ≤ F.length + 6 * szTs ps → G'.length ≤ G.length + 6 * szTs ps → wpR (.ok k F' G') (LB (6 * szTs ps) F G) := fun h1 h2 => ⟨h1, h2⟩
        unfold byW
        split
        · exact ok (by omega) (by omega)
        · exact ok (by omega) (by omega)
        · exact ok (by omega) (by omega)
        · exact ok (by omega) (by omega)
        · exact lk fun x F' G' h0 h1 h2 => ok (by simp only [szTs]; omega) (by simp only [szTs]; omega)
        · refine lk fun x F' G' h0 h1 h2 => ?_
          rename_i b hh
          have := @ih2 b (putN N (nm0 fr) x) F' G'
          cases h : lookN n b (putN N (nm0 fr) x) F' G' with
          | bad _ _ _ => trivial
          | ok k F'' G'' =>
            rw [h] at this
            have sb := szT_pos b
            exact ok (by have := this.1; simp only [szTs]; omega) (by have := this.2; simp only [szTs]; omega)
        · exact hd fun F' G' h0 h1 h2 => ok (by simp only [szTs]; omega) (by simp only [szTs]; omega)
        · refine hd fun F' G' h0 h1 h2 => lk fun x F2 G2 h3 h4 h5 => lk fun x F3 G3 h6 h7 h8 => ?_
          split
          · exact ok (by simp only [szTs]; omega) (by
              refine Nat.le_trans putT_len ?_
              have := @putT_len G3
              simp only [szTs]
              exact Nat.le_trans (Nat.add_le_add_right putT_len 1) (by omega))
          · trivial
        · exact sh fun x F' G' h0 h1 h2 => hd fun F2 G2 h3 h4 h5 => ok (by simp only [szTs]; omega) (by simp only [szTs]; omega)
        · exact sh fun x F' G' h0 h1 h2 => ok (by simp only [szTs]; omega) (by simp only [szTs]; omega)
        · exact sh fun x F' G' h0 h1 h2 => ok (by simp only [szTs]; omega) (by simp only [szTs]; omega)
        · exact sh fun x F' G' h0 h1 h2 => ok (by simp only [szTs]; omega) (by simp only [szTs]; omega)
        · exact sh fun x F' G' h0 h1 h2 => hd fun F2 G2 h3 h4 h5 => ok (by simp only [szTs]; omega) (by simp only [szTs]; omega)
        · exact hd fun F' G' h0 h1 h2 => hd fun F2 G2 h3 h4 h5 => ok (by simp only [szTs]; omega) (by simp only [szTs]; omega)
        · exact rw' _ fun F' G' h1 h2 => ok h1 h2
        · exact lk fun x F' G' h0 h1 h2 => lk fun x F2 G2 h3 h4 h5 => ok (by simp only [szTs]; omega) (by simp only [szTs]; omega)
        · exact hd fun F' G' h0 h1 h2 => ok (by simp only [szTs]; omega) (by simp only [szTs]; omega)
        · trivial
      unfold fin
      refine wpR_bind hb fun k F' G' h => ?_
      split
      · trivial
      · obtain ⟨h1, h2⟩ := h
        refine ⟨by show getT (putT F' p k) p = _; rw [get_put, if_pos rfl], by omega, Nat.le_trans putT_len ?_, Nat.le_trans putT_len ?_⟩
        · show _ ≤ _ + (6 * (szTs ps + 1) - 2); omega
        · show _ ≤ _ + (6 * (szTs ps + 1) - 2); omega
end
end Bw

/-! LS: the looker's walks -/
namespace Bw
open PySem (sizeLine)
theorem at4 {α : Type} {x y z u v : α} {xs : List α} : atW (x :: y :: z :: u :: v :: xs) 4 = some v := by
  have := at_nat (xs := x :: y :: z :: u :: v :: xs) (k := 4) (by simp)
  simpa using this
theorem at5 {α : Type} {x y z u v a : α} {xs : List α} : atW (x :: y :: z :: u :: v :: a :: xs) 5 = some a := by
  have := at_nat (xs := x :: y :: z :: u :: v :: a :: xs) (k := 5) (by simp)
  simpa using this
theorem at6 {α : Type} {x y z u v a b : α} {xs : List α} : atW (x :: y :: z :: u :: v :: a :: b :: xs) 6 = some b := by
  have := at_nat (xs := x :: y :: z :: u :: v :: a :: b :: xs) (k := 6) (by simp)
  simpa using this
/-! arity -/
def nP : Wo → Nat
  | .fn => 1
  | .self => 1
  | .call => 2
  | .let_ => 2
  | .if_ => 3
  | .do_ => 2
  | .at_ => 2
  | .size => 1
  | .pair => 2
  | .one => 1
  | .two => 1
  | .as_ => 1
  | .look => 1
  | _ => 0
def gdN (w : Wo) (fr : List W) (ks : List Kd) (n : Nat) : Prop := w ≠ .look ∧ (w ≠ .row → n = nP w) ∧ (w = .do_ → fr = fr.map fun x => W.str (nmW x)) ∧ ∀ k ∈ ks, kdep k ≤ 8
mutual
def gdT : Tr → Prop
  | .nd w _ fr ks ps => gdN w fr ks ps.length ∧ gdTs ps
def gdTs : List Tr → Prop
  | [] => True
  | t :: ts => gdT t ∧ gdTs ts
end
theorem gdTs_mem : ∀ {ts : List Tr} {t : Tr}, gdTs ts → t ∈ ts → gdT t
  | x :: ts, t, h, m => by
    rcases List.mem_cons.mp m with rfl | m
    · exact h.1
    · exact gdTs_mem h.2 m
theorem gdTs_of : ∀ {ts : List Tr}, (∀ t ∈ ts, gdT t) → gdTs ts
  | [], _ => trivial
  | t :: ts, h => ⟨h t List.mem_cons_self, gdTs_of fun x hx => h x (List.mem_cons_of_mem _ hx)⟩
theorem szTs_mem : ∀ {ts : List Tr} {t : Tr}, t ∈ ts → szT t ≤ szTs ts
  | x :: ts, t, m => by
    show _ ≤ szT x + szTs ts
    rcases List.mem_cons.mp m with rfl | m
    · omega
    · have := szTs_mem m; omega
theorem freess_get : ∀ {w : Wo} {fr : List W} {ps : List Tr} {i : Nat} {ns : Ns}, freess w fr i ps ns = [] → ∀ {j : Nat} {t : Tr}, ps[j]? = some t → frees t (within w fr (i + j) ns) = []
  | w, fr, [], i, ns, _, j, t, e => by simp at e
  | w, fr, x :: ps, i, ns, h, j, t, e => by
    rw [freess, List.append_eq_nil_iff] at h
    cases j with
    | zero =>
      simp only [List.getElem?_cons_zero, Option.some.injEq] at e
      subst e
      exact h.1
    | succ j =>
      rw [List.getElem?_cons_succ] at e
      have := freess_get h.2 e
      rw [show i + (j + 1) = i + 1 + j by omega]
      exact this
theorem getN_putN {N : Nm} {p q : List Nat} {k : Kd} : getN (putN N p k) q = if q = p then some k else getN N q := by
  have h1 : ∀ N : Nm, (N.any fun e => decide (e.1 = p)) = true → getN (N.map fun e => if e.1 = p then (e.1, k) else e) q = if q = p then some k else getN N q := fun N => by
    induction N with
    | nil => intro h; cases h
    | cons e r ih =>
      intro h
      rw [List.map_cons]
      by_cases e1 : e.1 = p
      · rw [if_pos e1]
        by_cases e2 : q = p
        · rw [if_pos e2]
          show (if e.1 = q then some k else _) = _
          rw [if_pos (by rw [e1, e2])]
        · rw [if_neg e2]
          show (if e.1 = q then some k else getN (r.map _) q) = (if e.1 = q then some e.2 else getN r q)
          have e3 : ¬ e.1 = q := fun z => e2 (by rw [← z, e1])
          rw [if_neg e3, if_neg e3]
          by_cases h2 : (r.any fun e => decide (e.1 = p)) = true
          · rw [ih h2, if_neg e2]
          · have : r.map (fun e => if e.1 = p then (e.1, k) else e) = r := by
              rw [List.map_congr_left (g := id), List.map_id]
              intro x hx
              rw [if_neg]
              · rfl
              · intro z
                exact h2 (List.any_eq_true.mpr ⟨x, hx, decide_eq_true z⟩)
            rw [this]
      · rw [if_neg e1]
        have h2 : (r.any fun e => decide (e.1 = p)) = true := by
          rw [List.any_cons, decide_eq_false e1, Bool.false_or] at h
          exact h
        show (if e.1 = q then some e.2 else getN (r.map _) q) = _
        rw [ih h2]
        by_cases e2 : q = p
        · rw [if_pos e2, if_pos e2, if_neg (fun z => e1 (by rw [z, e2]))]
        · rw [if_neg e2, if_neg e2]; rfl
  have h2 : ∀ N : Nm, ¬ (N.any fun e => decide (e.1 = p)) = true → getN (N ++ [(p, k)]) q = if q = p then some k else getN N q := fun N => by
    induction N with
    | nil =>
      intro _
      show (if p = q then some k else none) = _
      by_cases e2 : q = p
      · rw [if_pos e2, if_pos e2.symm]
      · rw [if_neg e2, if_neg (fun z => e2 z.symm)]; rfl
    | cons e r ih =>
      intro h
      rw [List.any_cons, Bool.or_eq_true, not_or] at h
      have e1 : ¬ e.1 = p := fun z => h.1 (decide_eq_true z)
      show (if e.1 = q then some e.2 else getN (r ++ [(p, k)]) q) = _
      rw [ih h.2]
      by_cases e2 : q = p
      · rw [if_pos e2, if_pos e2, if_neg (fun z => e1 (by rw [z, e2]))]
      · rw [if_neg e2, if_neg e2]; rfl
  unfold putN
  split
  · rename_i h; exact h1 N h
  · rename_i h; exact h2 N h
/-! ### what is found is not deep -/
theorem kp_dep {k : Kd} {i : Nat} (h : kdep k ≤ 4) : kdep (kp k i) ≤ 4 := by
  cases k <;> simp only [kp, parts, kdep] at h ⊢
  all_goals (first | (match i with | 0 => simp [kdep] | i + 1 => simp [kdep]) | (match i with | 0 => simp; omega | 1 => simp [kdep] <;> omega | i + 2 => simp [kdep]))
theorem by_dep {n : Nat} {w : Wo} {p : Int} {fr : List W} {ks : List Kd} {ps : List Tr} {N : Nm} {F G : Tbl} (hk : ∀ k ∈ ks, kdep k ≤ 4) (hN : ∀ z k, getN N z = some k → kdep k ≤ 5) : wpR (byW (lookN n) w p fr ks ps N F G) (fun k _ _ => kdep k ≤ 5) := by
  have ih2 : ∀ {t : Tr} {N : Nm} {F G : Tbl}, wpR (lookN n t N F G) (fun k _ _ => kdep k ≤ 4) := fun {t N F G} => by
    have := @look_prop n t N F G
    cases h : lookN n t N F G with
    | bad _ _ _ => trivial
    | ok k F' G' => rw [h] at this; exact this.2.1
  have hd : ∀ {t : Tr} {w : Kd} {b : Int} {N : Nm} {F G : Tbl} {f : Tbl → Tbl → RL} {P : Kd → Tbl → Tbl → Prop}, (∀ F' G', wpR (f F' G') P) → wpR (heldT (lookN n) t w b N F G f) P := fun k =>
    wpR_bind ih2 fun x F' G' h => wpR_hold (k _ _)
  have sh : ∀ {t : Tr} {w : Kd} {b : Int} {N : Nm} {F G : Tbl} {f : Kd → Tbl → Tbl → RL} {P : Kd → Tbl → Tbl → Prop}, kdep w ≤ 4 → (∀ x F' G', kdep x ≤ 4 → wpR (f x F' G') P) → wpR (shapedT (lookN n) t w b N F G f) P := fun hw k =>
    wpR_bind ih2 fun x F' G' h => by
      split
      · exact k x F' G' h
      · exact wpR_hold (k _ _ _ hw)
  have lk : ∀ {t : Tr} {N : Nm} {F G : Tbl} {f : Kd → Tbl → Tbl → RL} {P : Kd → Tbl → Tbl → Prop}, (∀ x F' G', kdep x ≤ 4 → wpR (f x F' G') P) → wpR ((lookN n t N F G).bind f) P := fun k => wpR_bind ih2 fun x F' G' h => k x F' G' h
  have rw' : ∀ (ts : List Tr) {w : Kd} {b : Int} {N : Nm} {F G : Tbl} {f : Tbl → Tbl → RL} {P : Kd → Tbl → Tbl → Prop}, (∀ F' G', wpR (f F' G') P) → wpR (rowT (lookN n) ts w b N F G f) P := fun ts => by
    induction ts with
    | nil => intro w b N F G f P k; exact k F G
    | cons t ts ih3 => intro w b N F G f P k; exact hd fun F' G' => ih3 k
  have q0 : kdep (k0 ks) ≤ 4 := by
    cases ks with
    | nil => show 1 ≤ 4; omega
    | cons a r => exact hk a List.mem_cons_self
  have q1 : kdep (k1 ks) ≤ 4 := by
    match ks, hk with
    | [], _ => show 1 ≤ 4; omega
    | [a], _ => show 1 ≤ 4; omega
    | a :: b :: r, hk => exact hk b (by simp)
  unfold byW
  split
  · show 1 ≤ 5; omega
  · show 1 ≤ 5; omega
  · show 1 ≤ 5; omega
  · show kdep ((getN N (nm0 fr)).getD .unt) ≤ 5
    cases h : getN N (nm0 fr) with
    | none => show 1 ≤ 5; omega
    | some k => exact hN _ _ h
  · exact lk fun x F' G' h => by show kdep _ ≤ 5; simp only [kdep]; omega
  · refine lk fun x F' G' h => ?_
    exact wpR_bind (f := fun k F G => .ok k F G) ih2 (fun k F G h => by show kdep k ≤ 5; omega) |> fun z => by
      revert z
      generalize lookN n _ _ _ _ = r
      cases r <;> exact id
  · exact hd fun F' G' => by show kdep _ ≤ 5; simp only [kdep]; omega
  · refine hd fun F' G' => lk fun x F2 G2 h => lk fun y F3 G3 h2 => ?_
    split
    · show kdep (jn x y) ≤ 5
      have := jn_dep x y; omega
    · trivial
  · exact sh (by decide) fun x F' G' h => hd fun F2 G2 => by show kdep (kp x 1) ≤ 5; have := kp_dep (i := 1) h; omega
  · exact sh (by decide) fun x F' G' h => by show kdep (kp x 0) ≤ 5; have := kp_dep (i := 0) h; omega
  · exact sh (by decide) fun x F' G' h => by show kdep (kp x 1) ≤ 5; have := kp_dep (i := 1) h; omega
  · exact sh (by decide) fun x F' G' h => by show 1 ≤ 5; omega
  · exact sh (by decide) fun x F' G' h => hd fun F2 G2 => by show kdep (kp x 0) ≤ 5; have := kp_dep (i := 0) h; omega
  · exact hd fun F' G' => hd fun F2 G2 => by show kdep (if _ then _ else _) ≤ 5; split <;> (show 1 ≤ 5) <;> omega
  · exact rw' _ fun F' G' => by show kdep _ ≤ 5; simp only [kdep]; omega
  · exact lk fun x F' G' h => lk fun y F2 G2 h2 => by show kdep _ ≤ 5; simp only [kdep]; omega
  · exact hd fun F' G' => by show kdep _ ≤ 5; omega
  · trivial
/-! ### what the walks need -/
structure LkT (T : Nat → Option FD) : Prop where
  h1 : T 1 = some d1
  h11 : T 11 = some d11
  h21 : T 21 = some d21
  h68 : T 68 = some d68
  h69 : T 69 = some d69
  h70 : T 70 = some d70
  h89 : T 89 = some d89
  h155 : T 155 = some d155
  h156 : T 156 = some d156
  h158 : T 158 = some d158
  h159 : T 159 = some d159
  h160 : T 160 = some d160
  h161 : T 161 = some d161
  h162 : T 162 = some d162
  h163 : T 163 = some d163
  h164 : T 164 = some d164
  h165 : T 165 = some d165
  h166 : T 166 = some d166
structure Pls (pl pf pw : PySem.Addr) (S : Sto) : Prop where
  n1 : pl ≠ pf
  n2 : pl ≠ pw
  n3 : pf ≠ pw
  hp : S pl = some (LkO pf pw)
structure Cd (m : Nat) (t : Tr) (N : Nm) (F G : Tbl) : Prop where
  d : dT t ≤ m
  g : gdT t
  o : okTr t
  fr : ∃ ns, frees t ns = [] ∧ ∀ z ∈ ns, getN N z ≠ none
  nk : ∀ z k, getN N z = some k → kdep k ≤ 5
  lF : F.length + 6 * szT t ≤ 100000
  lG : G.length + 6 * szT t ≤ 100000
  lN : N.length + 2 * dT t ≤ 9000
def RLQ (pf pw : PySem.Addr) (S : Sto) (Q : Kd → Tbl → Tbl → Prop) (X : XQ) : RL → Prop
  | .ok k F G => Q k F G
  | .bad x F G => X x (up pf pw S F G)
def LSpec (T : Nat → Option FD) (pl pf pw : PySem.Addr) (S : Sto) (m : Nat) : Prop :=
  ∀ {t : Tr} {N : Nm} {F G : Tbl} {e : Nat} {Q : VQ} {X : XQ}, Cd m t N F G → 4 * m + 16 ≤ e → RLQ pf pw S (fun k F G => Q (kW k) (up pf pw S F G)) X (lookN m t N F G) → wF T e 159 [.ref pl, tW t, nmD N] (up pf pw S F G) Q X
/-- a node's part -/
theorem Cd.part {m : Nat} {w : Wo} {p : Int} {fr : List W} {ks : List Kd} {ps : List Tr} {N N' : Nm} {F G F' G' : Tbl} (c : Cd (m + 1) (.nd w p fr ks ps) N F G) {j : Nat} {t : Tr} (hj : ps[j]? = some t)
    (hN : ∀ z, getN N z ≠ none → getN N' z ≠ none) (hw : (w = .fn ∨ w = .self ∨ (w = .let_ ∧ j = 1)) → ∀ z ∈ fr.map nmW, getN N' z ≠ none) (hk : ∀ z k, getN N' z = some k → kdep k ≤ 5) (lN : N'.length ≤ N.length + 2)
    (lF : F'.length + 6 * szT t ≤ F.length + 6 * szTs ps) (lG : G'.length + 6 * szT t ≤ G.length + 6 * szTs ps) : Cd m t N' F' G' := by
  have hm : t ∈ ps := List.mem_of_getElem? hj
  have h1 := dTs_mem hm
  have h2 : dTs ps + 1 ≤ m + 1 := c.d
  have h3 := c.lF
  have h4 := c.lG
  have h5 := c.lN
  simp only [szT, dT] at h3 h4 h5
  refine ⟨by omega, gdTs_mem c.g.2 hm, okTrs_mem c.o.2 hm, ?_, hk, by omega, by omega, by omega⟩
  obtain ⟨ns, h, hn⟩ := c.fr
  rw [frees, List.append_eq_nil_iff] at h
  refine ⟨within w fr (0 + j) ns, freess_get h.2 hj, fun z hz => ?_⟩
  rw [Nat.zero_add] at hz
  unfold within at hz
  split at hz
  · rename_i hh
    rcases List.mem_append.mp hz with hz | hz
    · exact hN z (hn z hz)
    · exact hw hh z hz
  · exact hN z (hn z hz)
section
variable {T : Nat → Option FD} {S : Sto} {Q : VQ} {X X0 : XQ} {n e m : Nat} {pl pf pw : PySem.Addr} {w : Wo} {p : Int} {fr us : List W} {N : Nm} {F G : Tbl} {Q0 : Kd → Tbl → Tbl → Prop}
theorem meth2 {a : PySem.Addr} {c : Nat} {kk : List (List Nat)} {ws0 : List W} {tb : List (Nat × Nat)} {m : List Nat} {f : Nat} {P : Nat → Prop} (h : S a = some (.ins c kk ws0)) (hf : lookF kk ws0 m = none) (ht : tb.lookup c = some f) (q : P f) :
    wSome (objOf S (.ref a)) fun p => lookF p.2.1 p.2.2 m = none ∧ wSome (tb.lookup p.1) P := by rw [meth1 h hf ht]; exact q
theorem written_ok {ks : List W} {i : Nat} (h : T i = some d89) (hf : fr.length = nF w) (hk : ks.length = nK w) (hw : w ≠ .look) (q : Q (.rl ks) S) : wF T (n + 1) i [shp w p fr ks us] S Q X := by
  rw [wF_eq h, d89]
  cases w <;> ((first | (obtain ⟨f1, f2, rfl⟩ := len2 hf) | (obtain ⟨f1, rfl⟩ := len1 hf) | (obtain rfl := len0 hf)); (first | (obtain ⟨k1, k2, rfl⟩ := len2 hk) | (obtain ⟨k1, rfl⟩ := len1 hk) | (obtain rfl := len0 hk)))
  all_goals simp only [shp, woS, List.cons_append, List.nil_append]
  all_goals walk_at "w"
  all_goals (try simp only [at4, at5])
  all_goals (try walk_at "w")
  all_goals first | (exact absurd rfl hw) | (intro a ha; exact retL (Sub.set ha) Sto.set_same ha q) | (refine ⟨by decide, ?_⟩; intro a ha; exact retL (Sub.set ha) Sto.set_same ha q)
theorem look_use {t : Tr} {f : Kd → Tbl → Tbl → RL} (ih : LSpec T pl pf pw S m) (c : Cd m t N F G) (he : 4 * m + 16 ≤ e) (q : RLQ pf pw S Q0 X0 ((lookN m t N F G).bind f)) (hX : ∀ x S, X0 x S → X x S)
    (k : ∀ k F' G', getT F' (plT t) = some k → kdep k ≤ 4 → F'.length ≤ F.length + (6 * szT t - 2) → G'.length ≤ G.length + (6 * szT t - 2) → RLQ pf pw S Q0 X0 (f k F' G') → Q (kW k) (up pf pw S F' G')) :
    wF T e 159 [.ref pl, tW t, nmD N] (up pf pw S F G) Q X := by
  refine ih c he ?_
  have p := @look_prop m t N F G
  cases h : lookN m t N F G with
  | ok x F' G' => rw [h] at p q; exact k x F' G' p.1 p.2.1 p.2.2.1 p.2.2.2 q
  | bad x F' G' => rw [h] at q; exact hX _ _ q
theorem held_use {t : Tr} {w : Kd} {b : Int} {f : Tbl → Tbl → RL} (E : LkT T) (P : Pls pl pf pw S) (ih : LSpec T pl pf pw S m) (c : Cd m t N F G) (he : 4 * m + 17 ≤ e) (q : RLQ pf pw S Q0 X0 (heldT (lookN m) t w b N F G f)) (hX : ∀ x S, X0 x S → X x S)
    (k : ∀ F' G', 1 ≤ szT t → F'.length ≤ F.length + (6 * szT t - 2) → G'.length ≤ G.length + (6 * szT t - 1) → RLQ pf pw S Q0 X0 (f F' G') → Q .non (up pf pw S F' G')) :
    wF T e 160 [.ref pl, tW t, kW w, .int b, nmD N] (up pf pw S F G) Q X := by
  obtain ⟨e, rfl⟩ : ∃ e', e = e' + 4 := ⟨e - 4, by omega⟩
  have hs := szT_pos t
  rw [wF_eq E.h160, d160]
  walk_at "w"
  refine meth2 (up_pl P.n1 P.n2 P.hp) rfl rfl ?_
  walk_at "w"
  refine look_use (f := fun _ F G => holdT (plT t) b w F G f) ih c (by omega) q (fun x S h => retX0 (hX _ _ h)) fun x F' G' g1 g2 g3 g4 q => ?_
  have hG := c.lG
  walk_at "w"
  refine meth2 (up_pl P.n1 P.n2 P.hp) rfl rfl ?_
  walk_at "w"
  refine hold_ok E.h158 E.h70 E.h69 E.h68 P.n1 P.n2 P.n3 P.hp g1 (by omega) (by omega) (by omega) ?_
  unfold holdT at q
  rw [g1] at q
  dsimp only at q
  split at q
  · rename_i hp
    rw [if_pos hp]
    walk_at "w"
    exact retN0 (k F' _ hs g3 (Nat.le_trans putT_len (by omega)) q)
  · rename_i hp
    rw [if_neg hp]
    exact retX0 (hX _ _ q)
theorem shaped_use {t : Tr} {s : Kd} {b : Int} {f : Kd → Tbl → Tbl → RL} (E : LkT T) (P : Pls pl pf pw S) (ih : LSpec T pl pf pw S m) (c : Cd m t N F G) (he : 4 * m + 17 ≤ e) (q : RLQ pf pw S Q0 X0 (shapedT (lookN m) t s b N F G f)) (hX : ∀ x S, X0 x S → X x S)
    (k : ∀ x F' G', hS x = hS s → 1 ≤ szT t → F'.length ≤ F.length + (6 * szT t - 2) → G'.length ≤ G.length + (6 * szT t - 1) → RLQ pf pw S Q0 X0 (f x F' G') → Q (kW x) (up pf pw S F' G')) :
    wF T e 161 [.ref pl, tW t, kW s, .int b, nmD N] (up pf pw S F G) Q X := by
  obtain ⟨e, rfl⟩ : ∃ e', e = e' + 4 := ⟨e - 4, by omega⟩
  have hs := szT_pos t
  rw [wF_eq E.h161, d161]
  walk_at "w"
  refine meth2 (up_pl P.n1 P.n2 P.hp) rfl rfl ?_
  walk_at "w"
  refine look_use (f := fun k F G => if hS k = hS s then f k F G else holdT (plT t) b s F G fun F G => f s F G) ih c (by omega) q (fun x S h => retX0 (hX _ _ h)) fun x F' G' g1 g2 g3 g4 q => ?_
  have hG := c.lG
  walk_at "w"
  refine wB_if (fun e2 => ?_) (fun e2 => ?_)
  · have e2 : hS x = hS s := by simpa using e2
    rw [if_pos e2] at q
    exact ret0 (k x F' G' e2 hs g3 (by omega) q)
  · have e2 : ¬ hS x = hS s := by simpa using e2
    rw [if_neg e2] at q
    refine meth2 (up_pl P.n1 P.n2 P.hp) rfl rfl ?_
    walk_at "w"
    refine hold_ok E.h158 E.h70 E.h69 E.h68 P.n1 P.n2 P.n3 P.hp g1 (by omega) (by omega) (by omega) ?_
    unfold holdT at q
    rw [g1] at q
    dsimp only at q
    split at q
    · rename_i hp
      rw [if_pos hp]
      walk_at "w"
      exact ret0 (k s F' _ rfl hs g3 (Nat.le_trans putT_len (by omega)) q)
    · rename_i hp
      rw [if_neg hp]
      exact retX0 (hX _ _ q)
end
end Bw

/-! LW: the looker, by its word -/
namespace Bw
open PySem (sizeLine)
theorem hS_to {x a b : Kd} (h : hS x = hS (.to a b)) : ∃ u v, x = .to u v := by cases x <;> simp [hS] at h ⊢
theorem hS_pair {x a b : Kd} (h : hS x = hS (.pair a b)) : ∃ u v, x = .pair u v := by cases x <;> simp [hS] at h ⊢
theorem hS_row {x a : Kd} (h : hS x = hS (.row a)) : ∃ u, x = .row u := by cases x <;> simp [hS] at h ⊢
section
variable {T : Nat → Option FD} {S : Sto} {Q : VQ} {X X0 : XQ} {n e m : Nat} {pl pf pw : PySem.Addr} {p : Int} {N : Nm} {F G : Tbl} {Q0 : Kd → Tbl → Tbl → Prop} {a b c : Tr} {k k2 x y : Kd} {z z2 : List Nat}
theorem k_to1 : wIdx (kW (.to x y)) (.int 1) S Q = Q (kW x) S := by show wIdx (.tup _) _ _ _ = _; rw [wIdx_tup, at1]; rfl
theorem k_to2 : wIdx (kW (.to x y)) (.int 2) S Q = Q (kW y) S := by show wIdx (.tup _) _ _ _ = _; rw [wIdx_tup, at2]; rfl
theorem k_pair1 : wIdx (kW (.pair x y)) (.int 1) S Q = Q (kW x) S := by show wIdx (.tup _) _ _ _ = _; rw [wIdx_tup, at1]; rfl
theorem k_pair2 : wIdx (kW (.pair x y)) (.int 2) S Q = Q (kW y) S := by show wIdx (.tup _) _ _ _ = _; rw [wIdx_tup, at2]; rfl
theorem k_row1 : wIdx (kW (.row x)) (.int 1) S Q = Q (kW x) S := by show wIdx (.tup _) _ _ _ = _; rw [wIdx_tup, at1]; rfl
theorem tW_idx1 : wIdx (tW a) (.int 1) S Q = Q (.int (plT a)) S := by
  cases a with
  | nd w p fr ks ps => simp only [tW, plT]; rw [shp_idx1]
abbrev QS (pf pw : PySem.Addr) (S : Sto) (Q : VQ) : Kd → Tbl → Tbl → Prop := fun k F G => Q (kW k) (up pf pw S F G)
theorem by_fn (E : LkT T) (P : Pls pl pf pw S) (ih : LSpec T pl pf pw S m) (hb : Cd m b (putN N z k) F G) (he : 4 * m + 19 ≤ e) (hN : N.length ≤ 9000)
    (q : RLQ pf pw S (QS pf pw S Q) X ((lookN m b (putN N z k) F G).bind fun x F G => .ok (.to k x) F G)) :
    wF T e 162 [.ref pl, .tup [.str [102, 110], .int p, .str z, kW k, tW b], nmD N] (up pf pw S F G) Q X := by
  obtain ⟨e, rfl⟩ : ∃ e', e = e' + 3 := ⟨e - 3, by omega⟩
  rw [wF_eq E.h162, d162]
  walk_at "w"
  refine meth2 (up_pl P.n1 P.n2 P.hp) rfl rfl ?_
  walk_at "w"
  rw [wF_eq E.h163, d163]
  walk_at "w"
  refine meth2 (up_pl P.n1 P.n2 P.hp) rfl rfl ?_
  walk_at "w"
  try rw [at4]
  walk_at "w"
  refine bound_ok E.h156 (by omega) ?_
  refine look_use (f := fun x F G => .ok (.to k x) F G) ih hb (by omega) q (fun x S h => retX0 (retX0 h)) fun x F' G' g1 g2 g3 g4 q => ?_
  walk_at "w"
  first | exact ret0 (ret0 q) | exact ⟨by decide, ret0 (ret0 q)⟩
theorem by_let (E : LkT T) (P : Pls pl pf pw S) (ih : LSpec T pl pf pw S m) (ha : Cd m a N F G) (he : 4 * m + 19 ≤ e) (hN : N.length ≤ 9000)
    (hb : ∀ x F' G', kdep x ≤ 4 → F'.length ≤ F.length + (6 * szT a - 2) → G'.length ≤ G.length + (6 * szT a - 2) → Cd m b (putN N z x) F' G')
    (q : RLQ pf pw S (QS pf pw S Q) X ((lookN m a N F G).bind fun k F G => lookN m b (putN N z k) F G)) :
    wF T e 162 [.ref pl, .tup [.str [108, 101, 116], .int p, .str z, tW a, tW b], nmD N] (up pf pw S F G) Q X := by
  obtain ⟨e, rfl⟩ : ∃ e', e = e' + 3 := ⟨e - 3, by omega⟩
  rw [wF_eq E.h162, d162]
  walk_at "w"
  refine meth2 (up_pl P.n1 P.n2 P.hp) rfl rfl ?_
  walk_at "w"
  rw [wF_eq E.h163, d163]
  walk_at "w"
  refine meth2 (up_pl P.n1 P.n2 P.hp) rfl rfl ?_
  walk_at "w"
  refine look_use (f := fun k F G => lookN m b (putN N z k) F G) ih ha (by omega) q (fun x S h => retX0 (retX0 h)) fun x F' G' g1 g2 g3 g4 q => ?_
  walk_at "w"
  refine meth2 (up_pl P.n1 P.n2 P.hp) rfl rfl ?_
  walk_at "w"
  try rw [at4]
  walk_at "w"
  refine bound_ok E.h156 (by omega) ?_
  refine ih (hb x F' G' g2 g3 g4) (by omega) ?_
  revert q
  generalize lookN m b (putN N z x) F' G' = r
  cases r with
  | ok k F2 G2 => exact fun q => ret0 (ret0 q)
  | bad x F2 G2 => exact fun q => (show RetX x _ (fun x S1 => RetX x S1 X) from retX0 (retX0 q))
theorem by_self (E : LkT T) (P : Pls pl pf pw S) (ih : LSpec T pl pf pw S m) (hb : Cd m b (putN (putN N z (.to k k2)) z2 k) F G) (he : 4 * m + 19 ≤ e) (hN : N.length ≤ 9000)
    (q : RLQ pf pw S (QS pf pw S Q) X (heldT (lookN m) b k2 p (putN (putN N z (.to k k2)) z2 k) F G fun F G => .ok (.to k k2) F G)) :
    wF T e 162 [.ref pl, .tup [.str [115, 101, 108, 102], .int p, .str z, .str z2, kW k, kW k2, tW b], nmD N] (up pf pw S F G) Q X := by
  obtain ⟨e, rfl⟩ : ∃ e', e = e' + 3 := ⟨e - 3, by omega⟩
  rw [wF_eq E.h162, d162]
  walk_at "w"
  refine meth2 (up_pl P.n1 P.n2 P.hp) rfl rfl ?_
  walk_at "w"
  rw [wF_eq E.h163, d163]
  walk_at "w"
  simp only [at4, at5, at6]
  walk_at "w"
  refine bound_ok (k := .to k k2) E.h156 (by omega) ?_
  walk_at "w"
  try simp only [at4, at5, at6]
  walk_at "w"
  refine bound_ok E.h156 (by have := @putN_len N z (.to k k2); omega) ?_
  walk_at "w"
  refine meth2 (up_pl P.n1 P.n2 P.hp) rfl rfl ?_
  walk_at "w"
  try simp only [at4, at5, at6]
  walk_at "w"
  refine held_use (w := k2) E P ih hb (by omega) q (fun x S h => retX0 (retX0 h)) fun F' G' g0 g3 g4 q => ?_
  walk_at "w"
  exact ret0 (ret0 q)
theorem by_if (E : LkT T) (P : Pls pl pf pw S) (ih : LSpec T pl pf pw S m) (ha : Cd m a N F G) (he : 4 * m + 19 ≤ e)
    (hb : ∀ F' G', F'.length ≤ F.length + (6 * szT a - 2) → G'.length ≤ G.length + (6 * szT a - 1) → Cd m b N F' G')
    (hc : ∀ F' G', F'.length ≤ F.length + (6 * szT a - 2) + (6 * szT b - 2) → G'.length ≤ G.length + (6 * szT a - 1) + (6 * szT b - 2) → Cd m c N F' G')
    (q : RLQ pf pw S (QS pf pw S Q) X (heldT (lookN m) a .truth p N F G fun F G => (lookN m b N F G).bind fun k F G => (lookN m c N F G).bind fun o F G =>
      if prt k o = none then .ok (jn k o) F (putT (putT G (plT b) (jn k o)) (plT c) (jn k o)) else .bad (xPart (plT c) o (plT b) k) F G)) :
    wF T e 162 [.ref pl, .tup [.str [105, 102], .int p, tW a, tW b, tW c], nmD N] (up pf pw S F G) Q X := by
  obtain ⟨e, rfl⟩ : ∃ e', e = e' + 7 := ⟨e - 7, by omega⟩
  rw [wF_eq E.h162, d162]
  walk_at "w"
  refine meth2 (up_pl P.n1 P.n2 P.hp) rfl rfl ?_
  walk_at "w"
  rw [wF_eq E.h164, d164]
  walk_at "w"
  refine meth2 (up_pl P.n1 P.n2 P.hp) rfl rfl ?_
  walk_at "w"
  refine held_use (w := .truth) E P ih ha (by omega) q (fun x S h => retX0 (retX0 h)) fun F1 G1 g0 g3 g4 q => ?_
  walk_at "w"
  refine meth2 (up_pl P.n1 P.n2 P.hp) rfl rfl ?_
  walk_at "w"
  refine look_use (f := fun k F G => (lookN m c N F G).bind fun o F G => if prt k o = none then .ok (jn k o) F (putT (putT G (plT b) (jn k o)) (plT c) (jn k o)) else .bad (xPart (plT c) o (plT b) k) F G) ih (hb _ _ g3 g4) (by omega) q (fun x S h => retX0 (retX0 h)) fun k F2 G2 h1 h2 h3 h4 q => ?_
  have hcc := hc F2 G2 (by omega) (by omega)
  walk_at "w"
  refine meth2 (up_pl P.n1 P.n2 P.hp) rfl rfl ?_
  walk_at "w"
  try rw [at4]
  walk_at "w"
  refine look_use (f := fun o F G => if prt k o = none then .ok (jn k o) F (putT (putT G (plT b) (jn k o)) (plT c) (jn k o)) else .bad (xPart (plT c) o (plT b) k) F G) ih hcc (by omega) q (fun x S h => retX0 (retX0 h)) fun o F3 G3 i1 i2 i3 i4 q => ?_
  have hlc := hcc.lG
  have hsc := szT_pos c
  walk_at "w"
  refine same_ok E.h70 E.h69 E.h68 (by omega) (by omega) ?_
  walk_at "w"
  cases hp : prt k o with
  | none =>
    rw [hp, if_pos rfl] at q
    rw [show (!(none : Option Way).isNone) = false from rfl, wB_f]
    refine join_ok E.h21 E.h1 (by omega) ?_
    walk_at "w"
    rw [fldR (up_pl P.n1 P.n2 P.hp) rfl]
    walk_at "w"
    rw [tW_idx1]
    refine set_pw (by omega) ?_
    walk_at "w"
    rw [fldR (up_pl P.n1 P.n2 P.hp) rfl]
    walk_at "w"
    try rw [at4]
    walk_at "w"
    rw [tW_idx1]
    refine set_pw (Nat.lt_of_le_of_lt putT_len (by omega)) ?_
    walk_at "w"
    exact ret0 (ret0 q)
  | some wy =>
    rw [hp, if_neg (by simp)] at q
    rw [show (!(some wy).isNone) = true from rfl, wB_t]
    try rw [at4]
    walk_at "w"
    rw [tW_idx1]
    walk_at "w"
    rw [tW_idx1]
    walk_at "w"
    refine parting_ok E.h69 E.h68 (by omega) (by omega) ?_
    walk_at "w"
    first | exact retX0 (retX0 q) | exact ⟨by decide, retX0 (retX0 q)⟩
theorem by_call (E : LkT T) (P : Pls pl pf pw S) (ih : LSpec T pl pf pw S m) (ha : Cd m a N F G) (he : 4 * m + 19 ≤ e)
    (hb : ∀ F' G', F'.length ≤ F.length + (6 * szT a - 2) → G'.length ≤ G.length + (6 * szT a - 1) → Cd m b N F' G')
    (q : RLQ pf pw S (QS pf pw S Q) X (shapedT (lookN m) a (.to .unt .unt) p N F G fun k F G => heldT (lookN m) b (kp k 0) p N F G fun F G => .ok (kp k 1) F G)) :
    wF T e 162 [.ref pl, .tup [.str [99, 97, 108, 108], .int p, tW a, tW b], nmD N] (up pf pw S F G) Q X := by
  obtain ⟨e, rfl⟩ : ∃ e', e = e' + 3 := ⟨e - 3, by omega⟩
  rw [wF_eq E.h162, d162]
  walk_at "w"
  refine meth2 (up_pl P.n1 P.n2 P.hp) rfl rfl ?_
  walk_at "w"
  refine shaped_use (s := .to .unt .unt) (f := fun k F G => heldT (lookN m) b (kp k 0) p N F G fun F G => .ok (kp k 1) F G) E P ih ha (by omega) q (fun x S h => retX0 h) fun x F1 G1 hx g0 g3 g4 q => ?_
  obtain ⟨u, v, rfl⟩ := hS_to hx
  walk_at "w"
  refine meth2 (up_pl P.n1 P.n2 P.hp) rfl rfl ?_
  walk_at "w"
  rw [k_to1]
  walk_at "w"
  refine held_use (w := u) E P ih (hb _ _ g3 g4) (by omega) q (fun x S h => retX0 h) fun F' G' g0 g3 g4 q => ?_
  walk_at "w"
  rw [k_to2]
  exact ret0 q
theorem by_one (E : LkT T) (P : Pls pl pf pw S) (ih : LSpec T pl pf pw S m) (ha : Cd m a N F G) (he : 4 * m + 19 ≤ e)
    (q : RLQ pf pw S (QS pf pw S Q) X (shapedT (lookN m) a (.pair .unt .unt) p N F G fun k F G => .ok (kp k 0) F G)) :
    wF T e 162 [.ref pl, .tup [.str [111, 110, 101], .int p, tW a], nmD N] (up pf pw S F G) Q X := by
  obtain ⟨e, rfl⟩ : ∃ e', e = e' + 3 := ⟨e - 3, by omega⟩
  rw [wF_eq E.h162, d162]
  walk_at "w"
  refine meth2 (up_pl P.n1 P.n2 P.hp) rfl rfl ?_
  walk_at "w"
  rw [wF_eq E.h165, d165]
  walk_at "w"
  refine meth2 (up_pl P.n1 P.n2 P.hp) rfl rfl ?_
  walk_at "w"
  refine shaped_use (s := .pair .unt .unt) (f := fun k F G => .ok (kp k 0) F G) E P ih ha (by omega) q (fun x S h => retX0 (retX0 h)) fun x F1 G1 hx g0 g3 g4 q => ?_
  obtain ⟨u, v, rfl⟩ := hS_pair hx
  walk_at "w"
  rw [k_pair1]
  exact ret0 (ret0 q)
theorem by_two (E : LkT T) (P : Pls pl pf pw S) (ih : LSpec T pl pf pw S m) (ha : Cd m a N F G) (he : 4 * m + 19 ≤ e)
    (q : RLQ pf pw S (QS pf pw S Q) X (shapedT (lookN m) a (.pair .unt .unt) p N F G fun k F G => .ok (kp k 1) F G)) :
    wF T e 162 [.ref pl, .tup [.str [116, 119, 111], .int p, tW a], nmD N] (up pf pw S F G) Q X := by
  obtain ⟨e, rfl⟩ : ∃ e', e = e' + 3 := ⟨e - 3, by omega⟩
  rw [wF_eq E.h162, d162]
  walk_at "w"
  refine meth2 (up_pl P.n1 P.n2 P.hp) rfl rfl ?_
  walk_at "w"
  rw [wF_eq E.h165, d165]
  walk_at "w"
  refine meth2 (up_pl P.n1 P.n2 P.hp) rfl rfl ?_
  walk_at "w"
  refine shaped_use (s := .pair .unt .unt) (f := fun k F G => .ok (kp k 1) F G) E P ih ha (by omega) q (fun x S h => retX0 (retX0 h)) fun x F1 G1 hx g0 g3 g4 q => ?_
  obtain ⟨u, v, rfl⟩ := hS_pair hx
  walk_at "w"
  rw [k_pair2]
  exact ret0 (ret0 q)
theorem by_size (E : LkT T) (P : Pls pl pf pw S) (ih : LSpec T pl pf pw S m) (ha : Cd m a N F G) (he : 4 * m + 19 ≤ e)
    (q : RLQ pf pw S (QS pf pw S Q) X (shapedT (lookN m) a (.row .unt) p N F G fun _ F G => .ok .whole F G)) :
    wF T e 162 [.ref pl, .tup [.str [115, 105, 122, 101], .int p, tW a], nmD N] (up pf pw S F G) Q X := by
  obtain ⟨e, rfl⟩ : ∃ e', e = e' + 3 := ⟨e - 3, by omega⟩
  rw [wF_eq E.h162, d162]
  walk_at "w"
  refine meth2 (up_pl P.n1 P.n2 P.hp) rfl rfl ?_
  walk_at "w"
  rw [wF_eq E.h165, d165]
  walk_at "w"
  refine meth2 (up_pl P.n1 P.n2 P.hp) rfl rfl ?_
  walk_at "w"
  refine shaped_use (s := .row .unt) (f := fun _ F G => .ok .whole F G) E P ih ha (by omega) q (fun x S h => retX0 (retX0 h)) fun x F1 G1 hx g0 g3 g4 q => ?_
  walk_at "w"
  exact ret0 (ret0 q)
theorem by_at (E : LkT T) (P : Pls pl pf pw S) (ih : LSpec T pl pf pw S m) (ha : Cd m a N F G) (he : 4 * m + 19 ≤ e)
    (hb : ∀ F' G', F'.length ≤ F.length + (6 * szT a - 2) → G'.length ≤ G.length + (6 * szT a - 1) → Cd m b N F' G')
    (q : RLQ pf pw S (QS pf pw S Q) X (shapedT (lookN m) a (.row .unt) p N F G fun k F G => heldT (lookN m) b .whole p N F G fun F G => .ok (kp k 0) F G)) :
    wF T e 162 [.ref pl, .tup [.str [97, 116], .int p, tW a, tW b], nmD N] (up pf pw S F G) Q X := by
  obtain ⟨e, rfl⟩ : ∃ e', e = e' + 3 := ⟨e - 3, by omega⟩
  rw [wF_eq E.h162, d162]
  walk_at "w"
  refine meth2 (up_pl P.n1 P.n2 P.hp) rfl rfl ?_
  walk_at "w"
  rw [wF_eq E.h165, d165]
  walk_at "w"
  refine meth2 (up_pl P.n1 P.n2 P.hp) rfl rfl ?_
  walk_at "w"
  refine shaped_use (s := .row .unt) (f := fun k F G => heldT (lookN m) b .whole p N F G fun F G => .ok (kp k 0) F G) E P ih ha (by omega) q (fun x S h => retX0 (retX0 h)) fun x F1 G1 hx g0 g3 g4 q => ?_
  obtain ⟨u, rfl⟩ := hS_row hx
  walk_at "w"
  refine meth2 (up_pl P.n1 P.n2 P.hp) rfl rfl ?_
  walk_at "w"
  refine held_use (w := .whole) E P ih (hb _ _ g3 g4) (by omega) q (fun x S h => retX0 (retX0 h)) fun F' G' g0 g3 g4 q => ?_
  walk_at "w"
  rw [k_row1]
  exact ret0 (ret0 q)
theorem by_do (E : LkT T) (P : Pls pl pf pw S) (ih : LSpec T pl pf pw S m) (ha : Cd m a N F G) (he : 4 * m + 19 ≤ e)
    (hb : ∀ F' G', F'.length ≤ F.length + (6 * szT a - 2) → G'.length ≤ G.length + (6 * szT a - 1) → Cd m b N F' G')
    (q : RLQ pf pw S (QS pf pw S Q) X (heldT (lookN m) a .whole p N F G fun F G => heldT (lookN m) b .whole p N F G fun F G => .ok (if z = [60] ∨ z = [61] then .truth else .whole) F G)) :
    wF T e 162 [.ref pl, .tup [.str [100, 111], .int p, .str z, tW a, tW b], nmD N] (up pf pw S F G) Q X := by
  obtain ⟨e, rfl⟩ : ∃ e', e = e' + 3 := ⟨e - 3, by omega⟩
  rw [wF_eq E.h162, d162]
  walk_at "w"
  refine meth2 (up_pl P.n1 P.n2 P.hp) rfl rfl ?_
  walk_at "w"
  rw [wF_eq E.h166, d166]
  walk_at "w"
  refine meth2 (up_pl P.n1 P.n2 P.hp) rfl rfl ?_
  walk_at "w"
  refine held_use (w := .whole) (f := fun F G => heldT (lookN m) b .whole p N F G fun F G => .ok (if z = [60] ∨ z = [61] then .truth else .whole) F G) E P ih ha (by omega) q (fun x S h => retX0 (retX0 h)) fun F1 G1 g0 g3 g4 q => ?_
  walk_at "w"
  refine meth2 (up_pl P.n1 P.n2 P.hp) rfl rfl ?_
  walk_at "w"
  try rw [at4]
  walk_at "w"
  refine held_use (w := .whole) E P ih (hb _ _ g3 g4) (by omega) q (fun x S h => retX0 (retX0 h)) fun F' G' g0 g3 g4 q => ?_
  walk_at "w"
  refine wB_or (fun h => ?_) (fun h1 h2 => ?_)
  · have h : z = [60] ∨ z = [61] := by simpa using h
    rw [if_pos h] at q
    exact ret0 (ret0 q)
  · have h : ¬ (z = [60] ∨ z = [61]) := by simp at h1 h2; simp [h1, h2]
    rw [if_neg h] at q
    exact ret0 (ret0 q)
theorem by_pair (E : LkT T) (P : Pls pl pf pw S) (ih : LSpec T pl pf pw S m) (ha : Cd m a N F G) (he : 4 * m + 19 ≤ e)
    (hb : ∀ F' G', F'.length ≤ F.length + (6 * szT a - 2) → G'.length ≤ G.length + (6 * szT a - 2) → Cd m b N F' G')
    (q : RLQ pf pw S (QS pf pw S Q) X ((lookN m a N F G).bind fun k F G => (lookN m b N F G).bind fun o F G => .ok (.pair k o) F G)) :
    wF T e 162 [.ref pl, .tup [.str [112, 97, 105, 114], .int p, tW a, tW b], nmD N] (up pf pw S F G) Q X := by
  obtain ⟨e, rfl⟩ : ∃ e', e = e' + 3 := ⟨e - 3, by omega⟩
  rw [wF_eq E.h162, d162]
  walk_at "w"
  refine meth2 (up_pl P.n1 P.n2 P.hp) rfl rfl ?_
  walk_at "w"
  rw [wF_eq E.h166, d166]
  walk_at "w"
  refine meth2 (up_pl P.n1 P.n2 P.hp) rfl rfl ?_
  walk_at "w"
  refine look_use (f := fun k F G => (lookN m b N F G).bind fun o F G => .ok (.pair k o) F G) ih ha (by omega) q (fun x S h => retX0 (retX0 h)) fun k F2 G2 h1 h2 h3 h4 q => ?_
  walk_at "w"
  refine meth2 (up_pl P.n1 P.n2 P.hp) rfl rfl ?_
  walk_at "w"
  refine look_use (f := fun o F G => .ok (.pair k o) F G) ih (hb _ _ h3 h4) (by omega) q (fun x S h => retX0 (retX0 h)) fun o F3 G3 i1 i2 i3 i4 q => ?_
  walk_at "w"
  first | exact ret0 (ret0 q) | exact ⟨by decide, ret0 (ret0 q)⟩
theorem by_as (E : LkT T) (P : Pls pl pf pw S) (ih : LSpec T pl pf pw S m) (ha : Cd m a N F G) (he : 4 * m + 19 ≤ e)
    (q : RLQ pf pw S (QS pf pw S Q) X (heldT (lookN m) a k p N F G fun F G => .ok k F G)) :
    wF T e 162 [.ref pl, .tup [.str [97, 115], .int p, kW k, tW a], nmD N] (up pf pw S F G) Q X := by
  obtain ⟨e, rfl⟩ : ∃ e', e = e' + 3 := ⟨e - 3, by omega⟩
  rw [wF_eq E.h162, d162]
  walk_at "w"
  refine meth2 (up_pl P.n1 P.n2 P.hp) rfl rfl ?_
  walk_at "w"
  rw [wF_eq E.h166, d166]
  walk_at "w"
  refine meth2 (up_pl P.n1 P.n2 P.hp) rfl rfl ?_
  walk_at "w"
  refine held_use (w := k) E P ih ha (by omega) q (fun x S h => retX0 (retX0 h)) fun F' G' g0 g3 g4 q => ?_
  walk_at "w"
  exact ret0 (ret0 q)
theorem by_row {ts : List Tr} (E : LkT T) (P : Pls pl pf pw S) (ih : LSpec T pl pf pw S m) (he : 4 * m + 19 ≤ e)
    (hb : ∀ t ∈ ts, ∀ F' G', F'.length + 6 * szT t ≤ F.length + 6 * szTs ts → G'.length + 6 * szT t ≤ G.length + 6 * szTs ts → Cd m t N F' G')
    (q : RLQ pf pw S (QS pf pw S Q) X (rowT (lookN m) ts k p N F G fun F G => .ok (.row k) F G)) :
    wF T e 162 [.ref pl, .tup [.str [114, 111, 119], .int p, kW k, .tup (tWs ts)], nmD N] (up pf pw S F G) Q X := by
  obtain ⟨e, rfl⟩ : ∃ e', e = e' + 3 := ⟨e - 3, by omega⟩
  rw [wF_eq E.h162, d162]
  walk_at "w"
  refine meth2 (up_pl P.n1 P.n2 P.hp) rfl rfl ?_
  walk_at "w"
  rw [wF_eq E.h166, d166]
  walk_at "w"
  rw [tWs_map]
  refine forR tW (fun l env S' => (∃ x y, env = [some (.ref pl), some (.tup [.str [114, 111, 119], .int p, kW k, .tup (ts.map tW)]), some (nmD N), x, y]) ∧ ∃ F' G', S' = up pf pw S F' G' ∧ F'.length + 6 * szTs l ≤ F.length + 6 * szTs ts ∧ G'.length + 6 * szTs l ≤ G.length + 6 * szTs ts ∧ (∀ t ∈ l, t ∈ ts) ∧ RLQ pf pw S (QS pf pw S Q) X (rowT (lookN m) l k p N F' G' fun F G => .ok (.row k) F G))
    ⟨⟨_, _, rfl⟩, F, G, rfl, Nat.le_refl _, Nat.le_refl _, fun t h => h, q⟩ (fun _ _ _ _ => trivial) ?_ ?_
  · rintro t l env S' nx ⟨⟨x, y, rfl⟩, F', G', rfl, h1, h2, h3, q⟩ hn
    simp only [szTs] at h1 h2
    walk_at "w"
    refine meth2 (up_pl P.n1 P.n2 P.hp) rfl rfl ?_
    walk_at "w"
    refine held_use (w := k) (f := fun F G => rowT (lookN m) l k p N F G fun F G => .ok (.row k) F G) E P ih (hb t (h3 t List.mem_cons_self) F' G' (by omega) (by omega)) (by omega) q (fun x S h => retX0 (retX0 h)) fun F2 G2 g0 g3 g4 q => ?_
    walk_at "w"
    exact hn _ _ ⟨⟨_, _, rfl⟩, F2, G2, rfl, by omega, by omega, fun t h => h3 t (List.mem_cons_of_mem _ h), q⟩
  · rintro env S' ⟨⟨x, y, rfl⟩, F', G', rfl, h1, h2, h3, q⟩
    walk_at "w"
    first | exact ret0 (ret0 q) | exact ⟨by decide, ret0 (ret0 q)⟩
end
end Bw

/-! LA: looked at wholly -/
namespace Bw
open PySem (sizeLine)
section
variable {T : Nat → Option FD} {S : Sto} {Q : VQ} {X X0 : XQ} {n e m : Nat} {pl pf pw : PySem.Addr} {w : Wo} {p : Int} {fr us : List W} {ks : List Kd} {ps : List Tr} {N : Nm} {F G : Tbl} {Q0 : Kd → Tbl → Tbl → Prop} {a b c : Tr} {k k2 x y : Kd} {z z2 : List Nat}
theorem put_mono {z2 : List Nat} (h : getN N z2 ≠ none) : getN (putN N z k) z2 ≠ none := by
  rw [getN_putN]
  split
  · simp
  · exact h
theorem put_has : getN (putN N z k) z ≠ none := by rw [getN_putN, if_pos rfl]; simp
theorem put_nk (h : ∀ z k, getN N z = some k → kdep k ≤ 5) (hk : kdep k ≤ 5) : ∀ z2 k2, getN (putN N z k) z2 = some k2 → kdep k2 ≤ 5 := by
  intro z2 k2 e
  rw [getN_putN] at e
  split at e
  · cases e; exact hk
  · exact h _ _ e
theorem putT_ge {F : Tbl} {p : Int} {k : Kd} : F.length ≤ (putT F p k).length := by
  unfold putT
  split
  · rw [List.length_map]; omega
  · simp
theorem str1 {f : W} (h : [f] = [f].map fun x => W.str (nmW x)) : f = .str (nmW f) := by simpa using h
theorem str2 {f g : W} (h : [f, g] = [f, g].map fun x => W.str (nmW x)) : f = .str (nmW f) ∧ g = .str (nmW g) := by simpa using h
theorem len3 {α : Type} {l : List α} (h : l.length = 3) : ∃ a b c, l = [a, b, c] := by
  match l, h with
  | [a, b, c], _ => exact ⟨a, b, c, rfl⟩
theorem by_all (E : LkT T) (P : Pls pl pf pw S) (ih : LSpec T pl pf pw S m) (c : Cd (m + 1) (.nd w p fr ks ps) N F G) (h4 : ∀ k ∈ ks, kdep k ≤ 4) (he : 4 * m + 19 ≤ e)
    (q : RLQ pf pw S (QS pf pw S Q) X (byW (lookN m) w p fr ks ps N F G)) : wF T e 162 [.ref pl, shp w p fr (ks.map kW) (tWs ps), nmD N] (up pf pw S F G) Q X := by
  obtain ⟨⟨hf, hk, hn, hb⟩, hps⟩ := c.o
  obtain ⟨⟨hw, hp, hdo, hk8⟩, hgs⟩ := c.g
  have lN := c.lN
  have mono0 : ∀ z, getN N z ≠ none → getN N z ≠ none := fun _ h => h
  have same : ∀ {j : Nat} {t : Tr} {F' G' : Tbl}, ps[j]? = some t → ¬ (w = .fn ∨ w = .self ∨ (w = .let_ ∧ j = 1)) → F'.length + 6 * szT t ≤ F.length + 6 * szTs ps → G'.length + 6 * szT t ≤ G.length + 6 * szTs ps → Cd m t N F' G' :=
    fun hj hh h1 h2 => c.part hj mono0 (fun z => absurd z hh) c.nk (by omega) h1 h2
  cases w with
  | look => exact absurd rfl hw
  | whole =>
    obtain ⟨f, rfl⟩ := len1 hf
    obtain rfl := len0 hk
    obtain rfl := len0 (hp (by simp))
    obtain ⟨e, rfl⟩ : ∃ e', e = e' + 1 := ⟨e - 1, by omega⟩
    rw [wF_eq E.h162, d162]
    simp only [tWs, List.map, shp, List.cons_append, List.nil_append, woS]
    walk_at "w"
    exact ret0 q
  | truth =>
    obtain ⟨f, rfl⟩ := len1 hf
    obtain rfl := len0 hk
    obtain rfl := len0 (hp (by simp))
    obtain ⟨e, rfl⟩ : ∃ e', e = e' + 1 := ⟨e - 1, by omega⟩
    rw [wF_eq E.h162, d162]
    simp only [tWs, List.map, shp, List.cons_append, List.nil_append, woS]
    walk_at "w"
    exact ret0 q
  | given =>
    obtain ⟨f, rfl⟩ := len1 hf
    obtain rfl := len0 hk
    obtain rfl := len0 (hp (by simp))
    obtain ⟨e, rfl⟩ : ∃ e', e = e' + 1 := ⟨e - 1, by omega⟩
    rw [wF_eq E.h162, d162]
    simp only [tWs, List.map, shp, List.cons_append, List.nil_append, woS]
    walk_at "w"
    exact ret0 q
  | name =>
    obtain ⟨f, rfl⟩ := len1 hf
    obtain rfl := len0 hk
    obtain rfl := len0 (hp (by simp))
    have hz := str1 (hb rfl)
    obtain ⟨z, rfl⟩ : ∃ z, f = .str z := ⟨_, hz⟩
    obtain ⟨e, rfl⟩ : ∃ e', e = e' + 1 := ⟨e - 1, by omega⟩
    rw [wF_eq E.h162, d162]
    simp only [tWs, List.map, shp, List.cons_append, List.nil_append, woS]
    walk_at "w"
    have hz : getN N z ≠ none := by
      obtain ⟨ns, h, hh⟩ := c.fr
      refine hh z ?_
      by_cases hm : z ∈ ns
      · exact hm
      · rw [frees, if_pos ⟨rfl, hm⟩] at h
        cases h
    have ew : ∀ {Q : VQ} {S : Sto}, wIdx (nmD N) (.str z) S Q = wSome (lookD (kyN N) (wsN N) (.inr z)) fun w => Q w S := fun {Q S} => by
      unfold wIdx
      simp only [dicOf, kyOf, wSome]
      cases lookD (kyN N) (wsN N) (.inr z) <;> rfl
    first | rw [ew] | skip
    rw [look_N]
    cases h : getN N z with
    | none => exact absurd h hz
    | some k =>
      have q : Q (kW ((getN N z).getD .unt)) (up pf pw S F G) := q
      rw [h] at q
      simp only [Option.map_some, wSome]
      exact ret0 q
  | fn =>
    obtain ⟨f, rfl⟩ := len1 hf
    obtain ⟨k, rfl⟩ := len1 hk
    obtain ⟨b, rfl⟩ := len1 (hp (by simp))
    have hz := str1 (hb rfl)
    obtain ⟨z, rfl⟩ : ∃ z, f = .str z := ⟨_, hz⟩
    have hk4 : kdep k ≤ 4 := h4 k (by simp)
    simp only [tWs, List.map, shp, List.cons_append, List.nil_append, woS]
    exact by_fn E P ih (c.part (j := 0) rfl (fun _ h => put_mono h) (fun _ z2 h => by have : z2 = z := by simpa [nmW] using h
                                                                                      subst this; exact put_has) (put_nk c.nk (by omega)) (Nat.le_trans putN_len (by omega)) (by simp only [szTs]; omega) (by simp only [szTs]; omega)) he (by omega) q
  | self =>
    obtain ⟨f, g, rfl⟩ := len2 hf
    obtain ⟨k, k2, rfl⟩ := len2 hk
    obtain ⟨b, rfl⟩ := len1 (hp (by simp))
    have hz := str2 (hb rfl)
    obtain ⟨z, rfl⟩ : ∃ z, f = .str z := ⟨_, hz.1⟩
    obtain ⟨z2, rfl⟩ : ∃ z, g = .str z := ⟨_, hz.2⟩
    have hk4 : kdep k ≤ 4 := h4 k (by simp)
    have hk5 : kdep k2 ≤ 4 := h4 k2 (by simp)
    simp only [tWs, List.map, shp, List.cons_append, List.nil_append, woS]
    exact by_self E P ih (c.part (j := 0) rfl (fun _ h => put_mono (put_mono h)) (fun _ z3 h => by
        have : z3 = z ∨ z3 = z2 := by simpa [nmW] using h
        rcases this with rfl | rfl
        · exact put_mono put_has
        · exact put_has) (put_nk (put_nk c.nk (by simp only [kdep]; omega)) (by omega)) (Nat.le_trans putN_len (by have := @putN_len N z (.to k k2); omega)) (by simp only [szTs]; omega) (by simp only [szTs]; omega)) he (by omega) q
  | let_ =>
    obtain ⟨f, rfl⟩ := len1 hf
    obtain rfl := len0 hk
    obtain ⟨a, b, rfl⟩ := len2 (hp (by simp))
    have hz := str1 (hb rfl)
    obtain ⟨z, rfl⟩ : ∃ z, f = .str z := ⟨_, hz⟩
    have sa := szT_pos a
    simp only [tWs, List.map, shp, List.cons_append, List.nil_append, woS]
    exact by_let E P ih (same (j := 0) rfl (by simp) (by simp only [szTs]; omega) (by simp only [szTs]; omega)) he (by omega) (fun x F' G' g1 g2 g3 => c.part (j := 1) rfl (fun _ h => put_mono h) (fun _ z2 h => by
        have : z2 = z := by simpa [nmW] using h
        subst this; exact put_has) (put_nk c.nk (by omega)) (Nat.le_trans putN_len (by omega)) (by simp only [szTs]; omega) (by simp only [szTs]; omega)) q
  | if_ =>
    obtain rfl := len0 hf
    obtain rfl := len0 hk
    obtain ⟨a, b, c2, rfl⟩ := len3 (hp (by simp))
    have sa := szT_pos a
    have sb := szT_pos b
    simp only [tWs, List.map, shp, List.cons_append, List.nil_append, woS]
    exact by_if E P ih (same (j := 0) rfl (by simp) (by simp only [szTs]; omega) (by simp only [szTs]; omega)) he (fun F' G' g2 g3 => same (j := 1) rfl (by simp) (by simp only [szTs]; omega) (by simp only [szTs]; omega))
      (fun F' G' g2 g3 => same (j := 2) rfl (by simp) (by simp only [szTs]; omega) (by simp only [szTs]; omega)) q
  | call =>
    obtain rfl := len0 hf
    obtain rfl := len0 hk
    obtain ⟨a, b, rfl⟩ := len2 (hp (by simp))
    have sa := szT_pos a
    simp only [tWs, List.map, shp, List.cons_append, List.nil_append, woS]
    exact by_call E P ih (same (j := 0) rfl (by simp) (by simp only [szTs]; omega) (by simp only [szTs]; omega)) he (fun F' G' g2 g3 => same (j := 1) rfl (by simp) (by simp only [szTs]; omega) (by simp only [szTs]; omega)) q
  | at_ =>
    obtain rfl := len0 hf
    obtain rfl := len0 hk
    obtain ⟨a, b, rfl⟩ := len2 (hp (by simp))
    have sa := szT_pos a
    simp only [tWs, List.map, shp, List.cons_append, List.nil_append, woS]
    exact by_at E P ih (same (j := 0) rfl (by simp) (by simp only [szTs]; omega) (by simp only [szTs]; omega)) he (fun F' G' g2 g3 => same (j := 1) rfl (by simp) (by simp only [szTs]; omega) (by simp only [szTs]; omega)) q
  | pair =>
    obtain rfl := len0 hf
    obtain rfl := len0 hk
    obtain ⟨a, b, rfl⟩ := len2 (hp (by simp))
    have sa := szT_pos a
    simp only [tWs, List.map, shp, List.cons_append, List.nil_append, woS]
    exact by_pair E P ih (same (j := 0) rfl (by simp) (by simp only [szTs]; omega) (by simp only [szTs]; omega)) he (fun F' G' g2 g3 => same (j := 1) rfl (by simp) (by simp only [szTs]; omega) (by simp only [szTs]; omega)) q
  | do_ =>
    obtain ⟨f, rfl⟩ := len1 hf
    obtain rfl := len0 hk
    obtain ⟨a, b, rfl⟩ := len2 (hp (by simp))
    have hz := str1 (hdo rfl)
    obtain ⟨z, rfl⟩ : ∃ z, f = .str z := ⟨_, hz⟩
    have sa := szT_pos a
    simp only [tWs, List.map, shp, List.cons_append, List.nil_append, woS]
    exact by_do E P ih (same (j := 0) rfl (by simp) (by simp only [szTs]; omega) (by simp only [szTs]; omega)) he (fun F' G' g2 g3 => same (j := 1) rfl (by simp) (by simp only [szTs]; omega) (by simp only [szTs]; omega)) q
  | one =>
    obtain rfl := len0 hf
    obtain rfl := len0 hk
    obtain ⟨a, rfl⟩ := len1 (hp (by simp))
    simp only [tWs, List.map, shp, List.cons_append, List.nil_append, woS]
    exact by_one E P ih (same (j := 0) rfl (by simp) (by simp only [szTs]; omega) (by simp only [szTs]; omega)) he q
  | two =>
    obtain rfl := len0 hf
    obtain rfl := len0 hk
    obtain ⟨a, rfl⟩ := len1 (hp (by simp))
    simp only [tWs, List.map, shp, List.cons_append, List.nil_append, woS]
    exact by_two E P ih (same (j := 0) rfl (by simp) (by simp only [szTs]; omega) (by simp only [szTs]; omega)) he q
  | size =>
    obtain rfl := len0 hf
    obtain rfl := len0 hk
    obtain ⟨a, rfl⟩ := len1 (hp (by simp))
    simp only [tWs, List.map, shp, List.cons_append, List.nil_append, woS]
    exact by_size E P ih (same (j := 0) rfl (by simp) (by simp only [szTs]; omega) (by simp only [szTs]; omega)) he q
  | as_ =>
    obtain rfl := len0 hf
    obtain ⟨k, rfl⟩ := len1 hk
    obtain ⟨a, rfl⟩ := len1 (hp (by simp))
    simp only [tWs, List.map, shp, List.cons_append, List.nil_append, woS]
    exact by_as E P ih (same (j := 0) rfl (by simp) (by simp only [szTs]; omega) (by simp only [szTs]; omega)) he q
  | row =>
    obtain rfl := len0 hf
    obtain ⟨k, rfl⟩ := len1 hk
    simp only [List.map, shp, List.cons_append, List.nil_append, woS]
    exact by_row E P ih he (fun t ht F' G' g1 g2 => by
      obtain ⟨j, hj⟩ := List.mem_iff_getElem?.mp ht
      exact same hj (by simp) g1 g2) q
theorem look_spec (E : LkT T) (P : Pls pl pf pw S) : ∀ m, LSpec T pl pf pw S m := by
  intro m
  induction m with
  | zero =>
    intro t N F G e Q X c
    have := c.d
    cases t with
    | nd w p fr ks ps => simp [dT] at this
  | succ m ih =>
    intro t N F G e Q X c he q
    cases t with
    | nd w p fr ks ps =>
    obtain ⟨⟨hf, hk, hn, hb⟩, hps⟩ := c.o
    obtain ⟨⟨hw, hp, hdo, hk8⟩, hgs⟩ := c.g
    obtain ⟨e, rfl⟩ : ∃ e', e = e' + 4 := ⟨e - 4, by omega⟩
    have lp := @look_prop (m + 1) (.nd w p fr ks ps) N F G
    have ewr : wrT w ks = ks := by cases w <;> first | rfl | exact absurd rfl hw
    rw [lookN, ewr] at q lp
    rw [wF_eq E.h159, d159]
    simp only [tW]
    walk_at "w"
    refine written_ok E.h89 hf (by rw [List.length_map]; exact hk) hw ?_
    walk_at "w"
    refine forR kW (fun l env S' => S' = up pf pw S F G ∧ (∃ y, env = [some (.ref pl), some (shp w p fr (ks.map kW) (tWs ps)), some (nmD N), y]) ∧ (∀ k ∈ l, k ∈ ks) ∧ (l.any fun k => decide (4 < kdep k)) = ks.any fun k => decide (4 < kdep k))
      ⟨rfl, ⟨_, rfl⟩, fun _ h => h, rfl⟩ (fun _ _ _ _ => trivial) ?_ ?_
    · rintro k l env S' nx ⟨rfl, ⟨y, rfl⟩, hm, ha⟩ hnx
      walk_at "w"
      rw [shp_idx1]
      have h8 := hk8 k (hm k List.mem_cons_self)
      refine shallow_ok E.h155 E.h11 (by omega) ?_
      split
      · rename_i h
        rw [List.any_cons, decide_eq_true h, Bool.true_or] at ha
        rw [if_pos ha.symm] at q
        exact retX0 q
      · rename_i h
        rw [List.any_cons, decide_eq_false h, Bool.false_or] at ha
        walk_at "w"
        exact hnx _ _ ⟨rfl, ⟨_, rfl⟩, fun x hx => hm x (List.mem_cons_of_mem _ hx), ha⟩
    · rintro env S' ⟨rfl, ⟨y, rfl⟩, hm, ha⟩
      have ha : (ks.any fun k => decide (4 < kdep k)) = false := ha.symm
      have hnt : ¬ (ks.any fun k => decide (4 < kdep k)) = true := by rw [ha]; simp
      rw [if_neg hnt] at q lp
      have h4 : ∀ k ∈ ks, kdep k ≤ 4 := fun k hk => by
        have := List.any_eq_false.mp ha k hk
        have : ¬ 4 < kdep k := by simpa using this
        omega
      walk_at "w"
      refine meth2 (up_pl P.n1 P.n2 P.hp) rfl rfl ?_
      walk_at "w"
      refine by_all E P ih c h4 (by omega) ?_
      have bd := @by_dep m w p fr ks ps N F G h4 c.nk
      have cF := c.lF
      have cG := c.lG
      simp only [szT] at cF cG
      revert q lp bd
      generalize byW (lookN m) w p fr ks ps N F G = r
      cases r with
      | bad x F' G' => exact fun q _ _ => retX0 q
      | ok k F' G' =>
        intro q lp bd
        have bd : kdep k ≤ 5 := bd
        show _
        unfold QS
        dsimp only [RLQ]
        walk_at "w"
        rw [shp_idx1]
        refine shallow_ok E.h155 E.h11 (by omega) ?_
        have q : RLQ pf pw S (fun k F G => Q (kW k) (up pf pw S F G)) X (if 4 < kdep k then .bad (xDeep p) F' G' else .ok k (putT F' p k) (putT G' p k)) := q
        have lp : wpR (if 4 < kdep k then RL.bad (xDeep p) F' G' else .ok k (putT F' p k) (putT G' p k)) (LP p (6 * szT (.nd w p fr ks ps) - 2) F G) := lp
        split
        · rename_i h
          rw [if_pos h] at q
          exact retX0 q
        · rename_i h
          rw [if_neg h] at q lp
          have l1 : (putT F' p k).length ≤ F.length + (6 * szT (.nd w p fr ks ps) - 2) := lp.2.2.1
          have l2 : (putT G' p k).length ≤ G.length + (6 * szT (.nd w p fr ks ps) - 2) := lp.2.2.2
          have l3 := @putT_ge F' p k
          have l4 := @putT_ge G' p k
          simp only [szT] at l1 l2
          walk_at "w"
          rw [fldR (up_pl P.n1 P.n2 P.hp) rfl, shp_idx1]
          refine set_pf P.n3 (by omega) ?_
          walk_at "w"
          rw [fldR (up_pl P.n1 P.n2 P.hp) rfl, shp_idx1]
          refine set_pw (by omega) ?_
          walk_at "w"
          exact ret0 q
theorem need_ok2 (h141 : T 141 = some d141) (h140 : T 140 = some d140) (h87 : T 87 = some d87) (h139 : T 139 = some d139) {t : Tr} (hd : dT t ≤ n) (hd2 : dT t ≤ 100) (ho : okTr t) (q : match frees t [] with | [] => Q .non S | e :: _ => X ⟨4, [[112, 108, 97, 99, 101]], [.int e.1]⟩ S) : wF T (n + 2) 141 [tW t] S Q X := by
  rw [wF_eq h141, d141]
  walk_at "w"
  refine free_ok (ns := []) h140 h87 h139 hd ho (by simp; omega) ?_
  cases hf : frees t [] with
  | nil =>
    rw [hf] at q
    simp only [List.head?_nil, Option.map_none, woI]
    walk_at "w"
    exact retN0 q
  | cons e r =>
    rw [hf] at q
    simp only [List.head?_cons, Option.map_some, woI]
    walk_at "w"
    exact ⟨by omega, retX0 q⟩
end
end Bw

/-! LQ: looked, kind_of -/
namespace Bw
open PySem (sizeLine)
section
variable {T : Nat → Option FD} {S : Sto} {Q : VQ} {X X0 : XQ} {n e m : Nat} {pl pf pw : PySem.Addr} {t : Tr}
theorem Sub.set2 {S S' : Sto} {p : PySem.Addr} {o : O} (h : Sub S S') : Sub (S.set p o) (S'.set p o) := by
  refine ⟨fun a u e => ?_, fun a e => ?_⟩
  · by_cases n : a = p
    · subst n; rw [Sto.set_same] at e ⊢; exact e
    · rw [Sto.set_ne n] at e ⊢; exact h.1 a u e
  · by_cases n : a = p
    · subst n; rw [Sto.set_same] at e ⊢; exact e
    · rw [Sto.set_ne n] at e ⊢; exact h.2 a e
theorem sub_up {S S' : Sto} {F G : Tbl} (h : Sub S S') : Sub (up pf pw S F G) (up pf pw S' F G) := Sub.set2 (Sub.set2 h)
theorem sub_up0 {F G : Tbl} (h1 : S pf = none) (h2 : S pw = none) (n3 : pf ≠ pw) : Sub S (up pf pw S F G) :=
  Sub.trans (Sub.setO h1 (by intro z; cases z)) (Sub.setO (by rw [Sto.set_ne (Ne.symm n3)]; exact h2) (by intro z; cases z))
theorem fz_dic {a : PySem.Addr} (h : S a = none) : wFz (.ref a) (S.set a (.dic [] [])) Q = Q (.dct [] []) S := by
  unfold wFz
  simp only [Sto.set_same]
  rw [set_del h]
theorem fldS_ins {a : PySem.Addr} {c : Nat} {kk : List (List Nat)} {ws : List W} {f : List Nat} {w : W} {cs : List Nat} {Q : Sto → Prop} (h : S a = some (.ins c kk ws)) (hc : c ∈ cs) (hl : ws.length < 900) (q : Q (S.set a (.ins c (putW kk ws f w).1 (putW kk ws f w).2))) : wFldS cs (.ref a) f w S Q := by
  unfold wFldS
  simp only [h]
  exact ⟨hc, hl, q⟩
theorem lkinit_ok (h : T 157 = some d157) (hpl : S pl = none) (q : ∀ pf pw, S pf = none → S pw = none → pl ≠ pf → pl ≠ pw → pf ≠ pw → Q .non (up pf pw (S.set pl (LkO pf pw)) [] [])) :
    wF T (n + 1) 157 [.ref pl] (S.set pl (.ins 9 [] [])) Q X := by
  rw [wF_eq h, d157]
  walk_at "w"
  intro pf hpf
  have n1 : pf ≠ pl := fresh_ne hpf
  have hpf := fresh_old hpf
  refine fldS_ins (by rw [Sto.set_ne (Ne.symm n1)]; exact Sto.set_same) (by simp) (by simp) ?_
  walk_at "w"
  intro pw hpw
  have n2 : pw ≠ pl := fresh_ne hpw
  have hpw := fresh_old hpw
  have n3 : pw ≠ pf := fresh_ne hpw
  have hpw := fresh_old (fresh_old hpw)
  refine fldS_ins (c := 9) (kk := [[102, 111, 117, 110, 100]]) (ws := [.ref pf]) (by rw [Sto.set_ne (Ne.symm n2)]; exact Sto.set_same) (by simp) (by simp) ?_
  walk_at "w"
  refine retN0 ?_
  have e := q pf pw hpf hpw (Ne.symm n1) (Ne.symm n2) (Ne.symm n3)
  have eq : up pf pw (S.set pl (LkO pf pw)) [] [] = (((((S.set pl (O.ins 9 [] [])).set pf (O.dic [] [])).set pl (O.ins 9 [[102, 111, 117, 110, 100]] [.ref pf])).set pw (O.dic [] [])).set pl (LkO pf pw)) := by
    funext b
    unfold up Sto.set
    by_cases h1 : b = pl
    · subst h1; simp [Ne.symm n1, Ne.symm n2]
    · by_cases h2 : b = pw
      · subst h2; simp [h1]; rfl
      · by_cases h3 : b = pf
        · subst h3; simp [h1, h2]; rfl
        · simp [h1, h2, h3]
  rw [eq] at e
  exact e
theorem looked_ok (E : LkT T) (h141 : T 141 = some d141) (h140 : T 140 = some d140) (h87 : T 87 = some d87) (h139 : T 139 = some d139) (h157 : T 157 = some d157) (h167 : T 167 = some d167) (hd : dT t ≤ m) (hm : m ≤ 100) (hg : gdT t) (ho : okTr t) (hs : szT t ≤ 10000)
    (he : 4 * m + 17 ≤ e) (hf : frees t [] = []) (q : match lookN m t [] [] [] with
      | .ok k F G => ∀ pf pw, S pf = none → S pw = none → pf ≠ pw → Q (.tup [.ref pf, .ref pw]) (up pf pw S F G)
      | .bad x _ _ => X x S) : wF T e 167 [tW t] S Q X := by
  obtain ⟨e, rfl⟩ : ∃ e', e = e' + 3 := ⟨e - 3, by omega⟩
  rw [wF_eq h167, d167]
  walk_at "w"
  refine need_ok2 h141 h140 h87 h139 (by omega) (by omega) ho ?_
  rw [hf]
  walk_at "w"
  intro pl hpl
  refine lkinit_ok h157 hpl fun pf pw hpf hpw n1 n2 n3 => ?_
  walk_at "w"
  have P : Pls pl pf pw (S.set pl (LkO pf pw)) := ⟨n1, n2, n3, Sto.set_same⟩
  refine meth2 (up_pl P.n1 P.n2 P.hp) rfl rfl ?_
  walk_at "w"
  intro a ha
  rw [fz_dic ha]
  refine look_spec E P m (N := []) ⟨hd, hg, ho, ⟨[], hf, fun z h => (by cases h)⟩, fun z k h => (by cases h), ?_, ?_, ?_⟩ (by omega) ?_
  · simp; omega
  · simp; omega
  · simp; omega
  revert q
  generalize lookN m t [] [] [] = r
  cases r with
  | ok k F G =>
    intro q
    show _
    dsimp only [RLQ]
    walk_at "w"
    rw [fldR (up_pl P.n1 P.n2 P.hp) rfl]
    walk_at "w"
    rw [fldR (up_pl P.n1 P.n2 P.hp) rfl]
    walk_at "w"
    have q := q pf pw hpf hpw n3
    have sb : Sub (up pf pw S F G) (up pf pw (S.set pl (LkO pf pw)) F G) := sub_up (Sub.setO hpl (by intro z; cases z))
    first | exact retG sb q | exact ⟨by decide, retG sb q⟩
  | bad x F G =>
    intro q
    have sb : Sub S (up pf pw (S.set pl (LkO pf pw)) F G) := Sub.trans (Sub.setO hpl (by intro z; cases z)) (sub_up0 (by rw [Sto.set_ne (Ne.symm n1)]; exact hpf) (by rw [Sto.set_ne (Ne.symm n2)]; exact hpw) n3)
    exact retXG sb q
end
end Bw

/-! M31: k31, taken for a kind -/
namespace Bw
open PySem (sizeLine)
theorem rng_get {lo : Int} {n i : Nat} {w : W} (h : (rngW lo n)[i]? = some w) : i < n ∧ w = .int (lo + (i : Int)) := by
  unfold rngW at h
  rw [List.getElem?_map] at h
  by_cases hi : i < n
  · rw [List.getElem?_range hi] at h
    exact ⟨hi, (Option.some.inj h).symm⟩
  · rw [List.getElem?_eq_none (by simpa using hi)] at h
    cases h
section
variable {T : Nat → Option FD} {S : Sto} {Q : VQ} {X X0 : XQ} {n e m : Nat}
theorem fldX {c : Nat} {ks : List (List Nat)} {ws : List W} {f : List Nat} {w : W} {cs : List Nat} (h : lookF ks ws f = some w) : wFld cs (.exn c ks ws) f S Q = Q w S := by
  unfold wFld
  simp only [fldOf, wSome, h]
end
end Bw

/-! W33: the deal, the words, the programs of k33 -/
namespace Bw
open PySem (sizeLine)
theorem compI {f : W → Sto → (List W → Sto → Prop) → Prop} {lk : Lk} (I : Nat → List W → Sto → Prop) : ∀ {items : List W} {done : List W} {S : Sto} {R : List W → Sto → Prop} (k : Nat), I k done S →
    (∀ i done S, i ≤ k + items.length → I i done S → liveS lk S) →
    (∀ i w done S (R : List W → Sto → Prop), items[i]? = some w → I (k + i) done S → (∀ y S', I (k + i + 1) (done ++ [y]) S' → R [y] S') → f w S R) →
    (∀ more S', I (k + items.length) (done ++ more) S' → R more S') → wMap lk f items S R
  | [], done, S, R, k, h, hl, step, fin => ⟨hl k done S (Nat.le_refl _) h, fin [] S (by rw [List.append_nil]; exact h)⟩
  | w :: ws, done, S, R, k, h, hl, step, fin => ⟨hl k done S (Nat.le_add_right _ _) h, step 0 w done S _ rfl h fun y S' h' => compI I (k + 1) h' (fun i done S hi => hl i done S (by rw [List.length_cons]; omega))
      (fun i w done S R e hI hn => step (i + 1) w done S R e (by rw [show k + (i + 1) = k + 1 + i by omega]; exact hI) (fun y S'' z => hn y S'' (by rw [show k + 1 + i + 1 = k + (i + 1) + 1 by omega]; exact z)))
      (fun more S'' z => fin ([y] ++ more) S'' (by rw [List.length_cons, show k + (ws.length + 1) = k + 1 + ws.length by omega, ← List.append_assoc]; exact z))⟩
theorem wSetL_ref {a : PySem.Addr} {S : Sto} {ws : List W} {i : Int} {j : Nat} {w : W} {Q : Sto → Prop} (h : S a = some (.lst ws)) (hj : ixW ws.length i = some j) : wSetIx (.ref a) (.int i) w S Q = Q (S.set a (.lst (ws.set j w))) := by
  unfold wSetIx
  simp only [h, hj]
theorem rng_get0 {n i : Nat} {w : W} (h : (rngW 0 n)[i]? = some w) : i < n ∧ w = .int (i : Int) := by
  obtain ⟨h1, h2⟩ := rng_get h
  exact ⟨h1, by rw [h2]; simp⟩
theorem log_ok {i : Int} (h0 : 0 ≤ i) (h : i < 9000) : i.natAbs.log2 < 9000 := Nat.lt_of_le_of_lt (Nat.log2_le_self _) (by omega)
theorem intOf_b {b : Bool} {S : Sto} {Q : VQ} : wIntOf (.bl b) S Q = Q (.int (if b then 1 else 0)) S := rfl
/-- the deal -/
def dl (ns : List Int) (b : Int) (r : List W) (i c : Int) : O := .lst (.sc (ns.map W.int) :: .int i :: .int b :: .int c :: r)
section
variable {T : Nat → Option FD} {S : Sto} {Q : VQ} {X X0 : XQ} {n e m : Nat} {pd : PySem.Addr} {ns : List Int} {b i c : Int} {r : List W}
theorem dl0 (h : S pd = some (dl ns b r i c)) : wIdx (.ref pd) (.int 0) S Q = Q (.sc (ns.map W.int)) S := by rw [wIdx_ref h, at0]; rfl
theorem dl1 (h : S pd = some (dl ns b r i c)) : wIdx (.ref pd) (.int 1) S Q = Q (.int i) S := by rw [wIdx_ref h, at1]; rfl
theorem dl2 (h : S pd = some (dl ns b r i c)) : wIdx (.ref pd) (.int 2) S Q = Q (.int b) S := by rw [wIdx_ref h, at2]; rfl
theorem dl3 (h : S pd = some (dl ns b r i c)) : wIdx (.ref pd) (.int 3) S Q = Q (.int c) S := by rw [wIdx_ref h, at3]; rfl
theorem dlS1 {j : Int} {Q : Sto → Prop} (h : S pd = some (dl ns b r i c)) : wSetIx (.ref pd) (.int 1) (.int j) S Q = Q (S.set pd (dl ns b r j c)) := by
  rw [wSetL_ref h (j := 1) (by simp [ixW]; omega)]
  rfl
theorem dlS3 {j : Int} {Q : Sto → Prop} (h : S pd = some (dl ns b r i c)) : wSetIx (.ref pd) (.int 3) (.int j) S Q = Q (S.set pd (dl ns b r i j)) := by
  rw [wSetL_ref h (j := 3) (by simp [ixW]; omega)]
  rfl
end
end Bw

/-! Y33: any program of k33 -/
namespace Bw
open PySem (sizeLine)
theorem freess_nil : ∀ {w : Wo} {fr : List W} {ps : List Tr} {i : Nat} {ns : Ns}, (∀ j t, ps[j]? = some t → frees t (within w fr (i + j) ns) = []) → freess w fr i ps ns = []
  | w, fr, [], i, ns, _ => rfl
  | w, fr, x :: ps, i, ns, h => by
    rw [freess, List.append_eq_nil_iff]
    refine ⟨h 0 x rfl, freess_nil fun j t e => ?_⟩
    have := h (j + 1) t e
    rw [show i + 1 + j = i + (j + 1) by omega]
    exact this
section
variable {T : Nat → Option FD} {S : Sto} {Q : VQ} {X X0 : XQ} {n e m : Nat} {pd : PySem.Addr} {ns : List Int} {b i c : Int} {ws : List (List Nat)} {nms : Ns}
abbrev dl5 (ns : List Int) (b : Int) (ws : List (List Nat)) (i c : Int) : O := dl ns b [.rl (ws.map W.str)] i c
theorem dlw (h : S pd = some (dl5 ns b ws i c)) : wIdx (.ref pd) (.int 4) S Q = Q (.rl (ws.map W.str)) S := by rw [wIdx_ref h, at4]; rfl
theorem atS {zs : List (List Nat)} {j : Int} {P : W → Prop} (h0 : 0 ≤ j) (h : j < (zs.length : Int)) (q : ∀ z ∈ zs, P (.str z)) : wSome (atW (zs.map W.str) j) P := by
  obtain ⟨m, rfl⟩ : ∃ m : Nat, j = (m : Int) := ⟨j.toNat, by omega⟩
  have hm : m < zs.length := by omega
  rw [at_nat (by rw [List.length_map]; exact hm), List.getElem?_map, List.getElem?_eq_getElem hm]
  exact q _ (List.getElem_mem hm)
end
end Bw

/-! R33: the looker without its dicts; the law's own rules -/
namespace Bw
open PySem (sizeLine)
inductive LPr where
  | ok (k : Kd) | deep (p : Int) | part (p : Int) (k : Kd) (b : Int) (w : Kd)
def LPr.bind (r : LPr) (f : Kd → LPr) : LPr := match r with
  | .ok k => f k
  | .deep p => .deep p
  | .part p k b w => .part p k b w
def REq : RL → LPr → Prop
  | .ok k _ _, .ok k' => k = k'
  | .bad x _ _, .deep p => x = xDeep p
  | .bad x _ _, .part p k b w => x = xPart p k b w ∧ prt k w ≠ none
  | _, _ => False
theorem REq.bind {r : RL} {r' : LPr} {f : Kd → Tbl → Tbl → RL} {f' : Kd → LPr} (h : REq r r') (k : ∀ k F G, r = .ok k F G → REq (f k F G) (f' k)) : REq (r.bind f) (r'.bind f') := by
  cases r with
  | ok x F G =>
    cases r' with
    | ok y => have h : x = y := h; subst h; exact k x F G rfl
    | _ => exact h.elim
  | bad x F G =>
    cases r' with
    | ok y => exact h.elim
    | deep p => exact h
    | part p k b w => exact h
def hold1 (p : Int) (k : Kd) (b : Int) (w : Kd) : Option LPr := if prt k w = none then none else some (.part p k b w)
def andP (o : Option LPr) (r : LPr) : LPr := match o with
  | some x => x
  | none => r
def namesP (w : Wo) (fr : List W) (ks : List Kd) (N : Nm) (kinds : List Kd) : Nm := match w with
  | .fn => putN N (nm0 fr) (k0 ks)
  | .self => putN (putN N (nm0 fr) (.to (k0 ks) (k1 ks))) (nm1 fr) (k0 ks)
  | .let_ => match kinds with
    | [k] => putN N (nm0 fr) k
    | _ => N
  | _ => N
def shp1 (k s : Kd) : Kd := if hS k = hS s then k else s
def lastK (kinds : List Kd) : Kd := kinds.getLastD .unt
def wantP (w : Wo) (ks kinds : List Kd) : Kd := match w with
  | .do_ => .whole
  | .as_ => k0 ks
  | .row => k0 ks
  | .self => k1 ks
  | .if_ => match kinds with
    | [_] => .truth
    | _ => lastK kinds
  | .call => match kinds with
    | [k] => shp1 k (.to .unt .unt)
    | _ => kp (shp1 (k0 kinds) (.to .unt .unt)) 0
  | .at_ => match kinds with
    | [k] => shp1 k (.row .unt)
    | _ => .whole
  | .size => shp1 (k0 kinds) (.row .unt)
  | .one => shp1 (k0 kinds) (.pair .unt .unt)
  | .two => shp1 (k0 kinds) (.pair .unt .unt)
  | _ => lastK kinds
def heldP (w : Wo) (p : Int) (ks : List Kd) (ps : List Tr) (q : Int) (kinds : List Kd) : Option LPr := match w with
  | .if_ => match kinds with
    | [_, _] => none
    | [_, b, c] => hold1 q c (match ps with | _ :: t :: _ => plT t | _ => 0) b
    | kinds => hold1 q (lastK kinds) p (wantP .if_ ks kinds)
  | w => hold1 q (lastK kinds) p (wantP w ks kinds)
def ownP (w : Wo) (fr : List W) (ks : List Kd) (N : Nm) (kinds : List Kd) : Kd := match w with
  | .name => (getN N (nm0 fr)).getD .unt
  | .truth => .truth
  | .do_ => if nm0 fr = [60] ∨ nm0 fr = [61] then .truth else .whole
  | .whole => .whole
  | .given => .whole
  | .size => .whole
  | .fn => .to (k0 ks) (k0 kinds)
  | .self => .to (k0 ks) (k1 ks)
  | .let_ => k1 kinds
  | .if_ => match kinds with
    | [_, b, c] => jn b c
    | _ => .unt
  | .call => kp (shp1 (k0 kinds) (.to .unt .unt)) 1
  | .row => .row (k0 ks)
  | .at_ => kp (shp1 (k0 kinds) (.row .unt)) 0
  | .pair => .pair (k0 kinds) (k1 kinds)
  | .as_ => k0 ks
  | .one => kp (shp1 (k0 kinds) (.pair .unt .unt)) 0
  | .two => kp (shp1 (k0 kinds) (.pair .unt .unt)) 1
  | .look => .unt
def comeP (L : Tr → Nm → LPr) (w : Wo) (p : Int) (fr : List W) (ks : List Kd) (ps : List Tr) (N : Nm) : List Tr → List Kd → LPr
  | [], kinds => .ok (ownP w fr ks N kinds)
  | t :: ts, kinds => (L t (namesP w fr ks N kinds)).bind fun k => andP (heldP w p ks ps (plT t) (kinds ++ [k])) (comeP L w p fr ks ps N ts (kinds ++ [k]))
def finP (p : Int) (r : LPr) : LPr := r.bind fun k => if 4 < kdep k then .deep p else .ok k
def lookP : Nat → Tr → Nm → LPr
  | 0, t, _ => .deep (plT t)
  | n + 1, .nd w p fr ks ps, N => if (wrT w ks).any (fun k => decide (4 < kdep k)) = true then .deep p else finP p (comeP (lookP n) w p fr ks ps N ps [])
theorem hold_eq {p b : Int} {k w : Kd} {F G : Tbl} {f : Tbl → Tbl → RL} {f' : LPr} (hk : getT F p = some k) (h : ∀ F G, REq (f F G) f') : REq (holdT p b w F G f) (andP (hold1 p k b w) f') := by
  unfold holdT hold1
  rw [hk]
  dsimp only
  by_cases e : prt k w = none
  · rw [if_pos e, if_pos e]; exact h _ _
  · rw [if_neg e, if_neg e]; exact ⟨rfl, e⟩
section
variable {n : Nat} {t : Tr} {w s : Kd} {b : Int} {N : Nm} {F G : Tbl}
theorem look_get {k : Kd} {F' G' : Tbl} (h : lookN n t N F G = .ok k F' G') : getT F' (plT t) = some k := by
  have := @look_prop n t N F G
  rw [h] at this
  exact this.1
theorem held_eq {f : Tbl → Tbl → RL} {f' : Kd → LPr} (h : REq (lookN n t N F G) (lookP n t N)) (k : ∀ k F G, REq (f F G) (f' k)) :
    REq (heldT (lookN n) t w b N F G f) ((lookP n t N).bind fun k => andP (hold1 (plT t) k b w) (f' k)) :=
  h.bind fun x F' G' e => hold_eq (look_get e) (k x)
theorem shaped_eq {f : Kd → Tbl → Tbl → RL} {f' : Kd → LPr} (h : REq (lookN n t N F G) (lookP n t N)) (k : ∀ k F G, REq (f (shp1 k s) F G) (f' k)) :
    REq (shapedT (lookN n) t s b N F G f) ((lookP n t N).bind fun k => andP (hold1 (plT t) k b (shp1 k s)) (f' k)) :=
  h.bind fun x F' G' e => by
    have kk := k x
    unfold shp1 at kk ⊢
    by_cases e2 : hS x = hS s
    · rw [if_pos e2] at kk ⊢
      rw [if_pos e2]
      show REq _ (andP (if prt x x = none then none else _) _)
      rw [if_pos (prt_self x)]
      exact kk _ _
    · rw [if_neg e2] at kk ⊢
      rw [if_neg e2]
      exact hold_eq (look_get e) kk
end
theorem row_eq {n : Nat} {p : Int} {fr : List W} {ks : List Kd} {ps : List Tr} {N : Nm} (ih : ∀ t ∈ ps, ∀ {N F G}, REq (lookN n t N F G) (lookP n t N)) : ∀ (ts : List Tr) (kinds : List Kd) {F G : Tbl}, (∀ t ∈ ts, t ∈ ps) →
    REq (rowT (lookN n) ts (k0 ks) p N F G fun F G => .ok (.row (k0 ks)) F G) (comeP (lookP n) .row p fr ks ps N ts kinds)
  | [], kinds, F, G, _ => rfl
  | t :: ts, kinds, F, G, h => by
    rw [rowT, comeP]
    refine (ih t (h t List.mem_cons_self)).bind fun x F' G' e => ?_
    have e2 : heldP .row p ks ps (plT t) (kinds ++ [x]) = hold1 (plT t) x p (k0 ks) := by
      show hold1 (plT t) (lastK (kinds ++ [x])) p (k0 ks) = _
      have : lastK (kinds ++ [x]) = x := by simp [lastK]
      rw [this]
    rw [e2]
    exact hold_eq (look_get e) fun F G => row_eq ih ts _ fun t ht => h t (List.mem_cons_of_mem _ ht)
theorem look_P : ∀ (n : Nat) (t : Tr) {N : Nm} {F G : Tbl}, gdT t → REq (lookN n t N F G) (lookP n t N)
  | 0, t, N, F, G, _ => rfl
  | n + 1, .nd w p fr ks ps, N, F, G, hg => by
    have ih : ∀ t ∈ ps, ∀ {N F G}, REq (lookN n t N F G) (lookP n t N) := fun t ht {N F G} => look_P n t (gdTs_mem hg.2 ht)
    rw [lookN, lookP]
    split
    · rfl
    · refine REq.bind (f' := fun k => if 4 < kdep k then .deep p else .ok k) ?_ fun k F G _ => ?_
      · have hp : w ≠ .row → ps.length = nP w := hg.1.2.1
        have hl : w ≠ .look := hg.1.1
        cases w
        case look => exact absurd rfl hl
        case row => exact row_eq ih ps [] fun t h => h
        all_goals have hp := hp (by simp)
        all_goals simp only [nP] at hp
        case whole => obtain rfl := len0 hp; rfl
        case truth => obtain rfl := len0 hp; rfl
        case given => obtain rfl := len0 hp; rfl
        case name => obtain rfl := len0 hp; rfl
        case fn =>
          obtain ⟨a, rfl⟩ := len1 hp
          refine (ih a (by simp)).bind fun x F G _ => ?_
          show REq (.ok _ _ _) (andP (hold1 (plT a) x p x) (.ok _))
          unfold hold1; rw [if_pos (prt_self x)]; rfl
        case self =>
          obtain ⟨a, rfl⟩ := len1 hp
          exact held_eq (f' := fun k => .ok _) (ih a (by simp)) fun k F G => rfl
        case as_ =>
          obtain ⟨a, rfl⟩ := len1 hp
          exact held_eq (f' := fun k => .ok _) (ih a (by simp)) fun k F G => rfl
        case size =>
          obtain ⟨a, rfl⟩ := len1 hp
          exact shaped_eq (f' := fun k => .ok _) (ih a (by simp)) fun k F G => rfl
        case one =>
          obtain ⟨a, rfl⟩ := len1 hp
          exact shaped_eq (f := fun k F G => .ok (kp k 0) F G) (f' := fun k => .ok (kp (shp1 k (.pair .unt .unt)) 0)) (ih a (by simp)) fun k F G => rfl
        case two =>
          obtain ⟨a, rfl⟩ := len1 hp
          exact shaped_eq (f := fun k F G => .ok (kp k 1) F G) (f' := fun k => .ok (kp (shp1 k (.pair .unt .unt)) 1)) (ih a (by simp)) fun k F G => rfl
        case let_ =>
          obtain ⟨a, b, rfl⟩ := len2 hp
          refine (ih a (by simp)).bind fun x F G _ => ?_
          have e : heldP .let_ p ks [a, b] (plT a) ([] ++ [x]) = none := by
            show hold1 (plT a) x p x = none
            unfold hold1; rw [if_pos (prt_self x)]
          rw [e]
          show REq (lookN n b (putN N (nm0 fr) x) F G) ((lookP n b (putN N (nm0 fr) x)).bind fun k => andP (hold1 (plT b) k p k) (.ok k))
          have h2 := @ih b (by simp) (putN N (nm0 fr) x) F G
          have e2 : (fun k => andP (hold1 (plT b) k p k) (.ok k)) = LPr.ok := by
            funext k; unfold hold1; rw [if_pos (prt_self k)]; rfl
          rw [e2]
          revert h2
          generalize lookP n b (putN N (nm0 fr) x) = r
          cases r <;> exact fun h => h
        case if_ =>
          obtain ⟨a, b, c, rfl⟩ := len3 hp
          refine held_eq (f' := fun k1 => (lookP n b N).bind fun k2 => (lookP n c N).bind fun k3 => andP (hold1 (plT c) k3 (plT b) k2) (.ok (jn k2 k3))) (ih a (by simp)) fun k1 F G => ?_
          refine (ih b (by simp)).bind fun k2 F G _ => (ih c (by simp)).bind fun k3 F G _ => ?_
          unfold hold1
          rw [prt_comm k2 k3]
          by_cases e : prt k3 k2 = none
          · rw [if_pos e, if_pos e]; rfl
          · rw [if_neg e, if_neg e]; exact ⟨rfl, e⟩
        case call =>
          obtain ⟨a, b, rfl⟩ := len2 hp
          exact shaped_eq (f := fun k F G => heldT (lookN n) b (kp k 0) p N F G fun F G => .ok (kp k 1) F G) (f' := fun k1 => (lookP n b N).bind fun k => andP (hold1 (plT b) k p (kp (shp1 k1 (.to .unt .unt)) 0)) (.ok (kp (shp1 k1 (.to .unt .unt)) 1))) (ih a (by simp)) fun k F G =>
            held_eq (f' := fun k2 => .ok _) (ih b (by simp)) fun k2 F G => rfl
        case at_ =>
          obtain ⟨a, b, rfl⟩ := len2 hp
          exact shaped_eq (f := fun k F G => heldT (lookN n) b .whole p N F G fun F G => .ok (kp k 0) F G) (f' := fun k1 => (lookP n b N).bind fun k => andP (hold1 (plT b) k p .whole) (.ok (kp (shp1 k1 (.row .unt)) 0))) (ih a (by simp)) fun k F G =>
            held_eq (f' := fun k2 => .ok _) (ih b (by simp)) fun k2 F G => rfl
        case do_ =>
          obtain ⟨a, b, rfl⟩ := len2 hp
          exact held_eq (f' := fun k1 => (lookP n b N).bind fun k => andP (hold1 (plT b) k p .whole) (.ok _)) (ih a (by simp)) fun k F G =>
            held_eq (f' := fun k2 => .ok _) (ih b (by simp)) fun k2 F G => rfl
        case pair =>
          obtain ⟨a, b, rfl⟩ := len2 hp
          refine (ih a (by simp)).bind fun x F G _ => ?_
          have e : heldP .pair p ks [a, b] (plT a) ([] ++ [x]) = none := by
            show hold1 (plT a) x p x = none
            unfold hold1; rw [if_pos (prt_self x)]
          rw [e]
          refine (ih b (by simp)).bind fun y F G _ => ?_
          show REq (.ok _ _ _) (andP (hold1 (plT b) y p y) (.ok _))
          unfold hold1; rw [if_pos (prt_self y)]; rfl
      · by_cases e : 4 < kdep k
        · rw [if_pos e, if_pos e]; rfl
        · rw [if_neg e, if_neg e]; rfl
/-! ### the walks -/
def partFD (i : Nat) : FD := ⟨2, 4, [.ite (.or [(.cmp .eq (.idx (.var 0) (.cst (.int 0))) (.cst (.str [63]))), (.cmp .eq (.idx (.var 1) (.cst (.int 0))) (.cst (.str [63])))]) [.ret (.cst (.non))] [], .ite (.cmp .ne (.idx (.var 0) (.cst (.int 0))) (.idx (.var 1) (.cst (.int 0)))) [.ret (.tup [])] [], .for (.nm 2) .rng2 [(.cst (.int 1)), (.bi .len [(.var 0)])] [.asg 3 (.call i [(.idx (.var 0) (.var 2)), (.idx (.var 1) (.var 2))]), .ite (.isN true (.var 3)) [.ret (.bin (.add false) (.tup [(.idx (.call 170 [(.idx (.var 0) (.cst (.int 0)))]) (.bin .sub (.var 2) (.cst (.int 1))))]) (.var 3))] []], .ret (.cst (.non))]⟩
def depFD (i : Nat) : FD := ⟨1, 2, [.ret (.bin (.add false) (.cst (.int 1)) (.bi .maxd [(.comp true (.nm 1) .rng2 [(.cst (.int 1)), (.bi .len [(.var 0)])] [] (.call i [(.idx (.var 0) (.var 1))]) [1]), (.cst (.int 0))]))]⟩
def joinFD (i : Nat) : FD := ⟨2, 3, [.ite (.cmp .ne (.idx (.var 0) (.cst (.int 0))) (.idx (.var 1) (.cst (.int 0)))) [.ret (.tup [(.cst (.str [63]))])] [], .ret (.bin (.add false) (.tup [(.idx (.var 0) (.cst (.int 0)))]) (.bi .tuple1 [(.comp true (.nm 2) .rng2 [(.cst (.int 1)), (.bi .len [(.var 0)])] [] (.call i [(.idx (.var 0) (.var 2)), (.idx (.var 1) (.var 2))]) [2])]))]⟩
section
variable {T : Nat → Option FD} {S : Sto} {Q : VQ} {X : XQ} {n : Nat}
end
end Bw

local macro_rules | `(tactic| walk_at "w") => `(tactic| try simp -implicitDefEqProofs only [wSs, wS, wHs, wHn, wE, wEs, wAnd, wOr, wB_t, wB_f, wSome_s, wWalk_s, entry, cF, Option.map_some, Option.bind_some, List.map_cons, List.map_nil, List.length_cons, List.length_nil, List.length_map, List.replicate, List.cons_append, List.nil_append, List.getElem?_cons_zero, List.getElem?_cons_succ, List.set_cons_zero, List.set_cons_succ, Nat.reduceSub, Nat.reduceAdd, Int.reduceAdd, Int.reduceSub, at0, at1, at2, at3, cut1, cut01, Option.isSome_some, true_and, and_true, if_true, Bool.false_eq_true, if_false, Bool.not_true, Bool.not_false, beq_self_eq_true, Bool.or_true, Bool.true_or, Bool.or_false, Bool.bne_false, Bool.bne_true, implies_true, Int.toNat_natCast, List.drop_succ_cons, List.drop_zero, List.take_succ_cons, List.take_zero, List.take_nil, List.drop_nil, dn_rt, dn_nx, dn_xc, wVar_s, wNon_non, wNon_bl, wNon_int, wNon_str, wNon_tup, wNon_rl, wNon_sc, wNot_b, wI1_i, wInts_i, wIdx_tup, wLen_tup, wSl_tup0, wSl_tup1, wSl_tup2, wSl_tup3, walkOf_tup, seqOf_tup, deref_tup, wIdx_rl, wLen_rl, wSl_rl0, wSl_rl1, wSl_rl2, wSl_rl3, walkOf_rl, seqOf_rl, deref_rl, wIdx_sc, wLen_sc, wSl_sc0, wSl_sc1, wSl_sc2, wSl_sc3, walkOf_sc, seqOf_sc, deref_sc, walkL_rl, walkL_sc, deref_non, deref_bl, deref_int, deref_str, lstOf_rl, wLen_dic, wLen_str, optI0, optI1, optS0, optS1, mkL_t, mkL_f, wEq_i, wEq_s, wEq_b, wAdd_i, wAdd_s, wAdd_t, wBin_add, wBin_sub, wBin_fdiv, wBin_mod, wBin_pow, wMeb_count, wMeb_index, wMeb_dget1, wMeb_dget2, wMeb_dcopy, recv_count, recv_index, recv_dget1, recv_dget2, recv_dcopy, dicOf_dct, kyOf_int, kyOf_str, wIdx_dct, wIn_dct, fld_obj, fld_exn, obj_obj, isCW_non, isCW_bl, isCW_int, isCW_exn, bindH_n, bindH_s, goneH_n, goneH_s, sutD_nx, sutD_rt, wOrd_s, pair0, pair_i, strs0, strs1, wBin_mul_i, wBin_mul_t, wCmp_eq, wCmp_ne, wCmp_lt, wCmp_le, wCmp_gt, wCmp_ge, wCmp_isin, wCmp_notin, wBi_len, wBi_int1, wBi_max2, wBi_max3, wBi_min2, wBi_abs, wBi_maxd, wBi_tuple1, wBi_list1, wBi_listrev, wBi_all1, wBi_any1, wBi_sum1, wBi_ord1, wBi_lenset, wBi_dict1, wBi_max1, it_seq, it_rng1, it_rng2, it_enum, it_rev, it_zipT, wipe0, wipe1, bt_nm, bt_pr, bt_prl, bi0, bi1, sz0, sz1, sz2, sz3, sz4, sz5, sz6, sz7, sz8, sz9, sz10, sz11, sz12, isi_dict_dct, isi_tuple_dct, isi_int_non, isi_bool_non, isi_str_non, isi_tuple_non, isi_list_non, isi_dict_non, isi_int_bl, isi_bool_bl, isi_str_bl, isi_tuple_bl, isi_list_bl, isi_dict_bl, isi_int_int, isi_bool_int, isi_str_int, isi_tuple_int, isi_list_int, isi_dict_int, isi_int_str, isi_bool_str, isi_str_str, isi_tuple_str, isi_list_str, isi_dict_str, isi_int_tup, isi_bool_tup, isi_str_tup, isi_tuple_tup, isi_list_tup, isi_dict_tup, isi_int_rl, isi_bool_rl, isi_str_rl, isi_tuple_rl, isi_list_rl, isi_dict_rl, isi_int_sc, isi_bool_sc, isi_str_sc, isi_tuple_sc, isi_list_sc, isi_dict_sc, k_sl1, k_sl01, k_idx0, k_len, k_non, k_isi_tuple, k_isi_int, k_isi_bool, k_isi_str, k_isi_list, k_equ, List.cons_beq_cons, Nat.reduceBEq, Bool.false_and, Bool.true_and, List.beq_nil_eq, List.nil_beq_eq, List.isEmpty_cons, List.isEmpty_nil, at4, at5, at6, Int.reduceBEq])
/-! Z33: the law's own rules walked -/
namespace Bw
open PySem (sizeLine)
def resW : LPr → W
  | .ok k => .tup [.str [116, 97, 107, 101, 110], kW k]
  | .deep p => .tup [.str [100, 101, 101, 112], .int p]
  | .part p k b w => .tup [.str [112, 97, 114, 116, 101, 100], .int p, kW k, .int b, kW w, woW (prt k w)]
def isNode : W → Bool
  | .tup (_ :: .int _ :: _) => true
  | _ => false
theorem isNode_k (k : Kd) : isNode (kW k) = false := by
  have h : ∀ a : Kd, ∃ us, kW a = .tup us := fun a => ⟨_, kW_eq a⟩
  cases k with
  | row a => obtain ⟨us, e⟩ := h a; simp only [kW, e]; rfl
  | to a b => obtain ⟨us, e⟩ := h a; simp only [kW, e]; rfl
  | pair a b => obtain ⟨us, e⟩ := h a; simp only [kW, e]; rfl
  | _ => rfl
theorem isNode_t (t : Tr) : isNode (tW t) = true := by
  cases t with
  | nd w p fr ks ps => cases w <;> rfl
section
variable {T : Nat → Option FD} {S : Sto} {Q : VQ} {X : XQ} {n : Nat} {w : Wo} {p : Int} {fr us : List W} {ks : List Kd} {N : Nm} {kinds : List Kd} {x kx : W}
end
end Bw

/-! A33: held, own, written, parts -/
namespace Bw
open PySem (sizeLine)
def heldFD (wi pi : Nat) : FD := ⟨3, 5, [.ite (.and [(.cmp .eq (.idx (.var 0) (.cst (.int 0))) (.cst (.str [105, 102]))), (.cmp .eq (.bi .len [(.var 2)]) (.cst (.int 2)))]) [.ret (.cst (.non))] [], .ite (.and [(.cmp .eq (.idx (.var 0) (.cst (.int 0))) (.cst (.str [105, 102]))), (.cmp .eq (.bi .len [(.var 2)]) (.cst (.int 3)))]) [.asg 4 (.call pi [(.idx (.var 2) (.cst (.int 2))), (.idx (.var 2) (.cst (.int 1)))]), .ite (.isN true (.var 4)) [.ret (.tup [(.cst (.str [112, 97, 114, 116, 101, 100])), (.idx (.var 1) (.cst (.int 1))), (.idx (.var 2) (.cst (.int 2))), (.idx (.idx (.var 0) (.cst (.int 3))) (.cst (.int 1))), (.idx (.var 2) (.cst (.int 1))), (.var 4)])] [], .ret (.cst (.non))] [], .asg 3 (.call wi [(.var 0), (.var 2)]), .asg 4 (.call pi [(.idx (.var 2) (.neg (.cst (.int 1)))), (.var 3)]), .ite (.isN false (.var 4)) [.ret (.cst (.non))] [], .ret (.tup [(.cst (.str [112, 97, 114, 116, 101, 100])), (.idx (.var 1) (.cst (.int 1))), (.idx (.var 2) (.neg (.cst (.int 1)))), (.idx (.var 0) (.cst (.int 1))), (.var 3), (.var 4)])]⟩
section
variable {T : Nat → Option FD} {S : Sto} {Q : VQ} {X : XQ} {n : Nat} {w : Wo} {p : Int} {fr us : List W} {ks : List Kd} {N : Nm} {kinds : List Kd} {x kx : W} {ps : List Tr} {t : Tr}
def pick (w : W) : List W := if isNode w = true then [w] else []
theorem pick_f {l : List W} (h : ∀ x ∈ l, isNode x = false) : l.flatMap pick = [] := by
  rw [List.flatMap_eq_nil_iff]
  intro x hx
  unfold pick
  rw [if_neg (by rw [h x hx]; simp)]
theorem pick_t : ∀ {ts : List Tr}, (tWs ts).flatMap pick = ts.map tW
  | [] => rfl
  | t :: ts => by
    rw [tWs, List.flatMap_cons, pick_t (ts := ts)]
    unfold pick
    rw [if_pos (isNode_t t)]
    rfl
theorem lparts_ok (h : T 185 = some d185) (hf : fr.length = nF w) (hks : ks.length = nK w) (hw : w ≠ .look) (hb : binds w = true ∨ w = .do_ → fr = fr.map fun x => W.str (nmW x)) (hp : ps.length ≤ 100) (hp0 : w ≠ .row → ps.length = nP w) (q : Q (.rl (ps.map tW)) S) :
    wF T (n + 1) 185 [shp w p fr (ks.map kW) (tWs ps)] S Q X := by
  rw [wF_eq h, d185]
  have sz : (1000 : Nat) ≤ sizeLine := by decide
  by_cases hr : w = .row
  · subst hr
    obtain rfl := len0 hf
    obtain ⟨k1, rfl⟩ := len1 hks
    simp only [shp, woS, List.cons_append, List.nil_append, List.map_cons, List.map_nil]
    walk_at "w"
    rw [tWs_map]
    intro a ha
    exact retL (Sub.set ha) Sto.set_same ha q
  have gen : ∀ (C : CT) (env : Env), ∀ items : List W, items = fr ++ (ks.map kW ++ tWs ps) → (∀ x ∈ fr, ∃ z, x = W.str z) → (∀ D, S D = none → wMap [] (cF C (.nm 2) [(.and [(.isi .tuple (.var 2)), (.cmp .gt (.bi .len [(.var 2)]) (.cst (.int 1))), (.isi .int (.idx (.var 2) (.cst (.int 1))))])] (.var 2) [2] [some (shp w p fr (ks.map kW) (tWs ps)), some (.str (woS w)), none]) items (S.set D .hid) (fun ys S2 => mkL false ys (S2.del D) fun w S1 => Ret w S1 Q)) := fun C env items e hfr => by
    refine compQ pick trivial ?_ ?_
    · intro x hx D hD R r
      rw [e] at hx
      unfold cF
      unfold pick at r
      walk_at "w"
      rcases List.mem_append.mp hx with hx | hx
      · obtain ⟨z, rfl⟩ := hfr x hx
        walk_at "w"
        exact r
      rcases List.mem_append.mp hx with hx | hx
      · obtain ⟨k, _, rfl⟩ := List.mem_map.mp hx
        rw [if_neg (by rw [isNode_k]; simp)] at r
        cases k with
        | row a => cases a <;> (simp only [kW]; walk_at "w"; exact r)
        | to a b => cases a <;> (simp only [kW]; walk_at "w"; exact r)
        | pair a b => cases a <;> (simp only [kW]; walk_at "w"; exact r)
        | _ => simp only [kW]; walk_at "w"; exact r
      · rw [tWs_map] at hx
        obtain ⟨t, _, rfl⟩ := List.mem_map.mp hx
        rw [if_pos (isNode_t t)] at r
        cases t with
        | nd w p fr ks ps => cases w <;> (simp only [tW, shp] at r ⊢; walk_at "w"; first | exact r | exact wB_dec (fun _ => r) (fun z => absurd (by omega) z))
    · intro D hD
      rw [set_del hD, e, List.flatMap_append, List.flatMap_append, pick_f (l := ks.map kW), pick_f (l := fr), pick_t]
      · rw [List.nil_append, List.nil_append]
        intro a ha
        exact retL (Sub.set ha) Sto.set_same ha q
      · intro x hx; obtain ⟨z, rfl⟩ := hfr x hx; rfl
      · intro x hx; obtain ⟨k, _, rfl⟩ := List.mem_map.mp hx; exact isNode_k k
  by_cases h4 : w = .whole ∨ w = .truth ∨ w = .given ∨ w = .name
  · have e : ps = [] := by
      have := hp0 hr
      rcases h4 with rfl | rfl | rfl | rfl <;> exact len0 this
    subst e
    rcases h4 with rfl | rfl | rfl | rfl <;> (simp only [shp, woS]; walk_at "w"; intro a ha; exact retL (Sub.set ha) Sto.set_same ha q)
  have hfr : ∀ x ∈ fr, ∃ z, x = W.str z := by
    intro x hx
    have : binds w = true ∨ w = .do_ ∨ nF w = 0 := by cases w <;> simp [binds, nF] at h4 ⊢
    rcases this with h1 | h1 | h1
    · rw [hb (.inl h1)] at hx
      obtain ⟨y, _, rfl⟩ := List.mem_map.mp hx
      exact ⟨_, rfl⟩
    · rw [hb (.inr h1)] at hx
      obtain ⟨y, _, rfl⟩ := List.mem_map.mp hx
      exact ⟨_, rfl⟩
    · rw [h1] at hf
      rw [len0 hf] at hx
      cases hx
  have hlen : (fr ++ (ks.map kW ++ tWs ps)).length ≤ sizeLine := by
    rw [List.length_append, List.length_append, List.length_map, tWs_map, List.length_map]
    have : nF w ≤ 2 ∧ nK w ≤ 2 := by cases w <;> simp [nF, nK]
    omega
  have gen := fun C env => gen C env _ rfl hfr
  cases w
  case row => exact absurd rfl hr
  case look => exact absurd rfl hw
  case whole => exact absurd (by simp) h4
  case truth => exact absurd (by simp) h4
  case given => exact absurd (by simp) h4
  case name => exact absurd (by simp) h4
  all_goals simp only [shp, woS] at gen ⊢
  all_goals walk_at "w"
  all_goals rw [cut_f2]
  all_goals walk_at "w"
  all_goals exact ⟨hlen, gen (wF T n) [none]⟩
end
end Bw

/-! C33: the law's walk through a program -/
namespace Bw
open PySem (sizeLine)
structure RT (T : Nat → Option FD) : Prop where
  h170 : T 170 = some d170
  h182 : T 182 = some d182
  h183 : T 183 = some (partFD 183)
  h184 : T 184 = some (joinFD 184)
  h185 : T 185 = some d185
  h186 : T 186 = some d186
  h187 : T 187 = some d187
  h188 : T 188 = some d188
  h189 : T 189 = some d189
  h190 : T 190 = some (depFD 190)
  h191 : T 191 = some (heldFD 188 183)
  h192 : T 192 = some d192
  h193 : T 193 = some d193
theorem wrT_eq {w : Wo} {ks : List Kd} (h : w ≠ .look) : wrT w ks = ks := by cases w <;> first | rfl | exact absurd rfl h
theorem hold1_some {p b : Int} {k w : Kd} {r : LPr} (h : hold1 p k b w = some r) : prt k w ≠ none ∧ r = .part p k b w := by
  unfold hold1 at h
  split at h
  · cases h
  · rename_i e; cases h; exact ⟨e, rfl⟩
section
variable {T : Nat → Option FD} {S : Sto} {Q : VQ} {X : XQ} {n : Nat}
end
end Bw

/-! D33: told; the law -/
namespace Bw
open PySem (sizeLine)
section
variable {T : Nat → Option FD} {S : Sto} {Q : VQ} {X : XQ} {n : Nat}
def okL : LPr → Prop
  | .ok k => kdep k ≤ 4
  | .deep _ => True
  | .part _ k _ w => kdep k ≤ 4 ∧ kdep w ≤ 4
theorem come_okL {L : Tr → Nm → LPr} {w : Wo} {p : Int} {fr : List W} {ks : List Kd} {ps : List Tr} {N : Nm} (hL : ∀ t N, okL (L t N)) (hk : ∀ k ∈ ks, kdep k ≤ 4) : ∀ (ts : List Tr) (kinds : List Kd), (∀ k ∈ kinds, kdep k ≤ 4) →
    (match comeP L w p fr ks ps N ts kinds with | .ok _ => True | r => okL r)
  | [], kinds, h => trivial
  | t :: ts, kinds, h => by
    rw [comeP]
    have := hL t (namesP w fr ks N kinds)
    cases hr : L t (namesP w fr ks N kinds) with
    | deep p => trivial
    | part p k b w => rw [hr] at this; exact this
    | ok k =>
      rw [hr] at this
      have hk4 : kdep k ≤ 4 := this
      have hki : ∀ a ∈ kinds ++ [k], kdep a ≤ 4 := fun a ha => by
        rcases List.mem_append.mp ha with h2 | h2
        · exact h a h2
        · have : a = k := by simpa using h2
          subst this; exact hk4
      show (match andP (heldP w p ks ps (plT t) (kinds ++ [k])) (comeP L w p fr ks ps N ts (kinds ++ [k])) with | .ok _ => True | r => okL r)
      have g0 : ∀ l : List Kd, (∀ k ∈ l, kdep k ≤ 4) → kdep (k0 l) ≤ 4 := fun l h => by
        cases l with
        | nil => show 1 ≤ 4; omega
        | cons a r => exact h a List.mem_cons_self
      have g1 : ∀ l : List Kd, (∀ k ∈ l, kdep k ≤ 4) → kdep (k1 l) ≤ 4 := fun l h => by
        match l, h with
        | [], _ => show 1 ≤ 4; omega
        | [a], _ => show 1 ≤ 4; omega
        | a :: b :: r, h => exact h b (by simp)
      have gl : ∀ l : List Kd, (∀ k ∈ l, kdep k ≤ 4) → kdep (lastK l) ≤ 4 := fun l h => by
        unfold lastK
        cases h2 : l.getLast? with
        | none => rw [List.getLastD_eq_getLast?, h2]; show 1 ≤ 4; omega
        | some y => rw [List.getLastD_eq_getLast?, h2]; exact h y (List.mem_of_getLast? h2)
      have sh : ∀ k s, kdep k ≤ 4 → kdep s ≤ 4 → kdep (shp1 k s) ≤ 4 := fun k s h1 h => by
        unfold shp1
        split
        · exact h1
        · exact h
      have hw : ∀ l : List Kd, (∀ k ∈ l, kdep k ≤ 4) → kdep (wantP w ks l) ≤ 4 := fun l hl => by
        have q0 := g0 ks hk
        have q1 := g1 ks hk
        have r0 := g0 l hl
        have rl := gl l hl
        unfold wantP
        split
        · decide
        · exact q0
        · exact q0
        · exact q1
        · split
          · decide
          · exact rl
        · split
          · exact sh _ _ (hl _ (by simp)) (by decide)
          · exact kp_dep (sh _ _ r0 (by decide))
        · split
          · exact sh _ _ (hl _ (by simp)) (by decide)
          · decide
        · exact sh _ _ r0 (by decide)
        · exact sh _ _ r0 (by decide)
        · exact sh _ _ r0 (by decide)
        · exact rl
      have hh : ∀ r, heldP w p ks ps (plT t) (kinds ++ [k]) = some r → okL r ∧ ∀ x, r ≠ .ok x := fun r hr => by
        revert hr
        have one : ∀ q k b w r, hold1 q k b w = some r → kdep k ≤ 4 → kdep w ≤ 4 → okL r ∧ ∀ x, r ≠ .ok x := fun q k b w r h h1 h2 => by
          rw [(hold1_some h).2]
          exact ⟨⟨h1, h2⟩, fun x z => by cases z⟩
        unfold heldP
        split
        · split
          · intro h; cases h
          · rename_i e; rw [e] at hki
            intro h; exact one _ _ _ _ _ h (hki _ (by simp)) (hki _ (by simp))
          · intro h; exact one _ _ _ _ _ h (gl _ hki) (hw _ hki)
        · intro h; exact one _ _ _ _ _ h (gl _ hki) (hw _ hki)
      cases he : heldP w p ks ps (plT t) (kinds ++ [k]) with
      | none => exact come_okL hL hk ts _ hki
      | some r =>
        have := hh r he
        cases r with
        | ok x => exact absurd rfl (this.2 x)
        | deep p => trivial
        | part p k b w => exact this.1
theorem look_okL : ∀ (n : Nat) (t : Tr) (N : Nm), okL (lookP n t N)
  | 0, t, N => trivial
  | n + 1, .nd w p fr ks ps, N => by
    rw [lookP]
    split
    · trivial
    · rename_i h
      by_cases hw : w = .look
      · subst hw
        have hk : ∀ k ∈ ([] : List Kd), kdep k ≤ 4 := by simp
        have : ∀ (ts : List Tr) (kinds : List Kd), (∀ k ∈ kinds, kdep k ≤ 4) → ∀ r, comeP (lookP n) .look p fr ks ps N ts kinds = r → okL (finP p r) := by
          intro ts
          induction ts with
          | nil => rintro kinds h r rfl; show okL (if 4 < kdep Kd.unt then LPr.deep p else .ok .unt); rw [if_neg (by decide)]; show kdep Kd.unt ≤ 4; decide
          | cons t ts ih =>
            rintro kinds h r rfl
            rw [comeP]
            have := look_okL n t (namesP .look fr ks N kinds)
            cases hr : lookP n t (namesP .look fr ks N kinds) with
            | deep p => trivial
            | part p k b w => rw [hr] at this; exact this
            | ok k =>
              rw [hr] at this
              have e : heldP .look p ks ps (plT t) (kinds ++ [k]) = none := by
                show hold1 (plT t) (lastK (kinds ++ [k])) p (lastK (kinds ++ [k])) = none
                unfold hold1; rw [if_pos (prt_self _)]
              show okL (finP p (andP (heldP .look p ks ps (plT t) (kinds ++ [k])) (comeP (lookP n) .look p fr ks ps N ts (kinds ++ [k]))))
              rw [e]
              refine ih (kinds ++ [k]) (fun a ha => ?_) _ rfl
              rcases List.mem_append.mp ha with h2 | h2
              · exact h a h2
              · have : a = k := by simpa using h2
                subst this; assumption
        exact this ps [] (by simp) _ rfl
      · rw [wrT_eq hw] at h
        have hk : ∀ k ∈ ks, kdep k ≤ 4 := fun k hk => by
          by_cases e : 4 < kdep k
          · exact absurd (List.any_eq_true.mpr ⟨k, hk, decide_eq_true e⟩) h
          · omega
        have := come_okL (p := p) (fr := fr) (ps := ps) (N := N) (w := w) (fun t N => look_okL n t N) hk ps [] (by simp)
        revert this
        generalize comeP (lookP n) w p fr ks ps N ps [] = r
        cases r with
        | ok k =>
          intro _
          show okL (if 4 < kdep k then .deep p else .ok k)
          split
          · trivial
          · rename_i h; show kdep k ≤ 4; omega
        | deep p => intro _; trivial
        | part p k b w => exact fun h => h
theorem resW_due {r : LPr} (h : okL r) : due2 (resW r) = true ∧ depW (resW r) ≤ 60 := by
  cases r with
  | ok k =>
    have h : kdep k ≤ 4 := h
    refine ⟨due2_tup (by simp) fun x hx => ?_, ?_⟩
    · simp only [List.mem_cons, List.not_mem_nil, or_false] at hx
      rcases hx with rfl | rfl
      · rfl
      · exact due2_k _
    · show max 0 (max (depW (kW k)) 0) + 1 ≤ 60
      rw [dep_kW]; omega
  | deep p => exact ⟨rfl, by show 0 + 1 ≤ 60; omega⟩
  | part p k b w =>
    have h : kdep k ≤ 4 ∧ kdep w ≤ 4 := h
    have hw : due2 (woW (prt k w)) = true ∧ depW (woW (prt k w)) ≤ 1 := by
      cases hp : prt k w with
      | none => exact ⟨rfl, by show 0 ≤ 1; omega⟩
      | some wy =>
        have dw := wys_len k w
        have hl : wy.length < kdep k := by
          have := prt_wys k w
          rw [hp] at this
          exact dw.2 wy (List.mem_of_mem_head? this.symm)
        exact ⟨strs_due (by omega), by show depW (wyW wy) ≤ 1; rw [strs_dep]; omega⟩
    refine ⟨due2_tup (by simp) fun x hx => ?_, ?_⟩
    · simp only [List.mem_cons, List.not_mem_nil, or_false] at hx
      rcases hx with rfl | rfl | rfl | rfl | rfl | rfl
      · rfl
      · rfl
      · exact due2_k _
      · rfl
      · exact due2_k _
      · exact hw.1
    · show max 0 (max 0 (max (depW (kW k)) (max 0 (max (depW (kW w)) (max (depW (woW (prt k w))) 0))))) + 1 ≤ 60
      rw [dep_kW, dep_kW]; omega
end
end Bw

/-! TYN: programs that the looker takes: a node's kind is looser than the kind that it was made for -/
namespace Bw
theorem lsr_dep : ∀ a b : Kd, lsr a b = true → kdep b ≤ kdep a
  | a, .unt, _ => by have := kdep_pos a; show 1 ≤ _; omega
  | a, .whole, h => by cases a <;> simp [lsr, kdep] at h ⊢
  | a, .truth, h => by cases a <;> simp [lsr, kdep] at h ⊢
  | a, .row b, h => by
    cases a with
    | row a => simp only [lsr] at h; have := lsr_dep a b h; simp only [kdep]; omega
    | _ => simp [lsr] at h
  | a, .to b c, h => by
    cases a with
    | to a d => simp only [lsr, Bool.and_eq_true] at h; have := lsr_dep a b h.1; have := lsr_dep d c h.2; simp only [kdep]; omega
    | _ => simp [lsr] at h
  | a, .pair b c, h => by
    cases a with
    | pair a d => simp only [lsr, Bool.and_eq_true] at h; have := lsr_dep a b h.1; have := lsr_dep d c h.2; simp only [kdep]; omega
    | _ => simp [lsr] at h
/-- what is looser parts no more -/
theorem prt_mono : ∀ a b k : Kd, lsr a k = true → prt a b = none → prt k b = none
  | a, b, .unt, _, _ => by cases b <;> rfl
  | a, b, .whole, h, q => by cases a <;> simp [lsr] at h; exact q
  | a, b, .truth, h, q => by cases a <;> simp [lsr] at h; exact q
  | a, b, .row k, h, q => by
    cases a with
    | row a =>
      simp only [lsr] at h
      cases b with
      | row b =>
        simp only [prt] at q ⊢
        have e : prt a b = none := by cases h2 : prt a b with | none => rfl | some _ => rw [h2] at q; cases q
        rw [prt_mono a b k h e]; rfl
      | unt => rfl
      | _ => simp [prt] at q
    | _ => simp [lsr] at h
  | a, b, .to k k2, h, q => by
    cases a with
    | to a a2 =>
      simp only [lsr, Bool.and_eq_true] at h
      cases b with
      | to b b2 =>
        simp only [prt] at q ⊢
        cases h2 : prt a b with
        | some _ => rw [h2] at q; cases q
        | none =>
          rw [h2] at q
          have e : prt a2 b2 = none := by cases h3 : prt a2 b2 with | none => rfl | some _ => rw [h3] at q; cases q
          rw [prt_mono a b k h.1 h2, prt_mono a2 b2 k2 h.2 e]; rfl
      | unt => rfl
      | _ => simp [prt] at q
    | _ => simp [lsr] at h
  | a, b, .pair k k2, h, q => by
    cases a with
    | pair a a2 =>
      simp only [lsr, Bool.and_eq_true] at h
      cases b with
      | pair b b2 =>
        simp only [prt] at q ⊢
        cases h2 : prt a b with
        | some _ => rw [h2] at q; cases q
        | none =>
          rw [h2] at q
          have e : prt a2 b2 = none := by cases h3 : prt a2 b2 with | none => rfl | some _ => rw [h3] at q; cases q
          rw [prt_mono a b k h.1 h2, prt_mono a2 b2 k2 h.2 e]; rfl
      | unt => rfl
      | _ => simp [prt] at q
    | _ => simp [lsr] at h
/-- the looker's names are looser than those of the maker -/
def NL (N N' : Nm) : Prop := ∀ z k, getN N z = some k → ∃ k', getN N' z = some k' ∧ lsr k k' = true
theorem NL.put {N N' : Nm} {z : List Nat} {k k' : Kd} (h : NL N N') (hk : lsr k k' = true) : NL (putN N z k) (putN N' z k') := fun y x e => by
  rw [getN_putN] at e ⊢
  by_cases q : y = z
  · rw [if_pos q] at e ⊢; cases e; exact ⟨k', rfl, hk⟩
  · rw [if_neg q] at e ⊢; exact h y x e
theorem NL.nil {N' : Nm} : NL [] N' := fun z k e => by cases e
section
variable {w : Wo} {p : Int} {fr : List W} {ks : List Kd} {ps : List Tr} {N : Nm} {want w0 w1 w2 w3 K : Kd} {a b c : Tr} {z z2 : List Nat}
end
end Bw

/-! ND1: the deal, the words, leaves of a drawn kind -/
namespace Bw
open PySem (sizeLine)
def pI (b j : Int) : Int := (b + 7919 * j) % 9973
mutual
def plcs : Tr → List Int
  | .nd _ p _ _ ps => p :: plcss ps
def plcss : List Tr → List Int
  | [] => []
  | t :: ts => plcs t ++ plcss ts
end
mutual
/-- what stands in front is plain -/
def flT : Tr → Prop
  | .nd _ _ fr _ ps => (∀ x ∈ fr, flatW x = true) ∧ flTs ps
def flTs : List Tr → Prop
  | [] => True
  | t :: ts => flT t ∧ flTs ts
end
theorem flTs_app : ∀ {a b : List Tr}, flTs a → flTs b → flTs (a ++ b)
  | [], _, _, h => h
  | t :: a, b, h, k => ⟨h.1, flTs_app h.2 k⟩
theorem flTs_mem : ∀ {ts : List Tr} {t : Tr}, flTs ts → t ∈ ts → flT t
  | x :: ts, t, h, m => by
    rcases List.mem_cons.mp m with rfl | m
    · exact h.1
    · exact flTs_mem h.2 m
theorem fr_flat {w : Wo} {fr : List W} (hf : fr.length = nF w) (hfr : (binds w = true ∨ w = .do_) → fr = fr.map fun x => W.str (nmW x)) (hfl : (w = .whole ∨ w = .truth ∨ w = .given) → ∀ x ∈ fr, flatW x = true) : ∀ x ∈ fr, flatW x = true := by
  have st : (fr = fr.map fun x => W.str (nmW x)) → ∀ x ∈ fr, flatW x = true := fun e x hx => by
    rw [e] at hx
    obtain ⟨y, _, rfl⟩ := List.mem_map.mp hx
    rfl
  have no : fr.length = 0 → ∀ x ∈ fr, flatW x = true := fun e x hx => by rw [len0 e] at hx; cases hx
  cases w
  case whole => exact hfl (by simp)
  case truth => exact hfl (by simp)
  case given => exact hfl (by simp)
  case name => exact st (hfr (.inl rfl))
  case fn => exact st (hfr (.inl rfl))
  case self => exact st (hfr (.inl rfl))
  case let_ => exact st (hfr (.inl rfl))
  case do_ => exact st (hfr (.inr rfl))
  all_goals exact no hf
def JS (c c' : Int) (js : List Int) : Prop := js.Nodup ∧ ∀ j ∈ js, c < j ∧ j ≤ c'
theorem JS.app {c c1 c2 : Int} {a b : List Int} (h : JS c c1 a) (k : JS c1 c2 b) (h1 : c ≤ c1) (h2 : c1 ≤ c2) : JS c c2 (a ++ b) := by
  refine ⟨List.nodup_append.mpr ⟨h.1, k.1, fun x hx y hy e => ?_⟩, fun j hj => ?_⟩
  · have := h.2 x hx; have := k.2 y hy; omega
  · rcases List.mem_append.mp hj with hj | hj
    · have := h.2 j hj; omega
    · have := k.2 j hj; omega
theorem JS.cons {c c0 c2 j : Int} {a : List Int} (k : JS c0 c2 a) (h1 : c < j) (h2 : j ≤ c0) (h3 : c0 ≤ c2) : JS c c2 (j :: a) := by
  refine ⟨List.nodup_cons.mpr ⟨fun z => ?_, k.1⟩, fun i hi => ?_⟩
  · have := k.2 j z; omega
  · rcases List.mem_cons.mp hi with rfl | hi
    · omega
    · have := k.2 i hi; omega
theorem JS.le {c c' d d' : Int} {a : List Int} (h : JS c c' a) (h1 : d ≤ c) (h2 : c' ≤ d') : JS d d' a := ⟨h.1, fun j hj => by have := h.2 j hj; omega⟩
structure MK (b c c' : Int) (nms : Ns) (dd ss : Nat) (t : Tr) : Prop where
  g : gdT t
  o : okTr t
  d : dT t ≤ dd
  s : szT t ≤ ss
  f : frees t nms = []
  fl : flT t
  cc : c ≤ c'
  cs : c' ≤ c + ss
  pl : ∃ js : List Int, plcs t = js.map (pI b) ∧ JS c c' js
theorem MK.le {b c c' : Int} {nms : Ns} {d s d2 s2 : Nat} {t : Tr} (h : MK b c c' nms d s t) (hd : d ≤ d2) (hs : s ≤ s2) : MK b c c' nms d2 s2 t := ⟨h.g, h.o, Nat.le_trans h.d hd, Nat.le_trans h.s hs, h.f, h.fl, h.cc, by have := h.cs; omega, h.pl⟩
/-- the parts so far -/
structure MKs (b c c' : Int) (w : Wo) (fr : List W) (nms : Ns) (dd ss : Nat) (ts : List Tr) : Prop where
  all : ∀ j t, ts[j]? = some t → gdT t ∧ okTr t ∧ dT t ≤ dd ∧ frees t (within w fr j nms) = []
  s : szTs ts ≤ ss
  fl : flTs ts
  cc : c ≤ c'
  cs : c' ≤ c + ss
  pl : ∃ js : List Int, plcss ts = js.map (pI b) ∧ JS c c' js
theorem szTs_app : ∀ {a b : List Tr}, szTs (a ++ b) = szTs a + szTs b
  | [], b => by simp [szTs]
  | t :: a, b => by rw [List.cons_append, szTs, szTs, szTs_app (a := a)]; omega
theorem plcss_app : ∀ {a b : List Tr}, plcss (a ++ b) = plcss a ++ plcss b
  | [], b => rfl
  | t :: a, b => by rw [List.cons_append, plcss, plcss, plcss_app (a := a), List.append_assoc]
section
variable {b c c1 c2 c0 c' : Int} {w : Wo} {fr : List W} {ks : List Kd} {nms : Ns} {d s s2 e : Nat} {ts : List Tr} {t : Tr}
theorem MKs.nil : MKs b c c w fr nms d 0 [] := ⟨fun j t e => by simp at e, Nat.le_refl _, trivial, Int.le_refl _, by omega, [], rfl, List.nodup_nil, fun j h => by cases h⟩
theorem MKs.snoc (h : MKs b c c1 w fr nms d s ts) (k : MK b c1 c2 (within w fr ts.length nms) d s2 t) : MKs b c c2 w fr nms d (s + s2) (ts ++ [t]) := by
  obtain ⟨js, e1, j1⟩ := h.pl
  obtain ⟨js2, e2, j2⟩ := k.pl
  refine ⟨fun j x e => ?_, ?_, flTs_app h.fl ⟨k.fl, trivial⟩, ?_, ?_, js ++ js2, ?_, j1.app j2 h.cc k.cc⟩
  · by_cases hj : j < ts.length
    · rw [List.getElem?_append_left hj] at e; exact h.all j x e
    · rw [List.getElem?_append_right (by omega)] at e
      have : j - ts.length = 0 := by
        by_cases q : j - ts.length = 0
        · exact q
        · rw [List.getElem?_eq_none (by simp; omega)] at e; cases e
      rw [this] at e
      cases e
      have ej : j = ts.length := by omega
      subst ej
      exact ⟨k.g, k.o, k.d, k.f⟩
  · rw [szTs_app]; simp only [szTs]; have := h.s; have := k.s; omega
  · have := h.cc; have := k.cc; omega
  · have := h.cs; have := k.cs; omega
  · rw [plcss_app, e1, plcss, plcss, e2, List.append_nil, List.map_append]
theorem MKs.one (k : MK b c c2 (within w fr 0 nms) d s2 t) : MKs b c c2 w fr nms d s2 [t] := by
  have := (MKs.nil (b := b) (c := c) (w := w) (fr := fr) (nms := nms) (d := d)).snoc k
  rw [Nat.zero_add] at this
  exact this
theorem MK.node {j0 : Int} (h : MKs b c0 c' w fr nms d s ts) (hw : w ≠ .look) (hf : fr.length = nF w) (hk : ks.length = nK w) (hp : w ≠ .row → ts.length = nP w) (h4 : ts.length ≤ 4)
    (hfr : (binds w = true ∨ w = .do_) → fr = fr.map fun x => W.str (nmW x)) (hk8 : ∀ k ∈ ks, kdep k ≤ 8) (hn : w = .name → nmW (fr.headD .non) ∈ nms) (hj : c < j0) (hj2 : j0 ≤ c0) (he : c0 ≤ c + e) (he1 : 1 ≤ e) (hfl : (w = .whole ∨ w = .truth ∨ w = .given) → ∀ x ∈ fr, flatW x = true := by simp) :
    MK b c c' nms (d + 1) (s + e) (.nd w (pI b j0) fr ks ts) := by
  obtain ⟨js, e1, j1⟩ := h.pl
  have hm : ∀ t ∈ ts, ∃ j, gdT t ∧ okTr t ∧ dT t ≤ d ∧ frees t (within w fr j nms) = [] := fun t ht => by
    obtain ⟨j, hj⟩ := List.mem_iff_getElem?.mp ht
    exact ⟨j, h.all j t hj⟩
  have hcc := h.cc
  have hcs := h.cs
  refine ⟨⟨⟨hw, hp, fun h => hfr (.inr h), hk8⟩, gdTs_of fun t ht => ?_⟩, ⟨⟨hf, hk, by omega, fun h => hfr (.inl h)⟩, okTrs_of fun t ht => ?_⟩, ?_, ?_, ?_, ⟨fr_flat hf hfr hfl, h.fl⟩, by omega, by omega, j0 :: js, ?_, j1.cons hj hj2 hcc⟩
  · obtain ⟨j, h1, _⟩ := hm t ht; exact h1
  · obtain ⟨j, _, h1, _⟩ := hm t ht; exact h1
  · show dTs ts + 1 ≤ d + 1
    have := dTs_le (ts := ts) (n := d) fun t ht => by
      obtain ⟨j, _, _, h1, _⟩ := hm t ht; exact h1
    omega
  · show szTs ts + 1 ≤ s + e
    have := h.s; omega
  · rw [frees, if_neg (fun h => h.2 (hn h.1)), freess_nil]
    · rfl
    · intro j t e
      rw [Nat.zero_add]
      exact (h.all j t e).2.2.2
  · rw [plcs, e1]; rfl
end
/-! ### names -/
def okS (z : List Nat) : Bool := z.all (· < 0x110000)
section
variable {T : Nat → Option FD} {S : Sto} {Q : VQ} {X X0 : XQ} {n e m : Nat} {pd : PySem.Addr} {ns : List Int} {b i c fl : Int} {r : List W} {ws : List (List Nat)} {nms : Ns} {N : Nm} {want : Kd}
theorem idx_str4 {z : List Nat} {j : Int} (h0 : 0 ≤ j) (h : j < (z.length : Int)) (hz : z.length ≤ 1000) (q : ∀ c ∈ z, Q (.str [c]) S) : wIdx (.str z) (.int j) S Q := by
  have sz : 1000 ≤ sizeLine := by decide
  obtain ⟨m, rfl⟩ : ∃ m : Nat, j = (m : Int) := ⟨j.toNat, by omega⟩
  have hm : m < z.length := by omega
  have e : atW z (m : Int) = some z[m] := by rw [at_nat hm, List.getElem?_eq_getElem hm]
  show z.length ≤ sizeLine ∧ (match atW z (m : Int) with | some c => Q (.str [c]) S | none => False)
  rw [e]
  exact ⟨by omega, q _ (List.getElem_mem hm)⟩
theorem kind_nd (h : T 198 = some d198) (hc : 0 ≤ c) (q : ∀ k, kdep k ≤ 2 → Q (kW k) S) : wF T (n + 1) 198 [.int c] S Q X := by
  rw [wF_eq h, d198]
  walk_at "w"
  have fl : ∀ {j : Int} {P : W → Prop}, 0 ≤ j → j < 3 → (∀ k, kdep k ≤ 1 → P (kW k)) → wSome (atW [W.tup [W.str [119, 104, 111, 108, 101]], W.tup [W.str [116, 114, 117, 116, 104]], W.tup [W.str [63]]] j) P := fun {j P} h0 h1 q => by
    have e3 : j = 0 ∨ j = 1 ∨ j = 2 := by omega
    rcases e3 with e3 | e3 | e3 <;> rw [e3]
    · rw [at0]; exact q .whole (by simp [kdep])
    · rw [at1]; exact q .truth (by simp [kdep])
    · rw [at2]; exact q .unt (by simp [kdep])
  refine ⟨by decide, fl (by omega) (by omega) fun k1 hk1 => ⟨⟨by decide, by decide⟩, by decide, fl (by omega) (by omega) fun k2 hk2 => ⟨⟨by decide, by decide⟩, by decide, ?_⟩⟩⟩
  have e5 : c / 9 % 5 = 0 ∨ c / 9 % 5 = 1 ∨ c / 9 % 5 = 2 ∨ c / 9 % 5 = 3 ∨ c / 9 % 5 = 4 := by omega
  rcases e5 with e | e | e | e | e <;> rw [e]
  · rw [at0]; exact ret0 (q k1 (by omega))
  · rw [at1]; exact ret0 (q (.to k2 k1) (by simp only [kdep]; omega))
  · rw [at2]; exact ret0 (q (.row k1) (by simp only [kdep]; omega))
  · rw [at3]; exact ret0 (q (.pair k1 k2) (by simp only [kdep]; omega))
  · rw [at4]; exact ret0 (q k1 (by omega))
end
end Bw

/-! ND2: leaves of a drawn kind -/
namespace Bw
open PySem (sizeLine)
theorem wSs_app3 {C : CT} : ∀ {A B : List St} {env : Env} {S : Sto} {D : Dn}, wSs C (A ++ B) env S D = wSs C A env S { D with nx := fun e S => wSs C B e S D }
  | [], B, env, S, D => rfl
  | s :: A, B, env, S, D => by
    show wS C s env S _ = wS C s env S _
    congr 1
    show Dn.mk _ _ _ _ _ = Dn.mk _ _ _ _ _
    congr 1
    funext e S
    exact wSs_app3
section
variable {T : Nat → Option FD} {pd : PySem.Addr} {ns : List Int} {b fl : Int} {ws : List (List Nat)}
theorem flatMK {w : Wo} {v : W} {c : Int} {nms : Ns} (hw : w = .whole ∨ w = .truth ∨ w = .given) (hv : flatW v = true := by rfl) : MK b c (c + 1) nms 1 1 (.nd w (pI b (c + 1)) [v] [] []) := by
  have := MK.node (w := w) (fr := [v]) (ks := []) (b := b) (c := c) (c0 := c + 1) (c' := c + 1) (j0 := c + 1) (d := 0) (s := 0) (e := 1) (nms := nms) MKs.nil (by rcases hw with rfl | rfl | rfl <;> simp) (by rcases hw with rfl | rfl | rfl <;> rfl) (by rcases hw with rfl | rfl | rfl <;> rfl) (by rcases hw with rfl | rfl | rfl <;> simp [nP]) (by simp) (by rcases hw with rfl | rfl | rfl <;> simp [binds]) (by simp) (by rcases hw with rfl | rfl | rfl <;> simp) (by omega) (by omega) (by omega) (by omega) (by simp [hv])
  exact this
theorem nameMK {z : List Nat} {c : Int} {nms : Ns} (hz : z ∈ nms) : MK b c (c + 1) nms 1 1 (.nd .name (pI b (c + 1)) [.str z] [] []) :=
  MK.node (w := .name) (fr := [.str z]) (ks := []) (b := b) (c := c) (c0 := c + 1) (c' := c + 1) (j0 := c + 1) (d := 0) (s := 0) (e := 1) (nms := nms) MKs.nil (by simp) rfl rfl (by simp [nP]) (by simp) (by simp [nmW]) (by simp) (fun _ => hz) (by omega) (by omega) (by omega) (by omega)
end
end Bw

/-! ND3: programs of a drawn kind -/
namespace Bw
open PySem (sizeLine)
section
variable {T : Nat → Option FD} {pd : PySem.Addr} {ns : List Int} {b fl : Int} {ws : List (List Nat)}
end
end Bw

/-! ND4: loops of a drawn kind -/
namespace Bw
open PySem (sizeLine)
section
variable {T : Nat → Option FD} {pd : PySem.Addr} {ns : List Int} {b fl : Int} {ws : List (List Nat)}
theorem MK.gen {w : Wo} {p c c' : Int} {fr : List W} {ks : List Kd} {ts : List Tr} {nms : Ns} {d s : Nat} {js : List Int} (all : ∀ j t, ts[j]? = some t → gdT t ∧ okTr t ∧ dT t ≤ d ∧ frees t (within w fr j nms) = []) (hs : szTs ts + 1 ≤ s) (hcc : c ≤ c') (hcs : c' ≤ c + s) (hpl : p :: plcss ts = js.map (pI b)) (hj : JS c c' js)
    (hw : w ≠ .look) (hf : fr.length = nF w) (hk : ks.length = nK w) (hp : w ≠ .row → ts.length = nP w) (h4 : ts.length ≤ 4) (hfr : (binds w = true ∨ w = .do_) → fr = fr.map fun x => W.str (nmW x)) (hk8 : ∀ k ∈ ks, kdep k ≤ 8) (hn : w = .name → nmW (fr.headD .non) ∈ nms) (hfl : flT (.nd w p fr ks ts)) :
    MK b c c' nms (d + 1) s (.nd w p fr ks ts) := by
  have hm : ∀ t ∈ ts, ∃ j, gdT t ∧ okTr t ∧ dT t ≤ d ∧ frees t (within w fr j nms) = [] := fun t ht => by
    obtain ⟨j, hj⟩ := List.mem_iff_getElem?.mp ht
    exact ⟨j, all j t hj⟩
  refine ⟨⟨⟨hw, hp, fun h => hfr (.inr h), hk8⟩, gdTs_of fun t ht => ?_⟩, ⟨⟨hf, hk, by omega, fun h => hfr (.inl h)⟩, okTrs_of fun t ht => ?_⟩, ?_, hs, ?_, hfl, hcc, hcs, js, hpl, hj⟩
  · obtain ⟨j, h1, _⟩ := hm t ht; exact h1
  · obtain ⟨j, _, h1, _⟩ := hm t ht; exact h1
  · show dTs ts + 1 ≤ d + 1
    have := dTs_le (ts := ts) (n := d) fun t ht => by
      obtain ⟨j, _, _, h1, _⟩ := hm t ht; exact h1
    omega
  · rw [frees, if_neg (fun h => h.2 (hn h.1)), freess_nil]
    · rfl
    · intro j t e
      rw [Nat.zero_add]
      exact (all j t e).2.2.2
theorem MK.all {c c' : Int} {nms : Ns} {d d2 s : Nat} {t : Tr} (h : MK b c c' nms d s t) (hd : d ≤ d2) : gdT t ∧ okTr t ∧ dT t ≤ d2 ∧ frees t nms = [] := ⟨h.g, h.o, Nat.le_trans h.d hd, h.f⟩
end
end Bw

/-! ND5: loops walked; any program of a drawn kind -/
namespace Bw
open PySem (sizeLine)
section
variable {T : Nat → Option FD} {pd : PySem.Addr} {ns : List Int} {b fl : Int} {ws : List (List Nat)}
end
end Bw

/-! ND6: any program of a drawn kind -/
namespace Bw
open PySem (sizeLine)
section
variable {T : Nat → Option FD} {pd : PySem.Addr} {ns : List Int} {b fl : Int} {ws : List (List Nat)}
end
end Bw

/-! ND7: five words, all unlike -/
namespace Bw
open PySem (sizeLine)
def az : List Nat := [97, 98, 99, 100, 101, 102, 103, 104, 105, 106, 107, 108, 109, 110, 111, 112, 113, 114, 115, 116, 117, 118, 119, 120, 121, 122]
theorem az_get : ∀ m : Nat, m < 26 → az[m]? = some (97 + m) := by decide
def wdP (at' : Nat) (v : Int) (i : Nat) (z : List Nat) : Prop := okS z = true ∧ z.length ≤ 20 ∧ z[at']? = some (97 + ((v + 5 * (i : Int)) % 26).toNat)
theorem okS_app {a b : List Nat} (h : okS a = true) (k : okS b = true) : okS (a ++ b) = true := by unfold okS at *; rw [List.all_append, h, k]; rfl
section
variable {T : Nat → Option FD} {S : Sto} {Q : VQ} {X : XQ} {n : Nat} {c : Int}
theorem idx_az {j : Int} (h0 : 0 ≤ j) (h : j < 26) (q : Q (.str [97 + j.toNat]) S) : wIdx (.str [97, 98, 99, 100, 101, 102, 103, 104, 105, 106, 107, 108, 109, 110, 111, 112, 113, 114, 115, 116, 117, 118, 119, 120, 121, 122]) (.int j) S Q := by
  have sz : 1000 ≤ sizeLine := by decide
  obtain ⟨m, rfl⟩ : ∃ m : Nat, j = (m : Int) := ⟨j.toNat, by omega⟩
  have hm : m < 26 := by omega
  have e : atW az (m : Int) = some (97 + m) := by rw [at_nat (by show m < 26; omega), az_get m hm]
  show az.length ≤ sizeLine ∧ (match atW az (m : Int) with | some c => Q (.str [c]) S | none => False)
  rw [e]
  exact ⟨by show 26 ≤ _; omega, q⟩
theorem words_ok4 (h : T 176 = some d176) (hc : 0 ≤ c) (q : ∀ ws : List (List Nat), ws.length = 5 → ws.Nodup → (∀ z ∈ ws, okS z = true ∧ z.length ≤ 20) → Q (.rl (ws.map W.str)) S) : wF T (n + 1) 176 [.int c] S Q X := by
  have sz : 1000 ≤ sizeLine := by decide
  rw [wF_eq h, d176]
  walk_at "w"
  obtain ⟨m, hm, em⟩ : ∃ m : Nat, m ≤ 7 ∧ c % 8 = (m : Int) := ⟨(c % 8).toNat, by omega, by omega⟩
  refine ⟨by decide, ?_⟩
  rw [em, if_pos (fits_of (by omega) (by omega))]
  walk_at "w"
  rw [show (1 + (m : Int)).toNat = m + 1 by omega]
  refine ⟨by rw [rngW_len]; omega, ?_⟩
  refine compM (fun w : W => match w with | W.int k => W.int ((c / (k + 1) + k * k) % 26) | w => w) trivial (fun x hx D hD R rr => ?_) (fun D hD => ?_)
  · obtain ⟨i, hi, rfl⟩ := mem_rng0 hx
    walk_at "w"
    refine ⟨⟨by omega, log_ok (by omega) (by omega)⟩, ?_⟩
    refine ⟨.inl (.inl ⟨by omega, by omega⟩), by decide, rr⟩
  · obtain ⟨us, hus⟩ : ∃ us, us = List.map (fun w : W => match w with | W.int k => W.int ((c / (k + 1) + k * k) % 26) | w => w) (rngW 0 (m + 1)) := ⟨_, rfl⟩
    have hl : us.length = m + 1 := by rw [hus, List.length_map, rngW_len]
    have hg : ∀ j : Nat, j < m + 1 → ∃ v, us[j]? = some (.int v) ∧ 0 ≤ v ∧ v < 26 := fun j hj => by
      refine ⟨(c / ((j : Int) + 1) + (j : Int) * (j : Int)) % 26, ?_, Int.emod_nonneg _ (by decide), Int.emod_lt_of_pos _ (by decide)⟩
      rw [hus, List.getElem?_map]
      unfold rngW
      rw [List.getElem?_map, List.getElem?_range hj]
      simp
    rw [← hus]
    clear hus
    walk_at "w"
    rw [set_del hD]
    refine ⟨⟨by decide, by decide⟩, by omega, ?_⟩
    obtain ⟨ap, hap, eap⟩ : ∃ ap : Nat, ap < m + 1 ∧ c / 8 % (us.length : Int) = (ap : Int) := by
      have h1 := Int.emod_nonneg (c / 8) (show (us.length : Int) ≠ 0 by omega)
      have h2 := Int.emod_lt_of_pos (c / 8) (show 0 < (us.length : Int) by omega)
      exact ⟨(c / 8 % (us.length : Int)).toNat, by omega, by omega⟩
    rw [eap]
    obtain ⟨va, hva, hv0, hv1⟩ := hg ap hap
    intro p hp
    rw [if_pos (fits_of (by omega) (by omega))]
    walk_at "w"
    refine forI (fun i e S' => (∃ ws : List (List Nat), S' = S.set p (.lst (ws.map W.str)) ∧ ws.length = i ∧ ∀ k z, ws[k]? = some z → wdP ap va k z) ∧ ∃ x y z, e = [some (.int c), some (.str [97, 98, 99, 100, 101, 102, 103, 104, 105, 106, 107, 108, 109, 110, 111, 112, 113, 114, 115, 116, 117, 118, 119, 120, 121, 122]), some (.rl us), some (.int (ap : Int)), some (.ref p), x, y, z]) 0 ⟨⟨[], rfl, rfl, by simp⟩, _, _, _, rfl⟩ (fun _ _ _ _ _ => trivial) ?_ ?_
    · rintro i w0 e S' nx hi ⟨⟨ws, rfl, hws, hwp⟩, x, y, z, rfl⟩ hn
      have hi := rng_get0 hi
      have h5 : i < 5 := hi.1
      have e5 := hi.2
      subst e5
      rw [Nat.zero_add] at hn hws
      walk_at "w"
      rw [if_pos (fits_of (by omega) (by omega))]
      walk_at "w"
      refine forI (fun j e S' => S' = S.set p (.lst (ws.map W.str)) ∧ ∃ (z : List Nat) (x : Option W), z.length = j ∧ okS z = true ∧ (ap < j → z[ap]? = some (97 + ((va + 5 * (i : Int)) % 26).toNat)) ∧ e = [some (.int c), some (.str [97, 98, 99, 100, 101, 102, 103, 104, 105, 106, 107, 108, 109, 110, 111, 112, 113, 114, 115, 116, 117, 118, 119, 120, 121, 122]), some (.rl us), some (.int (ap : Int)), some (.ref p), some (.int (i : Int)), some (.str z), x]) 0 ⟨rfl, [], _, rfl, rfl, fun h => by omega, rfl⟩ (fun _ _ _ _ _ => trivial) ?_ ?_
      · rintro j w1 e S' nx2 hj ⟨rfl, z, x, hz, hzo, hza, rfl⟩ hn2
        have hj := rng_get0 hj
        have h6 := hj.1
        have e6 := hj.2
        subst e6
        rw [Nat.zero_add] at hn2 hz hza
        walk_at "w"
        obtain ⟨v, hv, hw0, hw1⟩ := hg j (by omega)
        rw [at_nat (by omega), hv]
        walk_at "w"
        refine ⟨.inl (.inl ⟨by omega, by omega⟩), ?_⟩
        rw [intOf_b]
        walk_at "w"
        refine ⟨.inl (.inr ⟨by split <;> decide, by split <;> decide⟩), by decide, ?_⟩
        refine idx_az (by omega) (by omega) ?_
        walk_at "w"
        refine ⟨by omega, ?_⟩
        refine hn2 _ _ ⟨rfl, z ++ [_], _, by simp [hz], okS_app hzo (by unfold okS; simp; omega), fun ha => ?_, rfl⟩
        by_cases hja : ap < j
        · rw [List.getElem?_append_left (by omega)]; exact hza hja
        · have ej : j = ap := by omega
          subst ej
          rw [hva] at hv
          cases hv
          rw [List.getElem?_append_right (by omega), hz, Nat.sub_self]
          have eb : ((j : Int) == (j : Int)) = true := by simp
          rw [eb]
          simp
      · rintro e S' ⟨rfl, z, x, hz, hzo, hza, rfl⟩
        rw [rngW_len, Nat.zero_add] at hz hza
        have hza := hza (by omega)
        walk_at "w"
        have put : ∀ (z2 : List Nat) (nx3 : Sto → Prop), wdP ap va i z2 → (∀ (ws' : List (List Nat)) (S' : Sto), S' = S.set p (.lst (ws'.map W.str)) → ws'.length = i + 1 → (∀ k z, ws'[k]? = some z → wdP ap va k z) → nx3 S') → (lstOf (S.set p (.lst (ws.map W.str))) (.ref p)).isSome = true ∧ wApp (.ref p) (.str z2) (S.set p (.lst (ws.map W.str))) fun _ S1 => nx3 S1 := fun z2 nx3 hw h => by
          rw [lstOf_ref Sto.set_same, wApp_ref Sto.set_same]
          refine ⟨rfl, by simp; omega, ?_⟩
          rw [set_set]
          refine h (ws ++ [z2]) _ (by rw [List.map_append]; rfl) (by simp [hws]) fun k y e => ?_
          by_cases hk : k < ws.length
          · rw [List.getElem?_append_left hk] at e; exact hwp k y e
          · rw [List.getElem?_append_right (by omega)] at e
            have : k - ws.length = 0 := by
              by_cases q : k - ws.length = 0
              · exact q
              · rw [List.getElem?_eq_none (by simp; omega)] at e; cases e
            rw [this] at e
            cases e
            have ek : k = i := by omega
            rw [ek]; exact hw
        refine wB_or (fun _ => ?_) (fun _ _ => ?_)
        · refine ⟨by omega, ?_⟩
          refine put _ _ ⟨okS_app hzo rfl, by simp; omega, by rw [List.getElem?_append_left (by omega)]; exact hza⟩ fun ws' S' e1 e2 e3 => hn _ _ ⟨⟨ws', e1, by rw [e2], e3⟩, _, _, _, rfl⟩
        · exact put _ _ ⟨hzo, by omega, hza⟩ fun ws' S' e1 e2 e3 => hn _ _ ⟨⟨ws', e1, by rw [e2], e3⟩, _, _, _, rfl⟩
    · rintro e S' ⟨⟨ws, rfl, hws, hwp⟩, x, y, z, rfl⟩
      rw [rngW_len, Nat.zero_add] at hws
      walk_at "w"
      refine retL (Sub.set hp) Sto.set_same hp (q ws hws ?_ fun z hz => ?_)
      · refine List.pairwise_iff_getElem.mpr fun i j hi hj hij e => ?_
        have h1 := (hwp i _ (List.getElem?_eq_getElem hi)).2.2
        have h2 := (hwp j _ (List.getElem?_eq_getElem hj)).2.2
        rw [e, h2] at h1
        have h1 := Option.some.inj h1
        omega
      · obtain ⟨k, hk⟩ := List.mem_iff_getElem?.mp hz
        have := hwp k z hk
        exact ⟨this.1, this.2.1⟩
end
end Bw

/-! RD1: all places are found -/
namespace Bw
open PySem (sizeLine)
end Bw

/-! RD2: places, looks told, looks put in and taken out -/
namespace Bw
open PySem (sizeLine)
/-- the look at a place -/
def lk3 (F G : Tbl) (p : Int) : Option (Kd × Kd) := match getT F p, getT G p with
  | some a, some b => if a = b then none else some (a, b)
  | _, _ => none
theorem plcs_len (t : Tr) : (plcs t).length = szT t := by
  have : ∀ n : Nat, ∀ t : Tr, dT t ≤ n → (plcs t).length = szT t := fun n => by
    induction n with
    | zero => intro t h; exact absurd h (by cases t; simp [dT])
    | succ n ih =>
      intro t h
      cases t with
      | nd w p fr ks ps =>
        have : ∀ ts : List Tr, dTs ts ≤ n → (plcss ts).length = szTs ts := fun ts => by
          induction ts with
          | nil => intro _; rfl
          | cons x r ih2 =>
            intro h
            simp only [dTs] at h
            rw [plcss, List.length_append, ih x (by omega), ih2 (by omega), szTs]
        simp only [dT] at h
        rw [plcs, List.length_cons, this ps (by omega), szT]
  exact this (dT t) t (Nat.le_refl _)
def lkW (r : Int × Kd × Kd) : W := .tup [.int r.1, kW r.2.1, kW r.2.2]
section
variable {T : Nat → Option FD} {S : Sto} {Q : VQ} {X : XQ} {n : Nat} {w : Wo} {p : Int} {fr ks us us' : List W} {F G : Tbl}
theorem with_shp {x : W} (h : T 88 = some d88) (hf : fr.length = nF w) (hk : ks.length = nK w) (hx : seqOf S x = some us') (hl : us'.length ≤ 1000) (q : Q (shp w p fr ks us') S) : wF T (n + 1) 88 [shp w p fr ks us, x] S Q X := by
  have sz : 100000 ≤ sizeLine := by decide
  rw [wF_eq h, d88]
  walk_at "w"
  rw [shp_idx0, wEq_s, show [114, 111, 119] = woS .row from rfl, woS_beq]
  cases w <;> ((first | (obtain ⟨f1, f2, rfl⟩ := len2 hf) | (obtain ⟨f1, rfl⟩ := len1 hf) | (obtain rfl := len0 hf)); (first | (obtain ⟨k1, k2, rfl⟩ := len2 hk) | (obtain ⟨k1, rfl⟩ := len1 hk) | (obtain rfl := len0 hk)))
  all_goals simp only [reduceCtorEq, decide_true, decide_false]
  all_goals walk_at "w"
  all_goals first | (rw [shp_idx0]; refine wTab_c rfl ?_) | skip
  all_goals simp only [shp]
  all_goals walk_at "w"
  all_goals (try simp only [cut_t2, cut_t3, cut_t4, cut_t6])
  all_goals walk_at "w"
  all_goals rw [hx]
  all_goals walk_at "w"
  all_goals first | exact ret0 q | exact ⟨by omega, ret0 q⟩ | exact ⟨by simp; omega, ret0 q⟩
theorem parts_rl {ps : List Tr} {ks : List Kd} (h : T 87 = some d87) (hf : fr.length = nF w) (hk : ks.length = nK w) (q : Q (.rl (ps.map tW)) S) : wF T (n + 1) 87 [tW (.nd w p fr ks ps)] S Q X := by
  rw [tW]
  refine parts_shp h hf (by rw [List.length_map]; exact hk) fun a ha => ?_
  rw [tWs_map]
  exact retL (Sub.set ha) Sto.set_same ha q
theorem places_ok (h91 : T 91 = some d91) (h87 : T 87 = some d87) : ∀ (m : Nat) {t : Tr} {n : Nat} {S : Sto} {Q : VQ} {X : XQ}, dT t ≤ m → m + 2 ≤ n → okTr t → szT t ≤ 20000 → Q (.rl ((plcs t).map W.int)) S → wF T n 91 [tW t] S Q X := by
  intro m
  induction m with
  | zero => intro t n S Q X hd; exact absurd hd (by cases t; simp [dT])
  | succ m ih =>
    intro t n S Q X hd hn ho hs q
    obtain ⟨n, rfl⟩ : ∃ n', n = n' + 2 := ⟨n - 2, by omega⟩
    cases t with
    | nd w p fr ks ps =>
    have sz : 1000000 ≤ sizeLine := by decide
    rw [wF_eq h91, d91]
    walk_at "w"
    rw [tW_idx1]
    walk_at "w"
    intro a ha
    refine parts_rl h87 ho.1.1 ho.1.2.1 ?_
    walk_at "w"
    have hl := plcs_len
    refine forR tW (fun l env S' => ∃ done, ps = done ++ l ∧ S' = S.set a (.lst ((p :: plcss done).map W.int)) ∧ ∃ x, env = [some (tW (.nd w p fr ks ps)), some (.ref a), x]) ⟨[], rfl, rfl, _, rfl⟩ (fun _ _ _ _ => trivial) ?_ ?_
    · rintro t l env S' nx ⟨done, e, rfl, x, rfl⟩ hn2
      have hm : t ∈ ps := by rw [e]; simp
      have h1 := dTs_mem hm
      have h2 := szTs_mem hm
      simp only [dT, szT] at hd hs
      walk_at "w"
      rw [lstOf_ref Sto.set_same]
      refine ⟨rfl, ?_⟩
      refine ih (by omega) (by omega) (okTrs_mem ho.2 hm) (by omega) ?_
      have e1 : (plcs t).length ≤ 20000 := by rw [hl]; omega
      have e2 : (plcss done).length ≤ 20000 := by
        have : (plcss done).length + (plcss (t :: l)).length = (plcss ps).length := by rw [e, plcss_app, List.length_append]
        have h3 : (plcss ps).length = szTs ps := by
          have := hl (.nd w p fr ks ps)
          rw [plcs, List.length_cons, szT] at this; omega
        omega
      unfold wExt
      simp only [Sto.set_same, lstOf, deref]
      refine ⟨by simp; omega, ?_⟩
      rw [set_set]
      refine hn2 _ _ ⟨done ++ [t], by rw [e]; simp, ?_, _, rfl⟩
      rw [plcss_app]
      simp [plcss]
    · rintro env S' ⟨done, e, rfl, x, rfl⟩
      rw [List.append_nil] at e
      subst e
      walk_at "w"
      exact retL (Sub.set ha) Sto.set_same ha q
def gl (F G : Tbl) : W → List W
  | .int p => match lk3 F G p with
    | some ab => [lkW (p, ab)]
    | none => []
  | _ => []
structure KR (T : Nat → Option FD) : Prop where
  E : LkT T
  h87 : T 87 = some d87
  h139 : T 139 = some d139
  h140 : T 140 = some d140
  h141 : T 141 = some d141
  h157 : T 157 = some d157
  h167 : T 167 = some d167
/-- what is known of a program that is looked at -/
structure GT1 (m : Nat) (t : Tr) : Prop where
  d : dT t ≤ m
  m100 : m ≤ 100
  g : gdT t
  o : okTr t
  s : szT t ≤ 9990
  f : frees t [] = []
end
end Bw

/-! RD3: the laws' own walks through programs made ready; large rows -/
namespace Bw
open PySem (sizeLine)
/-- a comprehension, what is made of each item -/
theorem compZ {f : W → Sto → (List W → Sto → Prop) → Prop} {S : Sto} {P : PySem.Addr → List W → Sto → Prop} {items : List W} (ys : List W) (hl : ys.length = items.length)
    (h : ∀ (i : Nat) (x y : W), items[i]? = some x → ys[i]? = some y → ∀ D, S D = none → ∀ R : List W → Sto → Prop, R [y] (S.set D .hid) → f x (S.set D .hid) R) (q : ∀ D, S D = none → P D ys (S.set D .hid)) :
    ∀ D, S D = none → wMap [] f items (S.set D .hid) (P D) := by
  intro D hD
  refine compI (fun i done S' => S' = S.set D .hid ∧ done = ys.take i) (done := []) 0 ⟨rfl, by simp⟩ (fun _ _ _ _ _ => trivial) ?_ ?_
  · rintro i x done S' R hi ⟨rfl, rfl⟩ hn
    have hlt : i < ys.length := by
      rw [hl]
      by_cases q : i < items.length
      · exact q
      · rw [List.getElem?_eq_none (by omega)] at hi; cases hi
    have hy : ys[i]? = some ys[i] := List.getElem?_eq_getElem hlt
    refine h i x _ hi hy D hD R (hn _ _ ⟨rfl, ?_⟩)
    rw [Nat.zero_add, List.take_succ, hy]
    rfl
  · rintro more S' ⟨rfl, e⟩
    rw [List.nil_append, Nat.zero_add, ← hl, List.take_of_length_le (Nat.le_refl _)] at e
    subst e
    exact q D hD
mutual
/-- of such words, signs and kinds -/
def dueT : Tr → Prop
  | .nd w _ fr ks ps => (fr.length = nF w ∧ ks.length = nK w ∧ ps.length ≤ 100) ∧ (∀ x ∈ fr, flatW x = true) ∧ (∀ k ∈ ks, kdep k ≤ 8) ∧ dueTs ps
def dueTs : List Tr → Prop
  | [] => True
  | t :: ts => dueT t ∧ dueTs ts
end
theorem dueTs_mem : ∀ {ts : List Tr} {t : Tr}, dueTs ts → t ∈ ts → dueT t
  | x :: ts, t, h, m => by
    rcases List.mem_cons.mp m with rfl | m
    · exact h.1
    · exact dueTs_mem h.2 m
theorem dueTs_of : ∀ {ts : List Tr}, (∀ t ∈ ts, dueT t) → dueTs ts
  | [], _ => trivial
  | t :: ts, h => ⟨h t List.mem_cons_self, dueTs_of fun x hx => h x (List.mem_cons_of_mem _ hx)⟩
theorem due_of : ∀ (m : Nat) {t : Tr}, dT t ≤ m → okTr t → gdT t → flT t → dueT t
  | 0, t, h, _, _, _ => absurd h (by cases t; simp [dT])
  | m + 1, .nd w p fr ks ps, h, ho, hg, hf => by
    simp only [dT] at h
    exact ⟨⟨ho.1.1, ho.1.2.1, ho.1.2.2.1⟩, hf.1, hg.1.2.2.2, dueTs_of fun t ht => due_of m (Nat.le_trans (dTs_mem ht) (by omega)) (okTrs_mem ho.2 ht) (gdTs_mem hg.2 ht) (flTs_mem hf.2 ht)⟩
theorem flat_due {x : W} (h : flatW x = true) : due2 x = true ∧ depW x = 0 := by cases x <;> first | exact ⟨rfl, rfl⟩ | (simp [flatW] at h)
theorem tree_due : ∀ (m : Nat) {t : Tr}, dT t ≤ m → dueT t → due2 (tW t) = true ∧ depW (tW t) ≤ 2 * dT t + 9
  | 0, t, h, _ => absurd h (by cases t; simp [dT])
  | m + 1, .nd w p fr ks ps, h, hd => by
    simp only [dT] at h
    have ih : ∀ t ∈ ps, due2 (tW t) = true ∧ depW (tW t) ≤ 2 * dT t + 9 := fun t ht => tree_due m (Nat.le_trans (dTs_mem ht) (by omega)) (dueTs_mem hd.2.2.2 ht)
    have hk : ∀ x ∈ ks.map kW, due2 x = true ∧ depW x ≤ 8 := fun x hx => by
      obtain ⟨k, hk, rfl⟩ := List.mem_map.mp hx
      exact ⟨due2_k k, by rw [dep_kW]; exact hd.2.2.1 k hk⟩
    have hp : ∀ x ∈ tWs ps, due2 x = true ∧ depW x ≤ 2 * dTs ps + 9 := fun x hx => by
      rw [tWs_map] at hx
      obtain ⟨t, ht, rfl⟩ := List.mem_map.mp hx
      have h1 := ih t ht
      have := dTs_mem ht
      exact ⟨h1.1, by omega⟩
    have depl : ∀ (l : List W) (b : Nat), (∀ x ∈ l, depW x ≤ b) → depWs l ≤ b := fun l b => by
      induction l with
      | nil => intro _; exact Nat.zero_le _
      | cons a r ih2 =>
        intro h
        show max (depW a) (depWs r) ≤ b
        exact Nat.max_le.mpr ⟨h a List.mem_cons_self, ih2 fun x hx => h x (List.mem_cons_of_mem _ hx)⟩
    have hn : nF w ≤ 2 ∧ nK w ≤ 2 := by cases w <;> simp [nF, nK]
    have lt : (tWs ps).length ≤ 100 := by rw [tWs_map, List.length_map]; exact hd.1.2.2
    have gen : ∀ l : List W, (∀ x ∈ l, due2 x = true ∧ depW x ≤ 2 * dTs ps + 10) → l.length ≤ 200 → due2 (.tup l) = true ∧ depW (.tup l) ≤ 2 * (dTs ps + 1) + 9 := fun l hl h2 => by
      refine ⟨due2_tup (by omega) fun x hx => (hl x hx).1, ?_⟩
      show depWs l + 1 ≤ _
      have := depl l _ fun x hx => (hl x hx).2
      omega
    rw [tW]
    show due2 (shp w p fr (ks.map kW) (tWs ps)) = true ∧ depW (shp w p fr (ks.map kW) (tWs ps)) ≤ 2 * (dTs ps + 1) + 9
    by_cases hr : w = .row
    · subst hr
      refine gen _ (fun x hx => ?_) (by simp [hd.1.2.1, nK])
      simp only [List.mem_cons, List.mem_append, List.not_mem_nil, or_false] at hx
      rcases hx with rfl | rfl | hx | rfl
      · exact ⟨rfl, Nat.zero_le _⟩
      · exact ⟨rfl, Nat.zero_le _⟩
      · have := hk x hx; exact ⟨this.1, by omega⟩
      · refine ⟨due2_tup (by omega) fun x hx => (hp x hx).1, ?_⟩
        show depWs (tWs ps) + 1 ≤ _
        have := depl _ _ fun x hx => (hp x hx).2
        omega
    · have e : shp w p fr (ks.map kW) (tWs ps) = .tup (.str (woS w) :: .int p :: (fr ++ (ks.map kW ++ tWs ps))) := by cases w <;> first | rfl | exact absurd rfl hr
      rw [e]
      refine gen _ (fun x hx => ?_) (by simp [hd.1.1, hd.1.2.1]; omega)
      simp only [List.mem_cons, List.mem_append] at hx
      rcases hx with rfl | rfl | hx | hx | hx
      · exact ⟨rfl, Nat.zero_le _⟩
      · exact ⟨rfl, Nat.zero_le _⟩
      · have := flat_due (hd.2.1 x hx); exact ⟨this.1, by omega⟩
      · have := hk x hx; exact ⟨this.1, by omega⟩
      · have := hp x hx; exact ⟨this.1, by omega⟩
end Bw

/-! RD4: the laws' own walks through programs made ready; large rows -/
namespace Bw
open PySem (sizeLine)
def All2 (R : W → W → Prop) : List W → List W → Prop
  | [], [] => True
  | x :: xs, y :: ys => R x y ∧ All2 R xs ys
  | _, _ => False
theorem All2.len {R : W → W → Prop} : ∀ {xs ys : List W}, All2 R xs ys → ys.length = xs.length
  | [], [], _ => rfl
  | x :: xs, y :: ys, h => by rw [List.length_cons, List.length_cons, All2.len h.2]
  | [], _ :: _, h => h.elim
  | _ :: _, [], h => h.elim
theorem All2.get {R : W → W → Prop} : ∀ {xs ys : List W} {i : Nat} {x y : W}, All2 R xs ys → xs[i]? = some x → ys[i]? = some y → R x y
  | x :: xs, y :: ys, 0, _, _, h, h1, h2 => by cases h1; cases h2; exact h.1
  | x :: xs, y :: ys, i + 1, _, _, h, h1, h2 => All2.get (i := i) h.2 (by simpa using h1) (by simpa using h2)
  | [], [], i, _, _, _, h1, _ => by simp at h1
  | [], _ :: _, _, _, _, h, _, _ => h.elim
  | _ :: _, [], _, _, _, h, _, _ => h.elim
theorem All2.app {R : W → W → Prop} : ∀ {a b c d : List W}, All2 R a b → All2 R c d → All2 R (a ++ c) (b ++ d)
  | [], [], _, _, _, h => h
  | x :: a, y :: b, c, d, h, k => ⟨h.1, All2.app h.2 k⟩
  | [], _ :: _, _, _, h, _ => h.elim
  | _ :: _, [], _, _, h, _ => h.elim
theorem All2.same {R : W → W → Prop} : ∀ {a : List W}, (∀ x ∈ a, R x x) → All2 R a a
  | [], _ => trivial
  | x :: a, h => ⟨h x List.mem_cons_self, All2.same fun y hy => h y (List.mem_cons_of_mem _ hy)⟩
theorem All2.map {α : Type} {R : W → W → Prop} {f g : α → W} : ∀ {l : List α}, (∀ x ∈ l, R (f x) (g x)) → All2 R (l.map f) (l.map g)
  | [], _ => trivial
  | x :: l, h => ⟨h x List.mem_cons_self, All2.map fun y hy => h y (List.mem_cons_of_mem _ hy)⟩
def restW (w : Wo) (fr ks us : List W) : List W := if w = .row then ks ++ [.tup us] else fr ++ (ks ++ us)
theorem shpE {w : Wo} {p : Int} {fr ks us : List W} : shp w p fr ks us = .tup (.str (woS w) :: .int p :: restW w fr ks us) := by cases w <;> rfl
section
variable {T : Nat → Option FD} {S : Sto} {Q : VQ} {X : XQ} {n : Nat} {F G : Tbl}
theorem isiTup {ws : List W} : isiW .tuple S (.tup ws) = some true := rfl
end
end Bw

/-! RD5: looks met; large rows -/
namespace Bw
open PySem (sizeLine)
section
variable {T : Nat → Option FD} {S : Sto} {Q : VQ} {X : XQ} {n : Nat} {F G : Tbl}
end
end Bw

/-! M42: the law of looks -/
namespace Bw
open PySem (sizeLine)
def QT : VQ := fun w _ => w = .bl true
section
variable {T : Nat → Option FD} {S : Sto} {Q : VQ} {X : XQ} {n : Nat} {F G : Tbl}
end
end Bw

/-! LN1: programs refused, with a free name or else; places; the greatest depth at a look -/
namespace Bw
open PySem (sizeLine)
/-- what is known of a program that is looked at, its names bound or not -/
structure GT2 (t : Tr) : Prop where
  d : dT t ≤ 12
  g : gdT t
  o : okTr t
  s : szT t ≤ 9990
  fl : flT t
theorem GT2.c {t : Tr} (h : GT2 t) (hf : frees t [] = []) : GT1 12 t := ⟨h.d, by omega, h.g, h.o, h.s, hf⟩
def xName (p : Int) : Xn := ⟨4, [[112, 108, 97, 99, 101]], [.int p]⟩
inductive BadX (t : Tr) : Xn → W → Prop
  | name {e : Int × List Nat} {r : List (Int × List Nat)} (h : frees t [] = e :: r) : BadX t (xName e.1) (.tup [.str [110, 97, 109, 101], .int e.1])
  | deep {p : Int} {F G : Tbl} (hf : frees t [] = []) (h : lookN 12 t [] [] [] = .bad (xDeep p) F G) : BadX t (xDeep p) (.tup [.str [100, 101, 101, 112], .int p])
  | part {p b : Int} {k w : Kd} {F G : Tbl} (hf : frees t [] = []) (h : lookN 12 t [] [] [] = .bad (xPart p k b w) F G) (hk : kdep k ≤ 4 ∧ kdep w ≤ 4) : BadX t (xPart p k b w) (.tup [.int p, kW k, .int b, kW w, woW (prt k w)])
theorem BadX.cases (t : Tr) (g : gdT t) : (frees t [] = [] ∧ ∃ k F G, lookN 12 t [] [] [] = .ok k F G) ∨ ∃ x w, BadX t x w := by
  cases hf : frees t [] with
  | cons e r => exact .inr ⟨_, _, .name hf⟩
  | nil =>
    have r := @look_P 12 t [] [] [] g
    have o := look_okL 12 t []
    revert r o
    generalize hP : lookP 12 t [] = b
    cases hN : lookN 12 t [] [] [] with
    | ok k F G => exact fun _ _ => .inl ⟨rfl, k, F, G, rfl⟩
    | bad x F G =>
      cases b with
      | ok k => exact fun r _ => r.elim
      | deep p => exact fun r _ => by obtain rfl : x = xDeep p := r; exact .inr ⟨_, _, .deep hf hN⟩
      | part p k b w => exact fun r o => by obtain rfl : x = xPart p k b w := r.1; exact .inr ⟨_, _, .part hf hN o⟩
theorem BadX.due {t : Tr} {x : Xn} {w : W} (h : BadX t x w) : due2 w = true ∧ depW w ≤ 60 := by
  cases h with
  | name _ => exact ⟨rfl, by show 0 + 1 ≤ 60; omega⟩
  | deep _ _ => exact ⟨rfl, by show 0 + 1 ≤ 60; omega⟩
  | part _ _ hk =>
    rename_i p b k w F G _ _
    have du := resW_due (r := .part p k b w) hk
    have tl : ∀ (a : W) (l : List W), due2 (.tup (a :: l)) = true → ∀ x ∈ l, due2 x = true := fun a l h3 x hx => by
      have h3 : (decide ((a :: l).length ≤ 1000) && due2s (a :: l)) = true := h3
      rw [Bool.and_eq_true] at h3
      exact due2s_mem h3.2 (List.mem_cons_of_mem _ hx)
    have h1 : ∀ x ∈ [W.int p, kW k, .int b, kW w, woW (prt k w)], due2 x = true := tl _ _ du.1
    refine ⟨due2_tup (by simp) h1, Nat.le_trans ?_ du.2⟩
    have tl2 : ∀ (a : W) (l : List W), depW (.tup l) ≤ depW (.tup (a :: l)) := fun a l => by
      show depWs l + 1 ≤ max (depW a) (depWs l) + 1
      omega
    exact tl2 _ _
theorem BadX.tup {t : Tr} {x : Xn} {w : W} (h : BadX t x w) : ∃ us, w = .tup us := by cases h <;> exact ⟨_, rfl⟩
theorem BadX.cls {t : Tr} {x : Xn} {w : W} (h : BadX t x w) : x.c = 8 ∨ x.c = 5 ∨ x.c = 4 := by cases h <;> simp [xName, xDeep, xPart]
section
variable {T : Nat → Option FD} {S : Sto} {Q : VQ} {X : XQ} {n : Nat} {F G : Tbl} {t : Tr} {x : Xn} {w : W}
end
end Bw

/-! LN2: the laws' own places; the refusal, by each way -/
namespace Bw
open PySem (sizeLine)
section
variable {T : Nat → Option FD} {S : Sto} {Q : VQ} {X : XQ} {n : Nat} {F G : Tbl} {t : Tr} {x : Xn} {w : W}
theorem lplaces_ok (h225 : T 225 = some d225) (h185 : T 185 = some d185) : ∀ (m : Nat) {t : Tr} {n : Nat} {S : Sto} {Q : VQ} {X : XQ}, dT t ≤ m → m + 2 ≤ n → okTr t → gdT t → szT t ≤ 20000 → Q (.rl ((plcs t).map W.int)) S → wF T n 225 [tW t] S Q X := by
  intro m
  induction m with
  | zero => intro t n S Q X hd; exact absurd hd (by cases t; simp [dT])
  | succ m ih =>
    intro t n S Q X hd hn ho hg hs q
    obtain ⟨n, rfl⟩ : ∃ n', n = n' + 2 := ⟨n - 2, by omega⟩
    cases t with
    | nd w p fr ks ps =>
    have sz : 1000000 ≤ sizeLine := by decide
    have hl := plcs_len
    rw [wF_eq h225, d225]
    walk_at "w"
    rw [tW_idx1]
    walk_at "w"
    rw [tW]
    refine lparts_ok h185 ho.1.1 ho.1.2.1 hg.1.1 (fun h => h.elim (fun h => ho.1.2.2.2 h) (fun h => hg.1.2.2.1 h)) ho.1.2.2.1 (fun h => hg.1.2.1 h) ?_
    walk_at "w"
    refine forR tW (fun l env S' => ∃ done, ps = done ++ l ∧ S' = S ∧ ∃ x y, env = [x, some (.rl ((p :: plcss done).map W.int)), y]) ⟨[], rfl, rfl, _, _, rfl⟩ (fun _ _ _ _ => trivial) ?_ ?_
    · rintro t l env S' nx ⟨done, e, rfl, x, y, rfl⟩ hn2
      have hm : t ∈ ps := by rw [e]; simp
      have h1 := dTs_mem hm
      have h2 := szTs_mem hm
      simp only [dT, szT] at hd hs
      walk_at "w"
      refine ih (by omega) (by omega) (okTrs_mem ho.2 hm) (gdTs_mem hg.2 hm) (by omega) ?_
      walk_at "w"
      have e1 : (plcs t).length ≤ 20000 := by rw [hl]; omega
      have e2 : (plcss done).length ≤ 20000 := by
        have h4 : (plcss done).length + (plcss (t :: l)).length = (plcss ps).length := by rw [e, plcss_app, List.length_append]
        have h3 : (plcss ps).length = szTs ps := by
          have := hl (.nd w p fr ks ps)
          rw [plcs, List.length_cons, szT] at this; omega
        omega
      refine wAdd_l rfl rfl ⟨by simp; omega, ?_⟩
      refine hn2 _ _ ⟨done ++ [t], by rw [e]; simp, rfl, x, some (tW t), ?_⟩
      rw [plcss_app]
      simp [plcss]
    · rintro env S' ⟨done, e, rfl, x, y, rfl⟩
      rw [List.append_nil] at e
      subst e
      walk_at "w"
      exact ret0 q
end
end Bw

/-! LN3: the program drawn -/
namespace Bw
open PySem (sizeLine)
section
variable {T : Nat → Option FD} {S : Sto} {Q : VQ} {X : XQ} {n : Nat} {c : Int}
theorem GT2.place {w : Wo} {p p2 : Int} {fr : List W} {ks : List Kd} {ps : List Tr} (h : GT2 (.nd w p fr ks ps)) : GT2 (.nd w p2 fr ks ps) :=
  ⟨by have := h.d; simpa [dT] using this, h.g, h.o, by have := h.s; simpa [szT] using this, h.fl⟩
structure GT3 (t : Tr) : Prop where
  c : GT2 t
  d : dT t ≤ 11
  s : szT t ≤ 9000
theorem GT3.place {w : Wo} {p p2 : Int} {fr : List W} {ks : List Kd} {ps : List Tr} (h : GT3 (.nd w p fr ks ps)) : GT3 (.nd w p2 fr ks ps) :=
  ⟨h.c.place, by have := h.d; simpa [dT] using this, by have := h.s; simpa [szT] using this⟩
theorem GT3.name {p : Int} {z : List Nat} : GT3 (.nd .name p [.str z] [] []) :=
  have f := (flatMK (b := 0) (c := 0) (w := .whole) (v := .int 0) (nms := []) (by simp))
  have m := nameMK (b := 0) (c := 0) (z := z) (nms := [z]) (by simp)
  GT3.place ⟨⟨Nat.le_trans m.d (by omega), m.g, m.o, Nat.le_trans m.s (by omega), m.fl⟩, Nat.le_trans m.d (by omega), Nat.le_trans m.s (by omega)⟩
theorem GT2.pair {p : Int} {a b : Tr} (ha : GT3 a) (hb : GT3 b) (hs : szT a + szT b ≤ 9100) : GT2 (.nd .pair p [] [] [a, b]) := by
  have h1 := ha.d
  have h2 := hb.d
  refine ⟨by simp only [dT, dTs]; omega, ⟨⟨by simp, fun _ => rfl, by simp, by simp⟩, ha.c.g, hb.c.g, trivial⟩, ⟨⟨rfl, rfl, by simp, by simp [binds]⟩, ha.c.o, hb.c.o, trivial⟩, by simp only [szT, szTs]; omega, ⟨by simp, ha.c.fl, hb.c.fl, trivial⟩⟩
end
end Bw

/-! LN4: the law of looks told -/
namespace Bw
open PySem (sizeLine)
section
variable {T : Nat → Option FD} {S : Sto} {Q : VQ} {X : XQ} {n : Nat} {F G : Tbl}
theorem rl_eq2 {S : Sto} {Q : VQ} {x y : W} {neg : Bool} {ws : List W} (hx : deref S x = .rl ws) (hy : deref S y = .rl ws) (h : ∀ x ∈ ws, due2 x = true ∧ depW x ≤ 50) (q : Q (.bl (true != neg)) S) : wEq neg x y S Q := by
  have hd : due2s ws = true := due2s_of fun x hx => (h x hx).1
  have dep : depWs ws ≤ 50 := by
    clear hd q hx hy
    induction ws with
    | nil => exact Nat.zero_le _
    | cons a r ih =>
      show max (depW a) (depWs r) ≤ 50
      exact Nat.max_le.mpr ⟨(h a List.mem_cons_self).2, ih fun x hx => h x (List.mem_cons_of_mem _ hx)⟩
  refine wEq_c (b := true) ?_ ?_ ?_ ?_ q
  · rw [hx]; exact datas_due2 hd
  · rw [hy]; exact datas_due2 hd
  · rw [hy]; show depWs ws + 1 ≤ 60; omega
  · rw [hx, hy]; exact eqvs_refl2 hd
end
end Bw

/-! FN1: the first free name, by the law's own walk -/
namespace Bw
open PySem (sizeLine)
section
variable {T : Nat → Option FD} {S : Sto} {Q : VQ} {X : XQ} {n : Nat}
end
end Bw

/-! FN2: told; towers of kinds -/
namespace Bw
open PySem (sizeLine)
theorem nok_kind {t : Tr} {K : Kd} (g : gdT t) (h : lookP 12 t [] = .ok K) : ∃ F G, lookN 12 t [] [] [] = .ok K F G := by
  have r := @look_P 12 t [] [] [] g
  rw [h] at r
  revert r
  generalize lookN 12 t [] [] [] = a
  cases a with
  | ok k F G => intro r; obtain rfl : k = K := r; exact ⟨F, G, rfl⟩
  | bad x F G => exact fun r => r.elim
theorem ndeep {t : Tr} {p : Int} (g : gdT t) (h : lookP 12 t [] = .deep p) : ∃ F G, lookN 12 t [] [] [] = .bad (xDeep p) F G := by
  have r := @look_P 12 t [] [] [] g
  rw [h] at r
  revert r
  generalize lookN 12 t [] [] [] = a
  cases a with
  | ok k F G => exact fun r => r.elim
  | bad x F G => intro r; obtain rfl : x = xDeep p := r; exact ⟨F, G, rfl⟩
section
variable {T : Nat → Option FD} {S : Sto} {Q : VQ} {X : XQ} {n : Nat}
theorem looked_badK (R : KR T) {t : Tr} {x : Xn} {w : W} (c : GT2 t) (h : BadX t x w) {e : Nat} (he : 65 ≤ e) (q : X x S) : wF T e 167 [tW t] S Q X := by
  have hd := c.d
  cases h with
  | name hf =>
    obtain ⟨e, rfl⟩ : ∃ e', e = e' + 3 := ⟨e - 3, by omega⟩
    rw [wF_eq R.h167, d167]
    walk_at "w"
    refine need_ok2 R.h141 R.h140 R.h87 R.h139 (by omega) (by omega) c.o ?_
    rw [hf]
    exact retX0 q
  | deep hf h =>
    refine looked_ok (m := 12) R.E R.h141 R.h140 R.h87 R.h139 R.h157 R.h167 c.d (by omega) c.g c.o (by have := c.s; omega) (by omega) hf ?_
    rw [h]; exact q
  | part hf h _ =>
    refine looked_ok (m := 12) R.E R.h141 R.h140 R.h87 R.h139 R.h157 R.h167 c.d (by omega) c.g c.o (by have := c.s; omega) (by omega) hf ?_
    rw [h]; exact q
end
end Bw

/-! FN3: leaves become names -/
namespace Bw
open PySem (sizeLine)
/-- what a spoiled program keeps -/
structure SP (t t' : Tr) : Prop where
  g : gdT t'
  o : okTr t'
  fl : flT t'
  d : dT t' ≤ dT t
  s : szT t' ≤ szT t
def SPs : List Tr → List Tr → Prop
  | [], [] => True
  | t :: ts, u :: us => SP t u ∧ SPs ts us
  | _, _ => False
theorem SPs.all : ∀ {ts us : List Tr}, SPs ts us → us.length = ts.length ∧ gdTs us ∧ okTrs us ∧ flTs us ∧ dTs us ≤ dTs ts ∧ szTs us ≤ szTs ts
  | [], [], _ => ⟨rfl, trivial, trivial, trivial, Nat.le_refl _, Nat.le_refl _⟩
  | t :: ts, u :: us, h => by
    obtain ⟨h1, h2, h3, h4, h5, h6⟩ := SPs.all h.2
    have d := h.1.d
    have s := h.1.s
    exact ⟨by rw [List.length_cons, List.length_cons, h1], ⟨h.1.g, h2⟩, ⟨h.1.o, h3⟩, ⟨h.1.fl, h4⟩, by simp only [dTs]; omega, by simp only [szTs]; omega⟩
  | [], _ :: _, h => h.elim
  | _ :: _, [], h => h.elim
theorem SP.node {w : Wo} {p : Int} {fr : List W} {ks : List Kd} {ps us : List Tr} (hg : gdT (.nd w p fr ks ps)) (ho : okTr (.nd w p fr ks ps)) (hf : flT (.nd w p fr ks ps)) (h : SPs ps us) : SP (.nd w p fr ks ps) (.nd w p fr ks us) := by
  obtain ⟨h1, h2, h3, h4, h5, h6⟩ := h.all
  exact ⟨⟨⟨hg.1.1, fun e => by rw [h1]; exact hg.1.2.1 e, hg.1.2.2⟩, h2⟩, ⟨⟨ho.1.1, ho.1.2.1, by rw [h1]; exact ho.1.2.2.1, ho.1.2.2.2⟩, h3⟩, ⟨hf.1, h4⟩, by simp only [dT]; omega, by simp only [szT]; omega⟩
theorem SP.name {t : Tr} {p : Int} {z : List Nat} : SP t (.nd .name p [.str z] [] []) :=
  ⟨⟨⟨by simp, fun _ => rfl, by simp [nmW], by simp⟩, trivial⟩, ⟨⟨rfl, rfl, by simp, by simp [nmW]⟩, trivial⟩, ⟨by simp [flatW], trivial⟩, by cases t; simp [dT, dTs], by cases t; simp only [szT, szTs]; omega⟩
theorem SP.refl {t : Tr} (g : gdT t) (o : okTr t) (f : flT t) : SP t t := ⟨g, o, f, Nat.le_refl _, Nat.le_refl _⟩
theorem SP.trans {a b c : Tr} (h : SP a b) (k : SP b c) : SP a c := ⟨k.g, k.o, k.fl, Nat.le_trans k.d h.d, Nat.le_trans k.s h.s⟩
theorem wIn_rlE {neg : Bool} {x : W} {ws : List W} {S : Sto} {Q : VQ} : wIn neg x (.rl ws) S Q = (inOk S x ws = true ∧ Q (.bl (inW (deref S x) ws != neg)) S) := by
  unfold wIn
  simp only [dicOf]
  cases x with
  | str z => cases z with
    | nil => rfl
    | cons a r => cases r <;> rfl
  | _ => rfl
section
variable {T : Nat → Option FD} {S : Sto} {Q : VQ} {X : XQ} {n : Nat} {pb : PySem.Addr} {z : List Nat} {nd : W} {ps : List Tr}
end
end Bw

/-! FN4: leaves become names, walked -/
namespace Bw
open PySem (sizeLine)
theorem SPs.snoc {t u : Tr} : ∀ {a us : List Tr}, SPs a us → SP t u → SPs (a ++ [t]) (us ++ [u])
  | [], [], _, h => ⟨h, trivial⟩
  | x :: a, y :: us, h, k => ⟨h.1, SPs.snoc h.2 k⟩
  | [], _ :: _, h, _ => h.elim
  | _ :: _, [], h, _ => h.elim
section
variable {T : Nat → Option FD} {S : Sto} {Q : VQ} {X : XQ} {n : Nat} {pb : PySem.Addr} {z : List Nat} {nd : W} {ps : List Tr}
end
end Bw

/-! FN5: leaves become names: the whole program -/
namespace Bw
open PySem (sizeLine)
section
variable {T : Nat → Option FD} {S : Sto} {Q : VQ} {X : XQ} {n : Nat} {pb : PySem.Addr} {z : List Nat}
end
end Bw

/-! FN6: the law of names and depths -/
namespace Bw
open PySem (sizeLine)
section
variable {T : Nat → Option FD} {S : Sto} {Q : VQ} {X : XQ} {n : Nat}
end
end Bw

/-! FN7: the law of names and depths: the rest -/
namespace Bw
open PySem (sizeLine)
section
variable {T : Nat → Option FD} {S : Sto} {Q : VQ} {X : XQ} {n : Nat}
end
end Bw

/-! GG: a looser program is taken, too; at each place its kinds are looser (k35) -/
namespace Bw
def TL : Tbl → Tbl → Prop
  | [], [] => True
  | e :: F, e' :: F' => e.1 = e'.1 ∧ lsr e.2 e'.2 = true ∧ TL F F'
  | _, _ => False
def NE (N N' : Nm) : Prop := (∀ z k, getN N z = some k → ∃ k', getN N' z = some k' ∧ lsr k k' = true) ∧ ∀ z, getN N z = none → getN N' z = none
theorem NE.put {N N' : Nm} {z : List Nat} {k k' : Kd} (h : NE N N') (hk : lsr k k' = true) : NE (putN N z k) (putN N' z k') := by
  refine ⟨NL.put h.1 hk, fun y e => ?_⟩
  rw [getN_putN] at e ⊢
  by_cases q : y = z
  · rw [if_pos q] at e; cases e
  · rw [if_neg q] at e ⊢; exact h.2 y e
theorem TL.any {p : Int} : ∀ {F F' : Tbl}, TL F F' → (F'.any fun e => decide (e.1 = p)) = F.any fun e => decide (e.1 = p)
  | [], [], _ => rfl
  | e :: F, e' :: F', h => by rw [List.any_cons, List.any_cons, TL.any h.2.2, h.1]
  | [], _ :: _, h => h.elim
  | _ :: _, [], h => h.elim
theorem TL.put {p : Int} {k k' : Kd} {F F' : Tbl} (h : TL F F') (hk : lsr k k' = true) : TL (putT F p k) (putT F' p k') := by
  have m : ∀ {F F' : Tbl}, TL F F' → TL (F.map fun e => if e.1 = p then (e.1, k) else e) (F'.map fun e => if e.1 = p then (e.1, k') else e) := fun {F} => by
    induction F with
    | nil => intro F' h; cases F' with | nil => trivial | cons _ _ => exact h.elim
    | cons e F ih =>
      intro F' h
      cases F' with
      | nil => exact h.elim
      | cons e' F' =>
        refine ⟨?_, ?_, ih h.2.2⟩
        all_goals dsimp only
        all_goals by_cases q : e.1 = p
        all_goals (first | (rw [if_pos q, if_pos (show e'.1 = p from h.1.symm.trans q)]) | (rw [if_neg q, if_neg (show ¬ e'.1 = p from fun z => q (h.1.trans z))]))
        · exact h.1
        · exact h.1
        · exact hk
        · exact h.2.1
  have a : ∀ {F F' : Tbl}, TL F F' → TL (F ++ [(p, k)]) (F' ++ [(p, k')]) := fun {F} => by
    induction F with
    | nil => intro F' h; cases F' with | nil => exact ⟨rfl, hk, trivial⟩ | cons _ _ => exact h.elim
    | cons e F ih =>
      intro F' h
      cases F' with
      | nil => exact h.elim
      | cons e' F' => exact ⟨h.1, h.2.1, ih h.2.2⟩
  unfold putT
  rw [h.any]
  split
  · exact m h
  · exact a h
theorem TL.get {p : Int} {k : Kd} : ∀ {F F' : Tbl}, TL F F' → getT F p = some k → ∃ k', getT F' p = some k' ∧ lsr k k' = true
  | [], [], _, e => by cases e
  | (a, b) :: F, (a', b') :: F', h, g => by
    have ha : a = a' := h.1
    subst ha
    show ∃ k', (if a = p then some b' else getT F' p) = some k' ∧ _
    have g : (if a = p then some b else getT F p) = some k := g
    by_cases q : a = p
    · rw [if_pos q] at g ⊢
      cases g
      exact ⟨_, rfl, h.2.1⟩
    · rw [if_neg q] at g ⊢
      exact TL.get h.2.2 g
  | [], _ :: _, h, _ => h.elim
  | _ :: _, [], h, _ => h.elim
def LR (r r' : RL) : Prop := match r, r' with
  | .ok k F G, .ok k' F' G' => lsr k k' = true ∧ TL F F' ∧ TL G G'
  | .bad _ _ _, _ => True
  | _, _ => False
theorem LR.bind {r r' : RL} {f f' : Kd → Tbl → Tbl → RL} (h : LR r r') (c : ∀ k k' F F' G G', lsr k k' = true → TL F F' → TL G G' → LR (f k F G) (f' k' F' G')) : LR (r.bind f) (r'.bind f') := by
  cases r with
  | bad x F G => trivial
  | ok k F G =>
    cases r' with
    | bad x F' G' => exact h.elim
    | ok k' F' G' => exact c _ _ _ _ _ _ h.1 h.2.1 h.2.2
theorem prt_two {k k' w w' : Kd} (h : prt k w = none) (hk : lsr k k' = true) (hw : lsr w w' = true) : prt k' w' = none := by
  have h1 := prt_mono k w k' hk h
  rw [prt_comm] at h1 ⊢
  exact prt_mono w k' w' hw h1
theorem LR.hold {p b b' : Int} {w w' : Kd} {F F' G G' : Tbl} {f f' : Tbl → Tbl → RL} (hF : TL F F') (hG : TL G G') (hw : lsr w w' = true) (c : ∀ G1 G1', TL G1 G1' → LR (f F G1) (f' F' G1')) : LR (holdT p b w F G f) (holdT p b' w' F' G' f') := by
  unfold holdT
  cases hk : getT F p with
  | none => trivial
  | some k =>
    obtain ⟨k', e, hl⟩ := hF.get hk
    rw [e]
    dsimp only
    by_cases hp : prt k w = none
    · rw [if_pos hp, if_pos (prt_two hp hl hw)]
      exact c _ _ (hG.put hw)
    · rw [if_neg hp]; trivial
theorem lsr_head {k k' : Kd} (h : lsr k k' = true) : k' = .unt ∨ hS k = hS k' := by
  cases k' with
  | unt => exact .inl rfl
  | _ => cases k <;> first | exact .inr rfl | (simp [lsr] at h)
theorem kp_mono {k k' : Kd} {i : Nat} (h : lsr k k' = true) : lsr (kp k i) (kp k' i) = true := by
  cases k' with
  | unt => exact lsr_unt _
  | whole => cases k <;> first | (simp [lsr] at h; done) | exact lsr_unt _
  | truth => cases k <;> first | (simp [lsr] at h; done) | exact lsr_unt _
  | row a => cases k with
    | row b => match i with
      | 0 => exact h
      | i + 1 => exact lsr_unt _
    | _ => simp [lsr] at h
  | to a b => cases k with
    | to c d =>
      simp only [lsr, Bool.and_eq_true] at h
      match i with
      | 0 => exact h.1
      | 1 => exact h.2
      | i + 2 => exact lsr_unt _
    | _ => simp [lsr] at h
  | pair a b => cases k with
    | pair c d =>
      simp only [lsr, Bool.and_eq_true] at h
      match i with
      | 0 => exact h.1
      | 1 => exact h.2
      | i + 2 => exact lsr_unt _
    | _ => simp [lsr] at h
theorem jn_mono : ∀ (k o k' o' : Kd), lsr k k' = true → lsr o o' = true → lsr (jn k o) (jn k' o') = true
  | k, o, .unt, o', _, _ => by have : jn .unt o' = .unt := by cases o' <;> rfl
                               rw [this]; exact lsr_unt _
  | k, o, .whole, o', h, g => by cases k <;> first | (simp [lsr] at h; done) | (cases o' <;> cases o <;> first | rfl | exact lsr_unt _ | (simp [lsr] at g; done))
  | k, o, .truth, o', h, g => by cases k <;> first | (simp [lsr] at h; done) | (cases o' <;> cases o <;> first | rfl | exact lsr_unt _ | (simp [lsr] at g; done))
  | k, o, .row a', o', h, g => by
    cases k with
    | row a => cases o' with
      | row b' => cases o with
        | row b => exact jn_mono a b a' b' h g
        | _ => simp [lsr] at g
      | _ => exact lsr_unt _
    | _ => simp [lsr] at h
  | k, o, .to a' c', o', h, g => by
    cases k with
    | to a c => cases o' with
      | to b' d' => cases o with
        | to b d =>
          simp only [lsr, Bool.and_eq_true] at h g
          show (lsr (jn a b) (jn a' b') && lsr (jn c d) (jn c' d')) = true
          rw [jn_mono a b a' b' h.1 g.1, jn_mono c d c' d' h.2 g.2]; rfl
        | _ => simp [lsr] at g
      | _ => exact lsr_unt _
    | _ => simp [lsr] at h
  | k, o, .pair a' c', o', h, g => by
    cases k with
    | pair a c => cases o' with
      | pair b' d' => cases o with
        | pair b d =>
          simp only [lsr, Bool.and_eq_true] at h g
          show (lsr (jn a b) (jn a' b') && lsr (jn c d) (jn c' d')) = true
          rw [jn_mono a b a' b' h.1 g.1, jn_mono c d c' d' h.2 g.2]; rfl
        | _ => simp [lsr] at g
      | _ => exact lsr_unt _
    | _ => simp [lsr] at h
def AtT (F : Tbl) (p : Int) (k : Kd) : Prop := (F.any fun e => decide (e.1 = p)) = true ∧ ∀ e ∈ F, e.1 = p → e.2 = k
theorem AtT.put {F : Tbl} {p : Int} {k : Kd} : AtT (putT F p k) p k := by
  unfold putT
  split
  · rename_i h
    refine ⟨?_, fun e he q => ?_⟩
    · rw [List.any_map, List.any_eq_true]
      obtain ⟨e, he, q⟩ := List.any_eq_true.mp h
      refine ⟨e, he, ?_⟩
      simp only [decide_eq_true_eq] at q
      simp [q]
    · obtain ⟨x, _, rfl⟩ := List.mem_map.mp he
      by_cases z : x.1 = p
      · simp [z]
      · rw [if_neg z] at q; exact absurd q z
  · rename_i h
    refine ⟨by simp, fun e he q => ?_⟩
    rcases List.mem_append.mp he with he | he
    · exact absurd (List.any_eq_true.mpr ⟨e, he, decide_eq_true q⟩) h
    · have : e = (p, k) := by simpa using he
      rw [this]
theorem TL.right {p : Int} {k s : Kd} {G G' : Tbl} (h : TL G G') (ha : AtT G p k) (hs : lsr k s = true) : TL G (putT G' p s) := by
  unfold putT
  rw [h.any, if_pos ha.1]
  have m : ∀ {G G' : Tbl}, TL G G' → (∀ e ∈ G, e.1 = p → e.2 = k) → TL G (G'.map fun e => if e.1 = p then (e.1, s) else e) := fun {G} => by
    induction G with
    | nil => intro G' h _; cases G' with | nil => trivial | cons _ _ => exact h.elim
    | cons e G ih =>
      intro G' h ha
      cases G' with
      | nil => exact h.elim
      | cons e' G' =>
        refine ⟨?_, ?_, ih h.2.2 fun x hx => ha x (List.mem_cons_of_mem _ hx)⟩
        all_goals dsimp only
        all_goals by_cases q : e'.1 = p
        · rw [if_pos q]; exact h.1
        · rw [if_neg q]; exact h.1
        · rw [if_pos q, ha e List.mem_cons_self (h.1.trans q)]; exact hs
        · rw [if_neg q]; exact h.2.1
  exact m h ha.2
/-- what a looker leaves at the root's place -/
def LA (L : LF) : Prop := ∀ t N F G k F1 G1, L t N F G = .ok k F1 G1 → AtT G1 (plT t) k ∧ getT F1 (plT t) = some k
def LK : List Kd → List Kd → Prop
  | [], [] => True
  | k :: ks, k' :: ks' => lsr k k' = true ∧ LK ks ks'
  | _, _ => False
theorem LK.k0 : ∀ {ks ks' : List Kd}, LK ks ks' → lsr (k0 ks) (k0 ks') = true
  | [], [], _ => rfl
  | k :: ks, k' :: ks', h => h.1
  | [], _ :: _, h => h.elim
  | _ :: _, [], h => h.elim
theorem LK.k1 : ∀ {ks ks' : List Kd}, LK ks ks' → lsr (k1 ks) (k1 ks') = true
  | [], [], _ => rfl
  | [_], [_], _ => rfl
  | _ :: k :: ks, _ :: k' :: ks', h => h.2.1
  | [], _ :: _, h => h.elim
  | _ :: _, [], h => h.elim
  | [_], _ :: _ :: _, h => h.2.elim
  | _ :: _ :: _, [_], h => h.2.elim
theorem LK.deep : ∀ {ks ks' : List Kd}, LK ks ks' → (ks.any fun k => decide (4 < kdep k)) = false → (ks'.any fun k => decide (4 < kdep k)) = false
  | [], [], _, _ => rfl
  | k :: ks, k' :: ks', h, e => by
    rw [List.any_cons, Bool.or_eq_false_iff] at e ⊢
    have d := lsr_dep _ _ h.1
    have e1 : ¬ 4 < kdep k := of_decide_eq_false e.1
    exact ⟨decide_eq_false (by omega), LK.deep h.2 e.2⟩
  | [], _ :: _, h, _ => h.elim
  | _ :: _, [], h, _ => h.elim
mutual
/-- the same program but for looser written kinds -/
def LTr : Tr → Tr → Prop
  | .nd w p fr ks ps, .nd w' p' fr' ks' ps' => w = w' ∧ p = p' ∧ fr = fr' ∧ LK ks ks' ∧ LTs ps ps'
def LTs : List Tr → List Tr → Prop
  | [], [] => True
  | t :: ts, t' :: ts' => LTr t t' ∧ LTs ts ts'
  | _, _ => False
end
theorem LTr.pl {t t' : Tr} (h : LTr t t') : plT t = plT t' := by
  cases t; cases t'
  exact h.2.1
def LM (L L' : LF) : Prop := ∀ t t' N N' F F' G G', LTr t t' → NE N N' → TL F F' → TL G G' → LR (L t N F G) (L' t' N' F' G')
section
variable {L L' : LF} {t t' : Tr} {N N' : Nm} {F F' G G' : Tbl} {b b' : Int}
theorem LR.held (m : LM L L') (ht : LTr t t') (hN : NE N N') (hF : TL F F') (hG : TL G G') {w w' : Kd} (hw : lsr w w' = true) {f f' : Tbl → Tbl → RL} (c : ∀ F F' G G', TL F F' → TL G G' → LR (f F G) (f' F' G')) : LR (heldT L t w b N F G f) (heldT L' t' w' b' N' F' G' f') := by
  unfold heldT
  rw [← ht.pl]
  exact (m _ _ _ _ _ _ _ _ ht hN hF hG).bind fun k k' F F' G G' _ hF hG => LR.hold hF hG hw fun G1 G1' hG => c _ _ _ _ hF hG
theorem LR.shaped (m : LM L L') (hA : LA L) (hA' : LA L') (ht : LTr t t') (hN : NE N N') (hF : TL F F') (hG : TL G G') {s : Kd} (hs : ∀ k, hS k = hS s → lsr k s = true) (hu : s ≠ .unt) {f f' : Kd → Tbl → Tbl → RL} (c : ∀ k k' F F' G G', lsr k k' = true → TL F F' → TL G G' → LR (f k F G) (f' k' F' G')) : LR (shapedT L t s b N F G f) (shapedT L' t' s b' N' F' G' f') := by
  unfold shapedT
  rw [← ht.pl]
  have r := m _ _ _ _ _ _ _ _ ht hN hF hG
  have a := hA t N F G
  have a' := hA' t' N' F' G'
  revert r a a'
  generalize L t N F G = x
  generalize L' t' N' F' G' = x'
  intro r a a'
  cases x with
  | bad x F1 G1 => trivial
  | ok k F1 G1 =>
    cases x' with
    | bad x F2 G2 => exact r.elim
    | ok k' F2 G2 =>
      obtain ⟨hl, hF1, hG1⟩ := r
      have a := a k F1 G1 rfl
      have a' := a' k' F2 G2 rfl
      rw [← ht.pl] at a'
      show LR (if hS k = hS s then f k F1 G1 else holdT (plT t) b s F1 G1 fun F G => f s F G) (if hS k' = hS s then f' k' F2 G2 else holdT (plT t) b' s F2 G2 fun F G => f' s F G)
      by_cases h1 : hS k = hS s
      · rw [if_pos h1]
        by_cases h2 : hS k' = hS s
        · rw [if_pos h2]; exact c _ _ _ _ _ _ hl hF1 hG1
        · rw [if_neg h2]
          have hk' : k' = .unt := by
            rcases lsr_head hl with e | e
            · exact e
            · exact absurd (e.symm.trans h1) h2
          subst hk'
          unfold holdT
          rw [a'.2]
          dsimp only
          rw [if_pos (prt_unt (.inl rfl))]
          exact c _ _ _ _ _ _ (hs k h1) hF1 (hG1.right a.1 (hs k h1))
      · rw [if_neg h1]
        by_cases h2 : hS k' = hS s
        · have hk' : k' ≠ .unt := fun z => by
            subst z
            cases s <;> first | exact absurd rfl hu | (simp [hS] at h2)
          rcases lsr_head hl with e | e
          · exact absurd e hk'
          · exact absurd (e.trans h2) h1
        · rw [if_neg h2]
          exact LR.hold hF1 hG1 (lsr_refl s) fun G3 G3' hG3 => c _ _ _ _ _ _ (lsr_refl s) hF1 hG3
theorem LR.rows (m : LM L L') {w w' : Kd} (hw : lsr w w' = true) (hN : NE N N') {f f' : Tbl → Tbl → RL} (c : ∀ F F' G G', TL F F' → TL G G' → LR (f F G) (f' F' G')) : ∀ {ts ts' : List Tr} {F F' G G' : Tbl}, LTs ts ts' → TL F F' → TL G G' → LR (rowT L ts w b N F G f) (rowT L' ts' w' b' N' F' G' f')
  | [], [], F, F', G, G', _, hF, hG => c _ _ _ _ hF hG
  | t :: ts, t' :: ts', F, F', G, G', h, hF, hG => LR.held m h.1 hN hF hG hw fun F F' G G' hF hG => LR.rows m hw hN c h.2 hF hG
  | [], _ :: _, _, _, _, _, h, _, _ => h.elim
  | _ :: _, [], _, _, _, _, h, _, _ => h.elim
end
theorem LR.fin {p : Int} {r r' : RL} (h : LR r r') : LR (fin p r) (fin p r') := by
  unfold Bw.fin
  refine h.bind fun k k' F F' G G' hl hF hG => ?_
  have d := lsr_dep _ _ hl
  by_cases e : 4 < kdep k
  · rw [if_pos e]; trivial
  · rw [if_neg e, if_neg (by omega)]
    exact ⟨hl, hF.put hl, hG.put hl⟩
end Bw

/-! GG2: the looker keeps looser programs looser -/
namespace Bw
theorem shS_to : ∀ k, hS k = hS (.to .unt .unt) → lsr k (.to .unt .unt) = true := fun k h => by cases k <;> first | (simp [hS] at h; done) | (simp [lsr, lsr_unt])
theorem shS_pair : ∀ k, hS k = hS (.pair .unt .unt) → lsr k (.pair .unt .unt) = true := fun k h => by cases k <;> first | (simp [hS] at h; done) | (simp [lsr, lsr_unt])
theorem shS_row : ∀ k, hS k = hS (.row .unt) → lsr k (.row .unt) = true := fun k h => by cases k <;> first | (simp [hS] at h; done) | (simp [lsr, lsr_unt])
theorem lsr_to {a b c d : Kd} (h : lsr a c = true) (g : lsr b d = true) : lsr (.to a b) (.to c d) = true := by simp [lsr, h, g]
theorem lsr_pair {a b c d : Kd} (h : lsr a c = true) (g : lsr b d = true) : lsr (.pair a b) (.pair c d) = true := by simp [lsr, h, g]
section
variable {L L' : LF} {w : Wo} {p : Int} {fr : List W} {ks ks' : List Kd} {ps ps' : List Tr} {N N' : Nm} {F F' G G' : Tbl}
theorem LR.byW (m : LM L L') (hA : LA L) (hA' : LA L') (hk : LK ks ks') (hp : LTs ps ps') (hN : NE N N') (hF : TL F F') (hG : TL G G') : LR (byW L w p fr ks ps N F G) (byW L' w p fr ks' ps' N' F' G') := by
  have q0 := hk.k0
  have q1 := hk.k1
  cases w
  case whole => exact ⟨rfl, hF, hG⟩
  case given => exact ⟨rfl, hF, hG⟩
  case truth => exact ⟨rfl, hF, hG⟩
  case name =>
    refine ⟨?_, hF, hG⟩
    cases e : getN N (nm0 fr) with
    | none => rw [hN.2 _ e]; rfl
    | some k =>
      obtain ⟨k', e', hl⟩ := hN.1 _ _ e
      rw [e']; exact hl
  case row =>
    refine LR.rows m q0 hN (fun F F' G G' hF hG => ?_) hp hF hG
    exact ⟨q0, hF, hG⟩
  case look => trivial
  case fn => match ps, ps', hp with
    | [a], [a'], hp => exact (m _ _ _ _ _ _ _ _ hp.1 (hN.put q0) hF hG).bind fun k k' F F' G G' hl hF hG => ⟨lsr_to q0 hl, hF, hG⟩
    | [], _, _ => trivial
    | _ :: _ :: _, _, _ => trivial
  case self => match ps, ps', hp with
    | [a], [a'], hp => exact LR.held m hp.1 ((hN.put (lsr_to q0 q1)).put q0) hF hG q1 fun F F' G G' hF hG => ⟨lsr_to q0 q1, hF, hG⟩
    | [], _, _ => trivial
    | _ :: _ :: _, _, _ => trivial
  case let_ => match ps, ps', hp with
    | [a, b], [a', b'], hp => exact (m _ _ _ _ _ _ _ _ hp.1 hN hF hG).bind fun k k' F F' G G' hl hF hG => m _ _ _ _ _ _ _ _ hp.2.1 (hN.put hl) hF hG
    | [], _, _ => trivial
    | [_], _, _ => trivial
    | _ :: _ :: _ :: _, _, _ => trivial
  case if_ => match ps, ps', hp with
    | [a, b, c], [a', b', c'], hp =>
      refine LR.held m hp.1 hN hF hG rfl fun F F' G G' hF hG => (m _ _ _ _ _ _ _ _ hp.2.1 hN hF hG).bind fun k k' F F' G G' hl hF hG => (m _ _ _ _ _ _ _ _ hp.2.2.1 hN hF hG).bind fun o o' F F' G G' hl2 hF hG => ?_
      by_cases e : prt k o = none
      · rw [if_pos e, if_pos (prt_two e hl hl2), ← hp.2.1.pl, ← hp.2.2.1.pl]
        have j := jn_mono _ _ _ _ hl hl2
        exact ⟨j, hF, (hG.put j).put j⟩
      · rw [if_neg e]; trivial
    | [], _, _ => trivial
    | [_], _, _ => trivial
    | [_, _], _, _ => trivial
    | _ :: _ :: _ :: _ :: _, _, _ => trivial
  case call => match ps, ps', hp with
    | [a, b], [a', b'], hp => exact LR.shaped m hA hA' hp.1 hN hF hG shS_to (by simp) fun k k' F F' G G' hl hF hG => LR.held m hp.2.1 hN hF hG (kp_mono hl) fun F F' G G' hF hG => ⟨kp_mono hl, hF, hG⟩
    | [], _, _ => trivial
    | [_], _, _ => trivial
    | _ :: _ :: _ :: _, _, _ => trivial
  case one => match ps, ps', hp with
    | [a], [a'], hp => exact LR.shaped m hA hA' hp.1 hN hF hG shS_pair (by simp) fun k k' F F' G G' hl hF hG => ⟨kp_mono hl, hF, hG⟩
    | [], _, _ => trivial
    | _ :: _ :: _, _, _ => trivial
  case two => match ps, ps', hp with
    | [a], [a'], hp => exact LR.shaped m hA hA' hp.1 hN hF hG shS_pair (by simp) fun k k' F F' G G' hl hF hG => ⟨kp_mono hl, hF, hG⟩
    | [], _, _ => trivial
    | _ :: _ :: _, _, _ => trivial
  case size => match ps, ps', hp with
    | [a], [a'], hp => exact LR.shaped m hA hA' hp.1 hN hF hG shS_row (by simp) fun k k' F F' G G' hl hF hG => ⟨rfl, hF, hG⟩
    | [], _, _ => trivial
    | _ :: _ :: _, _, _ => trivial
  case at_ => match ps, ps', hp with
    | [a, b], [a', b'], hp => exact LR.shaped m hA hA' hp.1 hN hF hG shS_row (by simp) fun k k' F F' G G' hl hF hG => LR.held m hp.2.1 hN hF hG rfl fun F F' G G' hF hG => ⟨kp_mono hl, hF, hG⟩
    | [], _, _ => trivial
    | [_], _, _ => trivial
    | _ :: _ :: _ :: _, _, _ => trivial
  case do_ => match ps, ps', hp with
    | [a, b], [a', b'], hp => exact LR.held m hp.1 hN hF hG rfl fun F F' G G' hF hG => LR.held m hp.2.1 hN hF hG rfl fun F F' G G' hF hG => ⟨lsr_refl _, hF, hG⟩
    | [], _, _ => trivial
    | [_], _, _ => trivial
    | _ :: _ :: _ :: _, _, _ => trivial
  case pair => match ps, ps', hp with
    | [a, b], [a', b'], hp => exact (m _ _ _ _ _ _ _ _ hp.1 hN hF hG).bind fun k k' F F' G G' hl hF hG => (m _ _ _ _ _ _ _ _ hp.2.1 hN hF hG).bind fun o o' F F' G G' hl2 hF hG => ⟨lsr_pair hl hl2, hF, hG⟩
    | [], _, _ => trivial
    | [_], _, _ => trivial
    | _ :: _ :: _ :: _, _, _ => trivial
  case as_ => match ps, ps', hp with
    | [a], [a'], hp => exact LR.held m hp.1 hN hF hG q0 fun F F' G G' hF hG => ⟨q0, hF, hG⟩
    | [], _, _ => trivial
    | _ :: _ :: _, _, _ => trivial
end
end Bw

/-! GL1: written kinds put untold, walked -/
namespace Bw
open PySem (sizeLine)
section
variable {T : Nat → Option FD} {S : Sto} {Q : VQ} {X : XQ} {n : Nat} {pb : PySem.Addr} {m : Int}
end
end Bw

/-! GL2: written kinds put untold: things, kinds, programs -/
namespace Bw
open PySem (sizeLine)
section
variable {T : Nat → Option FD} {S : Sto} {Q : VQ} {X : XQ} {n : Nat} {pb : PySem.Addr} {m : Int}
end
end Bw

/-! GL3: what a looser program keeps; looser, walked -/
namespace Bw
open PySem (sizeLine)
theorem LK.len : ∀ {ks ks' : List Kd}, LK ks ks' → ks'.length = ks.length
  | [], [], _ => rfl
  | _ :: ks, _ :: ks', h => by rw [List.length_cons, List.length_cons, LK.len h.2]
  | [], _ :: _, h => h.elim
  | _ :: _, [], h => h.elim
theorem LK.dep {d : Nat} : ∀ {ks ks' : List Kd}, LK ks ks' → (∀ k ∈ ks, kdep k ≤ d) → ∀ k ∈ ks', kdep k ≤ d
  | [], [], _, _ => by simp
  | k :: ks, k' :: ks', h, hd => fun x hx => by
    rcases List.mem_cons.mp hx with rfl | hx
    · exact Nat.le_trans (lsr_dep _ _ h.1) (hd k List.mem_cons_self)
    · exact LK.dep h.2 (fun y hy => hd y (List.mem_cons_of_mem _ hy)) x hx
  | [], _ :: _, h, _ => h.elim
  | _ :: _, [], h, _ => h.elim
section
variable {T : Nat → Option FD} {S : Sto} {Q : VQ} {X : XQ} {n : Nat}
end
end Bw

/-! GL4: just as many kinds as places -/
namespace Bw
theorem pl_mem {t : Tr} : plT t ∈ plcs t := by cases t; rw [plcs]; exact List.mem_cons_self
end Bw

/-! NE1: programs of a drawn kind, without loops: what is built -/
namespace Bw
open PySem (sizeLine)
section
variable {T : Nat → Option FD} {pd : PySem.Addr} {ns : List Int} {b fl : Int} {ws : List (List Nat)}
end
end Bw

/-! NE2: any program of a drawn kind -/
namespace Bw
open PySem (sizeLine)
section
variable {T : Nat → Option FD} {pd : PySem.Addr} {ns : List Int} {b fl : Int} {ws : List (List Nat)}
end
end Bw

/-! DG1: programs by digits: cells, kinds, leaves -/
namespace Bw
open PySem (sizeLine)
mutual
/-- all written kinds are such -/
def AllK (P : Kd → Prop) : Tr → Prop
  | .nd _ _ _ ks ps => (∀ k ∈ ks, P k) ∧ AllKs P ps
def AllKs (P : Kd → Prop) : List Tr → Prop
  | [] => True
  | t :: ts => AllK P t ∧ AllKs P ts
end
theorem AllKs.app {P : Kd → Prop} : ∀ {a b : List Tr}, AllKs P a → AllKs P b → AllKs P (a ++ b)
  | [], _, _, h => h
  | _ :: _, _, h, k => ⟨h.1, h.2.app k⟩
section
variable {T : Nat → Option FD} {S : Sto} {Q : VQ} {X : XQ} {n : Nat} {pd : PySem.Addr} {ns : List Int} {b i c : Int} {ws fls : List (List Nat)} {r : List W} {P : Kd → Prop}
end
end Bw

/-! DG2: programs by digits: nodes -/
namespace Bw
open PySem (sizeLine)
theorem wAdd_nms {nms zs : Ns} {S : Sto} {Q : VQ} (hl : nms.length + zs.length ≤ 1000) (q : Q (.rl ((nms ++ zs).map W.str)) S) : wAdd true (.rl (nms.map W.str)) (.rl (zs.map W.str)) S Q := by
  have sz : 1000 ≤ sizeLine := by decide
  rw [List.map_append] at q
  exact ⟨by rw [List.length_map, List.length_map]; omega, q⟩
section
variable {T : Nat → Option FD} {pd : PySem.Addr} {ns : List Int} {b : Int} {ws fls : List (List Nat)} {P : Kd → Prop}
end
end Bw

/-! HL1: what the looker told, by each node's rule, read from its dicts -/
namespace Bw
open PySem (sizeLine)
def kdF (F : Tbl) (t : Tr) : Kd := (getT F (plT t)).getD .unt
/-- what is wanted of the last part looked at -/
def dueP (w : Wo) (ks kinds : List Kd) (own : Kd) : Kd := if w = .if_ ∧ 1 < kinds.length then own else wantP w ks kinds
mutual
def HH (F G : Tbl) : Tr → Nm → Prop
  | .nd w p fr ks ps, N => (∀ k ∈ ks, kdep k ≤ 4) ∧ getT F p = some (ownP w fr ks N (ps.map (kdF F))) ∧ (w = .if_ → prt (k1 (ps.map (kdF F))) ((ps.map (kdF F)).getD 2 .unt) = none) ∧ HHs F G w fr ks (ownP w fr ks N (ps.map (kdF F))) N [] ps
def HHs (F G : Tbl) (w : Wo) (fr : List W) (ks : List Kd) (own : Kd) (N : Nm) : List Kd → List Tr → Prop
  | _, [] => True
  | pre, t :: ts => HH F G t (namesP w fr ks N pre) ∧ getT F (plT t) = some (kdF F t) ∧ getT G (plT t) = some (dueP w ks (pre ++ [kdF F t]) own) ∧ prt (kdF F t) (dueP w ks (pre ++ [kdF F t]) own) = none ∧ HHs F G w fr ks own N (pre ++ [kdF F t]) ts
end
def PR (t : Tr) (N : Nm) (F1 G1 : Tbl) : Prop := ∀ F G, (∀ q ∈ plcs t, getT F q = getT F1 q) → (∀ q ∈ plcs t, q ≠ plT t → getT G q = getT G1 q) → HH F G t N
section
variable {w : Wo} {fr : List W} {ks : List Kd} {N : Nm} {F G F1 G1 : Tbl} {own : Kd}
end
end Bw

/-! HL2: the law's own going through the dicts -/
namespace Bw
open PySem (sizeLine)
structure HT (T : Nat → Option FD) : Prop where
  h170 : T 170 = some d170
  h171 : T 171 = some d171
  h182 : T 182 = some d182
  h184 : T 184 = some (joinFD 184)
  h185 : T 185 = some d185
  h186 : T 186 = some d186
  h187 : T 187 = some d187
  h188 : T 188 = some d188
  h189 : T 189 = some d189
  h224 : T 224 = some d224
theorem lastK_snoc {l : List Kd} {k : Kd} : lastK (l ++ [k]) = k := by unfold lastK; rw [List.getLastD_concat]
section
variable {T : Nat → Option FD} {pf pw : PySem.Addr} {F G : Tbl} {S : Sto} {Q : VQ}
end
end Bw

/-! HL3: the law of each node's rule -/
namespace Bw
open PySem (sizeLine)
theorem tW_ix1 {S : Sto} {P : VQ} {t : Tr} : wIdx (tW t) (.int 1) S P = P (.int (plT t)) S := by
  cases t; simp only [tW]; rw [shp_idx1]; rfl
section
variable {T : Nat → Option FD} {S : Sto} {Q : VQ} {X : XQ} {n : Nat}
end
end Bw

/-! ML: what the maker of k87 keeps -/
namespace Bw
def pJ (b j : Int) : Int := (b + 379 * j) % 997
structure ML (b c c' : Int) (nms : Ns) (dd ss : Nat) (t : Tr) : Prop where
  g : gdT t
  o : okTr t
  d : dT t ≤ dd
  s : szT t ≤ ss
  f : frees t nms = []
  fl : flT t
  cc : c ≤ c'
  cs : c' ≤ c + ss
  pl : ∃ js : List Int, plcs t = js.map (pJ b) ∧ JS c c' js
theorem ML.le {b c c' : Int} {nms : Ns} {d s d2 s2 : Nat} {t : Tr} (h : ML b c c' nms d s t) (hd : d ≤ d2) (hs : s ≤ s2) : ML b c c' nms d2 s2 t := ⟨h.g, h.o, Nat.le_trans h.d hd, Nat.le_trans h.s hs, h.f, h.fl, h.cc, by have := h.cs; omega, h.pl⟩
/-- the parts so far -/
structure MLs (b c c' : Int) (w : Wo) (fr : List W) (nms : Ns) (dd ss : Nat) (ts : List Tr) : Prop where
  all : ∀ j t, ts[j]? = some t → gdT t ∧ okTr t ∧ dT t ≤ dd ∧ frees t (within w fr j nms) = []
  s : szTs ts ≤ ss
  fl : flTs ts
  cc : c ≤ c'
  cs : c' ≤ c + ss
  pl : ∃ js : List Int, plcss ts = js.map (pJ b) ∧ JS c c' js
section
variable {b c c1 c2 c0 c' : Int} {w : Wo} {fr : List W} {ks : List Kd} {nms : Ns} {d s s2 e : Nat} {ts : List Tr} {t : Tr}
theorem MLs.nil : MLs b c c w fr nms d 0 [] := ⟨fun j t e => by simp at e, Nat.le_refl _, trivial, Int.le_refl _, by omega, [], rfl, List.nodup_nil, fun j h => by cases h⟩
theorem MLs.snoc (h : MLs b c c1 w fr nms d s ts) (k : ML b c1 c2 (within w fr ts.length nms) d s2 t) : MLs b c c2 w fr nms d (s + s2) (ts ++ [t]) := by
  obtain ⟨js, e1, j1⟩ := h.pl
  obtain ⟨js2, e2, j2⟩ := k.pl
  refine ⟨fun j x e => ?_, ?_, flTs_app h.fl ⟨k.fl, trivial⟩, ?_, ?_, js ++ js2, ?_, j1.app j2 h.cc k.cc⟩
  · by_cases hj : j < ts.length
    · rw [List.getElem?_append_left hj] at e; exact h.all j x e
    · rw [List.getElem?_append_right (by omega)] at e
      have : j - ts.length = 0 := by
        by_cases q : j - ts.length = 0
        · exact q
        · rw [List.getElem?_eq_none (by simp; omega)] at e; cases e
      rw [this] at e
      cases e
      have ej : j = ts.length := by omega
      subst ej
      exact ⟨k.g, k.o, k.d, k.f⟩
  · rw [szTs_app]; simp only [szTs]; have := h.s; have := k.s; omega
  · have := h.cc; have := k.cc; omega
  · have := h.cs; have := k.cs; omega
  · rw [plcss_app, e1, plcss, plcss, e2, List.append_nil, List.map_append]
theorem MLs.one (k : ML b c c2 (within w fr 0 nms) d s2 t) : MLs b c c2 w fr nms d s2 [t] := by
  have := (MLs.nil (b := b) (c := c) (w := w) (fr := fr) (nms := nms) (d := d)).snoc k
  rw [Nat.zero_add] at this
  exact this
theorem ML.node {j0 : Int} (h : MLs b c0 c' w fr nms d s ts) (hw : w ≠ .look) (hf : fr.length = nF w) (hk : ks.length = nK w) (hp : w ≠ .row → ts.length = nP w) (h4 : ts.length ≤ 4)
    (hfr : (binds w = true ∨ w = .do_) → fr = fr.map fun x => W.str (nmW x)) (hk8 : ∀ k ∈ ks, kdep k ≤ 8) (hn : w = .name → nmW (fr.headD .non) ∈ nms) (hj : c < j0) (hj2 : j0 ≤ c0) (he : c0 ≤ c + e) (he1 : 1 ≤ e) (hfl : (w = .whole ∨ w = .truth ∨ w = .given) → ∀ x ∈ fr, flatW x = true := by simp) :
    ML b c c' nms (d + 1) (s + e) (.nd w (pJ b j0) fr ks ts) := by
  obtain ⟨js, e1, j1⟩ := h.pl
  have hm : ∀ t ∈ ts, ∃ j, gdT t ∧ okTr t ∧ dT t ≤ d ∧ frees t (within w fr j nms) = [] := fun t ht => by
    obtain ⟨j, hj⟩ := List.mem_iff_getElem?.mp ht
    exact ⟨j, h.all j t hj⟩
  have hcc := h.cc
  have hcs := h.cs
  refine ⟨⟨⟨hw, hp, fun h => hfr (.inr h), hk8⟩, gdTs_of fun t ht => ?_⟩, ⟨⟨hf, hk, by omega, fun h => hfr (.inl h)⟩, okTrs_of fun t ht => ?_⟩, ?_, ?_, ?_, ⟨fr_flat hf hfr hfl, h.fl⟩, by omega, by omega, j0 :: js, ?_, j1.cons hj hj2 hcc⟩
  · obtain ⟨j, h1, _⟩ := hm t ht; exact h1
  · obtain ⟨j, _, h1, _⟩ := hm t ht; exact h1
  · show dTs ts + 1 ≤ d + 1
    have := dTs_le (ts := ts) (n := d) fun t ht => by
      obtain ⟨j, _, _, h1, _⟩ := hm t ht; exact h1
    omega
  · show szTs ts + 1 ≤ s + e
    have := h.s; omega
  · rw [frees, if_neg (fun h => h.2 (hn h.1)), freess_nil]
    · rfl
    · intro j t e
      rw [Nat.zero_add]
      exact (h.all j t e).2.2.2
  · rw [plcs, e1]; rfl
end

section
variable {b : Int}
theorem flatML {w : Wo} {v : W} {c : Int} {nms : Ns} (hw : w = .whole ∨ w = .truth ∨ w = .given) (hv : flatW v = true := by rfl) : ML b c (c + 1) nms 1 1 (.nd w (pJ b (c + 1)) [v] [] []) := by
  have := ML.node (w := w) (fr := [v]) (ks := []) (b := b) (c := c) (c0 := c + 1) (c' := c + 1) (j0 := c + 1) (d := 0) (s := 0) (e := 1) (nms := nms) MLs.nil (by rcases hw with rfl | rfl | rfl <;> simp) (by rcases hw with rfl | rfl | rfl <;> rfl) (by rcases hw with rfl | rfl | rfl <;> rfl) (by rcases hw with rfl | rfl | rfl <;> simp [nP]) (by simp) (by rcases hw with rfl | rfl | rfl <;> simp [binds]) (by simp) (by rcases hw with rfl | rfl | rfl <;> simp) (by omega) (by omega) (by omega) (by omega) (by simp [hv])
  exact this
theorem nameML {z : List Nat} {c : Int} {nms : Ns} (hz : z ∈ nms) : ML b c (c + 1) nms 1 1 (.nd .name (pJ b (c + 1)) [.str z] [] []) :=
  ML.node (w := .name) (fr := [.str z]) (ks := []) (b := b) (c := c) (c0 := c + 1) (c' := c + 1) (j0 := c + 1) (d := 0) (s := 0) (e := 1) (nms := nms) MLs.nil (by simp) rfl rfl (by simp [nP]) (by simp) (by simp [nmW]) (by simp) (fun _ => hz) (by omega) (by omega) (by omega) (by omega)

end
theorem pJ_nodup {b c c' : Int} {js : List Int} (h : JS c c' js) (hc : 0 ≤ c) (hc' : c' ≤ 900) : (js.map (pJ b)).Nodup := by
  obtain ⟨hn, hb⟩ := h
  induction js with
  | nil => exact List.nodup_nil
  | cons j js ih =>
    rw [List.nodup_cons] at hn
    rw [List.map_cons, List.nodup_cons]
    refine ⟨fun z => ?_, ih hn.2 fun i hi => hb i (List.mem_cons_of_mem _ hi)⟩
    obtain ⟨i, hi, e⟩ := List.mem_map.mp z
    have h1 := hb i (List.mem_cons_of_mem _ hi)
    have h2 := hb j List.mem_cons_self
    have : i = j := by
      unfold pJ at e
      omega
    exact hn.1 (this ▸ hi)
end Bw

/-! SF1: k87's maker: programs of any words -/
namespace Bw
open PySem (sizeLine)
abbrev DS5 (ns : List Int) (b : Int) (ws : List (List Nat)) (i c : Int) : O := dl ns b [.rl (ws.map W.str)] i c
def ASP (T : Nat → Option FD) (pd : PySem.Addr) (ns : List Int) (b : Int) (ws : List (List Nat)) (r : Nat) : Prop :=
  ∀ {nms : Ns} {i c : Int} {S : Sto} {Q : VQ} {X : XQ} {n : Nat}, r + 4 ≤ n → S pd = some (DS5 ns b ws i c) → 0 ≤ i → nms.length + 2 * r ≤ 100 →
    (∀ t i' c' (s : Nat), ML b c c' nms (max r 1) s t → c' = c + s → c' ≤ max (c + 1) (21 + 3 * r) → 0 ≤ i' → Q (tW t) (S.set pd (DS5 ns b ws i' c'))) → wF T n 237 [.ref pd, .rl (nms.map W.str), .int (r : Int)] S Q X
theorem ASP.use {T : Nat → Option FD} {pd : PySem.Addr} {ns : List Int} {b : Int} {ws : List (List Nat)} {r : Nat} {ri : Int} {nms : Ns} {nv : W} {i c : Int} {S : Sto} {Q : VQ} {X : XQ} {n : Nat} (L : ASP T pd ns b ws r) (er : ri = (r : Int)) (en : nv = .rl (nms.map W.str)) (h1 : r + 4 ≤ n) (h2 : S pd = some (DS5 ns b ws i c)) (h3 : 0 ≤ i) (h4 : nms.length + 2 * r ≤ 100)
    (q : ∀ t i' c' (s : Nat), ML b c c' nms (max r 1) s t → c' = c + s → c' ≤ max (c + 1) (21 + 3 * r) → 0 ≤ i' → Q (tW t) (S.set pd (DS5 ns b ws i' c'))) : wF T n 237 [.ref pd, nv, .int ri] S Q X := by
  subst er en
  exact L h1 h2 h3 h4 q
structure AT7 (T : Nat → Option FD) : Prop where
  h177 : T 177 = some d177
  h178 : T 178 = some d178
  h180 : T 180 = some d180
  h198 : T 198 = some d198
  h237 : T 237 = some d237
section
variable {T : Nat → Option FD} {pd : PySem.Addr} {ns : List Int} {b : Int} {ws : List (List Nat)} {S : Sto} {Q : VQ} {X : XQ} {n : Nat} {i c : Int} {r : List W} {nms : Ns}
theorem place_sf (h : T 178 = some d178) (hp : S pd = some (dl ns b r i c)) (q : Q (.int (pJ b (c + 1))) (S.set pd (dl ns b r i (c + 1)))) : wF T (n + 1) 178 [.ref pd] S Q X := by
  rw [wF_eq h, d178]
  walk_at "w"
  rw [dl3 hp]
  walk_at "w"
  rw [dlS3 hp]
  walk_at "w"
  have hp2 : (S.set pd (dl ns b r i (c + 1))) pd = some (dl ns b r i (c + 1)) := Sto.set_same
  rw [dl2 hp2]
  walk_at "w"
  rw [dl3 hp2]
  walk_at "w"
  refine ⟨.inl (.inl ⟨by omega, by omega⟩), by decide, ret0 q⟩
theorem next_sf (h : T 177 = some d177) (hp : S pd = some (dl ns b r i c)) (hi : 0 ≤ i) (q : ∀ x, 0 ≤ x → (x = 3 ∨ c ≤ 20) → Q (.int x) (S.set pd (dl ns b r (i + 1) c))) : wF T (n + 1) 177 [.ref pd] S Q X := by
  rw [wF_eq h, d177]
  walk_at "w"
  rw [dl1 hp]
  walk_at "w"
  rw [dlS1 hp]
  walk_at "w"
  have hp2 : (S.set pd (dl ns b r (i + 1) c)) pd = some (dl ns b r (i + 1) c) := Sto.set_same
  rw [dl3 hp2]
  walk_at "w"
  refine wB_dec (fun _ => ret0 (q 3 (by decide) (.inl rfl))) (fun hc20 => ?_)
  rw [dl1 hp2]
  walk_at "w"
  rw [dl0 hp2]
  walk_at "w"
  refine wB_dec (fun _ => ret0 (q 3 (by decide) (.inl rfl))) (fun hlt => ?_)
  rw [dl0 hp2]
  walk_at "w"
  rw [dl1 hp2]
  walk_at "w"
  have hlt : (i + 1).toNat < ns.length := by
    have : ¬ ((ns.length : Int) ≤ i + 1) := by simpa using hlt
    omega
  have e : (ns.map W.int)[(i + 1).toNat]? = some (.int (ns[(i + 1).toNat]?.getD 0)) := by
    rw [List.getElem?_map, List.getElem?_eq_getElem hlt]; rfl
  rw [at_int (by omega) e]
  walk_at "w"
  refine ⟨.inl (.inr ⟨by decide, by decide⟩), ?_⟩
  rw [dl1 hp2]
  walk_at "w"
  exact ⟨.inl (.inl ⟨by decide, by decide⟩), by decide, ret0 (q _ (Int.emod_nonneg _ (by decide)) (.inr (by omega)))⟩
theorem leaf_sf (h : T 180 = some d180) (h178 : T 178 = some d178) {c0 : Int} (hp : S pd = some (DS5 ns b ws i c)) (hn : nms.length ≤ 1000) (q : ∀ t, ML b c (c + 1) nms 1 1 t → Q (tW t) (S.set pd (DS5 ns b ws i (c + 1)))) : wF T (n + 2) 180 [.ref pd, .rl (nms.map W.str), .int c0] S Q X := by
  rw [wF_eq h, d180]
  walk_at "w"
  refine place_sf h178 hp ?_
  walk_at "w"
  have other : ∀ S', S' = S.set pd (DS5 ns b ws i (c + 1)) → ((0 : Int) < 4 ∧ wB (W.bl (c0 % 4 == 1)) (((0 : Int) < 4 ∧ (Int.natAbs 4).log2 < 9000) ∧ (0 : Int) < 2 ∧ Ret (W.tup [W.str [116, 114, 117, 116, 104], W.int (pJ b (c + 1)), W.bl (c0 / 4 % 2 == 0)]) S' Q)
      ((0 : Int) < 16 ∧ wB (W.bl (c0 % 16 == 3)) (((0 : Int) < 16 ∧ (Int.natAbs 16).log2 < 9000) ∧ (0 : Int) < 8 ∧ Ret (W.tup [W.str [103, 105, 118, 101, 110], W.int (pJ b (c + 1)), W.int (c0 / 16 % 8)]) S' Q)
      (((0 : Int) < 4 ∧ (Int.natAbs 4).log2 < 9000) ∧ (0 : Int) < 14 ∧ Ret (W.tup [W.str [119, 104, 111, 108, 101], W.int (pJ b (c + 1)), W.int (c0 / 4 % 14 - 3)]) S' Q))) := fun S' e => by
    subst e
    refine ⟨by decide, wB_if (fun _ => ⟨⟨by decide, by decide⟩, by decide, ret0 (q (.nd .truth _ [_] [] []) (flatML (by simp)))⟩) fun _ => ⟨by decide, wB_if (fun _ => ⟨⟨by decide, by decide⟩, by decide, ret0 (q (.nd .given _ [_] [] []) (flatML (by simp)))⟩) fun _ => ⟨⟨by decide, by decide⟩, by decide, ret0 (q (.nd .whole _ [_] [] []) (flatML (by simp)))⟩⟩⟩
  refine wB_dec (fun hl => ⟨by decide, wB_if (fun _ => ⟨⟨by decide, by decide⟩, hl, ?_⟩) fun _ => other _ rfl⟩) fun _ => other _ rfl
  have e1 := Int.emod_nonneg (c0 / 2) (show (nms.length : Int) ≠ 0 by omega)
  have e2 := Int.emod_lt_of_pos (c0 / 2) hl
  refine atS e1 e2 fun z hz => ret0 (q (.nd .name _ [.str z] [] []) (nameML hz))
theorem any_sf (E : AT7 T) (hws : ws.length = 5) : ∀ r, ASP T pd ns b ws r := by
  intro r
  induction r using Nat.strongRecOn with
  | ind r L =>
    intro nms i c S Q X n h1 h2 h3 h4 q
    obtain ⟨n, rfl⟩ : ∃ n', n = n' + 3 := ⟨n - 3, by omega⟩
    rw [wF_eq E.h237, d237]
    walk_at "w"
    refine next_sf E.h177 h2 h3 fun x hx hx20 => ?_
    have sz : 1000 ≤ sizeLine := by decide
    have hS : (S.set pd (dl ns b [.rl (ws.map W.str)] (i + 1) c)) pd = some (DS5 ns b ws (i + 1) c) := Sto.set_same
    have q2 : ∀ t i' c' (s : Nat), ML b c c' nms (max r 1) s t → c' = c + s → c' ≤ max (c + 1) (21 + 3 * r) → 0 ≤ i' → Q (tW t) ((S.set pd (dl ns b [.rl (ws.map W.str)] (i + 1) c)).set pd (DS5 ns b ws i' c')) := fun t i' c' s a1 a2 a3 a4 => by
      rw [set_set]; exact q t i' c' s a1 a2 a3 a4
    clear q
    generalize S.set pd (dl ns b [.rl (ws.map W.str)] (i + 1) c) = S0 at hS q2 ⊢
    walk_at "w"
    have leaf : wF T (n + 2) 180 [.ref pd, .rl (nms.map W.str), .int (x / 5)] S0 (dnOf Q X).rt fun x S1 => RetX x S1 X :=
      leaf_sf E.h180 E.h178 hS (by omega) fun t ht => ret0 (q2 t _ _ 1 (ht.le (by omega) (Nat.le_refl _)) rfl (by omega) (by omega))
    refine wB_dec (fun _ => ⟨⟨by decide, by decide⟩, leaf⟩) (fun hr => ⟨by decide, wB_if (fun _ => ⟨⟨by decide, by decide⟩, leaf⟩) (fun hne => ?_)⟩)
    clear leaf
    have hc20 : c ≤ 20 := by
      rcases hx20 with e | e
      · subst e; exact absurd hne (by decide)
      · exact e
    obtain ⟨r, rfl⟩ : ∃ r', r = r' + 1 := ⟨r - 1, by omega⟩
    have hr1 : 1 ≤ r := by omega
    have L : ASP T pd ns b ws r := L r (by omega)
    have er : (((r + 1 : Nat) : Int)) - 1 = (r : Int) := by omega
    refine place_sf E.h178 hS ?_
    walk_at "w"
    have hS2 : (S0.set pd (dl ns b [.rl (ws.map W.str)] (i + 1) (c + 1))) pd = some (DS5 ns b ws (i + 1) (c + 1)) := Sto.set_same
    have q : ∀ t i' c' (s : Nat), ML b c c' nms (max (r + 1) 1) s t → c' = c + s → c' ≤ 24 + 3 * r → 0 ≤ i' → Q (tW t) ((S0.set pd (dl ns b [.rl (ws.map W.str)] (i + 1) (c + 1))).set pd (DS5 ns b ws i' c')) := fun t i' c' s a1 a2 a3 a4 => by
      rw [set_set]; exact q2 t i' c' s a1 a2 (by omega) a4
    clear q2 hS
    generalize S0.set pd (dl ns b [.rl (ws.map W.str)] (i + 1) (c + 1)) = S1 at hS2 q ⊢
    have er1 : max (r + 1) 1 = max r 1 + 1 := by omega
    rw [er1] at q
    refine ⟨⟨by decide, by decide⟩, by decide, ⟨by decide, by decide⟩, ?_⟩
    rw [dlw hS2]
    walk_at "w"
    refine ⟨by decide, ?_⟩
    refine atS (Int.emod_nonneg _ (by decide)) (by rw [hws]; exact Int.emod_lt_of_pos _ (by decide)) fun z hz => ?_
    have one : ∀ {w : Wo} {fr : List W} {ks : List Kd} {t : Tr} {i' c' : Int} {s : Nat}, ML b (c + 1) c' (within w fr 0 nms) (max r 1) s t → c' = c + 1 + s → c' ≤ max (c + 1 + 1) (21 + 3 * r) → 0 ≤ i' → w ≠ .look → fr.length = nF w → ks.length = nK w → nP w = 1 → ((binds w = true ∨ w = .do_) → fr = fr.map fun x => W.str (nmW x)) → (∀ k ∈ ks, kdep k ≤ 8) → w ≠ .name → (w = .whole ∨ w = .truth ∨ w = .given → ∀ x ∈ fr, flatW x = true) → Ret (tW (.nd w (pJ b (c + 1)) fr ks [t])) (S1.set pd (DS5 ns b ws i' c')) Q := fun {w fr ks t i' c' s} ht e1 e2 hi h1 h2 h3 h4 h5 h6 h7 h8 =>
      ret0 (q _ _ _ (s + 1) (ML.node (c0 := c + 1) (j0 := c + 1) (e := 1) (MLs.one ht) h1 h2 h3 (fun _ => by rw [h4]; rfl) (by simp) h5 h6 (fun z => absurd z h7) (by omega) (by omega) (by omega) (by omega) h8) (by omega) (by omega) hi)
    walk_at "w"
    refine wB_if (fun _ => ?_) (fun n0 => wB_if (fun _ => ?_) (fun n1 => wB_if (fun _ => ?_) (fun n2 => wB_if (fun _ => ?_) (fun n3 => wB_if (fun _ => ?_) (fun n4 => wB_dec (fun h8 => ?_) (fun h8 => ?_))))))
    · -- fn
      refine ⟨⟨by decide, by decide⟩, kind_nd E.h198 (by omega) fun k hk => ?_⟩
      walk_at "w"
      refine wAdd_nms (zs := [z]) (by simp; omega) ?_
      rw [er]
      refine L.use rfl rfl (by omega) hS2 (by omega) (by simp; omega) fun t i' c' s ht e1 e2 hi => ?_
      exact one (w := .fn) (fr := [.str z]) (ks := [k]) (by simpa [within, nmW] using ht) e1 e2 hi (by simp) rfl rfl rfl (by simp [nmW]) (by simp; omega) (by simp) (by simp)
    · -- self
      rw [dlw hS2]
      walk_at "w"
      refine ⟨⟨by decide, by decide⟩, by decide, ?_⟩
      refine atS (Int.emod_nonneg _ (by decide)) (by rw [hws]; exact Int.emod_lt_of_pos _ (by decide)) fun z2 hz2 => ?_
      refine wAdd_nms (zs := [z2, z]) (by simp; omega) ?_
      rw [er]
      refine L.use rfl rfl (by omega) hS2 (by omega) (by simp; omega) fun t i' c' s ht e1 e2 hi => ?_
      walk_at "w"
      refine ⟨⟨by decide, by decide⟩, kind_nd E.h198 (by omega) fun k hk => ?_⟩
      walk_at "w"
      refine ⟨⟨by decide, by decide⟩, kind_nd E.h198 (by omega) fun k2 hk2 => ?_⟩
      exact one (w := .self) (fr := [.str z2, .str z]) (ks := [k, k2]) (by simpa [within, nmW] using ht) e1 e2 hi (by simp) rfl rfl rfl (by simp [nmW]) (by simp; omega) (by simp) (by simp)
    · -- let
      rw [er]
      refine L.use rfl rfl (by omega) hS2 (by omega) (by omega) fun t i' c' s ht e1 e2 hi => ?_
      walk_at "w"
      refine wAdd_nms (zs := [z]) (by simp; omega) ?_
      refine L.use rfl rfl (by omega) Sto.set_same hi (by simp; omega) fun t2 i2 c2 s2 ht2 e3 e4 hi2 => ?_
      rw [set_set]
      exact ret0 (q (.nd .let_ (pJ b (c + 1)) [.str z] [] [t, t2]) i2 c2 (s + s2 + 1) (ML.node (c0 := c + 1) (j0 := c + 1) (e := 1) ((MLs.one (by simpa [within] using ht)).snoc (by simpa [within, nmW] using ht2)) (by simp) rfl rfl (fun _ => rfl) (by simp) (by simp [nmW]) (by simp) (by simp) (by omega) (by omega) (by omega) (by omega) (by simp)) (by omega) (by omega) hi2)
    · -- row
      obtain ⟨mm, hmm, em⟩ : ∃ mm : Nat, mm ≤ 4 ∧ x / 65 % 5 = (mm : Int) := ⟨(x / 65 % 5).toNat, by omega, by omega⟩
      refine ⟨by decide, ?_⟩
      rw [em, if_pos (fits_of (by omega) (by omega))]
      walk_at "w"
      refine ⟨by rw [rngW_len]; omega, ?_⟩
      intro D hD
      have nD : D ≠ pd := fun z => by rw [z, hS2] at hD; cases hD
      refine compI (fun j done S' => ∃ ts i' c' s, done = ts.map tW ∧ MLs b (c + 1) c' .row [] nms (max r 1) s ts ∧ c' = c + 1 + s ∧ c' ≤ 20 + 3 * r + j ∧ ts.length = j ∧ 0 ≤ i' ∧ S' = (S1.set pd (DS5 ns b ws i' c')).set D .hid) (done := []) 0 ⟨[], i + 1, c + 1, 0, rfl, MLs.nil, by omega, by omega, rfl, by omega, by rw [set_self hS2]⟩ (fun _ _ _ _ _ => trivial) ?_ ?_
      · rintro j w0 done S' R hj ⟨ts, i', c', s, rfl, hts, e1, e2, hlen, hi', rfl⟩ hn2
        obtain ⟨hj2, rfl⟩ := rng_get0 hj
        rw [Nat.zero_add] at hlen hn2 e2
        walk_at "w"
        rw [er]
        refine L.use rfl rfl (by omega) (by rw [Sto.set_ne (Ne.symm nD)]; exact Sto.set_same) hi' (by omega) fun t i2 c2 s2 ht e3 e4 hi2 => ?_
        rw [set_comm nD, set_set]
        refine hn2 _ _ ⟨ts ++ [t], i2, c2, s + s2, by simp, hts.snoc (by simpa [within] using ht), by omega, by omega, by simp [hlen], hi2, rfl⟩
      · rintro more S' ⟨ts, i', c', s, e, hts, e1, e2, hlen, hi', rfl⟩
        rw [List.nil_append] at e
        subst e
        rw [Nat.zero_add, rngW_len] at hlen e2
        have hD2 : (S1.set pd (DS5 ns b ws i' c')) D = none := by rw [Sto.set_ne nD]; exact hD
        walk_at "w"
        rw [set_del hD2, ← tWs_map]
        refine ⟨⟨by decide, by decide⟩, kind_nd E.h198 (by omega) fun k hk => ?_⟩
        walk_at "w"
        exact ret0 (q (.nd .row (pJ b (c + 1)) [] [k] ts) _ _ (s + 1) (ML.node (w := .row) (fr := []) (ks := [k]) (c := c) (c0 := c + 1) (j0 := c + 1) (e := 1) hts (by simp) rfl rfl (fun h => absurd rfl h) (by omega) (by simp [binds]) (by simp; omega) (by simp) (by omega) (by omega) (by omega) (by omega)) (by omega) (by omega) hi')
    · -- as
      refine kind_nd E.h198 (by omega) fun k hk => ?_
      walk_at "w"
      rw [er]
      refine L.use rfl rfl (by omega) hS2 (by omega) (by omega) fun t i' c' s ht e1 e2 hi => ?_
      exact one (w := .as_) (fr := []) (ks := [k]) (by simpa [within] using ht) e1 e2 hi (by simp) rfl rfl rfl (by simp [binds]) (by simp; omega) (by simp) (by simp)
    · -- size, one, two
      have go : ∀ w : Wo, (w = .size ∨ w = .one ∨ w = .two) → wF T (n + 2) 237 [.ref pd, .rl (nms.map W.str), .int (((r + 1 : Nat) : Int) - 1)] S1 (fun w1 S1 => Ret (.tup [.str (woS w), .int (pJ b (c + 1)), w1]) S1 Q) fun x S1 => RetX x S1 X := fun w hw => by
        rw [er]
        refine L.use rfl rfl (by omega) hS2 (by omega) (by omega) fun t i' c' s ht e1 e2 hi => ?_
        rcases hw with rfl | rfl | rfl
        · exact one (w := .size) (fr := []) (ks := []) (by simpa [within] using ht) e1 e2 hi (by simp) rfl rfl rfl (by simp [binds]) (by simp) (by simp) (by simp)
        · exact one (w := .one) (fr := []) (ks := []) (by simpa [within] using ht) e1 e2 hi (by simp) rfl rfl rfl (by simp [binds]) (by simp) (by simp) (by simp)
        · exact one (w := .two) (fr := []) (ks := []) (by simpa [within] using ht) e1 e2 hi (by simp) rfl rfl rfl (by simp [binds]) (by simp) (by simp) (by simp)
      have n0 : ¬ x / 5 % 13 = 0 := by simpa using n0
      have n1 : ¬ x / 5 % 13 = 1 := by simpa using n1
      have n2 : ¬ x / 5 % 13 = 2 := by simpa using n2
      have n3 : ¬ x / 5 % 13 = 3 := by simpa using n3
      have n4 : ¬ x / 5 % 13 = 4 := by simpa using n4
      rcases (show x / 5 % 13 - 5 = 0 ∨ x / 5 % 13 - 5 = 1 ∨ x / 5 % 13 - 5 = 2 by omega) with e | e | e <;> rw [e]
      · rw [at0]; exact go .size (by simp)
      · rw [at1]; exact go .one (by simp)
      · rw [at2]; exact go .two (by simp)
    · rw [er]
      refine L.use rfl rfl (by omega) hS2 (by omega) (by omega) fun t i1 c1 s ht e1 e2 hi => ?_
      walk_at "w"
      refine L.use rfl rfl (by omega) Sto.set_same hi (by omega) fun t2 i2 c2 s2 ht2 e3 e4 hi2 => ?_
      rw [set_set]
      walk_at "w"
      have two : ∀ {w : Wo} {fr : List W}, fr.length = nF w → 0 = nK w → nP w = 2 → w ≠ .look → w ≠ .name → ((binds w = true ∨ w = .do_) → fr = fr.map fun x => W.str (nmW x)) → (∀ j, within w fr j nms = nms) → (∀ x ∈ fr, flatW x = true) → Ret (tW (.nd w (pJ b (c + 1)) fr [] [t, t2])) (S1.set pd (DS5 ns b ws i2 c2)) Q := fun {w fr} a1 a2 a3 a4 a5 a6 a7 a8 => ret0 (q _ i2 c2 (s + s2 + 1) (ML.node (c0 := c + 1) (j0 := c + 1) (e := 1) ((MLs.one (by rw [a7]; exact ht)).snoc (by rw [a7]; exact ht2)) a4 a1 a2 (fun _ => by rw [a3]; rfl) (by simp) a6 (by simp) (fun z => absurd z a5) (by omega) (by omega) (by omega) (by omega) (fun _ => a8)) (by omega) (by omega) hi2)
      refine wB_if (fun _ => ?_) (fun n12 => wB_if (fun _ => ?_) (fun n13 => ?_))
      · refine L.use rfl rfl (by omega) Sto.set_same hi2 (by omega) fun t3 i3 c3 s3 ht3 e5 e6 hi3 => ?_
        rw [set_set]
        exact ret0 (q (.nd .if_ (pJ b (c + 1)) [] [] [t, t2, t3]) i3 c3 (s + s2 + s3 + 1) (ML.node (c0 := c + 1) (j0 := c + 1) (e := 1) (((MLs.one (by simpa [within] using ht)).snoc (by simpa [within] using ht2)).snoc (by simpa [within] using ht3)) (by simp) rfl rfl (fun _ => rfl) (by simp) (by simp [binds]) (by simp) (by simp) (by omega) (by omega) (by omega) (by omega) (by simp)) (by omega) (by omega) hi3)
      · refine ⟨by decide, idx_str4 (by omega) (by have : ([43, 45, 42, 60, 61] : List Nat).length = 5 := rfl
                                                   omega) (by decide) fun z _ => ?_⟩
        exact two (w := .do_) (fr := [.str [z]]) rfl rfl rfl (by simp) (by simp) (by simp [nmW]) (fun _ => rfl) (by simp [flatW])
      · refine ⟨by decide, ?_⟩
        rcases (show (x / 5 % 13 + x / 65) % 4 = 0 ∨ (x / 5 % 13 + x / 65) % 4 = 1 ∨ (x / 5 % 13 + x / 65) % 4 = 2 ∨ (x / 5 % 13 + x / 65) % 4 = 3 by omega) with e | e | e | e <;> rw [e]
        · rw [at0]; exact two (w := .call) (fr := []) rfl rfl rfl (by simp) (by simp) (by simp [binds]) (fun _ => rfl) (by simp)
        · rw [at1]; exact two (w := .call) (fr := []) rfl rfl rfl (by simp) (by simp) (by simp [binds]) (fun _ => rfl) (by simp)
        · rw [at2]; exact two (w := .at_) (fr := []) rfl rfl rfl (by simp) (by simp) (by simp [binds]) (fun _ => rfl) (by simp)
        · rw [at3]; exact two (w := .pair) (fr := []) rfl rfl rfl (by simp) (by simp) (by simp [binds]) (fun _ => rfl) (by simp)
end
end Bw

/-! SF2: programs made softer -/
namespace Bw
open PySem (sizeLine)
abbrev CV := List (Int × Int)
def getC : CV → Int → Option Int
  | [], _ => none
  | (p, m) :: C, q => if p = q then some m else getC C q
mutual
/-- the node at each place put into an as of ? -/
def cov (C : CV) : Tr → Tr
  | .nd w p fr ks ps => match getC C p with
    | some m => .nd .as_ m [] [.unt] [.nd w p fr ks (covs C ps)]
    | none => .nd w p fr ks (covs C ps)
def covs (C : CV) : List Tr → List Tr
  | [] => []
  | t :: ts => cov C t :: covs C ts
end
/-- the node itself bare -/
def unc (C : CV) : Tr → Tr
  | .nd w p fr ks ps => .nd w p fr ks (covs C ps)
theorem cov_some {C : CV} {t : Tr} {m : Int} (h : getC C (plT t) = some m) : cov C t = .nd .as_ m [] [.unt] [unc C t] := by
  cases t with | nd w p fr ks ps => rw [cov]; rw [show getC C p = some m from h]; rfl
theorem cov_none {C : CV} {t : Tr} (h : getC C (plT t) = none) : cov C t = unc C t := by
  cases t with | nd w p fr ks ps => rw [cov]; rw [show getC C p = none from h]; rfl
theorem covs_map {C : CV} : ∀ {ts : List Tr}, covs C ts = ts.map (cov C)
  | [] => rfl
  | t :: ts => by rw [covs, covs_map]; rfl
theorem covs_len {C : CV} {ts : List Tr} : (covs C ts).length = ts.length := by rw [covs_map, List.length_map]
theorem cov_nil : ∀ (m : Nat) {t : Tr}, dT t ≤ m → cov [] t = t
  | 0, t, h => absurd h (by cases t; simp [dT])
  | m + 1, .nd w p fr ks ps, h => by
    rw [cov]
    show Tr.nd w p fr ks (covs [] ps) = _
    have : ∀ ts : List Tr, dTs ts ≤ m → covs [] ts = ts := fun ts => by
      induction ts with
      | nil => intro _; rfl
      | cons t ts ih => intro h; simp only [dTs] at h; rw [covs, cov_nil m (by omega), ih (by omega)]
    rw [this ps (by simp only [dT] at h; omega)]
/-- what stays -/
structure CVK (t u : Tr) : Prop where
  g : gdT u
  o : okTr u
  fl : flT u
  d : dT u ≤ 2 * dT t
  s : szT u ≤ 2 * szT t
  f : ∀ ns, frees u ns = frees t ns
theorem cov_keep {C : CV} : ∀ (m : Nat) {t : Tr}, dT t ≤ m → gdT t → okTr t → flT t → CVK t (cov C t)
  | 0, t, h, _, _, _ => absurd h (by cases t; simp [dT])
  | m + 1, .nd w p fr ks ps, h, hg, ho, hf => by
    simp only [dT] at h
    have all : ∀ {ps : List Tr}, dTs ps ≤ m → gdTs ps → okTrs ps → flTs ps → gdTs (covs C ps) ∧ okTrs (covs C ps) ∧ flTs (covs C ps) ∧ dTs (covs C ps) ≤ 2 * dTs ps ∧ szTs (covs C ps) ≤ 2 * szTs ps ∧ ∀ (w : Wo) (fr : List W) (i : Nat) ns, freess w fr i (covs C ps) ns = freess w fr i ps ns := fun {ps} => by
      induction ps with
      | nil => intro _ _ _ _; exact ⟨trivial, trivial, trivial, Nat.le_refl _, Nat.le_refl _, fun _ _ _ _ => rfl⟩
      | cons t ts ih =>
        intro hd hg ho hf
        simp only [dTs] at hd
        have k := @cov_keep C m t (by omega) hg.1 ho.1 hf.1
        obtain ⟨a2, a3, a4, a5, a6, a8⟩ := ih (by omega) hg.2 ho.2 hf.2
        have kd := k.d
        have ks := k.s
        rw [covs]
        exact ⟨⟨k.g, a2⟩, ⟨k.o, a3⟩, ⟨k.fl, a4⟩, by simp only [dTs]; omega, by simp only [szTs]; omega, fun w fr i ns => by rw [freess, freess, k.f, a8]⟩
    obtain ⟨a2, a3, a4, a5, a6, a8⟩ := all (by omega) hg.2 ho.2 hf.2
    have u : gdT (.nd w p fr ks (covs C ps)) ∧ okTr (.nd w p fr ks (covs C ps)) ∧ flT (.nd w p fr ks (covs C ps)) ∧ dT (.nd w p fr ks (covs C ps)) ≤ 2 * dTs ps + 1 ∧ szT (.nd w p fr ks (covs C ps)) ≤ 2 * szTs ps + 1 ∧ ∀ ns, frees (.nd w p fr ks (covs C ps)) ns = frees (.nd w p fr ks ps) ns :=
      ⟨⟨⟨hg.1.1, fun e => by rw [covs_len]; exact hg.1.2.1 e, hg.1.2.2⟩, a2⟩, ⟨⟨ho.1.1, ho.1.2.1, by rw [covs_len]; exact ho.1.2.2.1, ho.1.2.2.2⟩, a3⟩, ⟨hf.1, a4⟩, by simp only [dT]; omega, by simp only [szT]; omega, fun ns => by rw [frees, frees, a8]⟩
    obtain ⟨u1, u2, u3, u4, u5, u6⟩ := u
    cases e : getC C p with
    | none =>
      rw [show cov C (.nd w p fr ks ps) = .nd w p fr ks (covs C ps) from cov_none e]
      exact ⟨u1, u2, u3, by simp only [dT] at u4 ⊢; omega, by simp only [szT] at u5 ⊢; omega, u6⟩
    | some q =>
      rw [show cov C (.nd w p fr ks ps) = .nd .as_ q [] [.unt] [.nd w p fr ks (covs C ps)] from cov_some e]
      exact ⟨⟨⟨by simp, fun _ => rfl, by simp, by simp [kdep]⟩, u1, trivial⟩, ⟨⟨rfl, rfl, by simp, by simp [binds]⟩, u2, trivial⟩, ⟨by simp, u3, trivial⟩, by simp only [dT, dTs] at u4 ⊢; omega, by simp only [szT, szTs] at u5 ⊢; omega, fun ns => by rw [frees, if_neg (by simp)]; simp only [freess, within, List.append_nil, List.nil_append]; exact u6 ns⟩
/-! ### where kinds part -/
theorem hold1_part {p b q b' : Int} {k w k' w' : Kd} (h : hold1 p k b w = some (.part q k' b' w')) : q = p ∧ k ≠ .unt := by
  unfold hold1 at h
  split at h
  · cases h
  · rename_i e
    cases h
    exact ⟨rfl, fun z => e (prt_unt (.inl z))⟩
theorem held_part {w : Wo} {p q q' b' : Int} {ks : List Kd} {ps : List Tr} {pre : List Kd} {k k' w' : Kd} (h : heldP w p ks ps q (pre ++ [k]) = some (.part q' k' b' w')) : q' = q ∧ k ≠ .unt := by
  unfold heldP at h
  split at h
  · split at h
    · cases h
    · rename_i a b c e
      obtain ⟨h1, h2⟩ := hold1_part h
      have : c = k := by
        have e2 := congrArg List.getLast? e
        simpa using e2.symm
      exact ⟨h1, this ▸ h2⟩
    · have := hold1_part h
      rwa [lastK_snoc] at this
  · have := hold1_part h
    rwa [lastK_snoc] at this
theorem held_as {p q : Int} {ps : List Tr} {k : Kd} : heldP .as_ p [.unt] ps q [k] = none := by
  have : heldP .as_ p [.unt] ps q [k] = hold1 q k p .unt := rfl
  rw [this]
  unfold hold1
  rw [if_pos (prt_unt (.inr rfl))]
theorem bind_part {r : LPr} {f : Kd → LPr} {q b : Int} {k w : Kd} (h : r.bind f = .part q k b w) : r = .part q k b w ∨ ∃ x, r = .ok x ∧ f x = .part q k b w := by
  cases r with
  | ok x => exact .inr ⟨x, rfl, h⟩
  | deep p => cases h
  | part p k' b' w' => exact .inl h
theorem andP_part {o : Option LPr} {r : LPr} {q b : Int} {k w : Kd} (h : andP o r = .part q k b w) : o = some (.part q k b w) ∨ r = .part q k b w := by
  cases o with
  | none => exact .inr h
  | some x => exact .inl (by rw [show x = .part q k b w from h])
theorem fin_part {p q b : Int} {r : LPr} {k w : Kd} (h : finP p r = .part q k b w) : r = .part q k b w := by
  rcases bind_part h with h | ⟨x, _, h⟩
  · exact h
  · split at h <;> cases h
theorem fin_okk {p : Int} {r : LPr} {k : Kd} (h : finP p r = .ok k) : r = .ok k := by
  cases r with
  | ok x =>
    have h : (if 4 < kdep x then LPr.deep p else .ok x) = .ok k := h
    split at h
    · cases h
    · exact h
  | deep p => cases h
  | part p k b w => cases h
/-- an as of ? tells ? -/
theorem as_unt {n : Nat} {m : Int} {u : Tr} {N : Nm} {k : Kd} (h : lookP n (.nd .as_ m [] [.unt] [u]) N = .ok k) : k = .unt := by
  cases n with
  | zero => cases h
  | succ n =>
    rw [lookP] at h
    split at h
    · cases h
    · have h := fin_okk h
      rw [comeP] at h
      cases hr : lookP n u (namesP .as_ [] [.unt] N []) with
      | deep p => rw [hr] at h; cases h
      | part p k b w => rw [hr] at h; cases h
      | ok x =>
        rw [hr] at h
        have h : andP (heldP .as_ m [.unt] [u] (plT u) [x]) (.ok .unt) = .ok k := h
        rw [held_as] at h
        cases h; rfl
theorem part_at {C : CV} : ∀ (n : Nat) {t : Tr} {N : Nm} {q b : Int} {k w : Kd}, (lookP n (cov C t) N = .part q k b w → q ∈ plcs t ∧ getC C q = none) ∧ (lookP n (unc C t) N = .part q k b w → q ∈ plcs t ∧ getC C q = none) := by
  intro n
  induction n with
  | zero => intro t N q b k w; exact ⟨(fun h => by cases h), (fun h => by cases h)⟩
  | succ n ih =>
    have hu : ∀ {t : Tr} {N : Nm} {q b : Int} {k w : Kd}, lookP (n + 1) (unc C t) N = .part q k b w → q ∈ plcs t ∧ getC C q = none := by
      intro t N q b k w h
      cases t with
      | nd wd p fr ks ps =>
      rw [unc, lookP] at h
      split at h
      · cases h
      have h := fin_part h
      have go : ∀ (ts : List Tr) (kinds : List Kd), comeP (lookP n) wd p fr ks (covs C ps) N (covs C ts) kinds = .part q k b w → q ∈ plcss ts ∧ getC C q = none := fun ts => by
        induction ts with
        | nil => intro kinds h; cases h
        | cons t ts ih2 =>
          intro kinds h
          rw [covs, comeP] at h
          rw [plcss]
          rcases bind_part h with h | ⟨x, hx, h⟩
          · have := ih.1 h
            exact ⟨List.mem_append.mpr (.inl this.1), this.2⟩
          · rcases andP_part h with h | h
            · obtain ⟨e1, e2⟩ := held_part h
              cases ec : getC C (plT t) with
              | some m =>
                rw [cov_some ec] at hx
                exact absurd (as_unt hx) e2
              | none =>
                have e3 : plT (cov C t) = plT t := by rw [cov_none ec]; cases t; rfl
                rw [e1, e3]
                exact ⟨List.mem_append.mpr (.inl pl_mem), ec⟩
            · have := ih2 _ h
              exact ⟨List.mem_append.mpr (.inr this.1), this.2⟩
      have := go ps [] h
      exact ⟨by rw [plcs]; exact List.mem_cons_of_mem _ this.1, this.2⟩
    intro t N q b k w
    refine ⟨fun h => ?_, hu⟩
    cases ec : getC C (plT t) with
    | none => rw [cov_none ec] at h; exact hu h
    | some m =>
      rw [cov_some ec, lookP] at h
      split at h
      · cases h
      have h := fin_part h
      rw [comeP] at h
      rcases bind_part h with h | ⟨x, hx, h⟩
      · exact ih.2 h
      · rcases andP_part h with h | h
        · rw [show ([] : List Kd) ++ [x] = [x] from rfl, held_as] at h; cases h
        · cases h
/-! ### put round a node -/
mutual
def cvr (q m : Int) : Tr → Tr
  | .nd w p fr ks ps => if p = q then .nd .as_ m [] [.unt] [.nd w p fr ks ps] else .nd w p fr ks (cvrs q m ps)
def cvrs (q m : Int) : List Tr → List Tr
  | [] => []
  | t :: ts => cvr q m t :: cvrs q m ts
end
mutual
def cvl (q m : Int) : Tr → Tr
  | .nd w p fr ks ps => if p = q then .nd .as_ m [] [.unt] [.nd w p fr ks (cvls q m ps)] else .nd w p fr ks (cvls q m ps)
def cvls (q m : Int) : List Tr → List Tr
  | [] => []
  | t :: ts => cvl q m t :: cvls q m ts
end
theorem cvls_map {q m : Int} : ∀ {ts : List Tr}, cvls q m ts = ts.map (cvl q m)
  | [] => rfl
  | t :: ts => by rw [cvls, cvls_map]; rfl
theorem cvrs_map {q m : Int} : ∀ {ts : List Tr}, cvrs q m ts = ts.map (cvr q m)
  | [] => rfl
  | t :: ts => by rw [cvrs, cvrs_map]; rfl
/-- no new place is q -/
def NV7 (C : CV) (q : Int) : Prop := ∀ p m, getC C p = some m → m ≠ q
theorem cov_skip {C : CV} {q m : Int} : ∀ (n : Nat) {t : Tr}, dT t ≤ n → q ∉ plcs t → cov ((q, m) :: C) t = cov C t
  | 0, t, h, _ => absurd h (by cases t; simp [dT])
  | n + 1, .nd w p fr ks ps, h, hq => by
    simp only [dT] at h
    rw [plcs, List.mem_cons] at hq
    have hp : ¬ q = p := fun z => hq (.inl z)
    have : ∀ ts : List Tr, dTs ts ≤ n → q ∉ plcss ts → covs ((q, m) :: C) ts = covs C ts := fun ts => by
      induction ts with
      | nil => intro _ _; rfl
      | cons t ts ih =>
        intro h hq
        simp only [dTs] at h
        rw [plcss, List.mem_append] at hq
        rw [covs, covs, cov_skip n (by omega) (fun z => hq (.inl z)), ih (by omega) (fun z => hq (.inr z))]
    rw [cov, cov, this ps (by omega) fun z => hq (.inr z), show getC ((q, m) :: C) p = getC C p from by show (if q = p then some m else getC C p) = _; rw [if_neg hp]]
theorem cvr_cov {C : CV} {q m : Int} (hC : getC C q = none) (hv : NV7 C q) : ∀ (n : Nat) {t : Tr}, dT t ≤ n → (plcs t).Nodup → cvr q m (cov C t) = cov ((q, m) :: C) t ∧ cvl q m (cov C t) = cov ((q, m) :: C) t
  | 0, t, h, _ => absurd h (by cases t; simp [dT])
  | n + 1, .nd w p fr ks ps, h, hn => by
    simp only [dT] at h
    rw [plcs, List.nodup_cons] at hn
    have all : ∀ ts : List Tr, dTs ts ≤ n → (plcss ts).Nodup → cvrs q m (covs C ts) = covs ((q, m) :: C) ts ∧ cvls q m (covs C ts) = covs ((q, m) :: C) ts := fun ts => by
      induction ts with
      | nil => intro _ _; exact ⟨rfl, rfl⟩
      | cons t ts ih =>
        intro h hn
        simp only [dTs] at h
        rw [plcss] at hn
        obtain ⟨n1, n2, _⟩ := List.nodup_append.mp hn
        obtain ⟨a1, a2⟩ := cvr_cov hC hv n (t := t) (by omega) n1
        obtain ⟨b1, b2⟩ := ih (by omega) n2
        rw [covs, covs, cvrs, cvls, a1, a2, b1, b2]
        exact ⟨rfl, rfl⟩
    obtain ⟨a1, a2⟩ := all ps (by omega) hn.2
    by_cases hp : p = q
    · have hs : covs ((q, m) :: C) ps = covs C ps := by
        have : ∀ ts : List Tr, dTs ts ≤ n → q ∉ plcss ts → covs ((q, m) :: C) ts = covs C ts := fun ts => by
          induction ts with
          | nil => intro _ _; rfl
          | cons t ts ih =>
            intro h hq
            simp only [dTs] at h
            rw [plcss, List.mem_append] at hq
            rw [covs, covs, cov_skip n (by omega) (fun z => hq (.inl z)), ih (by omega) (fun z => hq (.inr z))]
        exact this ps (by omega) (by rw [← hp]; exact hn.1)
      have e1 : cov C (.nd w p fr ks ps) = .nd w p fr ks (covs C ps) := cov_none (by rw [show plT (.nd w p fr ks ps) = p from rfl, hp]; exact hC)
      have e2 : cov ((q, m) :: C) (.nd w p fr ks ps) = .nd .as_ m [] [.unt] [.nd w p fr ks (covs ((q, m) :: C) ps)] := cov_some (by rw [show plT (.nd w p fr ks ps) = p from rfl, hp]; show (if q = q then some m else _) = _; rw [if_pos rfl])
      rw [e1, e2, hs, cvr, if_pos hp, cvl, if_pos hp, a2, hs]
      exact ⟨rfl, rfl⟩
    · have eg : getC ((q, m) :: C) p = getC C p := by show (if q = p then some m else getC C p) = _; rw [if_neg (fun z => hp z.symm)]
      cases ec : getC C p with
      | none =>
        have e1 : cov C (.nd w p fr ks ps) = .nd w p fr ks (covs C ps) := cov_none ec
        have e2 : cov ((q, m) :: C) (.nd w p fr ks ps) = .nd w p fr ks (covs ((q, m) :: C) ps) := cov_none (by show getC ((q, m) :: C) p = none; rw [eg]; exact ec)
        rw [e1, e2, cvr, if_neg hp, cvl, if_neg hp, a1, a2]
        exact ⟨rfl, rfl⟩
      | some x =>
        have e1 : cov C (.nd w p fr ks ps) = .nd .as_ x [] [.unt] [.nd w p fr ks (covs C ps)] := cov_some ec
        have e2 : cov ((q, m) :: C) (.nd w p fr ks ps) = .nd .as_ x [] [.unt] [.nd w p fr ks (covs ((q, m) :: C) ps)] := cov_some (by show getC ((q, m) :: C) p = some x; rw [eg]; exact ec)
        have hx : ¬ x = q := hv p x ec
        rw [e1, e2, cvr, if_neg hx, cvl, if_neg hx]
        simp only [cvrs, cvls]
        rw [cvr, if_neg hp, cvl, if_neg hp, a1, a2]
        exact ⟨rfl, rfl⟩
theorem plcs_cov {C : CV} : ∀ (n : Nat) {t : Tr}, dT t ≤ n → ∀ q ∈ plcs t, q ∈ plcs (cov C t)
  | 0, t, h => absurd h (by cases t; simp [dT])
  | n + 1, .nd w p fr ks ps, h => by
    simp only [dT] at h
    have all : ∀ ts : List Tr, dTs ts ≤ n → ∀ q ∈ plcss ts, q ∈ plcss (covs C ts) := fun ts => by
      induction ts with
      | nil => intro _ q hq; exact hq
      | cons t ts ih =>
        intro h q hq
        simp only [dTs] at h
        rw [plcss, List.mem_append] at hq
        rw [covs, plcss, List.mem_append]
        exact hq.imp (plcs_cov n (by omega) q) (ih (by omega) q)
    intro q hq
    have hu : q ∈ plcs (.nd w p fr ks (covs C ps)) := by
      rw [plcs, List.mem_cons] at hq ⊢
      exact hq.imp_right (all ps (by omega) q)
    cases ec : getC C p with
    | none => rw [show cov C (.nd w p fr ks ps) = .nd w p fr ks (covs C ps) from cov_none ec]; exact hu
    | some x =>
      rw [show cov C (.nd w p fr ks ps) = .nd .as_ x [] [.unt] [.nd w p fr ks (covs C ps)] from cov_some ec, plcs]
      simp only [plcss, List.append_nil]
      exact List.mem_cons_of_mem _ hu
theorem maxL_ge : ∀ {l : List Int} {x : Int}, x ∈ l → x ≤ maxL l
  | [a], x, h => by
    have : x = a := by simpa using h
    subst this; exact Int.le_refl _
  | a :: b :: r, x, h => by
    show x ≤ max a (maxL (b :: r))
    rcases List.mem_cons.mp h with rfl | h
    · omega
    · have := maxL_ge h; omega
theorem nodup_len : ∀ {a b : List Int}, a.Nodup → (∀ x ∈ a, x ∈ b) → a.length ≤ b.length
  | [], _, _, _ => Nat.zero_le _
  | x :: a, b, hn, h => by
    rw [List.nodup_cons] at hn
    have hx := h x List.mem_cons_self
    have := @nodup_len a (b.erase x) hn.2 fun y hy => (List.mem_erase_of_ne (fun z => hn.1 (by rw [← z]; exact hy))).mpr (h y (List.mem_cons_of_mem _ hy))
    rw [List.length_erase_of_mem hx] at this
    have hp := List.length_pos_of_mem hx
    rw [List.length_cons]
    omega
end Bw

/-! SF3: refusals told, nodes covered: walked -/
namespace Bw
open PySem (sizeLine)
theorem Xdeep_of {t : Tr} {p : Int} (g : gdT t) (hf : frees t [] = []) (h : lookP 12 t [] = .deep p) : BadX t (xDeep p) (.tup [.str [100, 101, 101, 112], .int p]) := by
  obtain ⟨F, G, e⟩ := ndeep g h
  exact .deep hf e
theorem Xpart_of {t : Tr} {p b : Int} {k w : Kd} (g : gdT t) (hf : frees t [] = []) (h : lookP 12 t [] = .part p k b w) : BadX t (xPart p k b w) (.tup [.int p, kW k, .int b, kW w, woW (prt k w)]) ∧ kdep k ≤ 4 ∧ kdep w ≤ 4 := by
  have r := @look_P 12 t [] [] [] g
  have o := look_okL 12 t []
  rw [h] at r o
  revert r
  generalize hN : lookN 12 t [] [] [] = a
  cases a with
  | ok k F G => intro r; exact r.elim
  | bad x F G => intro r; obtain rfl : x = xPart p k b w := r.1; exact ⟨.part hf hN o, o⟩
section
variable {T : Nat → Option FD} {S : Sto} {Q : VQ} {X : XQ} {n : Nat}
theorem ref234 (R : KR T) (h : T 234 = some d234) {t : Tr} (c : GT2 t) {e : Nat} (he : 66 ≤ e)
    (q : if frees t [] = [] then (match lookP 12 t [] with
      | .ok _ => Q .non S
      | .deep p => X (xDeep p) S
      | .part p k b w => Q (.tup [.int p, kW k, .int b, kW w, woW (prt k w)]) S)
      else ∀ e r, frees t [] = e :: r → X (xName e.1) S) : wF T e 234 [tW t] S Q X := by
  obtain ⟨e, rfl⟩ : ∃ e', e = e' + 1 := ⟨e - 1, by omega⟩
  rw [wF_eq h, d234]
  walk_at "w"
  cases hf : frees t [] with
  | cons f r =>
    rw [if_neg (by rw [hf]; simp)] at q
    have q := q _ _ hf
    refine looked_badK R c (.name hf) (by omega) ?_
    refine Eq.mpr (if_neg (by simp [xName])) ?_
    exact ⟨by simp [xName], retX0 q⟩
  | nil =>
    rw [if_pos hf] at q
    cases hP : lookP 12 t [] with
    | ok k =>
      rw [hP] at q
      obtain ⟨F, G, hN⟩ := nok_kind c.g hP
      refine looked_ok (m := 12) R.E R.h141 R.h140 R.h87 R.h139 R.h157 R.h167 c.d (by omega) c.g c.o (by have := c.s; omega) (by omega) hf ?_
      rw [hN]
      intro pf pw h1 h2 h3
      walk_at "w"
      exact retG (sub_up0 h1 h2 h3) q
    | deep p =>
      rw [hP] at q
      refine looked_badK R c (Xdeep_of c.g hf hP) (by omega) ?_
      refine Eq.mpr (if_neg (by simp [xDeep])) ?_
      exact ⟨by simp [xDeep], retX0 q⟩
    | part p k b w =>
      rw [hP] at q
      refine looked_badK R c (Xpart_of c.g hf hP).1 (by omega) ?_
      refine Eq.mpr (if_pos (by simp [xPart])) ?_
      dsimp only [xPart]
      walk_at "w"
      rw [fldX rfl, fldX rfl, fldX rfl, fldX rfl, fldX rfl]
      exact ret0 q
theorem covered_ok (h87 : T 87 = some d87) (h88 : T 88 = some d88) (h : T 235 = some d235) {q m : Int} : ∀ (d : Nat) {t : Tr} {n : Nat} {S : Sto} {Q : VQ} {X : XQ}, dT t ≤ d → d + 2 ≤ n → okTr t → Q (tW (cvr q m t)) S → wF T n 235 [tW t, .int q, .int m] S Q X := by
  intro d
  induction d with
  | zero => intro t n S Q X hd; exact absurd hd (by cases t; simp [dT])
  | succ d ih =>
    intro t n S Q X hd hn ho qq
    obtain ⟨n, rfl⟩ : ∃ n', n = n' + 2 := ⟨n - 2, by omega⟩
    cases t with
    | nd w p fr ks ps =>
    have sz : 1000000 ≤ sizeLine := by decide
    have hl : ps.length ≤ 100 := ho.1.2.2.1
    simp only [dT] at hd
    rw [wF_eq h, d235]
    walk_at "w"
    rw [tW_ix1]
    walk_at "w"
    show wB (.bl (p == q)) _ _
    rw [cvr] at qq
    by_cases hp : p = q
    · rw [if_pos hp] at qq
      rw [show (p == q) = true from by simpa using hp, wB_t]
      exact ret0 qq
    · rw [if_neg hp] at qq
      rw [show (p == q) = false from by simpa using hp, wB_f]
      refine parts_rl h87 ho.1.1 ho.1.2.1 ?_
      walk_at "w"
      refine ⟨by omega, ?_⟩
      refine compA ps tW (fun t => tW (cvr q m t)) trivial ?_ ?_
      · intro t ht D hD R2 r
        walk_at "w"
        exact ih (Nat.le_trans (dTs_mem ht) (by omega)) (by omega) (okTrs_mem ho.2 ht) r
      · intro D hD
        rw [set_del hD]
        rw [tW]
        refine with_shp (us' := ps.map fun t => tW (cvr q m t)) h88 ho.1.1 (by rw [List.length_map]; exact ho.1.2.1) rfl (by rw [List.length_map]; omega) ?_
        have e1 : shp w p fr (ks.map kW) (ps.map fun t => tW (cvr q m t)) = tW (.nd w p fr ks (cvrs q m ps)) := by
          rw [tW, tWs_map, cvrs_map, List.map_map]; rfl
        rw [e1]
        exact ret0 qq
theorem lc_flat (h : T 238 = some d238) {x a b : W} (hx : flatW x = true) (q : Q x S) : wF T (n + 1) 238 [x, a, b] S Q X := by
  rw [wF_eq h, d238]
  cases x with
  | non => walk_at "w"; exact ret0 q
  | bl b => walk_at "w"; exact ret0 q
  | int i => walk_at "w"; exact ret0 q
  | str z => walk_at "w"; exact ret0 q
  | _ => simp [flatW] at hx
theorem lc_kind (h : T 238 = some d238) {k : Kd} {a b : W} (q : Q (kW k) S) : wF T (n + 1) 238 [kW k, a, b] S Q X := by
  rw [wF_eq h, d238]
  cases k with
  | row a => cases a <;> (simp only [kW]; walk_at "w"; exact ret0 q)
  | to a b => cases a <;> (simp only [kW]; walk_at "w"; exact ret0 q)
  | pair a b => cases a <;> (simp only [kW]; walk_at "w"; exact ret0 q)
  | _ => simp only [kW]; walk_at "w"; exact ret0 q
theorem cut12_2 {a b : W} {r : List W} : cutW (a :: b :: r) (some 1) (some 2) = [b] := by
  have h1 : HT.sIx (a :: b :: r).length 0 (some 1) = 1 := by rw [show (1 : Int) = ((1 : Nat) : Int) from rfl, HT.sIx_nat]; simp
  have h2 : HT.sIx (a :: b :: r).length (a :: b :: r).length (some 2) = 2 := by rw [show (2 : Int) = ((2 : Nat) : Int) from rfl, HT.sIx_nat]; simp
  unfold cutW
  rw [h1, h2]; rfl
theorem lcov_ok (h : T 238 = some d238) {q m : Int} : ∀ (d : Nat) {t : Tr} {n : Nat} {S : Sto} {Q : VQ} {X : XQ}, dT t ≤ d → d ≤ 20 → 2 * d + 2 ≤ n → dueT t → Q (tW (cvl q m t)) S → wF T n 238 [tW t, .int q, .int m] S Q X := by
  intro d
  induction d with
  | zero => intro t n S Q X hd; exact absurd hd (by cases t; simp [dT])
  | succ d ih =>
    intro t n S Q X hd hd20 hn du qq
    obtain ⟨n, rfl⟩ : ∃ n', n = n' + 2 := ⟨n - 2, by omega⟩
    cases t with
    | nd w p fr ks ps =>
    have sz : 1000000 ≤ sizeLine := by decide
    simp only [dT] at hd
    have one : ∀ t ∈ ps, ∀ {n : Nat} {S : Sto} {Q : VQ} {X : XQ}, 2 * d + 2 ≤ n → Q (tW (cvl q m t)) S → wF T n 238 [tW t, .int q, .int m] S Q X := fun t ht {n S Q X} hn q =>
      ih (Nat.le_trans (dTs_mem ht) (by omega)) (by omega) hn (dueTs_mem du.2.2.2 ht) q
    have hlen : (tWs ps).length ≤ 100 := by rw [tWs_map, List.length_map]; exact du.1.2.2
    have lst : ∀ {n : Nat} {S : Sto} {Q : VQ} {X : XQ}, 2 * d + 3 ≤ n → Q (.tup (tWs (cvls q m ps))) S → wF T n 238 [.tup (tWs ps), .int q, .int m] S Q X := fun {n S Q X} hn g => by
      obtain ⟨n, rfl⟩ : ∃ n', n = n' + 1 := ⟨n - 1, by omega⟩
      rw [wF_eq h, d238]
      walk_at "w"
      cases ps with
      | nil => exact ret0 g
      | cons a r =>
        have e1 : ((((tWs (a :: r)).length : Nat) : Int) == 0) = false := by rw [beq_eq_false_iff_ne, tWs]; simp; omega
        rw [e1]
        walk_at "w"
        have e2 : ∃ us, tW a = .tup us := by cases a with | nd w p fr ks ps => exact ⟨_, by rw [tW, shpE]⟩
        obtain ⟨us, e2⟩ := e2
        rw [tWs, at0]
        walk_at "w"
        rw [e2, isiTup]
        walk_at "w"
        rw [← e2]
        have hl3 : (tWs r).length + 1 ≤ 100 := by simpa [tWs] using hlen
        refine ⟨by omega, ?_⟩
        have e5 : tW a :: tWs r = (a :: r).map tW := by rw [tWs_map]; rfl
        rw [e5]
        refine compZ ((a :: r).map fun t => tW (cvl q m t)) (by simp) ?_ ?_
        · intro i x y hx hy D hD R2 rr
          rw [List.getElem?_map] at hx hy
          cases ei : (a :: r)[i]? with
          | none => rw [ei] at hx; cases hx
          | some t =>
            rw [ei] at hx hy
            cases hx
            cases hy
            walk_at "w"
            exact one t (List.mem_of_getElem? ei) (by omega) rr
        · intro D hD
          walk_at "w"
          rw [set_del hD]
          have fin : ∀ x : W, (x = .tup [] ∨ ∃ u ∈ r, x = .tup [tW u]) → wEq false x (.tup [.int q]) S fun x1 S1 => wB x1 (Ret (.tup [.str [97, 115], .int m, .tup [.str [63]], .tup ((a :: r).map fun t => tW (cvl q m t))]) S1 Q) (Ret (.tup ((a :: r).map fun t => tW (cvl q m t))) S1 Q) := fun x hx => by
            have e6 : (a :: r).map (fun t => tW (cvl q m t)) = tWs (cvls q m (a :: r)) := by rw [tWs_map, cvls_map, List.map_map]; rfl
            rw [e6]
            rcases hx with rfl | ⟨u, hu, rfl⟩
            · refine wEq_c (b := false) rfl rfl (by show 0 + 1 ≤ 60; omega) rfl ?_
              exact ret0 g
            · have hdu := (tree_due 20 (t := u) (by have := dTs_mem (ts := a :: r) (List.mem_cons_of_mem _ hu); omega) (dueTs_mem du.2.2.2 (List.mem_cons_of_mem _ hu))).1
              refine wEq_c (b := false) (by show (dataW (tW u) && true) = true; rw [data_due2 hdu]; rfl) rfl (by show 0 + 1 ≤ 60; omega) ?_ ?_
              · show (eqv (tW u) (.int q) && true) = false
                have e2 : ∃ us, tW u = .tup us := by cases u with | nd w p fr ks ps => exact ⟨_, by rw [tW, shpE]⟩
                obtain ⟨us, e2⟩ := e2
                rw [e2]; rfl
              · exact ret0 g
          cases r with
          | nil => exact fin _ (.inl rfl)
          | cons b r =>
            rw [List.map_cons, cut12_2]
            exact fin _ (.inr ⟨b, List.mem_cons_self, rfl⟩)
    have all : All2 (fun x y => ∀ {n : Nat} {S : Sto} {Q : VQ} {X : XQ}, 2 * d + 3 ≤ n → Q y S → wF T n 238 [x, .int q, .int m] S Q X) (.str (woS w) :: .int p :: restW w fr (ks.map kW) (tWs ps)) (.str (woS w) :: .int p :: restW w fr (ks.map kW) (tWs (cvls q m ps))) := by
      have fl : ∀ x, flatW x = true → ∀ {n : Nat} {S : Sto} {Q : VQ} {X : XQ}, 2 * d + 3 ≤ n → Q x S → wF T n 238 [x, .int q, .int m] S Q X := fun x hx {n S Q X} hn g => by
        obtain ⟨n, rfl⟩ : ∃ n', n = n' + 1 := ⟨n - 1, by omega⟩
        exact lc_flat h hx g
      have kd : ∀ x ∈ ks.map kW, ∀ {n : Nat} {S : Sto} {Q : VQ} {X : XQ}, 2 * d + 3 ≤ n → Q x S → wF T n 238 [x, .int q, .int m] S Q X := fun x hx {n S Q X} hn g => by
        obtain ⟨n, rfl⟩ : ∃ n', n = n' + 1 := ⟨n - 1, by omega⟩
        obtain ⟨k, _, rfl⟩ := List.mem_map.mp hx
        exact lc_kind h g
      refine ⟨fl _ rfl, fl _ rfl, ?_⟩
      unfold restW
      split
      · exact (All2.same kd).app ⟨lst, trivial⟩
      · refine (All2.same fun x hx {n S Q X} => fl x (du.2.1 x hx)).app ((All2.same kd).app ?_)
        rw [tWs_map, tWs_map, cvls_map, List.map_map]
        exact All2.map fun t ht {n S Q X} hn g => one t ht (by omega) g
    have hrl : (restW w fr (ks.map kW) (tWs ps)).length ≤ 200 := by
      have hn2 : nF w ≤ 2 ∧ nK w ≤ 2 := by cases w <;> simp [nF, nK]
      have := du.1.1
      have := du.1.2.1
      unfold restW
      split <;> simp <;> omega
    rw [wF_eq h, d238]
    rw [tW, shpE]
    walk_at "w"
    have e1 : ((((restW w fr (ks.map kW) (tWs ps)).length + 1 + 1 : Nat) : Int) == 0) = false := by rw [beq_eq_false_iff_ne]; omega
    have e2 : decide ((((restW w fr (ks.map kW) (tWs ps)).length + 1 + 1 : Nat) : Int) < 2) = false := decide_eq_false (by omega)
    rw [e1]
    walk_at "w"
    rw [e2]
    walk_at "w"
    refine ⟨by omega, ?_⟩
    refine compZ _ all.len ?_ ?_
    · intro i x y hx hy D hD R2 rr
      walk_at "w"
      exact all.get hx hy (by omega) rr
    · intro D hD
      walk_at "w"
      rw [set_del hD, cut12_2]
      have e3 : W.tup (.str (woS w) :: .int p :: restW w fr (ks.map kW) (tWs (cvls q m ps))) = tW (.nd w p fr ks (cvls q m ps)) := by rw [tW, shpE]
      rw [e3]
      rw [cvl] at qq
      refine wEq_c (b := (p == q)) rfl rfl (by show 0 + 1 ≤ 60; omega) (by show ((p == q) && true) = (p == q); rw [Bool.and_true]) ?_
      by_cases hp : p = q
      · rw [if_pos hp] at qq
        rw [show (p == q) = true from by simpa using hp]
        exact ret0 qq
      · rw [if_neg hp] at qq
        rw [show (p == q) = false from by simpa using hp]
        exact ret0 qq
end
end Bw

/-! SF4: softened -/
namespace Bw
open PySem (sizeLine)
def mor (T : Tr) : Int := maxL (plcs T) + 1
def rowW (q m : Int) (k : Kd) (b : Int) (w : Kd) : W := .tup [.int q, .int m, kW k, .int b, kW w, woW (prt k w)]
inductive SO where
  | ok (C : CV) (rows : List W) | deep (p : Int) | stuck
def soft (t : Tr) : Nat → CV → List W → SO
  | 0, _, _ => .stuck
  | n + 1, C, rows => match lookP 12 (cov C t) [] with
    | .ok _ => .ok C rows
    | .deep p => .deep p
    | .part q k b w => soft t n ((q, mor (cov C t)) :: C) (rows ++ [rowW q (mor (cov C t)) k b w])
/-- what is known of the program -/
structure TF (t : Tr) : Prop where
  g : gdT t
  o : okTr t
  fl : flT t
  d : dT t ≤ 6
  s : szT t ≤ 1000
  n : (plcs t).Nodup
def RH : List Int → List W → Prop
  | [], [] => True
  | h :: hs, r :: rs => (∃ m k b w, r = rowW h m k b w ∧ kdep k ≤ 4 ∧ kdep w ≤ 4) ∧ RH hs rs
  | _, _ => False
theorem RH.app : ∀ {a c : List Int} {b d : List W}, RH a b → RH c d → RH (a ++ c) (b ++ d)
  | [], _, [], _, _, h => h
  | _ :: _, _, _ :: _, _, h, k => ⟨h.1, h.2.app k⟩
  | [], _, _ :: _, _, h, _ => h.elim
  | _ :: _, _, [], _, h, _ => h.elim
theorem RH.len : ∀ {a : List Int} {b : List W}, RH a b → b.length = a.length
  | [], [], _ => rfl
  | _ :: _, _ :: _, h => by rw [List.length_cons, List.length_cons, h.2.len]
  | [], _ :: _, h => h.elim
  | _ :: _, [], h => h.elim
structure SI (t : Tr) (C : CV) (rows : List W) : Prop where
  n : (C.map fun e => e.1).Nodup
  s : ∀ x ∈ C.map fun e => e.1, x ∈ plcs t
  v : ∀ p m, getC C p = some m → ∀ x ∈ plcs t, m ≠ x
  r : RH (C.map fun e => e.1).reverse rows
theorem getC_none : ∀ {C : CV} {q : Int}, getC C q = none → q ∉ C.map fun e => e.1
  | [], _, _ => by simp
  | (p, m) :: C, q, h => by
    have h : (if p = q then some m else getC C q) = none := h
    by_cases e : p = q
    · rw [if_pos e] at h; cases h
    · rw [if_neg e] at h
      rw [List.map_cons, List.mem_cons]
      exact fun z => z.elim (fun z => e z.symm) (getC_none h)
theorem SI.nil {t : Tr} : SI t [] [] := ⟨List.nodup_nil, by simp, (fun p m e => by cases e), trivial⟩
theorem SI.step {t : Tr} {C : CV} {rows : List W} {q b : Int} {k w : Kd} (h : SI t C rows) (f : TF t) (hq : q ∈ plcs t) (hC : getC C q = none) (hk : kdep k ≤ 4 ∧ kdep w ≤ 4) : SI t ((q, mor (cov C t)) :: C) (rows ++ [rowW q (mor (cov C t)) k b w]) := by
  refine ⟨?_, ?_, ?_, ?_⟩
  · rw [List.map_cons, List.nodup_cons]; exact ⟨getC_none hC, h.n⟩
  · intro x hx
    rw [List.map_cons, List.mem_cons] at hx
    rcases hx with rfl | hx
    · exact hq
    · exact h.s x hx
  · intro p m e x hx
    have e : (if q = p then some (mor (cov C t)) else getC C p) = some m := e
    by_cases z : q = p
    · rw [if_pos z] at e
      cases e
      have := maxL_ge (plcs_cov 6 f.d x hx (C := C))
      unfold mor
      omega
    · rw [if_neg z] at e; exact h.v p m e x hx
  · rw [List.map_cons, List.reverse_cons]
    exact h.r.app ⟨⟨_, _, _, _, rfl, hk⟩, trivial⟩
theorem SI.len {t : Tr} {C : CV} {rows : List W} (h : SI t C rows) : C.length ≤ (plcs t).length := by
  have := nodup_len h.n h.s
  rwa [List.length_map] at this
theorem SI.nv {t : Tr} {C : CV} {rows : List W} {q : Int} (h : SI t C rows) (hq : q ∈ plcs t) : NV7 C q := fun p m e => h.v p m e q hq
theorem TF.gt {t : Tr} {C : CV} (f : TF t) : GT2 (cov C t) := by
  have k := cov_keep (C := C) 6 f.d f.g f.o f.fl
  have := f.d; have := f.s; have := k.d; have := k.s
  exact ⟨by omega, k.g, k.o, by omega, k.fl⟩
theorem TF.fr {t : Tr} {C : CV} (f : TF t) : frees (cov C t) [] = frees t [] := (cov_keep (C := C) 6 f.d f.g f.o f.fl).f []
/-- one step -/
theorem soft_part {t : Tr} {n : Nat} {C : CV} {rows : List W} {q b : Int} {k w : Kd} (h : lookP 12 (cov C t) [] = .part q k b w) : soft t (n + 1) C rows = soft t n ((q, mor (cov C t)) :: C) (rows ++ [rowW q (mor (cov C t)) k b w]) := by
  rw [soft, h]
theorem soft_deep {t : Tr} {n : Nat} {C : CV} {rows : List W} {p : Int} (h : lookP 12 (cov C t) [] = .deep p) : soft t (n + 1) C rows = .deep p := by
  rw [soft, h]
theorem soft_ok {t : Tr} {n : Nat} {C : CV} {rows : List W} {k : Kd} (h : lookP 12 (cov C t) [] = .ok k) : soft t (n + 1) C rows = .ok C rows := by
  rw [soft, h]
theorem cov_step {t : Tr} {C : CV} {rows : List W} {q m : Int} (f : TF t) (h : SI t C rows) (hq : q ∈ plcs t) (hC : getC C q = none) : cvr q m (cov C t) = cov ((q, m) :: C) t ∧ cvl q m (cov C t) = cov ((q, m) :: C) t :=
  cvr_cov hC (h.nv hq) 6 f.d f.n
theorem intsOf_id : ∀ l : List Int, intsOf (l.map W.int) = some l
  | [] => rfl
  | i :: l => by show (intsOf (l.map W.int)).map (i :: ·) = _; rw [intsOf_id l]; rfl
/-- what is found: None or the fields -/
def fndW : LPr → W
  | .ok _ => .non
  | .deep p => .tup [.str [100, 101, 101, 112], .int p]
  | .part p k b w => .tup [.int p, kW k, .int b, kW w, woW (prt k w)]
section
variable {T : Nat → Option FD} {S : Sto} {Q : VQ} {X : XQ} {n : Nat}
structure ST7 (T : Nat → Option FD) : Prop where
  R : KR T
  h88 : T 88 = some d88
  h91 : T 91 = some d91
  h185 : T 185 = some d185
  h225 : T 225 = some d225
  h234 : T 234 = some d234
  h235 : T 235 = some d235
  h236 : T 236 = some d236
  h238 : T 238 = some d238
  h239 : T 239 = some d239
  h240 : T 240 = some d240
theorem soft236 (E : ST7 T) {t : Tr} (f : TF t) {e : Nat} (he : 80 ≤ e)
    (q : if frees t [] = [] then (match soft t ((plcs t).length + 1) [] [] with
      | .ok C rows => SI t C rows → ∀ pr, S pr = none → Q (.tup [tW (cov C t), .ref pr]) (S.set pr (.lst rows))
      | .deep p => X (xDeep p) S
      | .stuck => True)
      else ∀ e r, frees t [] = e :: r → X (xName e.1) S) : wF T e 236 [tW t] S Q X := by
  obtain ⟨e, rfl⟩ : ∃ e', e = e' + 1 := ⟨e - 1, by omega⟩
  rw [wF_eq E.h236, d236]
  walk_at "w"
  intro pr hpr
  have c0 : cov [] t = t := cov_nil 6 f.d
  have sz : 1000000 ≤ sizeLine := by decide
  cases hf : frees t [] with
  | cons z r =>
    rw [if_neg (by rw [hf]; simp)] at q
    refine ref234 E.R E.h234 (t := t) (by rw [← c0]; exact f.gt) (by omega) ?_
    rw [if_neg (by rw [hf]; simp)]
    intro z2 r2 e2
    rw [hf] at e2
    cases e2
    exact retXG (Sub.set hpr) (q _ _ hf)
  | nil =>
  rw [if_pos hf] at q
  have gt : ∀ C, GT2 (cov C t) := fun C => f.gt
  have gf : ∀ C, frees (cov C t) [] = [] := fun C => by rw [f.fr]; exact hf
  have go : ∀ (C : CV) (rows : List W) (n : Nat) {X' : XQ} {Q' : VQ}, soft t ((plcs t).length + 1) [] [] = soft t (n + 1) C rows → (∀ r, lookP 12 (cov C t) [] = r → (∀ p, r ≠ .deep p) → Q' (fndW r) (S.set pr (.lst rows))) → (∀ x, X' x (S.set pr (.lst rows)) = RetX x (S.set pr (.lst rows)) X) → wF T e 234 [tW (cov C t)] (S.set pr (.lst rows)) Q' X' := fun C rows n {X' Q'} hs hq hx => by
    refine ref234 E.R E.h234 (gt C) (by omega) ?_
    rw [if_pos (gf C)]
    cases hP : lookP 12 (cov C t) [] with
    | ok k => exact hq _ hP (fun p z => by cases z)
    | part p k b w => exact hq _ hP (fun p z => by cases z)
    | deep p =>
      rw [hs, soft_deep hP] at q
      show X' (xDeep p) _
      rw [hx]
      exact retXG (Sub.set hpr) q
  rw [show tW t = tW (cov [] t) by rw [c0]]
  refine go [] [] (plcs t).length rfl (fun r hr hnd => ?_) (fun x => rfl)
  walk_at "w"
  refine ⟨(plcs t).length + 2, whlI (fun m env S' => ∃ C rows r y, env = [some (tW (cov C t)), some (.ref pr), some (fndW r), y] ∧ S' = S.set pr (.lst rows) ∧ SI t C rows ∧ m = (plcs t).length - C.length ∧ lookP 12 (cov C t) [] = r ∧ (∀ p, r ≠ .deep p) ∧ soft t ((plcs t).length + 1) [] [] = soft t (m + 1) C rows) ?_ _ ((plcs t).length) (by omega) ⟨[], [], r, _, rfl, rfl, SI.nil, by simp, hr, hnd, rfl⟩⟩
  rintro m env S' nx ⟨C, rows, r, y, rfl, rfl, hI, hm, hr, hnd, hs⟩ hn
  walk_at "w"
  cases r with
  | deep p => exact absurd rfl (hnd p)
  | ok k =>
    simp only [fndW]
    walk_at "w"
    rw [hs, soft_ok hr] at q
    exact ret0 (q hI pr hpr)
  | part p k b w =>
    simp only [fndW]
    walk_at "w"
    have hpl : (plcs t).length ≤ 1000 := by rw [plcs_len]; exact f.s
    refine places_ok E.h91 E.R.h87 12 (gt C).d (by omega) (gt C).o (by have := (gt C).s; omega) ?_
    have mx : ∀ {S1 : Sto} {P : List Int → Prop}, P (plcs (cov C t)) → wSome ((lstOf S1 (.rl ((plcs (cov C t)).map W.int))).bind intsOf) P := fun {S1 P} h => by
      rw [show lstOf S1 (.rl ((plcs (cov C t)).map W.int)) = some ((plcs (cov C t)).map W.int) from rfl, Option.bind_some, intsOf_id]
      exact h
    refine mx ⟨List.length_pos_of_mem pl_mem, ?_⟩
    refine covered_ok E.R.h87 E.h88 E.h235 12 (gt C).d (by omega) (gt C).o ?_
    obtain ⟨hq, hC⟩ := (part_at 12).1 hr
    rw [(cov_step f hI hq hC).1]
    walk_at "w"
    have hrl : rows.length = C.length := by rw [hI.r.len, List.length_reverse, List.length_map]
    have hcl := hI.len
    refine ⟨by rw [lstOf_ref Sto.set_same]; rfl, ?_⟩
    rw [wApp_ref Sto.set_same]
    refine ⟨by omega, ?_⟩
    rw [set_set]
    have hI' := hI.step (b := b) f hq hC (Xpart_of (gt C).g (gf C) hr).2
    have hcl' := hI'.len
    rw [List.length_cons] at hcl'
    have hs' : soft t ((plcs t).length + 1) [] [] = soft t (m - 1 + 1) ((p, mor (cov C t)) :: C) (rows ++ [rowW p (mor (cov C t)) k b w]) := by
      rw [hs, soft_part hr, show m - 1 + 1 = m by omega]
    refine go ((p, mor (cov C t)) :: C) (rows ++ [rowW p (mor (cov C t)) k b w]) (m - 1) hs' (fun r' hr' hnd' => ?_) (fun x => rfl)
    exact hn (m - 1) _ _ (by omega) ⟨_, _, r', _, rfl, rfl, hI', by rw [List.length_cons]; omega, hr', hnd', hs'⟩
/-- the law's own refusal -/
theorem ref239 (E : ST7 T) {t : Tr} (c : GT2 t) {e : Nat} (he : 70 ≤ e)
    (q : if frees t [] = [] then Q (fndW (lookP 12 t [])) S else ∀ e r, frees t [] = e :: r → Q (.tup [.str [110, 97, 109, 101], .int e.1]) S) : wF T e 239 [tW t] S Q X := by
  obtain ⟨e, rfl⟩ : ∃ e', e = e' + 1 := ⟨e - 1, by omega⟩
  have R := E.R
  rw [wF_eq E.h239, d239]
  walk_at "w"
  cases hf : frees t [] with
  | cons f r =>
    rw [if_neg (by rw [hf]; simp)] at q
    have q := q _ _ hf
    refine looked_badK R c (.name hf) (by omega) ?_
    refine Eq.mpr (if_neg (by simp [xName])) ?_
    refine ⟨by simp [xName], ?_⟩
    refine Eq.mpr (if_neg (by simp [xName])) ?_
    refine ⟨by simp [xName], ?_⟩
    refine Eq.mpr (if_pos (by simp [xName])) ?_
    dsimp only [xName]
    rw [fldX rfl]
    walk_at "w"
    exact ret0 q
  | nil =>
    rw [if_pos hf] at q
    cases hP : lookP 12 t [] with
    | ok k =>
      rw [hP] at q
      obtain ⟨F, G, hN⟩ := nok_kind c.g hP
      refine looked_ok (m := 12) R.E R.h141 R.h140 R.h87 R.h139 R.h157 R.h167 c.d (by omega) c.g c.o (by have := c.s; omega) (by omega) hf ?_
      rw [hN]
      intro pf pw h1 h2 h3
      walk_at "w"
      exact retG (sub_up0 h1 h2 h3) q
    | deep p =>
      rw [hP] at q
      refine looked_badK R c (Xdeep_of c.g hf hP) (by omega) ?_
      refine Eq.mpr (if_neg (by simp [xDeep])) ?_
      refine ⟨by simp [xDeep], ?_⟩
      refine Eq.mpr (if_pos (by simp [xDeep])) ?_
      dsimp only [xDeep]
      rw [fldX rfl]
      walk_at "w"
      exact ret0 q
    | part p k b w =>
      rw [hP] at q
      refine looked_badK R c (Xpart_of c.g hf hP).1 (by omega) ?_
      refine Eq.mpr (if_pos (by simp [xPart])) ?_
      dsimp only [xPart]
      walk_at "w"
      rw [fldX rfl, fldX rfl, fldX rfl, fldX rfl, fldX rfl]
      walk_at "w"
      exact ret0 q
/-- what softened is found to do -/
theorem found240 (E : ST7 T) {t : Tr} (f : TF t) {e : Nat} (he : 82 ≤ e)
    (q : if frees t [] = [] then (match soft t ((plcs t).length + 1) [] [] with
      | .ok C rows => SI t C rows → ∀ pr, S pr = none → Q (.tup [tW (cov C t), .ref pr]) (S.set pr (.lst rows))
      | .deep p => Q (.tup [.str [100, 101, 101, 112], .int p]) S
      | .stuck => True)
      else ∀ e r, frees t [] = e :: r → Q (.tup [.str [110, 97, 109, 101], .int e.1]) S) : wF T e 240 [tW t] S Q X := by
  obtain ⟨e, rfl⟩ : ∃ e', e = e' + 1 := ⟨e - 1, by omega⟩
  rw [wF_eq E.h240, d240]
  walk_at "w"
  refine soft236 E f (by omega) ?_
  split
  · rename_i hf
    rw [if_pos hf] at q
    revert q
    cases soft t ((plcs t).length + 1) [] [] with
    | ok C rows =>
      intro q hI pr hpr
      walk_at "w"
      exact ret0 (q hI pr hpr)
    | deep p =>
      intro q
      show if (xDeep p).c ∈ [5] then _ else _
      refine Eq.mpr (if_pos (by simp [xDeep])) ?_
      dsimp only [xDeep]
      rw [fldX rfl]
      walk_at "w"
      exact ret0 q
    | stuck => intro _; trivial
  · rename_i hf
    rw [if_neg hf] at q
    intro z r e2
    have q := q _ _ e2
    refine Eq.mpr (if_neg (by simp [xName])) ?_
    refine ⟨by simp [xName], ?_⟩
    refine Eq.mpr (if_pos (by simp [xName])) ?_
    dsimp only [xName]
    rw [fldX rfl]
    walk_at "w"
    exact ret0 q
end
end Bw

/-! SF5: the law of programs made softer -/
namespace Bw
open PySem (sizeLine)
theorem rowW_due {q m b : Int} {k w : Kd} (hk : kdep k ≤ 4 ∧ kdep w ≤ 4) : due2 (rowW q m k b w) = true ∧ depW (rowW q m k b w) ≤ 50 := by
  have du := resW_due (r := .part q k b w) hk
  have h1 : due2s [.str [112, 97, 114, 116, 101, 100], .int q, kW k, .int b, kW w, woW (prt k w)] = true := by
    have h3 := du.1
    have h3 : (decide (([.str [112, 97, 114, 116, 101, 100], .int q, kW k, .int b, kW w, woW (prt k w)] : List W).length ≤ 1000) && due2s [.str [112, 97, 114, 116, 101, 100], .int q, kW k, .int b, kW w, woW (prt k w)]) = true := h3
    rw [Bool.and_eq_true] at h3
    exact h3.2
  have hw : due2 (woW (prt k w)) = true := due2s_mem h1 (by simp)
  have dw : depW (woW (prt k w)) ≤ 1 := by
    cases prt k w with
    | none => exact Nat.zero_le _
    | some l => exact Nat.le_of_eq (strs_dep l)
  have d1 := dep_kW k
  have d2 := dep_kW w
  refine ⟨due2_tup (by simp) fun x hx => ?_, ?_⟩
  · simp only [List.mem_cons, List.not_mem_nil, or_false] at hx
    rcases hx with rfl | rfl | rfl | rfl | rfl | rfl
    · rfl
    · rfl
    · exact due2_k k
    · rfl
    · exact due2_k w
    · exact hw
  · show max 0 (max 0 (max (depW (kW k)) (max 0 (max (depW (kW w)) (max (depW (woW (prt k w))) 0))))) + 1 ≤ 50
    omega
theorem RH.due : ∀ {hs : List Int} {rs : List W}, RH hs rs → ∀ x ∈ rs, due2 x = true ∧ depW x ≤ 50
  | [], [], _, x, hx => by cases hx
  | h :: hs, r :: rs, hh, x, hx => by
    rcases List.mem_cons.mp hx with rfl | hx
    · obtain ⟨m, k, b, w, rfl, hk⟩ := hh.1
      exact rowW_due hk
    · exact RH.due hh.2 x hx
  | [], _ :: _, h, _, _ => h.elim
  | _ :: _, [], h, _, _ => h.elim
theorem RH.zip : ∀ {hs : List Int} {rs : List W}, RH hs rs → ∃ l : List (Int × W), rs = l.map (fun a => a.2) ∧ hs = l.map (fun a => a.1) ∧ ∀ a ∈ l, ∃ m k b w, a.2 = rowW a.1 m k b w
  | [], [], _ => ⟨[], rfl, rfl, by simp⟩
  | h :: hs, r :: rs, hh => by
    obtain ⟨l, e1, e2, h3⟩ := RH.zip hh.2
    obtain ⟨m, k, b, w, e, _⟩ := hh.1
    refine ⟨(h, r) :: l, by rw [e1]; rfl, by rw [e2]; rfl, fun a ha => ?_⟩
    rcases List.mem_cons.mp ha with rfl | ha
    · exact ⟨m, k, b, w, e⟩
    · exact h3 a ha
  | [], _ :: _, h => h.elim
  | _ :: _, [], h => h.elim
section
variable {T : Nat → Option FD} {S : Sto} {Q : VQ} {X : XQ} {n : Nat}
/-- what is told in the end, of a program that is taken -/
theorem end87 {t : Tr} (f : TF t) {C : CV} {rows : List W} (hI : SI t C rows) {pr pr2 : PySem.Addr} {x0 x1 x2 x7 x8 x9 : Option W} (h1 : S pr = some (.lst rows)) (h2 : S pr2 = some (.lst rows)) :
    wSs (wF T n) (d241.body.drop 8) [x0, x1, x2, some (.tup [tW (cov C t), .ref pr]), some (.ref pr2), some (tW (cov C t)), some .non, x7, x8, x9] S (dnOf QT X) := by
  simp only [d241, List.drop]
  walk_at "w"
  have i1 : isiW .list S (.ref pr) = some true := by simp [isiW, deref, h1]
  rw [show (!(((2 : Nat) : Int) == 2)) = false from rfl, wB_f, i1]
  walk_at "w"
  have k := cov_keep (C := C) 6 f.d f.g f.o f.fl
  have hd := k.d
  have hd6 := f.d
  have td := tree_due 12 (t := cov C t) (by omega) (due_of 12 (by omega) k.o k.g k.fl)
  have dt : deref S (tW (cov C t)) = tW (cov C t) := by cases cov C t; rw [tW, shpE]; rfl
  refine same_eq rfl (by rw [dt]; exact td.1) (by rw [dt]; have := td.2; omega) ?_
  walk_at "w"
  refine rl_eq2 (ws := rows) (by simp [deref, h1]) (by simp [deref, h2]) hI.r.due ?_
  walk_at "w"
  rw [walkOf_ref h2]
  walk_at "w"
  have sz : 1000000 ≤ sizeLine := by decide
  have hcl := hI.len
  have hpl : (plcs t).length ≤ 1000 := by rw [plcs_len]; exact f.s
  have hrl : rows.length = C.length := by rw [hI.r.len, List.length_reverse, List.length_map]
  refine ⟨by omega, ?_⟩
  obtain ⟨l, e1, e2, e3⟩ := hI.r.zip
  rw [e1]
  refine compA l (fun a => a.2) (fun a => W.int a.1) ⟨by rw [← e1]; exact h2, trivial⟩ ?_ ?_
  · intro a ha D hD R2 r
    obtain ⟨m, kk, b, w, e⟩ := e3 a ha
    rw [e]
    unfold rowW
    walk_at "w"
    exact r
  · intro D hD
    walk_at "w"
    rw [set_del hD]
    have e4 : l.map (fun a => W.int a.1) = (l.map fun a => a.1).map W.int := by rw [List.map_map]; rfl
    rw [e4, intsOf_id, ← e2]
    refine ⟨(List.reverse_perm _).nodup_iff.mpr hI.n, by rw [List.length_reverse, List.length_map]; omega, ?_⟩
    rw [wLen_ref h2]
    walk_at "w"
    rw [show (((C.map fun e => e.1).reverse.length : Nat) : Int) = (rows.length : Nat) from by rw [hrl, List.length_reverse, List.length_map]]
    walk_at "w"
    exact ret0 rfl
/-- the law's own loop -/
theorem loop87 (E : ST7 T) {t : Tr} (f : TF t) (hf : frees t [] = []) {n : Nat} (hn : 84 ≤ n) {fo : W} {S0 : Sto} {pr2 : PySem.Addr} (hp2 : S0 pr2 = none) {x0 x1 x2 x8 x9 : Option W}
    (fin : match soft t ((plcs t).length + 1) [] [] with
      | .ok C rows => ∃ pr, fo = .tup [tW (cov C t), .ref pr] ∧ S0 pr = some (.lst rows)
      | .deep p => fo = .tup [.str [100, 101, 101, 112], .int p]
      | .stuck => True) :
    wSs (wF T n) (d241.body.drop 6) [x0, x1, x2, some fo, some (.ref pr2), some (tW t), none, some (tW t), x8, x9] (S0.set pr2 (.lst [])) (dnOf QT X) := by
  have hb : d241.body.drop 6 = (d241.body.drop 6).take 2 ++ d241.body.drop 8 := rfl
  rw [hb, wSs_app3]
  have ending := @end87 T
  have dp : ∀ {p : Int} {S : Sto} {x5 y : Option W}, fo = .tup [.str [100, 101, 101, 112], .int p] → wSs (wF T n) (d241.body.drop 8) [x0, x1, x2, some fo, some (.ref pr2), x5, some (fndW (.deep p)), some (tW t), y, x9] S (dnOf QT X) := fun {p S x5 y} e => by
    rw [e]
    simp only [d241, List.drop, fndW]
    walk_at "w"
    refine same_eq rfl rfl (by show 0 + 1 ≤ 60; omega) ?_
    exact ret0 rfl
  generalize d241.body.drop 8 = B at ending dp
  simp only [d241, List.drop, List.take]
  walk_at "w"
  have c0 : cov [] t = t := cov_nil 6 f.d
  have gt : ∀ C, GT2 (cov C t) := fun C => f.gt
  have gf : ∀ C, frees (cov C t) [] = [] := fun C => by rw [f.fr]; exact hf
  have rf : ∀ (C : CV) {S : Sto} {Q : VQ} {X : XQ}, Q (fndW (lookP 12 (cov C t) [])) S → wF T n 239 [tW (cov C t)] S Q X := fun C {S Q X} q => ref239 E (gt C) (by omega) (by rw [if_pos (gf C)]; exact q)
  rw [show tW t = tW (cov [] t) by rw [c0]]
  refine rf [] ?_
  walk_at "w"
  have sz : 1000000 ≤ sizeLine := by decide
  have hpl : (plcs t).length ≤ 1000 := by rw [plcs_len]; exact f.s
  refine ⟨(plcs t).length + 2, whlI (fun m env S' => ∃ C rows y, env = [x0, x1, x2, some fo, some (.ref pr2), some (tW (cov C t)), some (fndW (lookP 12 (cov C t) [])), some (tW t), y, x9] ∧ S' = S0.set pr2 (.lst rows) ∧ SI t C rows ∧ m = (plcs t).length - C.length ∧ soft t ((plcs t).length + 1) [] [] = soft t (m + 1) C rows) ?_ _ ((plcs t).length) (by omega) ⟨[], [], _, by rw [c0], rfl, SI.nil, by simp, rfl⟩⟩
  rintro m env S' nx ⟨C, rows, y, rfl, rfl, hI, hm, hs⟩ hn2
  walk_at "w"
  have hcl := hI.len
  have hrl : rows.length = C.length := by rw [hI.r.len, List.length_reverse, List.length_map]
  cases hr : lookP 12 (cov C t) [] with
  | ok k =>
    rw [hs, soft_ok hr] at fin
    obtain ⟨pr, e1, e2⟩ := fin
    rw [e1]
    simp only [fndW]
    walk_at "w"
    exact ending f hI (by rw [Sto.set_ne (fun z => by rw [z, hp2] at e2; cases e2)]; exact e2) Sto.set_same
  | deep p =>
    rw [hs, soft_deep hr] at fin
    have go := @dp p (S0.set pr2 (.lst rows)) (some (tW (cov C t))) y fin
    simp only [fndW] at go ⊢
    walk_at "w"
    rw [wIn_rlE]
    refine ⟨rfl, ?_⟩
    rw [show (inW (deref (S0.set pr2 (.lst rows)) (.str [100, 101, 101, 112])) [W.str [100, 101, 101, 112], W.str [110, 97, 109, 101]] != true) = false from rfl]
    walk_at "w"
    exact go
  | part p k b w =>
    simp only [fndW]
    walk_at "w"
    rw [wIn_rlE]
    refine ⟨rfl, ?_⟩
    rw [show (inW (deref (S0.set pr2 (.lst rows)) (.int p)) [W.str [100, 101, 101, 112], W.str [110, 97, 109, 101]] != true) = true from rfl]
    walk_at "w"
    rw [wLen_ref Sto.set_same]
    have fd := f.d
    refine lplaces_ok E.h225 E.h185 6 f.d (by omega) f.o f.g (by have := f.s; omega) ?_
    walk_at "w"
    rw [show decide (((rows.length : Nat) : Int) ≤ (((plcs t).length : Nat) : Int)) = true from decide_eq_true (by omega)]
    walk_at "w"
    refine lplaces_ok E.h225 E.h185 12 (gt C).d (by omega) (gt C).o (gt C).g (by have := (gt C).s; omega) ?_
    have mx : ∀ {S1 : Sto} {P : List Int → Prop}, P (plcs (cov C t)) → wSome ((lstOf S1 (.rl ((plcs (cov C t)).map W.int))).bind intsOf) P := fun {S1 P} h => by
      rw [show lstOf S1 (.rl ((plcs (cov C t)).map W.int)) = some ((plcs (cov C t)).map W.int) from rfl, Option.bind_some, intsOf_id]
      exact h
    refine mx ⟨List.length_pos_of_mem pl_mem, ?_⟩
    obtain ⟨hq, hC⟩ := (part_at 12).1 hr
    rw [show 1 + maxL (plcs (cov C t)) = mor (cov C t) from by unfold mor; omega]
    refine ⟨by rw [lstOf_ref Sto.set_same]; rfl, ?_⟩
    rw [wApp_ref Sto.set_same]
    refine ⟨by omega, ?_⟩
    rw [set_set]
    have hI' := hI.step (b := b) f hq hC (Xpart_of (gt C).g (gf C) hr).2
    have hcl' := hI'.len
    rw [List.length_cons] at hcl'
    refine lcov_ok E.h238 12 (gt C).d (by omega) (by omega) (due_of 12 (gt C).d (gt C).o (gt C).g (gt C).fl) ?_
    rw [(cov_step f hI hq hC).2]
    refine rf _ ?_
    have hs' : soft t ((plcs t).length + 1) [] [] = soft t (m - 1 + 1) ((p, mor (cov C t)) :: C) (rows ++ [rowW p (mor (cov C t)) k b w]) := by
      rw [hs, soft_part hr, show m - 1 + 1 = m by omega]
    exact hn2 (m - 1) _ _ (by omega) ⟨_, _, _, rfl, rfl, hI', by rw [List.length_cons]; omega, hs'⟩
/-- behind the program's making -/
theorem tail87 (E : ST7 T) {t : Tr} (f : TF t) {n : Nat} (hn : 84 ≤ n) {x0 x1 x2 x3 x4 x5 x8 x9 : Option W} :
    wSs (wF T n) (d241.body.drop 3) [x0, x1, x2, x3, x4, x5, none, some (tW t), x8, x9] S (dnOf QT X) := by
  have hb : d241.body.drop 3 = (d241.body.drop 3).take 3 ++ d241.body.drop 6 := rfl
  rw [hb, wSs_app3]
  have loop := @loop87 T
  have hb2 : d241.body.drop 6 = (d241.body.drop 6).take 3 ++ d241.body.drop 9 := rfl
  by_cases hf : frees t [] = []
  · generalize d241.body.drop 6 = B at loop
    simp only [d241, List.drop, List.take]
    walk_at "w"
    refine found240 E f (by omega) ?_
    rw [if_pos hf]
    cases hs : soft t ((plcs t).length + 1) [] [] with
    | ok C rows =>
      intro hI pr hpr
      walk_at "w"
      intro pr2 hp2
      exact loop E f hf hn hp2 (by rw [hs]; exact ⟨pr, rfl, Sto.set_same⟩)
    | deep p =>
      intro pr2 hp2
      exact loop E f hf hn hp2 (by rw [hs])
    | stuck => trivial
  · simp only [d241, List.drop, List.take]
    walk_at "w"
    refine found240 E f (by omega) ?_
    rw [if_neg hf]
    intro z r e
    walk_at "w"
    intro pr2 hp2
    have c0 : cov [] t = t := cov_nil 6 f.d
    have gt : GT2 t := by have := @TF.gt t [] f; rwa [c0] at this
    refine ref239 E gt (by omega) ?_
    rw [if_neg hf]
    intro z2 r2 e2
    rw [e] at e2
    cases e2
    walk_at "w"
    refine ⟨1, ?_⟩
    unfold wWhl
    walk_at "w"
    rw [wIn_rlE]
    refine ⟨rfl, ?_⟩
    rw [show (inW (deref (S.set pr2 (.lst [])) (.str [110, 97, 109, 101])) [W.str [100, 101, 101, 112], W.str [110, 97, 109, 101]] != true) = false from rfl]
    walk_at "w"
    refine same_eq rfl rfl (by show 0 + 1 ≤ 60; omega) ?_
    exact ret0 rfl
theorem law87 (E : ST7 T) (A : AT7 T) (a8 : T 8 = some d8) (h176 : T 176 = some d176) (h241 : T 241 = some d241)
    (ns : List Int) : wF T 101 241 [.sc (ns.map W.int)] (fun _ => none) QT (fun _ _ => False) := by
  rw [wF_eq h241]
  refine ⟨rfl, ?_⟩
  rw [← List.take_append_drop 3 d241.body, wSs_app3]
  have tail := @tail87 T
  generalize d241.body.drop 3 = B at tail
  simp only [d241, List.take]
  walk_at "w"
  refine cell_ok (i := 8) a8 (by omega) ?_
  walk_at "w"
  refine ⟨.inl (.inr ⟨by decide, by decide⟩), by decide, ?_⟩
  refine cell_ok (i := 8) a8 (by omega) ?_
  obtain ⟨c, hc⟩ : ∃ c, c = cellI ns 0 * 6364136223846793005 % 1000000000039 := ⟨_, rfl⟩
  rw [← hc]
  have hc0 : 0 ≤ c := by rw [hc]; exact Int.emod_nonneg _ (by decide)
  clear hc
  walk_at "w"
  refine ⟨by decide, ?_⟩
  refine words_ok4 h176 hc0 fun ws hws hnd hok => ?_
  walk_at "w"
  intro pd hpd
  have pj : ∀ {t : Tr} {b c' : Int} {nms : Ns} {d s : Nat}, ML b 0 c' nms d s t → c' ≤ 40 → (plcs t).Nodup ∧ ∀ x ∈ plcs t, 0 ≤ x ∧ x < 997 := fun {t b c' nms d s} h hc => by
    obtain ⟨js, e, J⟩ := h.pl
    rw [e]
    refine ⟨pJ_nodup J (Int.le_refl _) (by omega), fun x hx => ?_⟩
    obtain ⟨j, _, rfl⟩ := List.mem_map.mp hx
    exact ⟨Int.emod_nonneg _ (by decide), Int.emod_lt_of_pos _ (by decide)⟩
  refine ⟨by decide, wB_if (fun _ => ?_) (fun _ => ?_)⟩
  · refine ASP.use (any_sf A hws 3) (nms := []) rfl rfl (by omega) Sto.set_same (by omega) (by simp) fun t i' c' s ht e1 e2 hi => ?_
    rw [set_set]
    walk_at "w"
    rw [dlw Sto.set_same]
    walk_at "w"
    refine ⟨⟨by decide, by decide⟩, by decide, ?_⟩
    refine atS (Int.emod_nonneg _ (by decide)) (by rw [hws]; exact Int.emod_lt_of_pos _ (by decide)) fun z hz => ?_
    obtain ⟨n1, n2⟩ := pj ht (by omega)
    have hd := ht.d
    have hs := ht.s
    refine tail (t := .nd .call 998 [] [] [t, .nd .name 999 [.str z] [] []]) E ⟨⟨⟨by simp, fun _ => rfl, by simp, by simp⟩, ht.g, ⟨⟨by simp, fun _ => rfl, by simp, by simp⟩, trivial⟩, trivial⟩, ⟨⟨rfl, rfl, by simp, by simp [binds]⟩, ht.o, ⟨⟨rfl, rfl, by simp, by simp [nmW]⟩, trivial⟩, trivial⟩, ⟨by simp, ht.fl, ⟨by simp [flatW], trivial⟩, trivial⟩, by simp only [dT, dTs]; omega, by simp only [szT, szTs]; omega, ?_⟩ (by omega)
    simp only [plcs, plcss, List.append_nil]
    rw [List.nodup_cons]
    refine ⟨fun z => ?_, List.nodup_append.mpr ⟨n1, by simp, fun x hx y hy e => ?_⟩⟩
    · rcases List.mem_append.mp z with z | z
      · have := n2 _ z; omega
      · simp at z
    · have := n2 _ hx
      have : y = 999 := by simpa using hy
      omega
  · refine ASP.use (any_sf A hws 4) (nms := []) rfl rfl (by omega) Sto.set_same (by omega) (by simp) fun t i' c' s ht e1 e2 hi => ?_
    rw [set_set]
    walk_at "w"
    have hd := ht.d
    have hs := ht.s
    exact tail E ⟨ht.g, ht.o, ht.fl, by omega, by omega, (pj ht (by omega)).1⟩ (by omega)
end
end Bw

namespace Bw.k87_softened
open PySem L2 PySem.Spec PyProof.Rows Bw
/-! ### the text by places, and what stands for it -/
def top (i : Nat) : Stmt := PySem.Challenge.pw_blamewise_k87_softened.main.body.getD i (.Pass ⟨0, 0, 0, 0⟩)
def clsB : Stmt → List Stmt
  | .ClassDef (body := b) .. => b
  | _ => []
def G : GT := { fns := [(("with_kinds" : Str), 1, 2), (("_law_cell_at" : Str), 8, 2), (("depth" : Str), 11, 1), (("join" : Str), 21, 2), (("steps_of" : Str), 68, 1), (("parting" : Str), 69, 2), (("same" : Str), 70, 2), (("parts" : Str), 87, 1), (("with_parts" : Str), 88, 2), (("written" : Str), 89, 1), (("places" : Str), 91, 1), (("names_within" : Str), 139, 3), (("free_name" : Str), 140, 2), (("need_names" : Str), 141, 1), (("need_shallow" : Str), 155, 2), (("bound" : Str), 156, 3), (("looked" : Str), 167, 1), (("_law_words" : Str), 176, 1), (("_law_next" : Str), 177, 1), (("_law_place" : Str), 178, 1), (("_law_leaf" : Str), 180, 3), (("_law_parts" : Str), 185, 1), (("_law_kind" : Str), 198, 1), (("_law_places" : Str), 225, 1), (("refusal" : Str), 234, 1), (("covered" : Str), 235, 3), (("softened" : Str), 236, 1), (("_law_any" : Str), 237, 3), (("_law_covered" : Str), 238, 3), (("_law_refusal" : Str), 239, 1), (("_law_found" : Str), 240, 1)], cons := [("UNTOLD_meets", .tup [.str [63]]), ("MOST", .int 4), ("WHOLE", .tup [.str [119, 104, 111, 108, 101]]), ("TRUTH", .tup [.str [116, 114, 117, 116, 104]]), ("TO", .tup [.str [116, 111], .tup [.str [63]], .tup [.str [63]]]), ("ROW", .tup [.str [114, 111, 119], .tup [.str [63]]]), ("PAIR", .tup [.str [112, 97, 105, 114], .tup [.str [63]], .tup [.str [63]]]), ("UNTOLD_why", .tup [.str [63]])], tabs := [("AHEAD", [([119, 104, 111, 108, 101], .int 3), ([116, 114, 117, 116, 104], .int 3), ([103, 105, 118, 101, 110], .int 3), ([110, 97, 109, 101], .int 3), ([102, 110], .int 4), ([115, 101, 108, 102], .int 6), ([99, 97, 108, 108], .int 2), ([108, 101, 116], .int 3), ([105, 102], .int 2), ([100, 111], .int 3), ([97, 116], .int 2), ([115, 105, 122, 101], .int 2), ([112, 97, 105, 114], .int 2), ([111, 110, 101], .int 2), ([116, 119, 111], .int 2), ([97, 115], .int 3), ([108, 111, 111, 107], .int 4)])], bis := ["dict", "enumerate", "int", "isinstance", "len", "list", "max", "range", "set", "tuple", "zip"], cls := [("Looker", 9, 157)], xcl := [("NoName", 4, [[112, 108, 97, 99, 101]]), ("TooDeep", 5, [[112, 108, 97, 99, 101]]), ("Parted", 8, [[112, 108, 97, 99, 101], [107, 105, 110, 100], [98, 121], [119, 97, 110, 116, 101, 100], [119, 97, 121]])], mth := [([98, 105, 110, 100, 105, 110, 103], [(9, 163)]), ([98, 121, 95, 119, 111, 114, 100], [(9, 162)]), ([102, 111, 114, 107, 101, 100], [(9, 164)]), ([104, 101, 108, 100], [(9, 160)]), ([104, 111, 108, 100], [(9, 158)]), ([108, 111, 111, 107], [(9, 159)]), ([109, 97, 107, 105, 110, 103], [(9, 166)]), ([114, 101, 97, 100, 105, 110, 103], [(9, 165)]), ([115, 104, 97, 112, 101, 100], [(9, 161)])], fld := [(9, [[102, 111, 117, 110, 100], [119, 97, 110, 116, 101, 100]])], exm := [("NoName", [4], [5, 8]), ("Parted", [8], [4, 5]), ("TooDeep", [5], [4, 8])] }
def T : Nat → Option FD
  | 1 => some d1
  | 8 => some d8
  | 11 => some d11
  | 21 => some d21
  | 68 => some d68
  | 69 => some d69
  | 70 => some d70
  | 87 => some d87
  | 88 => some d88
  | 89 => some d89
  | 91 => some d91
  | 139 => some d139
  | 140 => some d140
  | 141 => some d141
  | 155 => some d155
  | 156 => some d156
  | 157 => some d157
  | 158 => some d158
  | 159 => some d159
  | 160 => some d160
  | 161 => some d161
  | 162 => some d162
  | 163 => some d163
  | 164 => some d164
  | 165 => some d165
  | 166 => some d166
  | 167 => some d167
  | 176 => some d176
  | 177 => some d177
  | 178 => some d178
  | 180 => some d180
  | 185 => some d185
  | 198 => some d198
  | 225 => some d225
  | 234 => some d234
  | 235 => some d235
  | 236 => some d236
  | 237 => some d237
  | 238 => some d238
  | 239 => some d239
  | 240 => some d240
  | 241 => some d241
  | _ => none
def dd : Nat → DD
  | 1 => ⟨"with_kinds", "with_kinds", top 6, ["kind", "some"], ["kind", "some"]⟩
  | 8 => ⟨"_law_cell_at", "_law_cell_at", top 40, ["_law_script", "_law_k"], ["_law_script", "_law_k"]⟩
  | 11 => ⟨"depth", "depth", top 7, ["kind", "inner"], ["kind"]⟩
  | 21 => ⟨"join", "join", top 13, ["kind", "other", "mine", "theirs"], ["kind", "other"]⟩
  | 68 => ⟨"steps_of", "steps_of", top 8, ["kind"], ["kind"]⟩
  | 69 => ⟨"parting", "parting", top 11, ["kind", "other", "number", "step", "found"], ["kind", "other"]⟩
  | 70 => ⟨"same", "same", top 12, ["kind", "other"], ["kind", "other"]⟩
  | 87 => ⟨"parts", "parts", top 16, ["tree"], ["tree"]⟩
  | 88 => ⟨"with_parts", "with_parts", top 17, ["tree", "some"], ["tree", "some"]⟩
  | 89 => ⟨"written", "written", top 18, ["tree"], ["tree"]⟩
  | 91 => ⟨"places", "places", top 19, ["tree", "found", "part"], ["tree"]⟩
  | 139 => ⟨"names_within", "names_within", top 20, ["tree", "number", "names"], ["tree", "number", "names"]⟩
  | 140 => ⟨"free_name", "free_name", top 21, ["tree", "names", "number", "part", "found"], ["tree", "names"]⟩
  | 141 => ⟨"need_names", "need_names", top 22, ["tree", "found"], ["tree"]⟩
  | 155 => ⟨"need_shallow", "need_shallow", top 30, ["kind", "place"], ["kind", "place"]⟩
  | 156 => ⟨"bound", "bound", top 31, ["names", "name", "kind", "more"], ["names", "name", "kind"]⟩
  | 157 => ⟨"__init__", "Looker.__init__", (clsB (top 32)).getD 0 (.Pass ⟨0, 0, 0, 0⟩), ["self"], ["self"]⟩
  | 158 => ⟨"hold", "Looker.hold", (clsB (top 32)).getD 2 (.Pass ⟨0, 0, 0, 0⟩), ["self", "node", "wanted", "by", "kind"], ["self", "node", "wanted", "by"]⟩
  | 159 => ⟨"look", "Looker.look", (clsB (top 32)).getD 1 (.Pass ⟨0, 0, 0, 0⟩), ["self", "node", "names", "kind"], ["self", "node", "names"]⟩
  | 160 => ⟨"held", "Looker.held", (clsB (top 32)).getD 3 (.Pass ⟨0, 0, 0, 0⟩), ["self", "node", "wanted", "by", "names"], ["self", "node", "wanted", "by", "names"]⟩
  | 161 => ⟨"shaped", "Looker.shaped", (clsB (top 32)).getD 4 (.Pass ⟨0, 0, 0, 0⟩), ["self", "node", "shape", "by", "names", "kind"], ["self", "node", "shape", "by", "names"]⟩
  | 162 => ⟨"by_word", "Looker.by_word", (clsB (top 32)).getD 5 (.Pass ⟨0, 0, 0, 0⟩), ["self", "node", "names", "word", "kind"], ["self", "node", "names"]⟩
  | 163 => ⟨"binding", "Looker.binding", (clsB (top 32)).getD 6 (.Pass ⟨0, 0, 0, 0⟩), ["self", "node", "names", "own", "inner", "kind"], ["self", "node", "names"]⟩
  | 164 => ⟨"forked", "Looker.forked", (clsB (top 32)).getD 7 (.Pass ⟨0, 0, 0, 0⟩), ["self", "node", "names", "kind", "other", "both"], ["self", "node", "names"]⟩
  | 165 => ⟨"reading", "Looker.reading", (clsB (top 32)).getD 8 (.Pass ⟨0, 0, 0, 0⟩), ["self", "node", "names", "kind"], ["self", "node", "names"]⟩
  | 166 => ⟨"making", "Looker.making", (clsB (top 32)).getD 9 (.Pass ⟨0, 0, 0, 0⟩), ["self", "node", "names", "item", "kind"], ["self", "node", "names"]⟩
  | 167 => ⟨"looked", "looked", top 33, ["tree", "looker"], ["tree"]⟩
  | 176 => ⟨"_law_words", "_law_words", top 41, ["_law_cell", "_law_letters", "_law_base", "_law_at", "_law_words_here", "_law_k", "_law_word", "_law_j"], ["_law_cell"]⟩
  | 177 => ⟨"_law_next", "_law_next", top 42, ["_law_deal"], ["_law_deal"]⟩
  | 178 => ⟨"_law_place", "_law_place", top 43, ["_law_deal"], ["_law_deal"]⟩
  | 180 => ⟨"_law_leaf", "_law_leaf", top 45, ["_law_deal", "_law_names", "_law_cell", "_law_place_here"], ["_law_deal", "_law_names", "_law_cell"]⟩
  | 185 => ⟨"_law_parts", "_law_parts", top 47, ["_law_node", "_law_word", "_law_thing"], ["_law_node"]⟩
  | 198 => ⟨"_law_kind", "_law_kind", top 44, ["_law_cell", "_law_flat", "_law_one", "_law_two"], ["_law_cell"]⟩
  | 225 => ⟨"_law_places", "_law_places", top 48, ["_law_node", "_law_some", "_law_inner"], ["_law_node"]⟩
  | 234 => ⟨"refusal", "refusal", top 36, ["tree", "e"], ["tree"]⟩
  | 235 => ⟨"covered", "covered", top 37, ["node", "place", "more", "inner"], ["node", "place", "more"]⟩
  | 236 => ⟨"softened", "softened", top 38, ["tree", "rows", "found", "more"], ["tree"]⟩
  | 237 => ⟨"_law_any", "_law_any", top 46, ["_law_deal", "_law_names", "_law_room", "_law_cell", "_law_place_here", "_law_way", "_law_word", "_law_one", "_law_two", "_law_own", "_law_inner", "_law_items", "_law_k"], ["_law_deal", "_law_names", "_law_room"]⟩
  | 238 => ⟨"_law_covered", "_law_covered", top 49, ["_law_thing", "_law_place_here", "_law_more", "_law_node", "_law_inner"], ["_law_thing", "_law_place_here", "_law_more"]⟩
  | 239 => ⟨"_law_refusal", "_law_refusal", top 50, ["_law_tree", "_law_found_here", "e"], ["_law_tree"]⟩
  | 240 => ⟨"_law_found", "_law_found", top 51, ["_law_tree", "_law_found_here", "e"], ["_law_tree"]⟩
  | 241 => ⟨"law", "law", top 52, ["_law_script", "_law_cell", "_law_deal", "_law_found_here", "_law_rows", "_law_now", "_law_due", "_law_tree", "_law_more", "_law_row"], ["_law_script"]⟩
  | _ => ⟨"", "", top 0, [], []⟩
theorem sc1 : FnScope ["kind", "some"] ["kind", "some"] (defScope (top 6)) := ⟨rfl, rfl, rfl, by decide +kernel, rfl, by decide +kernel, by decide +kernel⟩
theorem ch1 : chL (chS ["kind", "some"] G 60 (defScope (top 6))) (defBody (top 6)) d1.body = true := by decide +kernel
theorem sc8 : FnScope ["_law_script", "_law_k"] ["_law_script", "_law_k"] (defScope (top 40)) := ⟨rfl, rfl, rfl, by decide +kernel, rfl, by decide +kernel, by decide +kernel⟩
theorem ch8 : chL (chS ["_law_script", "_law_k"] G 60 (defScope (top 40))) (defBody (top 40)) d8.body = true := by decide +kernel
theorem sc11 : FnScope ["kind", "inner"] ["kind"] (defScope (top 7)) := ⟨rfl, rfl, rfl, by decide +kernel, rfl, by decide +kernel, by decide +kernel⟩
theorem ch11 : chL (chS ["kind", "inner"] G 60 (defScope (top 7))) (defBody (top 7)) d11.body = true := by decide +kernel
theorem sc21 : FnScope ["kind", "other", "mine", "theirs"] ["kind", "other"] (defScope (top 13)) := ⟨rfl, rfl, rfl, by decide +kernel, rfl, by decide +kernel, by decide +kernel⟩
theorem ch21 : chL (chS ["kind", "other", "mine", "theirs"] G 60 (defScope (top 13))) (defBody (top 13)) d21.body = true := by decide +kernel
theorem sc68 : FnScope ["kind"] ["kind"] (defScope (top 8)) := ⟨rfl, rfl, rfl, by decide +kernel, rfl, by decide +kernel, by decide +kernel⟩
theorem ch68 : chL (chS ["kind"] G 60 (defScope (top 8))) (defBody (top 8)) d68.body = true := by decide +kernel
theorem sc69 : FnScope ["kind", "other", "number", "step", "found"] ["kind", "other"] (defScope (top 11)) := ⟨rfl, rfl, rfl, by decide +kernel, rfl, by decide +kernel, by decide +kernel⟩
theorem ch69 : chL (chS ["kind", "other", "number", "step", "found"] G 60 (defScope (top 11))) (defBody (top 11)) d69.body = true := by decide +kernel
theorem sc70 : FnScope ["kind", "other"] ["kind", "other"] (defScope (top 12)) := ⟨rfl, rfl, rfl, by decide +kernel, rfl, by decide +kernel, by decide +kernel⟩
theorem ch70 : chL (chS ["kind", "other"] G 60 (defScope (top 12))) (defBody (top 12)) d70.body = true := by decide +kernel
theorem sc87 : FnScope ["tree"] ["tree"] (defScope (top 16)) := ⟨rfl, rfl, rfl, by decide +kernel, rfl, by decide +kernel, by decide +kernel⟩
theorem ch87 : chL (chS ["tree"] G 60 (defScope (top 16))) (defBody (top 16)) d87.body = true := by decide +kernel
theorem sc88 : FnScope ["tree", "some"] ["tree", "some"] (defScope (top 17)) := ⟨rfl, rfl, rfl, by decide +kernel, rfl, by decide +kernel, by decide +kernel⟩
theorem ch88 : chL (chS ["tree", "some"] G 60 (defScope (top 17))) (defBody (top 17)) d88.body = true := by decide +kernel
theorem sc89 : FnScope ["tree"] ["tree"] (defScope (top 18)) := ⟨rfl, rfl, rfl, by decide +kernel, rfl, by decide +kernel, by decide +kernel⟩
theorem ch89 : chL (chS ["tree"] G 60 (defScope (top 18))) (defBody (top 18)) d89.body = true := by decide +kernel
theorem sc91 : FnScope ["tree", "found", "part"] ["tree"] (defScope (top 19)) := ⟨rfl, rfl, rfl, by decide +kernel, rfl, by decide +kernel, by decide +kernel⟩
theorem ch91 : chL (chS ["tree", "found", "part"] G 60 (defScope (top 19))) (defBody (top 19)) d91.body = true := by decide +kernel
theorem sc139 : FnScope ["tree", "number", "names"] ["tree", "number", "names"] (defScope (top 20)) := ⟨rfl, rfl, rfl, by decide +kernel, rfl, by decide +kernel, by decide +kernel⟩
theorem ch139 : chL (chS ["tree", "number", "names"] G 60 (defScope (top 20))) (defBody (top 20)) d139.body = true := by decide +kernel
theorem sc140 : FnScope ["tree", "names", "number", "part", "found"] ["tree", "names"] (defScope (top 21)) := ⟨rfl, rfl, rfl, by decide +kernel, rfl, by decide +kernel, by decide +kernel⟩
theorem ch140 : chL (chS ["tree", "names", "number", "part", "found"] G 60 (defScope (top 21))) (defBody (top 21)) d140.body = true := by decide +kernel
theorem sc141 : FnScope ["tree", "found"] ["tree"] (defScope (top 22)) := ⟨rfl, rfl, rfl, by decide +kernel, rfl, by decide +kernel, by decide +kernel⟩
theorem ch141 : chL (chS ["tree", "found"] G 60 (defScope (top 22))) (defBody (top 22)) d141.body = true := by decide +kernel
theorem sc155 : FnScope ["kind", "place"] ["kind", "place"] (defScope (top 30)) := ⟨rfl, rfl, rfl, by decide +kernel, rfl, by decide +kernel, by decide +kernel⟩
theorem ch155 : chL (chS ["kind", "place"] G 60 (defScope (top 30))) (defBody (top 30)) d155.body = true := by decide +kernel
theorem sc156 : FnScope ["names", "name", "kind", "more"] ["names", "name", "kind"] (defScope (top 31)) := ⟨rfl, rfl, rfl, by decide +kernel, rfl, by decide +kernel, by decide +kernel⟩
theorem ch156 : chL (chS ["names", "name", "kind", "more"] G 60 (defScope (top 31))) (defBody (top 31)) d156.body = true := by decide +kernel
theorem sc157 : FnScope ["self"] ["self"] (defScope ((clsB (top 32)).getD 0 (.Pass ⟨0, 0, 0, 0⟩))) := ⟨rfl, rfl, rfl, by decide +kernel, rfl, by decide +kernel, by decide +kernel⟩
theorem ch157 : chL (chS ["self"] G 60 (defScope ((clsB (top 32)).getD 0 (.Pass ⟨0, 0, 0, 0⟩)))) (defBody ((clsB (top 32)).getD 0 (.Pass ⟨0, 0, 0, 0⟩))) d157.body = true := by decide +kernel
theorem sc158 : FnScope ["self", "node", "wanted", "by", "kind"] ["self", "node", "wanted", "by"] (defScope ((clsB (top 32)).getD 2 (.Pass ⟨0, 0, 0, 0⟩))) := ⟨rfl, rfl, rfl, by decide +kernel, rfl, by decide +kernel, by decide +kernel⟩
theorem ch158 : chL (chS ["self", "node", "wanted", "by", "kind"] G 60 (defScope ((clsB (top 32)).getD 2 (.Pass ⟨0, 0, 0, 0⟩)))) (defBody ((clsB (top 32)).getD 2 (.Pass ⟨0, 0, 0, 0⟩))) d158.body = true := by decide +kernel
theorem sc159 : FnScope ["self", "node", "names", "kind"] ["self", "node", "names"] (defScope ((clsB (top 32)).getD 1 (.Pass ⟨0, 0, 0, 0⟩))) := ⟨rfl, rfl, rfl, by decide +kernel, rfl, by decide +kernel, by decide +kernel⟩
theorem ch159 : chL (chS ["self", "node", "names", "kind"] G 60 (defScope ((clsB (top 32)).getD 1 (.Pass ⟨0, 0, 0, 0⟩)))) (defBody ((clsB (top 32)).getD 1 (.Pass ⟨0, 0, 0, 0⟩))) d159.body = true := by decide +kernel
theorem sc160 : FnScope ["self", "node", "wanted", "by", "names"] ["self", "node", "wanted", "by", "names"] (defScope ((clsB (top 32)).getD 3 (.Pass ⟨0, 0, 0, 0⟩))) := ⟨rfl, rfl, rfl, by decide +kernel, rfl, by decide +kernel, by decide +kernel⟩
theorem ch160 : chL (chS ["self", "node", "wanted", "by", "names"] G 60 (defScope ((clsB (top 32)).getD 3 (.Pass ⟨0, 0, 0, 0⟩)))) (defBody ((clsB (top 32)).getD 3 (.Pass ⟨0, 0, 0, 0⟩))) d160.body = true := by decide +kernel
theorem sc161 : FnScope ["self", "node", "shape", "by", "names", "kind"] ["self", "node", "shape", "by", "names"] (defScope ((clsB (top 32)).getD 4 (.Pass ⟨0, 0, 0, 0⟩))) := ⟨rfl, rfl, rfl, by decide +kernel, rfl, by decide +kernel, by decide +kernel⟩
theorem ch161 : chL (chS ["self", "node", "shape", "by", "names", "kind"] G 60 (defScope ((clsB (top 32)).getD 4 (.Pass ⟨0, 0, 0, 0⟩)))) (defBody ((clsB (top 32)).getD 4 (.Pass ⟨0, 0, 0, 0⟩))) d161.body = true := by decide +kernel
theorem sc162 : FnScope ["self", "node", "names", "word", "kind"] ["self", "node", "names"] (defScope ((clsB (top 32)).getD 5 (.Pass ⟨0, 0, 0, 0⟩))) := ⟨rfl, rfl, rfl, by decide +kernel, rfl, by decide +kernel, by decide +kernel⟩
theorem ch162 : chL (chS ["self", "node", "names", "word", "kind"] G 60 (defScope ((clsB (top 32)).getD 5 (.Pass ⟨0, 0, 0, 0⟩)))) (defBody ((clsB (top 32)).getD 5 (.Pass ⟨0, 0, 0, 0⟩))) d162.body = true := by decide +kernel
theorem sc163 : FnScope ["self", "node", "names", "own", "inner", "kind"] ["self", "node", "names"] (defScope ((clsB (top 32)).getD 6 (.Pass ⟨0, 0, 0, 0⟩))) := ⟨rfl, rfl, rfl, by decide +kernel, rfl, by decide +kernel, by decide +kernel⟩
theorem ch163 : chL (chS ["self", "node", "names", "own", "inner", "kind"] G 60 (defScope ((clsB (top 32)).getD 6 (.Pass ⟨0, 0, 0, 0⟩)))) (defBody ((clsB (top 32)).getD 6 (.Pass ⟨0, 0, 0, 0⟩))) d163.body = true := by decide +kernel
theorem sc164 : FnScope ["self", "node", "names", "kind", "other", "both"] ["self", "node", "names"] (defScope ((clsB (top 32)).getD 7 (.Pass ⟨0, 0, 0, 0⟩))) := ⟨rfl, rfl, rfl, by decide +kernel, rfl, by decide +kernel, by decide +kernel⟩
theorem ch164 : chL (chS ["self", "node", "names", "kind", "other", "both"] G 60 (defScope ((clsB (top 32)).getD 7 (.Pass ⟨0, 0, 0, 0⟩)))) (defBody ((clsB (top 32)).getD 7 (.Pass ⟨0, 0, 0, 0⟩))) d164.body = true := by decide +kernel
theorem sc165 : FnScope ["self", "node", "names", "kind"] ["self", "node", "names"] (defScope ((clsB (top 32)).getD 8 (.Pass ⟨0, 0, 0, 0⟩))) := ⟨rfl, rfl, rfl, by decide +kernel, rfl, by decide +kernel, by decide +kernel⟩
theorem ch165 : chL (chS ["self", "node", "names", "kind"] G 60 (defScope ((clsB (top 32)).getD 8 (.Pass ⟨0, 0, 0, 0⟩)))) (defBody ((clsB (top 32)).getD 8 (.Pass ⟨0, 0, 0, 0⟩))) d165.body = true := by decide +kernel
theorem sc166 : FnScope ["self", "node", "names", "item", "kind"] ["self", "node", "names"] (defScope ((clsB (top 32)).getD 9 (.Pass ⟨0, 0, 0, 0⟩))) := ⟨rfl, rfl, rfl, by decide +kernel, rfl, by decide +kernel, by decide +kernel⟩
theorem ch166 : chL (chS ["self", "node", "names", "item", "kind"] G 60 (defScope ((clsB (top 32)).getD 9 (.Pass ⟨0, 0, 0, 0⟩)))) (defBody ((clsB (top 32)).getD 9 (.Pass ⟨0, 0, 0, 0⟩))) d166.body = true := by decide +kernel
theorem sc167 : FnScope ["tree", "looker"] ["tree"] (defScope (top 33)) := ⟨rfl, rfl, rfl, by decide +kernel, rfl, by decide +kernel, by decide +kernel⟩
theorem ch167 : chL (chS ["tree", "looker"] G 60 (defScope (top 33))) (defBody (top 33)) d167.body = true := by decide +kernel
theorem sc176 : FnScope ["_law_cell", "_law_letters", "_law_base", "_law_at", "_law_words_here", "_law_k", "_law_word", "_law_j"] ["_law_cell"] (defScope (top 41)) := ⟨rfl, rfl, rfl, by decide +kernel, rfl, by decide +kernel, by decide +kernel⟩
theorem ch176 : chL (chS ["_law_cell", "_law_letters", "_law_base", "_law_at", "_law_words_here", "_law_k", "_law_word", "_law_j"] G 60 (defScope (top 41))) (defBody (top 41)) d176.body = true := by decide +kernel
theorem sc177 : FnScope ["_law_deal"] ["_law_deal"] (defScope (top 42)) := ⟨rfl, rfl, rfl, by decide +kernel, rfl, by decide +kernel, by decide +kernel⟩
theorem ch177 : chL (chS ["_law_deal"] G 60 (defScope (top 42))) (defBody (top 42)) d177.body = true := by decide +kernel
theorem sc178 : FnScope ["_law_deal"] ["_law_deal"] (defScope (top 43)) := ⟨rfl, rfl, rfl, by decide +kernel, rfl, by decide +kernel, by decide +kernel⟩
theorem ch178 : chL (chS ["_law_deal"] G 60 (defScope (top 43))) (defBody (top 43)) d178.body = true := by decide +kernel
theorem sc180 : FnScope ["_law_deal", "_law_names", "_law_cell", "_law_place_here"] ["_law_deal", "_law_names", "_law_cell"] (defScope (top 45)) := ⟨rfl, rfl, rfl, by decide +kernel, rfl, by decide +kernel, by decide +kernel⟩
theorem ch180 : chL (chS ["_law_deal", "_law_names", "_law_cell", "_law_place_here"] G 60 (defScope (top 45))) (defBody (top 45)) d180.body = true := by decide +kernel
theorem sc185 : FnScope ["_law_node", "_law_word", "_law_thing"] ["_law_node"] (defScope (top 47)) := ⟨rfl, rfl, rfl, by decide +kernel, rfl, by decide +kernel, by decide +kernel⟩
theorem ch185 : chL (chS ["_law_node", "_law_word", "_law_thing"] G 60 (defScope (top 47))) (defBody (top 47)) d185.body = true := by decide +kernel
theorem sc198 : FnScope ["_law_cell", "_law_flat", "_law_one", "_law_two"] ["_law_cell"] (defScope (top 44)) := ⟨rfl, rfl, rfl, by decide +kernel, rfl, by decide +kernel, by decide +kernel⟩
theorem ch198 : chL (chS ["_law_cell", "_law_flat", "_law_one", "_law_two"] G 60 (defScope (top 44))) (defBody (top 44)) d198.body = true := by decide +kernel
theorem sc225 : FnScope ["_law_node", "_law_some", "_law_inner"] ["_law_node"] (defScope (top 48)) := ⟨rfl, rfl, rfl, by decide +kernel, rfl, by decide +kernel, by decide +kernel⟩
theorem ch225 : chL (chS ["_law_node", "_law_some", "_law_inner"] G 60 (defScope (top 48))) (defBody (top 48)) d225.body = true := by decide +kernel
theorem sc234 : FnScope ["tree", "e"] ["tree"] (defScope (top 36)) := ⟨rfl, rfl, rfl, by decide +kernel, rfl, by decide +kernel, by decide +kernel⟩
theorem ch234 : chL (chS ["tree", "e"] G 60 (defScope (top 36))) (defBody (top 36)) d234.body = true := by decide +kernel
theorem sc235 : FnScope ["node", "place", "more", "inner"] ["node", "place", "more"] (defScope (top 37)) := ⟨rfl, rfl, rfl, by decide +kernel, rfl, by decide +kernel, by decide +kernel⟩
theorem ch235 : chL (chS ["node", "place", "more", "inner"] G 60 (defScope (top 37))) (defBody (top 37)) d235.body = true := by decide +kernel
theorem sc236 : FnScope ["tree", "rows", "found", "more"] ["tree"] (defScope (top 38)) := ⟨rfl, rfl, rfl, by decide +kernel, rfl, by decide +kernel, by decide +kernel⟩
theorem ch236 : chL (chS ["tree", "rows", "found", "more"] G 60 (defScope (top 38))) (defBody (top 38)) d236.body = true := by decide +kernel
theorem sc237 : FnScope ["_law_deal", "_law_names", "_law_room", "_law_cell", "_law_place_here", "_law_way", "_law_word", "_law_one", "_law_two", "_law_own", "_law_inner", "_law_items", "_law_k"] ["_law_deal", "_law_names", "_law_room"] (defScope (top 46)) := ⟨rfl, rfl, rfl, by decide +kernel, rfl, by decide +kernel, by decide +kernel⟩
theorem ch237 : chL (chS ["_law_deal", "_law_names", "_law_room", "_law_cell", "_law_place_here", "_law_way", "_law_word", "_law_one", "_law_two", "_law_own", "_law_inner", "_law_items", "_law_k"] G 60 (defScope (top 46))) (defBody (top 46)) d237.body = true := by decide +kernel
theorem sc238 : FnScope ["_law_thing", "_law_place_here", "_law_more", "_law_node", "_law_inner"] ["_law_thing", "_law_place_here", "_law_more"] (defScope (top 49)) := ⟨rfl, rfl, rfl, by decide +kernel, rfl, by decide +kernel, by decide +kernel⟩
theorem ch238 : chL (chS ["_law_thing", "_law_place_here", "_law_more", "_law_node", "_law_inner"] G 60 (defScope (top 49))) (defBody (top 49)) d238.body = true := by decide +kernel
theorem sc239 : FnScope ["_law_tree", "_law_found_here", "e"] ["_law_tree"] (defScope (top 50)) := ⟨rfl, rfl, rfl, by decide +kernel, rfl, by decide +kernel, by decide +kernel⟩
theorem ch239 : chL (chS ["_law_tree", "_law_found_here", "e"] G 60 (defScope (top 50))) (defBody (top 50)) d239.body = true := by decide +kernel
theorem sc240 : FnScope ["_law_tree", "_law_found_here", "e"] ["_law_tree"] (defScope (top 51)) := ⟨rfl, rfl, rfl, by decide +kernel, rfl, by decide +kernel, by decide +kernel⟩
theorem ch240 : chL (chS ["_law_tree", "_law_found_here", "e"] G 60 (defScope (top 51))) (defBody (top 51)) d240.body = true := by decide +kernel
theorem sc241 : FnScope ["_law_script", "_law_cell", "_law_deal", "_law_found_here", "_law_rows", "_law_now", "_law_due", "_law_tree", "_law_more", "_law_row"] ["_law_script"] (defScope (top 52)) := ⟨rfl, rfl, rfl, by decide +kernel, rfl, by decide +kernel, by decide +kernel⟩
theorem ch241 : chL (chS ["_law_script", "_law_cell", "_law_deal", "_law_found_here", "_law_rows", "_law_now", "_law_due", "_law_tree", "_law_more", "_law_row"] G 60 (defScope (top 52))) (defBody (top 52)) d241.body = true := by decide +kernel
theorem law_holds : ∀ ns : List Int, ns.length ≤ 63 → (∀ z ∈ ns, Builtin.Int.intBits z ≤ 1048576) → wF T 101 241 [.sc (ns.map W.int)] (fun _ => none) (fun w _ => w = .bl true) (fun _ _ => False) := fun ns _ _ => law87 ⟨⟨⟨rfl, rfl, rfl, rfl, rfl, rfl, rfl, rfl, rfl, rfl, rfl, rfl, rfl, rfl, rfl, rfl, rfl, rfl⟩, rfl, rfl, rfl, rfl, rfl, rfl⟩, rfl, rfl, rfl, rfl, rfl, rfl, rfl, rfl, rfl, rfl⟩ ⟨rfl, rfl, rfl, rfl, rfl⟩ rfl rfl rfl ns
/-! ### the program's top -/
theorem all_mk {l : PySem.W.OpenLaw} {w : World} {K : PySem.W.Frag} {h : Heap} {mg : Str → Option Value} {fa : Addr} (X : K.In h) (G : h.Ns mainGlobals mg) (hfa : mg "law" = some (.ref fa))
    {f1 : Addr} {od1f an1f : Option Addr} {sl1f : Array (Option Value)} {oc1f kV1f dc1f pm1f cd1f ct1f : Value}
    {f8 : Addr} {od8f an8f : Option Addr} {sl8f : Array (Option Value)} {oc8f kV8f dc8f pm8f cd8f ct8f : Value}
    {f11 : Addr} {od11f an11f : Option Addr} {sl11f : Array (Option Value)} {oc11f kV11f dc11f pm11f cd11f ct11f : Value}
    {f21 : Addr} {od21f an21f : Option Addr} {sl21f : Array (Option Value)} {oc21f kV21f dc21f pm21f cd21f ct21f : Value}
    {f68 : Addr} {od68f an68f : Option Addr} {sl68f : Array (Option Value)} {oc68f kV68f dc68f pm68f cd68f ct68f : Value}
    {f69 : Addr} {od69f an69f : Option Addr} {sl69f : Array (Option Value)} {oc69f kV69f dc69f pm69f cd69f ct69f : Value}
    {f70 : Addr} {od70f an70f : Option Addr} {sl70f : Array (Option Value)} {oc70f kV70f dc70f pm70f cd70f ct70f : Value}
    {f87 : Addr} {od87f an87f : Option Addr} {sl87f : Array (Option Value)} {oc87f kV87f dc87f pm87f cd87f ct87f : Value}
    {f88 : Addr} {od88f an88f : Option Addr} {sl88f : Array (Option Value)} {oc88f kV88f dc88f pm88f cd88f ct88f : Value}
    {f89 : Addr} {od89f an89f : Option Addr} {sl89f : Array (Option Value)} {oc89f kV89f dc89f pm89f cd89f ct89f : Value}
    {f91 : Addr} {od91f an91f : Option Addr} {sl91f : Array (Option Value)} {oc91f kV91f dc91f pm91f cd91f ct91f : Value}
    {f139 : Addr} {od139f an139f : Option Addr} {sl139f : Array (Option Value)} {oc139f kV139f dc139f pm139f cd139f ct139f : Value}
    {f140 : Addr} {od140f an140f : Option Addr} {sl140f : Array (Option Value)} {oc140f kV140f dc140f pm140f cd140f ct140f : Value}
    {f141 : Addr} {od141f an141f : Option Addr} {sl141f : Array (Option Value)} {oc141f kV141f dc141f pm141f cd141f ct141f : Value}
    {f155 : Addr} {od155f an155f : Option Addr} {sl155f : Array (Option Value)} {oc155f kV155f dc155f pm155f cd155f ct155f : Value}
    {f156 : Addr} {od156f an156f : Option Addr} {sl156f : Array (Option Value)} {oc156f kV156f dc156f pm156f cd156f ct156f : Value}
    {f167 : Addr} {od167f an167f : Option Addr} {sl167f : Array (Option Value)} {oc167f kV167f dc167f pm167f cd167f ct167f : Value}
    {f176 : Addr} {od176f an176f : Option Addr} {sl176f : Array (Option Value)} {oc176f kV176f dc176f pm176f cd176f ct176f : Value}
    {f177 : Addr} {od177f an177f : Option Addr} {sl177f : Array (Option Value)} {oc177f kV177f dc177f pm177f cd177f ct177f : Value}
    {f178 : Addr} {od178f an178f : Option Addr} {sl178f : Array (Option Value)} {oc178f kV178f dc178f pm178f cd178f ct178f : Value}
    {f180 : Addr} {od180f an180f : Option Addr} {sl180f : Array (Option Value)} {oc180f kV180f dc180f pm180f cd180f ct180f : Value}
    {f185 : Addr} {od185f an185f : Option Addr} {sl185f : Array (Option Value)} {oc185f kV185f dc185f pm185f cd185f ct185f : Value}
    {f198 : Addr} {od198f an198f : Option Addr} {sl198f : Array (Option Value)} {oc198f kV198f dc198f pm198f cd198f ct198f : Value}
    {f225 : Addr} {od225f an225f : Option Addr} {sl225f : Array (Option Value)} {oc225f kV225f dc225f pm225f cd225f ct225f : Value}
    {f234 : Addr} {od234f an234f : Option Addr} {sl234f : Array (Option Value)} {oc234f kV234f dc234f pm234f cd234f ct234f : Value}
    {f235 : Addr} {od235f an235f : Option Addr} {sl235f : Array (Option Value)} {oc235f kV235f dc235f pm235f cd235f ct235f : Value}
    {f236 : Addr} {od236f an236f : Option Addr} {sl236f : Array (Option Value)} {oc236f kV236f dc236f pm236f cd236f ct236f : Value}
    {f237 : Addr} {od237f an237f : Option Addr} {sl237f : Array (Option Value)} {oc237f kV237f dc237f pm237f cd237f ct237f : Value}
    {f238 : Addr} {od238f an238f : Option Addr} {sl238f : Array (Option Value)} {oc238f kV238f dc238f pm238f cd238f ct238f : Value}
    {f239 : Addr} {od239f an239f : Option Addr} {sl239f : Array (Option Value)} {oc239f kV239f dc239f pm239f cd239f ct239f : Value}
    {f240 : Addr} {od240f an240f : Option Addr} {sl240f : Array (Option Value)} {oc240f kV240f dc240f pm240f cd240f ct240f : Value}
    {f241 : Addr} {od241f an241f : Option Addr} {sl241f : Array (Option Value)} {oc241f kV241f dc241f pm241f cd241f ct241f : Value}
    {C0 : Addr}
    {C4 : Addr}
    {C5 : Addr}
    {C8 : Addr}
    {C9 : Addr}
    {nm4C q4C : Str} {N4C : Addr} {bs4C : List Value} {sn4C : List Str} {sub4C : List Value} {ab4C : Bool} {col4C : Option Bool} {dd4C : Option Addr} {m04C m14C m24C m34C m54C : Option Value}
    {f9004 : Addr} {od9004f an9004f : Option Addr} {sl9004f : Array (Option Value)} {oc9004f kV9004f dc9004f pm9004f cd9004f ct9004f : Value}
    {nm5C q5C : Str} {N5C : Addr} {bs5C : List Value} {sn5C : List Str} {sub5C : List Value} {ab5C : Bool} {col5C : Option Bool} {dd5C : Option Addr} {m05C m15C m25C m35C m55C : Option Value}
    {f9005 : Addr} {od9005f an9005f : Option Addr} {sl9005f : Array (Option Value)} {oc9005f kV9005f dc9005f pm9005f cd9005f ct9005f : Value}
    {nm8C q8C : Str} {N8C : Addr} {bs8C : List Value} {sn8C : List Str} {sub8C : List Value} {ab8C : Bool} {col8C : Option Bool} {dd8C : Option Addr} {m08C m18C m28C m38C m58C : Option Value}
    {f9008 : Addr} {od9008f an9008f : Option Addr} {sl9008f : Array (Option Value)} {oc9008f kV9008f dc9008f pm9008f cd9008f ct9008f : Value}
    {f157 : Addr} {od157f an157f : Option Addr} {sl157f : Array (Option Value)} {oc157f kV157f dc157f pm157f cd157f ct157f : Value}
    {f158 : Addr} {od158f an158f : Option Addr} {sl158f : Array (Option Value)} {oc158f kV158f dc158f pm158f cd158f ct158f : Value}
    {f159 : Addr} {od159f an159f : Option Addr} {sl159f : Array (Option Value)} {oc159f kV159f dc159f pm159f cd159f ct159f : Value}
    {f160 : Addr} {od160f an160f : Option Addr} {sl160f : Array (Option Value)} {oc160f kV160f dc160f pm160f cd160f ct160f : Value}
    {f161 : Addr} {od161f an161f : Option Addr} {sl161f : Array (Option Value)} {oc161f kV161f dc161f pm161f cd161f ct161f : Value}
    {f162 : Addr} {od162f an162f : Option Addr} {sl162f : Array (Option Value)} {oc162f kV162f dc162f pm162f cd162f ct162f : Value}
    {f163 : Addr} {od163f an163f : Option Addr} {sl163f : Array (Option Value)} {oc163f kV163f dc163f pm163f cd163f ct163f : Value}
    {f164 : Addr} {od164f an164f : Option Addr} {sl164f : Array (Option Value)} {oc164f kV164f dc164f pm164f cd164f ct164f : Value}
    {f165 : Addr} {od165f an165f : Option Addr} {sl165f : Array (Option Value)} {oc165f kV165f dc165f pm165f cd165f ct165f : Value}
    {f166 : Addr} {od166f an166f : Option Addr} {sl166f : Array (Option Value)} {oc166f kV166f dc166f pm166f cd166f ct166f : Value}
    {p1 : Addr}
    {u2 : Value}
    {od3 : Option Addr}
    {n4 : Nat}
    {sl5 : Array (Option Value)}
    {tk7 : Tok}
    {u9 : Value}
    {tk11 : Tok}
    {u12 : Value}
    {p14 : Addr}
    {u15 : Value}
    {od16 : Option Addr}
    {n17 : Nat}
    {sl18 : Array (Option Value)}
    {tk20 : Tok}
    {u22 : Value}
    {p24 : Addr}
    {u25 : Value}
    {od26 : Option Addr}
    {n27 : Nat}
    {sl28 : Array (Option Value)}
    {tk30 : Tok}
    {u32 : Value}
    {p34 : Addr}
    {u35 : Value}
    {u36 : Value}
    {u37 : Value}
    {od38 : Option Addr}
    {n39 : Nat}
    {sl40 : Array (Option Value)}
    {tk42 : Tok}
    {p44 : Addr}
    {u45 : Value}
    {od46 : Option Addr}
    {n47 : Nat}
    {sl48 : Array (Option Value)}
    {tk50 : Tok}
    {p53 : Addr}
    {u54 : Value}
    {od55 : Option Addr}
    {n56 : Nat}
    {sl57 : Array (Option Value)}
    {tk59 : Tok}
    {u62 : Value}
    {p64 : Addr}
    {u65 : Value}
    {u66 : Value}
    {od67 : Option Addr}
    {n68 : Nat}
    {sl69 : Array (Option Value)}
    {tk71 : Tok}
    {p73 : Addr}
    {u74 : Value}
    {od75 : Option Addr}
    {n76 : Nat}
    {sl77 : Array (Option Value)}
    {tk79 : Tok}
    {u82 : Value}
    {p84 : Addr}
    {u85 : Value}
    {u86 : Value}
    {u87 : Value}
    {od88 : Option Addr}
    {n89 : Nat}
    {sl90 : Array (Option Value)}
    {tk92 : Tok}
    {p94 : Addr}
    {u95 : Value}
    {od96 : Option Addr}
    {n97 : Nat}
    {sl98 : Array (Option Value)}
    {tk100 : Tok}
    {p103 : Addr}
    {u104 : Value}
    {od105 : Option Addr}
    {n106 : Nat}
    {sl107 : Array (Option Value)}
    {tk109 : Tok}
    {u112 : Value}
    {p114 : Addr}
    {u115 : Value}
    {od116 : Option Addr}
    {n117 : Nat}
    {sl118 : Array (Option Value)}
    {tk120 : Tok}
    {u122 : Value}
    {p124 : Addr}
    {es125 : Array DictEntry}
    {n126 : Nat}
    {u130 : Value}
    {tk133 : Tok}
    {u134 : Value}
    {tk137 : Tok}
    {u138 : Value}
    {tk141 : Tok}
    {u142 : Value}
    {tk145 : Tok}
    {u146 : Value}
    {tk149 : Tok}
    {u150 : Value}
    {tk153 : Tok}
    {u154 : Value}
    {tk157 : Tok}
    {u158 : Value}
    {tk161 : Tok}
    {u162 : Value}
    {tk165 : Tok}
    {u166 : Value}
    {tk169 : Tok}
    {u170 : Value}
    {tk173 : Tok}
    {u174 : Value}
    {tk177 : Tok}
    {u178 : Value}
    {tk181 : Tok}
    {u182 : Value}
    {tk185 : Tok}
    {u186 : Value}
    {tk189 : Tok}
    {u190 : Value}
    {tk193 : Tok}
    {u194 : Value}
    {tk197 : Tok}
    (a1f : PySem.W.nsIn K mainGlobals "with_kinds" = some (some (.ref f1)))
    (l1f : K.lookup f1 = some ⟨oc1f, od1f, .func (PySem.W.fnOf "with_kinds" "with_kinds" (defArgs (top 6)) (defBody (top 6)) (defScope (top 6)) .none kV1f dc1f pm1f an1f cd1f ct1f), sl1f⟩)
    (c1f : PySem.W.codeIn K cd1f "with_kinds" = true)
    (k1f : PySem.W.keepIn K (.ref f1) = true)
    (a8f : PySem.W.nsIn K mainGlobals "_law_cell_at" = some (some (.ref f8)))
    (l8f : K.lookup f8 = some ⟨oc8f, od8f, .func (PySem.W.fnOf "_law_cell_at" "_law_cell_at" (defArgs (top 40)) (defBody (top 40)) (defScope (top 40)) .none kV8f dc8f pm8f an8f cd8f ct8f), sl8f⟩)
    (c8f : PySem.W.codeIn K cd8f "_law_cell_at" = true)
    (k8f : PySem.W.keepIn K (.ref f8) = true)
    (a11f : PySem.W.nsIn K mainGlobals "depth" = some (some (.ref f11)))
    (l11f : K.lookup f11 = some ⟨oc11f, od11f, .func (PySem.W.fnOf "depth" "depth" (defArgs (top 7)) (defBody (top 7)) (defScope (top 7)) .none kV11f dc11f pm11f an11f cd11f ct11f), sl11f⟩)
    (c11f : PySem.W.codeIn K cd11f "depth" = true)
    (k11f : PySem.W.keepIn K (.ref f11) = true)
    (a21f : PySem.W.nsIn K mainGlobals "join" = some (some (.ref f21)))
    (l21f : K.lookup f21 = some ⟨oc21f, od21f, .func (PySem.W.fnOf "join" "join" (defArgs (top 13)) (defBody (top 13)) (defScope (top 13)) .none kV21f dc21f pm21f an21f cd21f ct21f), sl21f⟩)
    (c21f : PySem.W.codeIn K cd21f "join" = true)
    (k21f : PySem.W.keepIn K (.ref f21) = true)
    (a68f : PySem.W.nsIn K mainGlobals "steps_of" = some (some (.ref f68)))
    (l68f : K.lookup f68 = some ⟨oc68f, od68f, .func (PySem.W.fnOf "steps_of" "steps_of" (defArgs (top 8)) (defBody (top 8)) (defScope (top 8)) .none kV68f dc68f pm68f an68f cd68f ct68f), sl68f⟩)
    (c68f : PySem.W.codeIn K cd68f "steps_of" = true)
    (k68f : PySem.W.keepIn K (.ref f68) = true)
    (a69f : PySem.W.nsIn K mainGlobals "parting" = some (some (.ref f69)))
    (l69f : K.lookup f69 = some ⟨oc69f, od69f, .func (PySem.W.fnOf "parting" "parting" (defArgs (top 11)) (defBody (top 11)) (defScope (top 11)) .none kV69f dc69f pm69f an69f cd69f ct69f), sl69f⟩)
    (c69f : PySem.W.codeIn K cd69f "parting" = true)
    (k69f : PySem.W.keepIn K (.ref f69) = true)
    (a70f : PySem.W.nsIn K mainGlobals "same" = some (some (.ref f70)))
    (l70f : K.lookup f70 = some ⟨oc70f, od70f, .func (PySem.W.fnOf "same" "same" (defArgs (top 12)) (defBody (top 12)) (defScope (top 12)) .none kV70f dc70f pm70f an70f cd70f ct70f), sl70f⟩)
    (c70f : PySem.W.codeIn K cd70f "same" = true)
    (k70f : PySem.W.keepIn K (.ref f70) = true)
    (a87f : PySem.W.nsIn K mainGlobals "parts" = some (some (.ref f87)))
    (l87f : K.lookup f87 = some ⟨oc87f, od87f, .func (PySem.W.fnOf "parts" "parts" (defArgs (top 16)) (defBody (top 16)) (defScope (top 16)) .none kV87f dc87f pm87f an87f cd87f ct87f), sl87f⟩)
    (c87f : PySem.W.codeIn K cd87f "parts" = true)
    (k87f : PySem.W.keepIn K (.ref f87) = true)
    (a88f : PySem.W.nsIn K mainGlobals "with_parts" = some (some (.ref f88)))
    (l88f : K.lookup f88 = some ⟨oc88f, od88f, .func (PySem.W.fnOf "with_parts" "with_parts" (defArgs (top 17)) (defBody (top 17)) (defScope (top 17)) .none kV88f dc88f pm88f an88f cd88f ct88f), sl88f⟩)
    (c88f : PySem.W.codeIn K cd88f "with_parts" = true)
    (k88f : PySem.W.keepIn K (.ref f88) = true)
    (a89f : PySem.W.nsIn K mainGlobals "written" = some (some (.ref f89)))
    (l89f : K.lookup f89 = some ⟨oc89f, od89f, .func (PySem.W.fnOf "written" "written" (defArgs (top 18)) (defBody (top 18)) (defScope (top 18)) .none kV89f dc89f pm89f an89f cd89f ct89f), sl89f⟩)
    (c89f : PySem.W.codeIn K cd89f "written" = true)
    (k89f : PySem.W.keepIn K (.ref f89) = true)
    (a91f : PySem.W.nsIn K mainGlobals "places" = some (some (.ref f91)))
    (l91f : K.lookup f91 = some ⟨oc91f, od91f, .func (PySem.W.fnOf "places" "places" (defArgs (top 19)) (defBody (top 19)) (defScope (top 19)) .none kV91f dc91f pm91f an91f cd91f ct91f), sl91f⟩)
    (c91f : PySem.W.codeIn K cd91f "places" = true)
    (k91f : PySem.W.keepIn K (.ref f91) = true)
    (a139f : PySem.W.nsIn K mainGlobals "names_within" = some (some (.ref f139)))
    (l139f : K.lookup f139 = some ⟨oc139f, od139f, .func (PySem.W.fnOf "names_within" "names_within" (defArgs (top 20)) (defBody (top 20)) (defScope (top 20)) .none kV139f dc139f pm139f an139f cd139f ct139f), sl139f⟩)
    (c139f : PySem.W.codeIn K cd139f "names_within" = true)
    (k139f : PySem.W.keepIn K (.ref f139) = true)
    (a140f : PySem.W.nsIn K mainGlobals "free_name" = some (some (.ref f140)))
    (l140f : K.lookup f140 = some ⟨oc140f, od140f, .func (PySem.W.fnOf "free_name" "free_name" (defArgs (top 21)) (defBody (top 21)) (defScope (top 21)) .none kV140f dc140f pm140f an140f cd140f ct140f), sl140f⟩)
    (c140f : PySem.W.codeIn K cd140f "free_name" = true)
    (k140f : PySem.W.keepIn K (.ref f140) = true)
    (a141f : PySem.W.nsIn K mainGlobals "need_names" = some (some (.ref f141)))
    (l141f : K.lookup f141 = some ⟨oc141f, od141f, .func (PySem.W.fnOf "need_names" "need_names" (defArgs (top 22)) (defBody (top 22)) (defScope (top 22)) .none kV141f dc141f pm141f an141f cd141f ct141f), sl141f⟩)
    (c141f : PySem.W.codeIn K cd141f "need_names" = true)
    (k141f : PySem.W.keepIn K (.ref f141) = true)
    (a155f : PySem.W.nsIn K mainGlobals "need_shallow" = some (some (.ref f155)))
    (l155f : K.lookup f155 = some ⟨oc155f, od155f, .func (PySem.W.fnOf "need_shallow" "need_shallow" (defArgs (top 30)) (defBody (top 30)) (defScope (top 30)) .none kV155f dc155f pm155f an155f cd155f ct155f), sl155f⟩)
    (c155f : PySem.W.codeIn K cd155f "need_shallow" = true)
    (k155f : PySem.W.keepIn K (.ref f155) = true)
    (a156f : PySem.W.nsIn K mainGlobals "bound" = some (some (.ref f156)))
    (l156f : K.lookup f156 = some ⟨oc156f, od156f, .func (PySem.W.fnOf "bound" "bound" (defArgs (top 31)) (defBody (top 31)) (defScope (top 31)) .none kV156f dc156f pm156f an156f cd156f ct156f), sl156f⟩)
    (c156f : PySem.W.codeIn K cd156f "bound" = true)
    (k156f : PySem.W.keepIn K (.ref f156) = true)
    (a167f : PySem.W.nsIn K mainGlobals "looked" = some (some (.ref f167)))
    (l167f : K.lookup f167 = some ⟨oc167f, od167f, .func (PySem.W.fnOf "looked" "looked" (defArgs (top 33)) (defBody (top 33)) (defScope (top 33)) .none kV167f dc167f pm167f an167f cd167f ct167f), sl167f⟩)
    (c167f : PySem.W.codeIn K cd167f "looked" = true)
    (k167f : PySem.W.keepIn K (.ref f167) = true)
    (a176f : PySem.W.nsIn K mainGlobals "_law_words" = some (some (.ref f176)))
    (l176f : K.lookup f176 = some ⟨oc176f, od176f, .func (PySem.W.fnOf "_law_words" "_law_words" (defArgs (top 41)) (defBody (top 41)) (defScope (top 41)) .none kV176f dc176f pm176f an176f cd176f ct176f), sl176f⟩)
    (c176f : PySem.W.codeIn K cd176f "_law_words" = true)
    (k176f : PySem.W.keepIn K (.ref f176) = true)
    (a177f : PySem.W.nsIn K mainGlobals "_law_next" = some (some (.ref f177)))
    (l177f : K.lookup f177 = some ⟨oc177f, od177f, .func (PySem.W.fnOf "_law_next" "_law_next" (defArgs (top 42)) (defBody (top 42)) (defScope (top 42)) .none kV177f dc177f pm177f an177f cd177f ct177f), sl177f⟩)
    (c177f : PySem.W.codeIn K cd177f "_law_next" = true)
    (k177f : PySem.W.keepIn K (.ref f177) = true)
    (a178f : PySem.W.nsIn K mainGlobals "_law_place" = some (some (.ref f178)))
    (l178f : K.lookup f178 = some ⟨oc178f, od178f, .func (PySem.W.fnOf "_law_place" "_law_place" (defArgs (top 43)) (defBody (top 43)) (defScope (top 43)) .none kV178f dc178f pm178f an178f cd178f ct178f), sl178f⟩)
    (c178f : PySem.W.codeIn K cd178f "_law_place" = true)
    (k178f : PySem.W.keepIn K (.ref f178) = true)
    (a180f : PySem.W.nsIn K mainGlobals "_law_leaf" = some (some (.ref f180)))
    (l180f : K.lookup f180 = some ⟨oc180f, od180f, .func (PySem.W.fnOf "_law_leaf" "_law_leaf" (defArgs (top 45)) (defBody (top 45)) (defScope (top 45)) .none kV180f dc180f pm180f an180f cd180f ct180f), sl180f⟩)
    (c180f : PySem.W.codeIn K cd180f "_law_leaf" = true)
    (k180f : PySem.W.keepIn K (.ref f180) = true)
    (a185f : PySem.W.nsIn K mainGlobals "_law_parts" = some (some (.ref f185)))
    (l185f : K.lookup f185 = some ⟨oc185f, od185f, .func (PySem.W.fnOf "_law_parts" "_law_parts" (defArgs (top 47)) (defBody (top 47)) (defScope (top 47)) .none kV185f dc185f pm185f an185f cd185f ct185f), sl185f⟩)
    (c185f : PySem.W.codeIn K cd185f "_law_parts" = true)
    (k185f : PySem.W.keepIn K (.ref f185) = true)
    (a198f : PySem.W.nsIn K mainGlobals "_law_kind" = some (some (.ref f198)))
    (l198f : K.lookup f198 = some ⟨oc198f, od198f, .func (PySem.W.fnOf "_law_kind" "_law_kind" (defArgs (top 44)) (defBody (top 44)) (defScope (top 44)) .none kV198f dc198f pm198f an198f cd198f ct198f), sl198f⟩)
    (c198f : PySem.W.codeIn K cd198f "_law_kind" = true)
    (k198f : PySem.W.keepIn K (.ref f198) = true)
    (a225f : PySem.W.nsIn K mainGlobals "_law_places" = some (some (.ref f225)))
    (l225f : K.lookup f225 = some ⟨oc225f, od225f, .func (PySem.W.fnOf "_law_places" "_law_places" (defArgs (top 48)) (defBody (top 48)) (defScope (top 48)) .none kV225f dc225f pm225f an225f cd225f ct225f), sl225f⟩)
    (c225f : PySem.W.codeIn K cd225f "_law_places" = true)
    (k225f : PySem.W.keepIn K (.ref f225) = true)
    (a234f : PySem.W.nsIn K mainGlobals "refusal" = some (some (.ref f234)))
    (l234f : K.lookup f234 = some ⟨oc234f, od234f, .func (PySem.W.fnOf "refusal" "refusal" (defArgs (top 36)) (defBody (top 36)) (defScope (top 36)) .none kV234f dc234f pm234f an234f cd234f ct234f), sl234f⟩)
    (c234f : PySem.W.codeIn K cd234f "refusal" = true)
    (k234f : PySem.W.keepIn K (.ref f234) = true)
    (a235f : PySem.W.nsIn K mainGlobals "covered" = some (some (.ref f235)))
    (l235f : K.lookup f235 = some ⟨oc235f, od235f, .func (PySem.W.fnOf "covered" "covered" (defArgs (top 37)) (defBody (top 37)) (defScope (top 37)) .none kV235f dc235f pm235f an235f cd235f ct235f), sl235f⟩)
    (c235f : PySem.W.codeIn K cd235f "covered" = true)
    (k235f : PySem.W.keepIn K (.ref f235) = true)
    (a236f : PySem.W.nsIn K mainGlobals "softened" = some (some (.ref f236)))
    (l236f : K.lookup f236 = some ⟨oc236f, od236f, .func (PySem.W.fnOf "softened" "softened" (defArgs (top 38)) (defBody (top 38)) (defScope (top 38)) .none kV236f dc236f pm236f an236f cd236f ct236f), sl236f⟩)
    (c236f : PySem.W.codeIn K cd236f "softened" = true)
    (k236f : PySem.W.keepIn K (.ref f236) = true)
    (a237f : PySem.W.nsIn K mainGlobals "_law_any" = some (some (.ref f237)))
    (l237f : K.lookup f237 = some ⟨oc237f, od237f, .func (PySem.W.fnOf "_law_any" "_law_any" (defArgs (top 46)) (defBody (top 46)) (defScope (top 46)) .none kV237f dc237f pm237f an237f cd237f ct237f), sl237f⟩)
    (c237f : PySem.W.codeIn K cd237f "_law_any" = true)
    (k237f : PySem.W.keepIn K (.ref f237) = true)
    (a238f : PySem.W.nsIn K mainGlobals "_law_covered" = some (some (.ref f238)))
    (l238f : K.lookup f238 = some ⟨oc238f, od238f, .func (PySem.W.fnOf "_law_covered" "_law_covered" (defArgs (top 49)) (defBody (top 49)) (defScope (top 49)) .none kV238f dc238f pm238f an238f cd238f ct238f), sl238f⟩)
    (c238f : PySem.W.codeIn K cd238f "_law_covered" = true)
    (k238f : PySem.W.keepIn K (.ref f238) = true)
    (a239f : PySem.W.nsIn K mainGlobals "_law_refusal" = some (some (.ref f239)))
    (l239f : K.lookup f239 = some ⟨oc239f, od239f, .func (PySem.W.fnOf "_law_refusal" "_law_refusal" (defArgs (top 50)) (defBody (top 50)) (defScope (top 50)) .none kV239f dc239f pm239f an239f cd239f ct239f), sl239f⟩)
    (c239f : PySem.W.codeIn K cd239f "_law_refusal" = true)
    (k239f : PySem.W.keepIn K (.ref f239) = true)
    (a240f : PySem.W.nsIn K mainGlobals "_law_found" = some (some (.ref f240)))
    (l240f : K.lookup f240 = some ⟨oc240f, od240f, .func (PySem.W.fnOf "_law_found" "_law_found" (defArgs (top 51)) (defBody (top 51)) (defScope (top 51)) .none kV240f dc240f pm240f an240f cd240f ct240f), sl240f⟩)
    (c240f : PySem.W.codeIn K cd240f "_law_found" = true)
    (k240f : PySem.W.keepIn K (.ref f240) = true)
    (a241f : PySem.W.nsIn K mainGlobals "law" = some (some (.ref f241)))
    (l241f : K.lookup f241 = some ⟨oc241f, od241f, .func (PySem.W.fnOf "law" "law" (defArgs (top 52)) (defBody (top 52)) (defScope (top 52)) .none kV241f dc241f pm241f an241f cd241f ct241f), sl241f⟩)
    (c241f : PySem.W.codeIn K cd241f "law" = true)
    (k241f : PySem.W.keepIn K (.ref f241) = true)
    (a0C : PySem.W.nsIn K mainGlobals "BlameError" = some (some (.ref C0)))
    (i0C : PySem.W.isClsIn K C0 = true)
    (t0C : PySem.W.typeIn K (.ref C0) = some (.type "type"))
    (s0C : PySem.W.subIn K (.ref C0) (.ref C0) = some true)
    (k0C : PySem.W.keepIn K (.ref C0) = true)
    (e0C : PySem.W.subIn K (.ref C0) (.type "BaseException") = some true)
    (a4C : PySem.W.nsIn K mainGlobals "NoName" = some (some (.ref C4)))
    (i4C : PySem.W.isClsIn K C4 = true)
    (t4C : PySem.W.typeIn K (.ref C4) = some (.type "type"))
    (s4C : PySem.W.subIn K (.ref C4) (.ref C4) = some true)
    (k4C : PySem.W.keepIn K (.ref C4) = true)
    (e4C : PySem.W.subIn K (.ref C4) (.type "BaseException") = some true)
    (a5C : PySem.W.nsIn K mainGlobals "TooDeep" = some (some (.ref C5)))
    (i5C : PySem.W.isClsIn K C5 = true)
    (t5C : PySem.W.typeIn K (.ref C5) = some (.type "type"))
    (s5C : PySem.W.subIn K (.ref C5) (.ref C5) = some true)
    (k5C : PySem.W.keepIn K (.ref C5) = true)
    (e5C : PySem.W.subIn K (.ref C5) (.type "BaseException") = some true)
    (a8C : PySem.W.nsIn K mainGlobals "Parted" = some (some (.ref C8)))
    (i8C : PySem.W.isClsIn K C8 = true)
    (t8C : PySem.W.typeIn K (.ref C8) = some (.type "type"))
    (s8C : PySem.W.subIn K (.ref C8) (.ref C8) = some true)
    (k8C : PySem.W.keepIn K (.ref C8) = true)
    (e8C : PySem.W.subIn K (.ref C8) (.type "BaseException") = some true)
    (a9C : PySem.W.nsIn K mainGlobals "Looker" = some (some (.ref C9)))
    (i9C : PySem.W.isClsIn K C9 = true)
    (t9C : PySem.W.typeIn K (.ref C9) = some (.type "type"))
    (s9C : PySem.W.subIn K (.ref C9) (.ref C9) = some true)
    (k9C : PySem.W.keepIn K (.ref C9) = true)
    (hnX : PySem.W.specialIn K (.builtin "object.__class__") "__get__" = some (some (.builtin "getset_descriptor.__get__")))
    (htX : PySem.W.takesIn K (.builtin "object.__class__") = some true)
    (ha4C : PySem.W.findIn K (.ref C4) "__class__" = some (some (.builtin "object.__class__")))
    (hm4C : PySem.W.mroIn K C4 (.type "object") = some true)
    (hd4C : PySem.W.hasDictIn K C4 = true)
    (sa4C : PySem.W.findIn K (.ref C4) "__setattr__" = some (some (.builtin "object.__setattr__")))
    (ha5C : PySem.W.findIn K (.ref C5) "__class__" = some (some (.builtin "object.__class__")))
    (hm5C : PySem.W.mroIn K C5 (.type "object") = some true)
    (hd5C : PySem.W.hasDictIn K C5 = true)
    (sa5C : PySem.W.findIn K (.ref C5) "__setattr__" = some (some (.builtin "object.__setattr__")))
    (ha8C : PySem.W.findIn K (.ref C8) "__class__" = some (some (.builtin "object.__class__")))
    (hm8C : PySem.W.mroIn K C8 (.type "object") = some true)
    (hd8C : PySem.W.hasDictIn K C8 = true)
    (sa8C : PySem.W.findIn K (.ref C8) "__setattr__" = some (some (.builtin "object.__setattr__")))
    (ha9C : PySem.W.findIn K (.ref C9) "__class__" = some (some (.builtin "object.__class__")))
    (hm9C : PySem.W.mroIn K C9 (.type "object") = some true)
    (hd9C : PySem.W.hasDictIn K C9 = true)
    (sa9C : PySem.W.findIn K (.ref C9) "__setattr__" = some (some (.builtin "object.__setattr__")))
    (ga4C : PySem.W.findIn K (.ref C4) "__getattribute__" = some (some (.builtin "BaseException.__getattribute__")))
    (gg4C : PySem.W.findIn K (.ref C4) "__getattr__" = some none)
    (xl4C : K.lookup C4 = some (excClassObj nm4C q4C C4 N4C bs4C [.ref C0, .type "ValueError", .type "Exception", .type "BaseException", .type "object"] true sn4C sub4C ab4C col4C dd4C m04C m14C m24C m34C m54C "ValueError.__new__"))
    (ii4C : PySem.W.findIn K (.ref C4) "__init__" = some (some (.ref f9004)))
    (l9004f : K.lookup f9004 = some ⟨oc9004f, od9004f, .func (PySem.W.fnOf "__init__" "NoName.__init__" (defArgs ((clsB (top 2)).getD 0 (.Pass ⟨0, 0, 0, 0⟩))) (defBody ((clsB (top 2)).getD 0 (.Pass ⟨0, 0, 0, 0⟩))) (defScope ((clsB (top 2)).getD 0 (.Pass ⟨0, 0, 0, 0⟩))) .none kV9004f dc9004f pm9004f an9004f cd9004f ct9004f), sl9004f⟩)
    (c9004f : PySem.W.codeIn K cd9004f "NoName.__init__" = true)
    (k9004f : PySem.W.keepIn K (.ref f9004) = true)
    (ti4C : PySem.W.typeIn K (.ref f9004) = some (.type "function"))
    (n4Cplace : PySem.W.findIn K (.ref C4) "place" = some none)
    (ga5C : PySem.W.findIn K (.ref C5) "__getattribute__" = some (some (.builtin "BaseException.__getattribute__")))
    (gg5C : PySem.W.findIn K (.ref C5) "__getattr__" = some none)
    (xl5C : K.lookup C5 = some (excClassObj nm5C q5C C5 N5C bs5C [.ref C0, .type "ValueError", .type "Exception", .type "BaseException", .type "object"] true sn5C sub5C ab5C col5C dd5C m05C m15C m25C m35C m55C "ValueError.__new__"))
    (ii5C : PySem.W.findIn K (.ref C5) "__init__" = some (some (.ref f9005)))
    (l9005f : K.lookup f9005 = some ⟨oc9005f, od9005f, .func (PySem.W.fnOf "__init__" "TooDeep.__init__" (defArgs ((clsB (top 3)).getD 0 (.Pass ⟨0, 0, 0, 0⟩))) (defBody ((clsB (top 3)).getD 0 (.Pass ⟨0, 0, 0, 0⟩))) (defScope ((clsB (top 3)).getD 0 (.Pass ⟨0, 0, 0, 0⟩))) .none kV9005f dc9005f pm9005f an9005f cd9005f ct9005f), sl9005f⟩)
    (c9005f : PySem.W.codeIn K cd9005f "TooDeep.__init__" = true)
    (k9005f : PySem.W.keepIn K (.ref f9005) = true)
    (ti5C : PySem.W.typeIn K (.ref f9005) = some (.type "function"))
    (n5Cplace : PySem.W.findIn K (.ref C5) "place" = some none)
    (ga8C : PySem.W.findIn K (.ref C8) "__getattribute__" = some (some (.builtin "BaseException.__getattribute__")))
    (gg8C : PySem.W.findIn K (.ref C8) "__getattr__" = some none)
    (xl8C : K.lookup C8 = some (excClassObj nm8C q8C C8 N8C bs8C [.ref C0, .type "ValueError", .type "Exception", .type "BaseException", .type "object"] true sn8C sub8C ab8C col8C dd8C m08C m18C m28C m38C m58C "ValueError.__new__"))
    (ii8C : PySem.W.findIn K (.ref C8) "__init__" = some (some (.ref f9008)))
    (l9008f : K.lookup f9008 = some ⟨oc9008f, od9008f, .func (PySem.W.fnOf "__init__" "Parted.__init__" (defArgs ((clsB (top 4)).getD 0 (.Pass ⟨0, 0, 0, 0⟩))) (defBody ((clsB (top 4)).getD 0 (.Pass ⟨0, 0, 0, 0⟩))) (defScope ((clsB (top 4)).getD 0 (.Pass ⟨0, 0, 0, 0⟩))) .none kV9008f dc9008f pm9008f an9008f cd9008f ct9008f), sl9008f⟩)
    (c9008f : PySem.W.codeIn K cd9008f "Parted.__init__" = true)
    (k9008f : PySem.W.keepIn K (.ref f9008) = true)
    (ti8C : PySem.W.typeIn K (.ref f9008) = some (.type "function"))
    (n8Cplace : PySem.W.findIn K (.ref C8) "place" = some none)
    (n8Ckind : PySem.W.findIn K (.ref C8) "kind" = some none)
    (n8Cby : PySem.W.findIn K (.ref C8) "by" = some none)
    (n8Cwanted : PySem.W.findIn K (.ref C8) "wanted" = some none)
    (n8Cway : PySem.W.findIn K (.ref C8) "way" = some none)
    (xga0C : PySem.W.specialIn K (.ref C0) "__getattribute__" = some (some (.builtin "type.__getattribute__")))
    (xrd0C : PySem.W.readsIn K C0 (.type "type") = true)
    (xfi0C : PySem.W.findCls K (.ref C0) (.type "type") "__init__" = some (.val (.builtin "ValueError.__init__")))
    (pg9C : PySem.W.plainGet K C9 Str.empty = true)
    (po9C : PySem.W.plainOver K C9 = true)
    (mk9C : PySem.W.makesIn K C9 = true)
    (st9Cint : PySem.W.subIn K (.ref C9) (.type "int") = some false)
    (st9Cbool : PySem.W.subIn K (.ref C9) (.type "bool") = some false)
    (st9Cstr : PySem.W.subIn K (.ref C9) (.type "str") = some false)
    (st9Ctuple : PySem.W.subIn K (.ref C9) (.type "tuple") = some false)
    (st9Clist : PySem.W.subIn K (.ref C9) (.type "list") = some false)
    (st9Cdict : PySem.W.subIn K (.ref C9) (.type "dict") = some false)
    (n9Cfound : PySem.W.findIn K (.ref C9) "found" = some none)
    (n9Cwanted : PySem.W.findIn K (.ref C9) "wanted" = some none)
    (a157f : PySem.W.findIn K (.ref C9) "__init__" = some (some (.ref f157)))
    (if157f : PySem.W.isFn K (.ref f157) = true)
    (l157f : K.lookup f157 = some ⟨oc157f, od157f, .func (PySem.W.fnOf "__init__" "Looker.__init__" (defArgs ((clsB (top 32)).getD 0 (.Pass ⟨0, 0, 0, 0⟩))) (defBody ((clsB (top 32)).getD 0 (.Pass ⟨0, 0, 0, 0⟩))) (defScope ((clsB (top 32)).getD 0 (.Pass ⟨0, 0, 0, 0⟩))) .none kV157f dc157f pm157f an157f cd157f ct157f), sl157f⟩)
    (c157f : PySem.W.codeIn K cd157f "Looker.__init__" = true)
    (k157f : PySem.W.keepIn K (.ref f157) = true)
    (a158f : PySem.W.findIn K (.ref C9) "hold" = some (some (.ref f158)))
    (if158f : PySem.W.isFn K (.ref f158) = true)
    (l158f : K.lookup f158 = some ⟨oc158f, od158f, .func (PySem.W.fnOf "hold" "Looker.hold" (defArgs ((clsB (top 32)).getD 2 (.Pass ⟨0, 0, 0, 0⟩))) (defBody ((clsB (top 32)).getD 2 (.Pass ⟨0, 0, 0, 0⟩))) (defScope ((clsB (top 32)).getD 2 (.Pass ⟨0, 0, 0, 0⟩))) .none kV158f dc158f pm158f an158f cd158f ct158f), sl158f⟩)
    (c158f : PySem.W.codeIn K cd158f "Looker.hold" = true)
    (k158f : PySem.W.keepIn K (.ref f158) = true)
    (a159f : PySem.W.findIn K (.ref C9) "look" = some (some (.ref f159)))
    (if159f : PySem.W.isFn K (.ref f159) = true)
    (l159f : K.lookup f159 = some ⟨oc159f, od159f, .func (PySem.W.fnOf "look" "Looker.look" (defArgs ((clsB (top 32)).getD 1 (.Pass ⟨0, 0, 0, 0⟩))) (defBody ((clsB (top 32)).getD 1 (.Pass ⟨0, 0, 0, 0⟩))) (defScope ((clsB (top 32)).getD 1 (.Pass ⟨0, 0, 0, 0⟩))) .none kV159f dc159f pm159f an159f cd159f ct159f), sl159f⟩)
    (c159f : PySem.W.codeIn K cd159f "Looker.look" = true)
    (k159f : PySem.W.keepIn K (.ref f159) = true)
    (a160f : PySem.W.findIn K (.ref C9) "held" = some (some (.ref f160)))
    (if160f : PySem.W.isFn K (.ref f160) = true)
    (l160f : K.lookup f160 = some ⟨oc160f, od160f, .func (PySem.W.fnOf "held" "Looker.held" (defArgs ((clsB (top 32)).getD 3 (.Pass ⟨0, 0, 0, 0⟩))) (defBody ((clsB (top 32)).getD 3 (.Pass ⟨0, 0, 0, 0⟩))) (defScope ((clsB (top 32)).getD 3 (.Pass ⟨0, 0, 0, 0⟩))) .none kV160f dc160f pm160f an160f cd160f ct160f), sl160f⟩)
    (c160f : PySem.W.codeIn K cd160f "Looker.held" = true)
    (k160f : PySem.W.keepIn K (.ref f160) = true)
    (a161f : PySem.W.findIn K (.ref C9) "shaped" = some (some (.ref f161)))
    (if161f : PySem.W.isFn K (.ref f161) = true)
    (l161f : K.lookup f161 = some ⟨oc161f, od161f, .func (PySem.W.fnOf "shaped" "Looker.shaped" (defArgs ((clsB (top 32)).getD 4 (.Pass ⟨0, 0, 0, 0⟩))) (defBody ((clsB (top 32)).getD 4 (.Pass ⟨0, 0, 0, 0⟩))) (defScope ((clsB (top 32)).getD 4 (.Pass ⟨0, 0, 0, 0⟩))) .none kV161f dc161f pm161f an161f cd161f ct161f), sl161f⟩)
    (c161f : PySem.W.codeIn K cd161f "Looker.shaped" = true)
    (k161f : PySem.W.keepIn K (.ref f161) = true)
    (a162f : PySem.W.findIn K (.ref C9) "by_word" = some (some (.ref f162)))
    (if162f : PySem.W.isFn K (.ref f162) = true)
    (l162f : K.lookup f162 = some ⟨oc162f, od162f, .func (PySem.W.fnOf "by_word" "Looker.by_word" (defArgs ((clsB (top 32)).getD 5 (.Pass ⟨0, 0, 0, 0⟩))) (defBody ((clsB (top 32)).getD 5 (.Pass ⟨0, 0, 0, 0⟩))) (defScope ((clsB (top 32)).getD 5 (.Pass ⟨0, 0, 0, 0⟩))) .none kV162f dc162f pm162f an162f cd162f ct162f), sl162f⟩)
    (c162f : PySem.W.codeIn K cd162f "Looker.by_word" = true)
    (k162f : PySem.W.keepIn K (.ref f162) = true)
    (a163f : PySem.W.findIn K (.ref C9) "binding" = some (some (.ref f163)))
    (if163f : PySem.W.isFn K (.ref f163) = true)
    (l163f : K.lookup f163 = some ⟨oc163f, od163f, .func (PySem.W.fnOf "binding" "Looker.binding" (defArgs ((clsB (top 32)).getD 6 (.Pass ⟨0, 0, 0, 0⟩))) (defBody ((clsB (top 32)).getD 6 (.Pass ⟨0, 0, 0, 0⟩))) (defScope ((clsB (top 32)).getD 6 (.Pass ⟨0, 0, 0, 0⟩))) .none kV163f dc163f pm163f an163f cd163f ct163f), sl163f⟩)
    (c163f : PySem.W.codeIn K cd163f "Looker.binding" = true)
    (k163f : PySem.W.keepIn K (.ref f163) = true)
    (a164f : PySem.W.findIn K (.ref C9) "forked" = some (some (.ref f164)))
    (if164f : PySem.W.isFn K (.ref f164) = true)
    (l164f : K.lookup f164 = some ⟨oc164f, od164f, .func (PySem.W.fnOf "forked" "Looker.forked" (defArgs ((clsB (top 32)).getD 7 (.Pass ⟨0, 0, 0, 0⟩))) (defBody ((clsB (top 32)).getD 7 (.Pass ⟨0, 0, 0, 0⟩))) (defScope ((clsB (top 32)).getD 7 (.Pass ⟨0, 0, 0, 0⟩))) .none kV164f dc164f pm164f an164f cd164f ct164f), sl164f⟩)
    (c164f : PySem.W.codeIn K cd164f "Looker.forked" = true)
    (k164f : PySem.W.keepIn K (.ref f164) = true)
    (a165f : PySem.W.findIn K (.ref C9) "reading" = some (some (.ref f165)))
    (if165f : PySem.W.isFn K (.ref f165) = true)
    (l165f : K.lookup f165 = some ⟨oc165f, od165f, .func (PySem.W.fnOf "reading" "Looker.reading" (defArgs ((clsB (top 32)).getD 8 (.Pass ⟨0, 0, 0, 0⟩))) (defBody ((clsB (top 32)).getD 8 (.Pass ⟨0, 0, 0, 0⟩))) (defScope ((clsB (top 32)).getD 8 (.Pass ⟨0, 0, 0, 0⟩))) .none kV165f dc165f pm165f an165f cd165f ct165f), sl165f⟩)
    (c165f : PySem.W.codeIn K cd165f "Looker.reading" = true)
    (k165f : PySem.W.keepIn K (.ref f165) = true)
    (a166f : PySem.W.findIn K (.ref C9) "making" = some (some (.ref f166)))
    (if166f : PySem.W.isFn K (.ref f166) = true)
    (l166f : K.lookup f166 = some ⟨oc166f, od166f, .func (PySem.W.fnOf "making" "Looker.making" (defArgs ((clsB (top 32)).getD 9 (.Pass ⟨0, 0, 0, 0⟩))) (defBody ((clsB (top 32)).getD 9 (.Pass ⟨0, 0, 0, 0⟩))) (defScope ((clsB (top 32)).getD 9 (.Pass ⟨0, 0, 0, 0⟩))) .none kV166f dc166f pm166f an166f cd166f ct166f), sl166f⟩)
    (c166f : PySem.W.codeIn K cd166f "Looker.making" = true)
    (k166f : PySem.W.keepIn K (.ref f166) = true)
    (sb5CNoName : PySem.W.subIn K (.ref C5) (.ref C4) = some false)
    (sb8CNoName : PySem.W.subIn K (.ref C8) (.ref C4) = some false)
    (sb9CNoName : PySem.W.subIn K (.ref C9) (.ref C4) = some false)
    (sy4CNoneType : PySem.W.subIn K (.type "NoneType") (.ref C4) = some false)
    (sy4Cbool : PySem.W.subIn K (.type "bool") (.ref C4) = some false)
    (sy4Cint : PySem.W.subIn K (.type "int") (.ref C4) = some false)
    (sb4CParted : PySem.W.subIn K (.ref C4) (.ref C8) = some false)
    (sb5CParted : PySem.W.subIn K (.ref C5) (.ref C8) = some false)
    (sb9CParted : PySem.W.subIn K (.ref C9) (.ref C8) = some false)
    (sy8CNoneType : PySem.W.subIn K (.type "NoneType") (.ref C8) = some false)
    (sy8Cbool : PySem.W.subIn K (.type "bool") (.ref C8) = some false)
    (sy8Cint : PySem.W.subIn K (.type "int") (.ref C8) = some false)
    (sb4CTooDeep : PySem.W.subIn K (.ref C4) (.ref C5) = some false)
    (sb8CTooDeep : PySem.W.subIn K (.ref C8) (.ref C5) = some false)
    (sb9CTooDeep : PySem.W.subIn K (.ref C9) (.ref C5) = some false)
    (sy5CNoneType : PySem.W.subIn K (.type "NoneType") (.ref C5) = some false)
    (sy5Cbool : PySem.W.subIn K (.type "bool") (.ref C5) = some false)
    (sy5Cint : PySem.W.subIn K (.type "int") (.ref C5) = some false)
    (a9c : PySem.W.nsIn K mainGlobals "UNTOLD_meets" = some (some u9))
    (e10 : u9 = .ref p1)
    (l6t : K.lookup p1 = some ⟨.type "tuple", od3, .seq #[u2] n4, sl5⟩)
    (e8 : u2 = .str ⟨([63] : List Nat).toArray⟩ tk7)
    (a12c : PySem.W.nsIn K mainGlobals "MOST" = some (some u12))
    (e13 : u12 = .int (4) tk11)
    (a22c : PySem.W.nsIn K mainGlobals "WHOLE" = some (some u22))
    (e23 : u22 = .ref p14)
    (l19t : K.lookup p14 = some ⟨.type "tuple", od16, .seq #[u15] n17, sl18⟩)
    (e21 : u15 = .str ⟨([119, 104, 111, 108, 101] : List Nat).toArray⟩ tk20)
    (a32c : PySem.W.nsIn K mainGlobals "TRUTH" = some (some u32))
    (e33 : u32 = .ref p24)
    (l29t : K.lookup p24 = some ⟨.type "tuple", od26, .seq #[u25] n27, sl28⟩)
    (e31 : u25 = .str ⟨([116, 114, 117, 116, 104] : List Nat).toArray⟩ tk30)
    (a62c : PySem.W.nsIn K mainGlobals "TO" = some (some u62))
    (e63 : u62 = .ref p34)
    (l41t : K.lookup p34 = some ⟨.type "tuple", od38, .seq #[u35, u36, u37] n39, sl40⟩)
    (e43 : u35 = .str ⟨([116, 111] : List Nat).toArray⟩ tk42)
    (e52 : u36 = .ref p44)
    (l49t : K.lookup p44 = some ⟨.type "tuple", od46, .seq #[u45] n47, sl48⟩)
    (e51 : u45 = .str ⟨([63] : List Nat).toArray⟩ tk50)
    (e61 : u37 = .ref p53)
    (l58t : K.lookup p53 = some ⟨.type "tuple", od55, .seq #[u54] n56, sl57⟩)
    (e60 : u54 = .str ⟨([63] : List Nat).toArray⟩ tk59)
    (a82c : PySem.W.nsIn K mainGlobals "ROW" = some (some u82))
    (e83 : u82 = .ref p64)
    (l70t : K.lookup p64 = some ⟨.type "tuple", od67, .seq #[u65, u66] n68, sl69⟩)
    (e72 : u65 = .str ⟨([114, 111, 119] : List Nat).toArray⟩ tk71)
    (e81 : u66 = .ref p73)
    (l78t : K.lookup p73 = some ⟨.type "tuple", od75, .seq #[u74] n76, sl77⟩)
    (e80 : u74 = .str ⟨([63] : List Nat).toArray⟩ tk79)
    (a112c : PySem.W.nsIn K mainGlobals "PAIR" = some (some u112))
    (e113 : u112 = .ref p84)
    (l91t : K.lookup p84 = some ⟨.type "tuple", od88, .seq #[u85, u86, u87] n89, sl90⟩)
    (e93 : u85 = .str ⟨([112, 97, 105, 114] : List Nat).toArray⟩ tk92)
    (e102 : u86 = .ref p94)
    (l99t : K.lookup p94 = some ⟨.type "tuple", od96, .seq #[u95] n97, sl98⟩)
    (e101 : u95 = .str ⟨([63] : List Nat).toArray⟩ tk100)
    (e111 : u87 = .ref p103)
    (l108t : K.lookup p103 = some ⟨.type "tuple", od105, .seq #[u104] n106, sl107⟩)
    (e110 : u104 = .str ⟨([63] : List Nat).toArray⟩ tk109)
    (a122c : PySem.W.nsIn K mainGlobals "UNTOLD_why" = some (some u122))
    (e123 : u122 = .ref p114)
    (l119t : K.lookup p114 = some ⟨.type "tuple", od116, .seq #[u115] n117, sl118⟩)
    (e121 : u115 = .str ⟨([63] : List Nat).toArray⟩ tk120)
    (a127c : PySem.W.nsIn K mainGlobals "AHEAD" = some (some (.ref p124)))
    (l128d : K.lookup p124 = some ⟨.type "dict", none, .dict es125 n126, #[]⟩)
    (kl129 : PySem.W.KeysLit w.params es125.toList)
    (a131e : PySem.W.nsIn K p124 (⟨([119, 104, 111, 108, 101] : List Nat).toArray⟩ : Str) = some (some u130))
    (e132 : u130 = .int (3) tk133)
    (a135e : PySem.W.nsIn K p124 (⟨([116, 114, 117, 116, 104] : List Nat).toArray⟩ : Str) = some (some u134))
    (e136 : u134 = .int (3) tk137)
    (a139e : PySem.W.nsIn K p124 (⟨([103, 105, 118, 101, 110] : List Nat).toArray⟩ : Str) = some (some u138))
    (e140 : u138 = .int (3) tk141)
    (a143e : PySem.W.nsIn K p124 (⟨([110, 97, 109, 101] : List Nat).toArray⟩ : Str) = some (some u142))
    (e144 : u142 = .int (3) tk145)
    (a147e : PySem.W.nsIn K p124 (⟨([102, 110] : List Nat).toArray⟩ : Str) = some (some u146))
    (e148 : u146 = .int (4) tk149)
    (a151e : PySem.W.nsIn K p124 (⟨([115, 101, 108, 102] : List Nat).toArray⟩ : Str) = some (some u150))
    (e152 : u150 = .int (6) tk153)
    (a155e : PySem.W.nsIn K p124 (⟨([99, 97, 108, 108] : List Nat).toArray⟩ : Str) = some (some u154))
    (e156 : u154 = .int (2) tk157)
    (a159e : PySem.W.nsIn K p124 (⟨([108, 101, 116] : List Nat).toArray⟩ : Str) = some (some u158))
    (e160 : u158 = .int (3) tk161)
    (a163e : PySem.W.nsIn K p124 (⟨([105, 102] : List Nat).toArray⟩ : Str) = some (some u162))
    (e164 : u162 = .int (2) tk165)
    (a167e : PySem.W.nsIn K p124 (⟨([100, 111] : List Nat).toArray⟩ : Str) = some (some u166))
    (e168 : u166 = .int (3) tk169)
    (a171e : PySem.W.nsIn K p124 (⟨([97, 116] : List Nat).toArray⟩ : Str) = some (some u170))
    (e172 : u170 = .int (2) tk173)
    (a175e : PySem.W.nsIn K p124 (⟨([115, 105, 122, 101] : List Nat).toArray⟩ : Str) = some (some u174))
    (e176 : u174 = .int (2) tk177)
    (a179e : PySem.W.nsIn K p124 (⟨([112, 97, 105, 114] : List Nat).toArray⟩ : Str) = some (some u178))
    (e180 : u178 = .int (2) tk181)
    (a183e : PySem.W.nsIn K p124 (⟨([111, 110, 101] : List Nat).toArray⟩ : Str) = some (some u182))
    (e184 : u182 = .int (2) tk185)
    (a187e : PySem.W.nsIn K p124 (⟨([116, 119, 111] : List Nat).toArray⟩ : Str) = some (some u186))
    (e188 : u186 = .int (2) tk189)
    (a191e : PySem.W.nsIn K p124 (⟨([97, 115] : List Nat).toArray⟩ : Str) = some (some u190))
    (e192 : u190 = .int (3) tk193)
    (a195e : PySem.W.nsIn K p124 (⟨([108, 111, 111, 107] : List Nat).toArray⟩ : Str) = some (some u194))
    (e196 : u194 = .int (4) tk197)
    (z0 : PySem.W.nsIn K mainGlobals "dict" = some none)
    (z1 : PySem.W.nsIn K mainGlobals "enumerate" = some none)
    (z2 : PySem.W.nsIn K mainGlobals "int" = some none)
    (z3 : PySem.W.nsIn K mainGlobals "isinstance" = some none)
    (z4 : PySem.W.nsIn K mainGlobals "len" = some none)
    (z5 : PySem.W.nsIn K mainGlobals "list" = some none)
    (z6 : PySem.W.nsIn K mainGlobals "max" = some none)
    (z7 : PySem.W.nsIn K mainGlobals "range" = some none)
    (z8 : PySem.W.nsIn K mainGlobals "set" = some none)
    (z9 : PySem.W.nsIn K mainGlobals "tuple" = some none)
    (z10 : PySem.W.nsIn K mainGlobals "zip" = some none)
    (m : ∀ ns : List Int, ns.length ≤ 63 → (∀ z ∈ ns, Builtin.Int.intBits z ≤ 1048576) → wF T 101 241 [.sc (ns.map W.int)] (fun _ => none) (fun w _ => w = .bl true) (fun _ _ => False)) :
    ∃ fd : FuncData, (∀ (s : Shared) (v : Value), BindsTo s fd ⟨[v], []⟩ [("_law_script", v)]) ∧ ∀ base : Heap, K.In base → base.Ns mainGlobals mg → FnOk l.prog w K mg base (L2.CX l.prog w) 206 fa fd ["_law_script"] (spL K) := by
  have e := hfa.symm.trans (PySem.W.mg_of X G a241f)
  cases e
  refine ⟨PySem.W.fnOf "law" "law" (defArgs (top 52)) (defBody (top 52)) (defScope (top 52)) .none kV241f dc241f pm241f an241f cd241f ct241f, fun s v => .of_eq rfl, fun base _ _ => ?_⟩
  let Γ : Gm := ⟨K, fun i => match i with | 1 => f1 | 8 => f8 | 11 => f11 | 21 => f21 | 68 => f68 | 69 => f69 | 70 => f70 | 87 => f87 | 88 => f88 | 89 => f89 | 91 => f91 | 139 => f139 | 140 => f140 | 141 => f141 | 155 => f155 | 156 => f156 | 157 => f157 | 158 => f158 | 159 => f159 | 160 => f160 | 161 => f161 | 162 => f162 | 163 => f163 | 164 => f164 | 165 => f165 | 166 => f166 | 167 => f167 | 176 => f176 | 177 => f177 | 178 => f178 | 180 => f180 | 185 => f185 | 198 => f198 | 225 => f225 | 234 => f234 | 235 => f235 | 236 => f236 | 237 => f237 | 238 => f238 | 239 => f239 | 240 => f240 | 241 => fa | _ => 0, fun i => match i with | 4 => C4 | 5 => C5 | 8 => C8 | 9 => C9 | _ => 0⟩
  let fd : Nat → FuncData := fun i => match i with
    | 1 => PySem.W.fnOf "with_kinds" "with_kinds" (defArgs (top 6)) (defBody (top 6)) (defScope (top 6)) .none kV1f dc1f pm1f an1f cd1f ct1f
    | 8 => PySem.W.fnOf "_law_cell_at" "_law_cell_at" (defArgs (top 40)) (defBody (top 40)) (defScope (top 40)) .none kV8f dc8f pm8f an8f cd8f ct8f
    | 11 => PySem.W.fnOf "depth" "depth" (defArgs (top 7)) (defBody (top 7)) (defScope (top 7)) .none kV11f dc11f pm11f an11f cd11f ct11f
    | 21 => PySem.W.fnOf "join" "join" (defArgs (top 13)) (defBody (top 13)) (defScope (top 13)) .none kV21f dc21f pm21f an21f cd21f ct21f
    | 68 => PySem.W.fnOf "steps_of" "steps_of" (defArgs (top 8)) (defBody (top 8)) (defScope (top 8)) .none kV68f dc68f pm68f an68f cd68f ct68f
    | 69 => PySem.W.fnOf "parting" "parting" (defArgs (top 11)) (defBody (top 11)) (defScope (top 11)) .none kV69f dc69f pm69f an69f cd69f ct69f
    | 70 => PySem.W.fnOf "same" "same" (defArgs (top 12)) (defBody (top 12)) (defScope (top 12)) .none kV70f dc70f pm70f an70f cd70f ct70f
    | 87 => PySem.W.fnOf "parts" "parts" (defArgs (top 16)) (defBody (top 16)) (defScope (top 16)) .none kV87f dc87f pm87f an87f cd87f ct87f
    | 88 => PySem.W.fnOf "with_parts" "with_parts" (defArgs (top 17)) (defBody (top 17)) (defScope (top 17)) .none kV88f dc88f pm88f an88f cd88f ct88f
    | 89 => PySem.W.fnOf "written" "written" (defArgs (top 18)) (defBody (top 18)) (defScope (top 18)) .none kV89f dc89f pm89f an89f cd89f ct89f
    | 91 => PySem.W.fnOf "places" "places" (defArgs (top 19)) (defBody (top 19)) (defScope (top 19)) .none kV91f dc91f pm91f an91f cd91f ct91f
    | 139 => PySem.W.fnOf "names_within" "names_within" (defArgs (top 20)) (defBody (top 20)) (defScope (top 20)) .none kV139f dc139f pm139f an139f cd139f ct139f
    | 140 => PySem.W.fnOf "free_name" "free_name" (defArgs (top 21)) (defBody (top 21)) (defScope (top 21)) .none kV140f dc140f pm140f an140f cd140f ct140f
    | 141 => PySem.W.fnOf "need_names" "need_names" (defArgs (top 22)) (defBody (top 22)) (defScope (top 22)) .none kV141f dc141f pm141f an141f cd141f ct141f
    | 155 => PySem.W.fnOf "need_shallow" "need_shallow" (defArgs (top 30)) (defBody (top 30)) (defScope (top 30)) .none kV155f dc155f pm155f an155f cd155f ct155f
    | 156 => PySem.W.fnOf "bound" "bound" (defArgs (top 31)) (defBody (top 31)) (defScope (top 31)) .none kV156f dc156f pm156f an156f cd156f ct156f
    | 157 => PySem.W.fnOf "__init__" "Looker.__init__" (defArgs ((clsB (top 32)).getD 0 (.Pass ⟨0, 0, 0, 0⟩))) (defBody ((clsB (top 32)).getD 0 (.Pass ⟨0, 0, 0, 0⟩))) (defScope ((clsB (top 32)).getD 0 (.Pass ⟨0, 0, 0, 0⟩))) .none kV157f dc157f pm157f an157f cd157f ct157f
    | 158 => PySem.W.fnOf "hold" "Looker.hold" (defArgs ((clsB (top 32)).getD 2 (.Pass ⟨0, 0, 0, 0⟩))) (defBody ((clsB (top 32)).getD 2 (.Pass ⟨0, 0, 0, 0⟩))) (defScope ((clsB (top 32)).getD 2 (.Pass ⟨0, 0, 0, 0⟩))) .none kV158f dc158f pm158f an158f cd158f ct158f
    | 159 => PySem.W.fnOf "look" "Looker.look" (defArgs ((clsB (top 32)).getD 1 (.Pass ⟨0, 0, 0, 0⟩))) (defBody ((clsB (top 32)).getD 1 (.Pass ⟨0, 0, 0, 0⟩))) (defScope ((clsB (top 32)).getD 1 (.Pass ⟨0, 0, 0, 0⟩))) .none kV159f dc159f pm159f an159f cd159f ct159f
    | 160 => PySem.W.fnOf "held" "Looker.held" (defArgs ((clsB (top 32)).getD 3 (.Pass ⟨0, 0, 0, 0⟩))) (defBody ((clsB (top 32)).getD 3 (.Pass ⟨0, 0, 0, 0⟩))) (defScope ((clsB (top 32)).getD 3 (.Pass ⟨0, 0, 0, 0⟩))) .none kV160f dc160f pm160f an160f cd160f ct160f
    | 161 => PySem.W.fnOf "shaped" "Looker.shaped" (defArgs ((clsB (top 32)).getD 4 (.Pass ⟨0, 0, 0, 0⟩))) (defBody ((clsB (top 32)).getD 4 (.Pass ⟨0, 0, 0, 0⟩))) (defScope ((clsB (top 32)).getD 4 (.Pass ⟨0, 0, 0, 0⟩))) .none kV161f dc161f pm161f an161f cd161f ct161f
    | 162 => PySem.W.fnOf "by_word" "Looker.by_word" (defArgs ((clsB (top 32)).getD 5 (.Pass ⟨0, 0, 0, 0⟩))) (defBody ((clsB (top 32)).getD 5 (.Pass ⟨0, 0, 0, 0⟩))) (defScope ((clsB (top 32)).getD 5 (.Pass ⟨0, 0, 0, 0⟩))) .none kV162f dc162f pm162f an162f cd162f ct162f
    | 163 => PySem.W.fnOf "binding" "Looker.binding" (defArgs ((clsB (top 32)).getD 6 (.Pass ⟨0, 0, 0, 0⟩))) (defBody ((clsB (top 32)).getD 6 (.Pass ⟨0, 0, 0, 0⟩))) (defScope ((clsB (top 32)).getD 6 (.Pass ⟨0, 0, 0, 0⟩))) .none kV163f dc163f pm163f an163f cd163f ct163f
    | 164 => PySem.W.fnOf "forked" "Looker.forked" (defArgs ((clsB (top 32)).getD 7 (.Pass ⟨0, 0, 0, 0⟩))) (defBody ((clsB (top 32)).getD 7 (.Pass ⟨0, 0, 0, 0⟩))) (defScope ((clsB (top 32)).getD 7 (.Pass ⟨0, 0, 0, 0⟩))) .none kV164f dc164f pm164f an164f cd164f ct164f
    | 165 => PySem.W.fnOf "reading" "Looker.reading" (defArgs ((clsB (top 32)).getD 8 (.Pass ⟨0, 0, 0, 0⟩))) (defBody ((clsB (top 32)).getD 8 (.Pass ⟨0, 0, 0, 0⟩))) (defScope ((clsB (top 32)).getD 8 (.Pass ⟨0, 0, 0, 0⟩))) .none kV165f dc165f pm165f an165f cd165f ct165f
    | 166 => PySem.W.fnOf "making" "Looker.making" (defArgs ((clsB (top 32)).getD 9 (.Pass ⟨0, 0, 0, 0⟩))) (defBody ((clsB (top 32)).getD 9 (.Pass ⟨0, 0, 0, 0⟩))) (defScope ((clsB (top 32)).getD 9 (.Pass ⟨0, 0, 0, 0⟩))) .none kV166f dc166f pm166f an166f cd166f ct166f
    | 167 => PySem.W.fnOf "looked" "looked" (defArgs (top 33)) (defBody (top 33)) (defScope (top 33)) .none kV167f dc167f pm167f an167f cd167f ct167f
    | 176 => PySem.W.fnOf "_law_words" "_law_words" (defArgs (top 41)) (defBody (top 41)) (defScope (top 41)) .none kV176f dc176f pm176f an176f cd176f ct176f
    | 177 => PySem.W.fnOf "_law_next" "_law_next" (defArgs (top 42)) (defBody (top 42)) (defScope (top 42)) .none kV177f dc177f pm177f an177f cd177f ct177f
    | 178 => PySem.W.fnOf "_law_place" "_law_place" (defArgs (top 43)) (defBody (top 43)) (defScope (top 43)) .none kV178f dc178f pm178f an178f cd178f ct178f
    | 180 => PySem.W.fnOf "_law_leaf" "_law_leaf" (defArgs (top 45)) (defBody (top 45)) (defScope (top 45)) .none kV180f dc180f pm180f an180f cd180f ct180f
    | 185 => PySem.W.fnOf "_law_parts" "_law_parts" (defArgs (top 47)) (defBody (top 47)) (defScope (top 47)) .none kV185f dc185f pm185f an185f cd185f ct185f
    | 198 => PySem.W.fnOf "_law_kind" "_law_kind" (defArgs (top 44)) (defBody (top 44)) (defScope (top 44)) .none kV198f dc198f pm198f an198f cd198f ct198f
    | 225 => PySem.W.fnOf "_law_places" "_law_places" (defArgs (top 48)) (defBody (top 48)) (defScope (top 48)) .none kV225f dc225f pm225f an225f cd225f ct225f
    | 234 => PySem.W.fnOf "refusal" "refusal" (defArgs (top 36)) (defBody (top 36)) (defScope (top 36)) .none kV234f dc234f pm234f an234f cd234f ct234f
    | 235 => PySem.W.fnOf "covered" "covered" (defArgs (top 37)) (defBody (top 37)) (defScope (top 37)) .none kV235f dc235f pm235f an235f cd235f ct235f
    | 236 => PySem.W.fnOf "softened" "softened" (defArgs (top 38)) (defBody (top 38)) (defScope (top 38)) .none kV236f dc236f pm236f an236f cd236f ct236f
    | 237 => PySem.W.fnOf "_law_any" "_law_any" (defArgs (top 46)) (defBody (top 46)) (defScope (top 46)) .none kV237f dc237f pm237f an237f cd237f ct237f
    | 238 => PySem.W.fnOf "_law_covered" "_law_covered" (defArgs (top 49)) (defBody (top 49)) (defScope (top 49)) .none kV238f dc238f pm238f an238f cd238f ct238f
    | 239 => PySem.W.fnOf "_law_refusal" "_law_refusal" (defArgs (top 50)) (defBody (top 50)) (defScope (top 50)) .none kV239f dc239f pm239f an239f cd239f ct239f
    | 240 => PySem.W.fnOf "_law_found" "_law_found" (defArgs (top 51)) (defBody (top 51)) (defScope (top 51)) .none kV240f dc240f pm240f an240f cd240f ct240f
    | 241 => PySem.W.fnOf "law" "law" (defArgs (top 52)) (defBody (top 52)) (defScope (top 52)) .none kV241f dc241f pm241f an241f cd241f ct241f
    | _ => PySem.W.fnOf "law" "law" (defArgs (top 52)) (defBody (top 52)) (defScope (top 52)) .none kV241f dc241f pm241f an241f cd241f ct241f
  have F1 := fun_mk (st := top 6) l1f c1f k1f
  have b1 := F1.binds (ps := ["kind", "some"]) fun _ _ _ _ _ _ us hl => match us, hl with | [_, _], _ => rfl
  have F8 := fun_mk (st := top 40) l8f c8f k8f
  have b8 := F8.binds (ps := ["_law_script", "_law_k"]) fun _ _ _ _ _ _ us hl => match us, hl with | [_, _], _ => rfl
  have F11 := fun_mk (st := top 7) l11f c11f k11f
  have b11 := F11.binds (ps := ["kind"]) fun _ _ _ _ _ _ us hl => match us, hl with | [_], _ => rfl
  have F21 := fun_mk (st := top 13) l21f c21f k21f
  have b21 := F21.binds (ps := ["kind", "other"]) fun _ _ _ _ _ _ us hl => match us, hl with | [_, _], _ => rfl
  have F68 := fun_mk (st := top 8) l68f c68f k68f
  have b68 := F68.binds (ps := ["kind"]) fun _ _ _ _ _ _ us hl => match us, hl with | [_], _ => rfl
  have F69 := fun_mk (st := top 11) l69f c69f k69f
  have b69 := F69.binds (ps := ["kind", "other"]) fun _ _ _ _ _ _ us hl => match us, hl with | [_, _], _ => rfl
  have F70 := fun_mk (st := top 12) l70f c70f k70f
  have b70 := F70.binds (ps := ["kind", "other"]) fun _ _ _ _ _ _ us hl => match us, hl with | [_, _], _ => rfl
  have F87 := fun_mk (st := top 16) l87f c87f k87f
  have b87 := F87.binds (ps := ["tree"]) fun _ _ _ _ _ _ us hl => match us, hl with | [_], _ => rfl
  have F88 := fun_mk (st := top 17) l88f c88f k88f
  have b88 := F88.binds (ps := ["tree", "some"]) fun _ _ _ _ _ _ us hl => match us, hl with | [_, _], _ => rfl
  have F89 := fun_mk (st := top 18) l89f c89f k89f
  have b89 := F89.binds (ps := ["tree"]) fun _ _ _ _ _ _ us hl => match us, hl with | [_], _ => rfl
  have F91 := fun_mk (st := top 19) l91f c91f k91f
  have b91 := F91.binds (ps := ["tree"]) fun _ _ _ _ _ _ us hl => match us, hl with | [_], _ => rfl
  have F139 := fun_mk (st := top 20) l139f c139f k139f
  have b139 := F139.binds (ps := ["tree", "number", "names"]) fun _ _ _ _ _ _ us hl => match us, hl with | [_, _, _], _ => rfl
  have F140 := fun_mk (st := top 21) l140f c140f k140f
  have b140 := F140.binds (ps := ["tree", "names"]) fun _ _ _ _ _ _ us hl => match us, hl with | [_, _], _ => rfl
  have F141 := fun_mk (st := top 22) l141f c141f k141f
  have b141 := F141.binds (ps := ["tree"]) fun _ _ _ _ _ _ us hl => match us, hl with | [_], _ => rfl
  have F155 := fun_mk (st := top 30) l155f c155f k155f
  have b155 := F155.binds (ps := ["kind", "place"]) fun _ _ _ _ _ _ us hl => match us, hl with | [_, _], _ => rfl
  have F156 := fun_mk (st := top 31) l156f c156f k156f
  have b156 := F156.binds (ps := ["names", "name", "kind"]) fun _ _ _ _ _ _ us hl => match us, hl with | [_, _, _], _ => rfl
  have F157 := fun_mk (st := (clsB (top 32)).getD 0 (.Pass ⟨0, 0, 0, 0⟩)) l157f c157f k157f
  have b157 := F157.binds (ps := ["self"]) fun _ _ _ _ _ _ us hl => match us, hl with | [_], _ => rfl
  have F158 := fun_mk (st := (clsB (top 32)).getD 2 (.Pass ⟨0, 0, 0, 0⟩)) l158f c158f k158f
  have b158 := F158.binds (ps := ["self", "node", "wanted", "by"]) fun _ _ _ _ _ _ us hl => match us, hl with | [_, _, _, _], _ => rfl
  have F159 := fun_mk (st := (clsB (top 32)).getD 1 (.Pass ⟨0, 0, 0, 0⟩)) l159f c159f k159f
  have b159 := F159.binds (ps := ["self", "node", "names"]) fun _ _ _ _ _ _ us hl => match us, hl with | [_, _, _], _ => rfl
  have F160 := fun_mk (st := (clsB (top 32)).getD 3 (.Pass ⟨0, 0, 0, 0⟩)) l160f c160f k160f
  have b160 := F160.binds (ps := ["self", "node", "wanted", "by", "names"]) fun _ _ _ _ _ _ us hl => match us, hl with | [_, _, _, _, _], _ => rfl
  have F161 := fun_mk (st := (clsB (top 32)).getD 4 (.Pass ⟨0, 0, 0, 0⟩)) l161f c161f k161f
  have b161 := F161.binds (ps := ["self", "node", "shape", "by", "names"]) fun _ _ _ _ _ _ us hl => match us, hl with | [_, _, _, _, _], _ => rfl
  have F162 := fun_mk (st := (clsB (top 32)).getD 5 (.Pass ⟨0, 0, 0, 0⟩)) l162f c162f k162f
  have b162 := F162.binds (ps := ["self", "node", "names"]) fun _ _ _ _ _ _ us hl => match us, hl with | [_, _, _], _ => rfl
  have F163 := fun_mk (st := (clsB (top 32)).getD 6 (.Pass ⟨0, 0, 0, 0⟩)) l163f c163f k163f
  have b163 := F163.binds (ps := ["self", "node", "names"]) fun _ _ _ _ _ _ us hl => match us, hl with | [_, _, _], _ => rfl
  have F164 := fun_mk (st := (clsB (top 32)).getD 7 (.Pass ⟨0, 0, 0, 0⟩)) l164f c164f k164f
  have b164 := F164.binds (ps := ["self", "node", "names"]) fun _ _ _ _ _ _ us hl => match us, hl with | [_, _, _], _ => rfl
  have F165 := fun_mk (st := (clsB (top 32)).getD 8 (.Pass ⟨0, 0, 0, 0⟩)) l165f c165f k165f
  have b165 := F165.binds (ps := ["self", "node", "names"]) fun _ _ _ _ _ _ us hl => match us, hl with | [_, _, _], _ => rfl
  have F166 := fun_mk (st := (clsB (top 32)).getD 9 (.Pass ⟨0, 0, 0, 0⟩)) l166f c166f k166f
  have b166 := F166.binds (ps := ["self", "node", "names"]) fun _ _ _ _ _ _ us hl => match us, hl with | [_, _, _], _ => rfl
  have F167 := fun_mk (st := top 33) l167f c167f k167f
  have b167 := F167.binds (ps := ["tree"]) fun _ _ _ _ _ _ us hl => match us, hl with | [_], _ => rfl
  have F176 := fun_mk (st := top 41) l176f c176f k176f
  have b176 := F176.binds (ps := ["_law_cell"]) fun _ _ _ _ _ _ us hl => match us, hl with | [_], _ => rfl
  have F177 := fun_mk (st := top 42) l177f c177f k177f
  have b177 := F177.binds (ps := ["_law_deal"]) fun _ _ _ _ _ _ us hl => match us, hl with | [_], _ => rfl
  have F178 := fun_mk (st := top 43) l178f c178f k178f
  have b178 := F178.binds (ps := ["_law_deal"]) fun _ _ _ _ _ _ us hl => match us, hl with | [_], _ => rfl
  have F180 := fun_mk (st := top 45) l180f c180f k180f
  have b180 := F180.binds (ps := ["_law_deal", "_law_names", "_law_cell"]) fun _ _ _ _ _ _ us hl => match us, hl with | [_, _, _], _ => rfl
  have F185 := fun_mk (st := top 47) l185f c185f k185f
  have b185 := F185.binds (ps := ["_law_node"]) fun _ _ _ _ _ _ us hl => match us, hl with | [_], _ => rfl
  have F198 := fun_mk (st := top 44) l198f c198f k198f
  have b198 := F198.binds (ps := ["_law_cell"]) fun _ _ _ _ _ _ us hl => match us, hl with | [_], _ => rfl
  have F225 := fun_mk (st := top 48) l225f c225f k225f
  have b225 := F225.binds (ps := ["_law_node"]) fun _ _ _ _ _ _ us hl => match us, hl with | [_], _ => rfl
  have F234 := fun_mk (st := top 36) l234f c234f k234f
  have b234 := F234.binds (ps := ["tree"]) fun _ _ _ _ _ _ us hl => match us, hl with | [_], _ => rfl
  have F235 := fun_mk (st := top 37) l235f c235f k235f
  have b235 := F235.binds (ps := ["node", "place", "more"]) fun _ _ _ _ _ _ us hl => match us, hl with | [_, _, _], _ => rfl
  have F236 := fun_mk (st := top 38) l236f c236f k236f
  have b236 := F236.binds (ps := ["tree"]) fun _ _ _ _ _ _ us hl => match us, hl with | [_], _ => rfl
  have F237 := fun_mk (st := top 46) l237f c237f k237f
  have b237 := F237.binds (ps := ["_law_deal", "_law_names", "_law_room"]) fun _ _ _ _ _ _ us hl => match us, hl with | [_, _, _], _ => rfl
  have F238 := fun_mk (st := top 49) l238f c238f k238f
  have b238 := F238.binds (ps := ["_law_thing", "_law_place_here", "_law_more"]) fun _ _ _ _ _ _ us hl => match us, hl with | [_, _, _], _ => rfl
  have F239 := fun_mk (st := top 50) l239f c239f k239f
  have b239 := F239.binds (ps := ["_law_tree"]) fun _ _ _ _ _ _ us hl => match us, hl with | [_], _ => rfl
  have F240 := fun_mk (st := top 51) l240f c240f k240f
  have b240 := F240.binds (ps := ["_law_tree"]) fun _ _ _ _ _ _ us hl => match us, hl with | [_], _ => rfl
  have F241 := fun_mk (st := top 52) l241f c241f k241f
  have b241 := F241.binds (ps := ["_law_script"]) fun _ _ _ _ _ _ us hl => match us, hl with | [_], _ => rfl
  have xk4 : XkC K C4 := ⟨⟨ga4C, gg4C, e4C, hd4C⟩, ha4C, hnX, htX, hm4C⟩
  have xk5 : XkC K C5 := ⟨⟨ga5C, gg5C, e5C, hd5C⟩, ha5C, hnX, htX, hm5C⟩
  have xk8 : XkC K C8 := ⟨⟨ga8C, gg8C, e8C, hd8C⟩, ha8C, hnX, htX, hm8C⟩
  have ik9 : InsC K C9 := ⟨⟨pg9C, hd9C, po9C, sa9C⟩, ha9C, hnX, htX, hm9C, fun n h => AllL.mem (l := tyAll) (φ := fun n : String => PySem.W.kitOne K (.ref C9) (.type n) = some false) (.cons (kit_bt (by decide +kernel) st9Cint) (.cons (kit_bt (by decide +kernel) st9Cbool) (.cons (kit_bt (by decide +kernel) st9Cstr) (.cons (kit_bt (by decide +kernel) st9Ctuple) (.cons (kit_bt (by decide +kernel) st9Clist) (.cons (kit_bt (by decide +kernel) st9Cdict) .nil)))))) h⟩
  have W : Wd Γ Bw.k87_softened.G T l.prog w base mg dd fd := {
    hot := rfl
    fns := fun i d h => by
      unfold T at h
      split at h
      · cases h; exact ⟨F1.y, sc1, rfl, rfl, ch1, b1⟩
      · cases h; exact ⟨F8.y, sc8, rfl, rfl, ch8, b8⟩
      · cases h; exact ⟨F11.y, sc11, rfl, rfl, ch11, b11⟩
      · cases h; exact ⟨F21.y, sc21, rfl, rfl, ch21, b21⟩
      · cases h; exact ⟨F68.y, sc68, rfl, rfl, ch68, b68⟩
      · cases h; exact ⟨F69.y, sc69, rfl, rfl, ch69, b69⟩
      · cases h; exact ⟨F70.y, sc70, rfl, rfl, ch70, b70⟩
      · cases h; exact ⟨F87.y, sc87, rfl, rfl, ch87, b87⟩
      · cases h; exact ⟨F88.y, sc88, rfl, rfl, ch88, b88⟩
      · cases h; exact ⟨F89.y, sc89, rfl, rfl, ch89, b89⟩
      · cases h; exact ⟨F91.y, sc91, rfl, rfl, ch91, b91⟩
      · cases h; exact ⟨F139.y, sc139, rfl, rfl, ch139, b139⟩
      · cases h; exact ⟨F140.y, sc140, rfl, rfl, ch140, b140⟩
      · cases h; exact ⟨F141.y, sc141, rfl, rfl, ch141, b141⟩
      · cases h; exact ⟨F155.y, sc155, rfl, rfl, ch155, b155⟩
      · cases h; exact ⟨F156.y, sc156, rfl, rfl, ch156, b156⟩
      · cases h; exact ⟨F157.y, sc157, rfl, rfl, ch157, b157⟩
      · cases h; exact ⟨F158.y, sc158, rfl, rfl, ch158, b158⟩
      · cases h; exact ⟨F159.y, sc159, rfl, rfl, ch159, b159⟩
      · cases h; exact ⟨F160.y, sc160, rfl, rfl, ch160, b160⟩
      · cases h; exact ⟨F161.y, sc161, rfl, rfl, ch161, b161⟩
      · cases h; exact ⟨F162.y, sc162, rfl, rfl, ch162, b162⟩
      · cases h; exact ⟨F163.y, sc163, rfl, rfl, ch163, b163⟩
      · cases h; exact ⟨F164.y, sc164, rfl, rfl, ch164, b164⟩
      · cases h; exact ⟨F165.y, sc165, rfl, rfl, ch165, b165⟩
      · cases h; exact ⟨F166.y, sc166, rfl, rfl, ch166, b166⟩
      · cases h; exact ⟨F167.y, sc167, rfl, rfl, ch167, b167⟩
      · cases h; exact ⟨F176.y, sc176, rfl, rfl, ch176, b176⟩
      · cases h; exact ⟨F177.y, sc177, rfl, rfl, ch177, b177⟩
      · cases h; exact ⟨F178.y, sc178, rfl, rfl, ch178, b178⟩
      · cases h; exact ⟨F180.y, sc180, rfl, rfl, ch180, b180⟩
      · cases h; exact ⟨F185.y, sc185, rfl, rfl, ch185, b185⟩
      · cases h; exact ⟨F198.y, sc198, rfl, rfl, ch198, b198⟩
      · cases h; exact ⟨F225.y, sc225, rfl, rfl, ch225, b225⟩
      · cases h; exact ⟨F234.y, sc234, rfl, rfl, ch234, b234⟩
      · cases h; exact ⟨F235.y, sc235, rfl, rfl, ch235, b235⟩
      · cases h; exact ⟨F236.y, sc236, rfl, rfl, ch236, b236⟩
      · cases h; exact ⟨F237.y, sc237, rfl, rfl, ch237, b237⟩
      · cases h; exact ⟨F238.y, sc238, rfl, rfl, ch238, b238⟩
      · cases h; exact ⟨F239.y, sc239, rfl, rfl, ch239, b239⟩
      · cases h; exact ⟨F240.y, sc240, rfl, rfl, ch240, b240⟩
      · cases h; exact ⟨F241.y, sc241, rfl, rfl, ch241, b241⟩
      · cases h
    fnv := fun x f ar h => AllL.mem (l := Bw.k87_softened.G.fns) (φ := fun p : Str × Nat × Nat => (∃ d, T p.2.1 = some d) ∧ mg p.1 = some (.ref (Γ.fa p.2.1)) ∧ PySem.W.keepIn Γ.K (.ref (Γ.fa p.2.1)) = true) (.cons ⟨⟨_, rfl⟩, PySem.W.mg_of X G a1f, k1f⟩ (.cons ⟨⟨_, rfl⟩, PySem.W.mg_of X G a8f, k8f⟩ (.cons ⟨⟨_, rfl⟩, PySem.W.mg_of X G a11f, k11f⟩ (.cons ⟨⟨_, rfl⟩, PySem.W.mg_of X G a21f, k21f⟩ (.cons ⟨⟨_, rfl⟩, PySem.W.mg_of X G a68f, k68f⟩ (.cons ⟨⟨_, rfl⟩, PySem.W.mg_of X G a69f, k69f⟩ (.cons ⟨⟨_, rfl⟩, PySem.W.mg_of X G a70f, k70f⟩ (.cons ⟨⟨_, rfl⟩, PySem.W.mg_of X G a87f, k87f⟩ (.cons ⟨⟨_, rfl⟩, PySem.W.mg_of X G a88f, k88f⟩ (.cons ⟨⟨_, rfl⟩, PySem.W.mg_of X G a89f, k89f⟩ (.cons ⟨⟨_, rfl⟩, PySem.W.mg_of X G a91f, k91f⟩ (.cons ⟨⟨_, rfl⟩, PySem.W.mg_of X G a139f, k139f⟩ (.cons ⟨⟨_, rfl⟩, PySem.W.mg_of X G a140f, k140f⟩ (.cons ⟨⟨_, rfl⟩, PySem.W.mg_of X G a141f, k141f⟩ (.cons ⟨⟨_, rfl⟩, PySem.W.mg_of X G a155f, k155f⟩ (.cons ⟨⟨_, rfl⟩, PySem.W.mg_of X G a156f, k156f⟩ (.cons ⟨⟨_, rfl⟩, PySem.W.mg_of X G a167f, k167f⟩ (.cons ⟨⟨_, rfl⟩, PySem.W.mg_of X G a176f, k176f⟩ (.cons ⟨⟨_, rfl⟩, PySem.W.mg_of X G a177f, k177f⟩ (.cons ⟨⟨_, rfl⟩, PySem.W.mg_of X G a178f, k178f⟩ (.cons ⟨⟨_, rfl⟩, PySem.W.mg_of X G a180f, k180f⟩ (.cons ⟨⟨_, rfl⟩, PySem.W.mg_of X G a185f, k185f⟩ (.cons ⟨⟨_, rfl⟩, PySem.W.mg_of X G a198f, k198f⟩ (.cons ⟨⟨_, rfl⟩, PySem.W.mg_of X G a225f, k225f⟩ (.cons ⟨⟨_, rfl⟩, PySem.W.mg_of X G a234f, k234f⟩ (.cons ⟨⟨_, rfl⟩, PySem.W.mg_of X G a235f, k235f⟩ (.cons ⟨⟨_, rfl⟩, PySem.W.mg_of X G a236f, k236f⟩ (.cons ⟨⟨_, rfl⟩, PySem.W.mg_of X G a237f, k237f⟩ (.cons ⟨⟨_, rfl⟩, PySem.W.mg_of X G a238f, k238f⟩ (.cons ⟨⟨_, rfl⟩, PySem.W.mg_of X G a239f, k239f⟩ (.cons ⟨⟨_, rfl⟩, PySem.W.mg_of X G a240f, k240f⟩ .nil))))))))))))))))))))))))))))))) h
    dfl := fun x f ar ws h1 h2 => by cases h2
    cls := fun x c fi h => AllL.mem (l := Bw.k87_softened.G.cls) (φ := fun p : Str × Nat × Nat => (∃ d, T p.2.2 = some d) ∧ Mk Γ.K (Γ.ca p.2.1) (Γ.fa p.2.2) ∧ mg p.1 = some (.ref (Γ.ca p.2.1)) ∧ InsC Γ.K (Γ.ca p.2.1)) (.cons ⟨⟨_, rfl⟩, ⟨mk9C, a157f, if157f, k9C⟩, PySem.W.mg_of X G a9C, ik9⟩ .nil) (PySem.mem_of_lookup h)
    mth := fun m tb c f h h2 => AllL.mem (l := Bw.k87_softened.G.mth) (φ := fun p : List Nat × List (Nat × Nat) => ∀ c f, p.2.lookup c = some f → (∃ d, T f = some d) ∧ Meth Γ.K (Γ.ca c) (sZ p.1) (Γ.fa f)) (.cons (fun c f h => AllL.mem (l := [(9, 163)]) (φ := fun q : Nat × Nat => (∃ d, T q.2 = some d) ∧ Meth Γ.K (Γ.ca q.1) (sZ [98, 105, 110, 100, 105, 110, 103]) (Γ.fa q.2)) (.cons ⟨⟨_, rfl⟩, ⟨a163f, if163f, k163f⟩⟩ .nil) (mem_of_lookupA h)) (.cons (fun c f h => AllL.mem (l := [(9, 162)]) (φ := fun q : Nat × Nat => (∃ d, T q.2 = some d) ∧ Meth Γ.K (Γ.ca q.1) (sZ [98, 121, 95, 119, 111, 114, 100]) (Γ.fa q.2)) (.cons ⟨⟨_, rfl⟩, ⟨a162f, if162f, k162f⟩⟩ .nil) (mem_of_lookupA h)) (.cons (fun c f h => AllL.mem (l := [(9, 164)]) (φ := fun q : Nat × Nat => (∃ d, T q.2 = some d) ∧ Meth Γ.K (Γ.ca q.1) (sZ [102, 111, 114, 107, 101, 100]) (Γ.fa q.2)) (.cons ⟨⟨_, rfl⟩, ⟨a164f, if164f, k164f⟩⟩ .nil) (mem_of_lookupA h)) (.cons (fun c f h => AllL.mem (l := [(9, 160)]) (φ := fun q : Nat × Nat => (∃ d, T q.2 = some d) ∧ Meth Γ.K (Γ.ca q.1) (sZ [104, 101, 108, 100]) (Γ.fa q.2)) (.cons ⟨⟨_, rfl⟩, ⟨a160f, if160f, k160f⟩⟩ .nil) (mem_of_lookupA h)) (.cons (fun c f h => AllL.mem (l := [(9, 158)]) (φ := fun q : Nat × Nat => (∃ d, T q.2 = some d) ∧ Meth Γ.K (Γ.ca q.1) (sZ [104, 111, 108, 100]) (Γ.fa q.2)) (.cons ⟨⟨_, rfl⟩, ⟨a158f, if158f, k158f⟩⟩ .nil) (mem_of_lookupA h)) (.cons (fun c f h => AllL.mem (l := [(9, 159)]) (φ := fun q : Nat × Nat => (∃ d, T q.2 = some d) ∧ Meth Γ.K (Γ.ca q.1) (sZ [108, 111, 111, 107]) (Γ.fa q.2)) (.cons ⟨⟨_, rfl⟩, ⟨a159f, if159f, k159f⟩⟩ .nil) (mem_of_lookupA h)) (.cons (fun c f h => AllL.mem (l := [(9, 166)]) (φ := fun q : Nat × Nat => (∃ d, T q.2 = some d) ∧ Meth Γ.K (Γ.ca q.1) (sZ [109, 97, 107, 105, 110, 103]) (Γ.fa q.2)) (.cons ⟨⟨_, rfl⟩, ⟨a166f, if166f, k166f⟩⟩ .nil) (mem_of_lookupA h)) (.cons (fun c f h => AllL.mem (l := [(9, 165)]) (φ := fun q : Nat × Nat => (∃ d, T q.2 = some d) ∧ Meth Γ.K (Γ.ca q.1) (sZ [114, 101, 97, 100, 105, 110, 103]) (Γ.fa q.2)) (.cons ⟨⟨_, rfl⟩, ⟨a165f, if165f, k165f⟩⟩ .nil) (mem_of_lookupA h)) (.cons (fun c f h => AllL.mem (l := [(9, 161)]) (φ := fun q : Nat × Nat => (∃ d, T q.2 = some d) ∧ Meth Γ.K (Γ.ca q.1) (sZ [115, 104, 97, 112, 101, 100]) (Γ.fa q.2)) (.cons ⟨⟨_, rfl⟩, ⟨a161f, if161f, k161f⟩⟩ .nil) (mem_of_lookupA h)) .nil))))))))) (mem_of_lookupA h) c f h2
    fld := fun c fs f h h2 => AllL.mem (l := Bw.k87_softened.G.fld) (φ := fun p : Nat × List (List Nat) => ∀ f ∈ p.2, NoAttr Γ.K (Γ.ca p.1) (sZ f)) (.cons (fun f h => AllL.mem (l := [[102, 111, 117, 110, 100], [119, 97, 110, 116, 101, 100]]) (φ := fun f : List Nat => NoAttr Γ.K (Γ.ca 9) (sZ f)) (.cons n9Cfound (.cons n9Cwanted .nil)) h) .nil) (mem_of_lookupA h) f h2
    xcl := fun x c h => AllL.mem (l := Bw.k87_softened.G.xcl) (φ := fun p : Str × Nat × List (List Nat) => p.2.2 = [] → PySem.W.excIn Γ.K (Γ.ca p.2.1) [.type "ValueError", .type "Exception", .type "BaseException", .type "object"] "ValueError.__new__" = true ∧ mg p.1 = some (.ref (Γ.ca p.2.1)) ∧ PySem.W.keepIn Γ.K (.ref (Γ.ca p.2.1)) = true ∧ PySem.W.subIn Γ.K (.ref (Γ.ca p.2.1)) (.type "BaseException") = some true ∧ PySem.W.typeIn Γ.K (.ref (Γ.ca p.2.1)) = some (.type "type") ∧ XkC Γ.K (Γ.ca p.2.1)) (.cons (fun h => by cases h) (.cons (fun h => by cases h) (.cons (fun h => by cases h) .nil))) (PySem.mem_of_lookup h) rfl
    xin := fun x c fs h h2 => AllL.mem (l := Bw.k87_softened.G.xcl) (φ := fun p : Str × Nat × List (List Nat) => p.2.2 ≠ [] → ∃ (ve : Bool) (fI : Addr) (fd : FuncData) (ps : List Str), OxC Γ.K (Γ.ca p.2.1) ve ∧ PySem.W.findIn Γ.K (.ref (Γ.ca p.2.1)) "__init__" = some (some (.ref fI)) ∧ PySem.W.typeIn Γ.K (.ref fI) = some (.type "function") ∧ FnOk l.prog w Γ.K mg base (L2.CX l.prog w) 1 fI fd ps (spI (Γ.ca p.2.1) p.2.2) ∧ Binds Γ.K fd ps [] ∧ mg p.1 = some (.ref (Γ.ca p.2.1)) ∧ XkC Γ.K (Γ.ca p.2.1) ∧ ∀ f ∈ p.2.2, PySem.W.findIn Γ.K (.ref (Γ.ca p.2.1)) (sZ f) = some none) (.cons (fun _ => ⟨true, f9004, _, ["self", "place"], ⟨⟨_, _, _, _, _, _, _, _, _, _, _, _, _, _, _, xl4C, rfl⟩, sa4C, e4C, t4C, k4C⟩, ii4C, ti4C, init_ok (N := ["self", "place"]) (ve := true) (B := (some "BlameError")) (fun_mk (st := (clsB (top 2)).getD 0 (.Pass ⟨0, 0, 0, 0⟩)) l9004f c9004f k9004f).y ⟨rfl, rfl, rfl, by decide +kernel, rfl, by decide +kernel, by decide +kernel⟩ rfl ⟨⟨_, _, _, _, _, _, _, _, _, _, _, _, _, _, _, xl4C, rfl⟩, sa4C, e4C, t4C, k4C⟩ ⟨rfl, _, PySem.W.mg_of X G a0C, ⟨xga0C, xrd0C, xfi0C⟩⟩ (by decide +kernel) (fun f h => AllL.mem (l := [[112, 108, 97, 99, 101]]) (φ := fun f : List Nat => PySem.W.findIn K (.ref C4) (sZ f) = some none) (.cons n4Cplace .nil) h), (fun_mk (st := (clsB (top 2)).getD 0 (.Pass ⟨0, 0, 0, 0⟩)) l9004f c9004f k9004f).binds (ps := ["self", "place"]) (fun _ _ _ _ _ _ us hl => match us, hl with | [_, _], _ => rfl), PySem.W.mg_of X G a4C, xk4, (fun f h => AllL.mem (l := [[112, 108, 97, 99, 101]]) (φ := fun f : List Nat => PySem.W.findIn K (.ref C4) (sZ f) = some none) (.cons n4Cplace .nil) h)⟩) (.cons (fun _ => ⟨true, f9005, _, ["self", "place"], ⟨⟨_, _, _, _, _, _, _, _, _, _, _, _, _, _, _, xl5C, rfl⟩, sa5C, e5C, t5C, k5C⟩, ii5C, ti5C, init_ok (N := ["self", "place"]) (ve := true) (B := (some "BlameError")) (fun_mk (st := (clsB (top 3)).getD 0 (.Pass ⟨0, 0, 0, 0⟩)) l9005f c9005f k9005f).y ⟨rfl, rfl, rfl, by decide +kernel, rfl, by decide +kernel, by decide +kernel⟩ rfl ⟨⟨_, _, _, _, _, _, _, _, _, _, _, _, _, _, _, xl5C, rfl⟩, sa5C, e5C, t5C, k5C⟩ ⟨rfl, _, PySem.W.mg_of X G a0C, ⟨xga0C, xrd0C, xfi0C⟩⟩ (by decide +kernel) (fun f h => AllL.mem (l := [[112, 108, 97, 99, 101]]) (φ := fun f : List Nat => PySem.W.findIn K (.ref C5) (sZ f) = some none) (.cons n5Cplace .nil) h), (fun_mk (st := (clsB (top 3)).getD 0 (.Pass ⟨0, 0, 0, 0⟩)) l9005f c9005f k9005f).binds (ps := ["self", "place"]) (fun _ _ _ _ _ _ us hl => match us, hl with | [_, _], _ => rfl), PySem.W.mg_of X G a5C, xk5, (fun f h => AllL.mem (l := [[112, 108, 97, 99, 101]]) (φ := fun f : List Nat => PySem.W.findIn K (.ref C5) (sZ f) = some none) (.cons n5Cplace .nil) h)⟩) (.cons (fun _ => ⟨true, f9008, _, ["self", "place", "kind", "by", "wanted", "way"], ⟨⟨_, _, _, _, _, _, _, _, _, _, _, _, _, _, _, xl8C, rfl⟩, sa8C, e8C, t8C, k8C⟩, ii8C, ti8C, init_ok (N := ["self", "place", "kind", "by", "wanted", "way"]) (ve := true) (B := (some "BlameError")) (fun_mk (st := (clsB (top 4)).getD 0 (.Pass ⟨0, 0, 0, 0⟩)) l9008f c9008f k9008f).y ⟨rfl, rfl, rfl, by decide +kernel, rfl, by decide +kernel, by decide +kernel⟩ rfl ⟨⟨_, _, _, _, _, _, _, _, _, _, _, _, _, _, _, xl8C, rfl⟩, sa8C, e8C, t8C, k8C⟩ ⟨rfl, _, PySem.W.mg_of X G a0C, ⟨xga0C, xrd0C, xfi0C⟩⟩ (by decide +kernel) (fun f h => AllL.mem (l := [[112, 108, 97, 99, 101], [107, 105, 110, 100], [98, 121], [119, 97, 110, 116, 101, 100], [119, 97, 121]]) (φ := fun f : List Nat => PySem.W.findIn K (.ref C8) (sZ f) = some none) (.cons n8Cplace (.cons n8Ckind (.cons n8Cby (.cons n8Cwanted (.cons n8Cway .nil))))) h), (fun_mk (st := (clsB (top 4)).getD 0 (.Pass ⟨0, 0, 0, 0⟩)) l9008f c9008f k9008f).binds (ps := ["self", "place", "kind", "by", "wanted", "way"]) (fun _ _ _ _ _ _ us hl => match us, hl with | [_, _, _, _, _, _], _ => rfl), PySem.W.mg_of X G a8C, xk8, (fun f h => AllL.mem (l := [[112, 108, 97, 99, 101], [107, 105, 110, 100], [98, 121], [119, 97, 110, 116, 101, 100], [119, 97, 121]]) (φ := fun f : List Nat => PySem.W.findIn K (.ref C8) (sZ f) = some none) (.cons n8Cplace (.cons n8Ckind (.cons n8Cby (.cons n8Cwanted (.cons n8Cway .nil))))) h)⟩) .nil))) (PySem.mem_of_lookup h) h2
    isC := fun y yes no h => by cases h
    exm := fun x yes no h => AllL.mem (l := Bw.k87_softened.G.exm) (φ := fun p : Str × List Nat × List Nat => ∃ cv, (mg p.1 = some cv ∨ (mg p.1 = none ∧ bootBuiltins p.1 = some cv ∧ p.1 ≠ ("__name__" : Str))) ∧ (∀ c ∈ p.2.1, PySem.W.exmOne Γ.K (.ref (Γ.ca c)) cv = some true) ∧ ∀ c ∈ p.2.2, PySem.W.exmOne Γ.K (.ref (Γ.ca c)) cv = some false) (.cons ⟨.ref C4, .inl (PySem.W.mg_of X G a4C), fun c h => AllL.mem (l := [4]) (φ := fun c : Nat => PySem.W.exmOne Γ.K (.ref (Γ.ca c)) (.ref C4) = some true) (.cons (exm_own e4C i4C t4C s4C) .nil) h, fun c h => AllL.mem (l := [5, 8]) (φ := fun c : Nat => PySem.W.exmOne Γ.K (.ref (Γ.ca c)) (.ref C4) = some false) (.cons (exm_own e4C i4C t4C sb5CNoName) (.cons (exm_own e4C i4C t4C sb8CNoName) .nil)) h⟩ (.cons ⟨.ref C8, .inl (PySem.W.mg_of X G a8C), fun c h => AllL.mem (l := [8]) (φ := fun c : Nat => PySem.W.exmOne Γ.K (.ref (Γ.ca c)) (.ref C8) = some true) (.cons (exm_own e8C i8C t8C s8C) .nil) h, fun c h => AllL.mem (l := [4, 5]) (φ := fun c : Nat => PySem.W.exmOne Γ.K (.ref (Γ.ca c)) (.ref C8) = some false) (.cons (exm_own e8C i8C t8C sb4CParted) (.cons (exm_own e8C i8C t8C sb5CParted) .nil)) h⟩ (.cons ⟨.ref C5, .inl (PySem.W.mg_of X G a5C), fun c h => AllL.mem (l := [5]) (φ := fun c : Nat => PySem.W.exmOne Γ.K (.ref (Γ.ca c)) (.ref C5) = some true) (.cons (exm_own e5C i5C t5C s5C) .nil) h, fun c h => AllL.mem (l := [4, 8]) (φ := fun c : Nat => PySem.W.exmOne Γ.K (.ref (Γ.ca c)) (.ref C5) = some false) (.cons (exm_own e5C i5C t5C sb4CTooDeep) (.cons (exm_own e5C i5C t5C sb8CTooDeep) .nil)) h⟩ .nil))) (PySem.mem_of_lookup h)
    bi := fun x h => AllL.mem (φ := fun x : Str => mg x = none) (.cons (PySem.W.mg_none_of X G z0) (.cons (PySem.W.mg_none_of X G z1) (.cons (PySem.W.mg_none_of X G z2) (.cons (PySem.W.mg_none_of X G z3) (.cons (PySem.W.mg_none_of X G z4) (.cons (PySem.W.mg_none_of X G z5) (.cons (PySem.W.mg_none_of X G z6) (.cons (PySem.W.mg_none_of X G z7) (.cons (PySem.W.mg_none_of X G z8) (.cons (PySem.W.mg_none_of X G z9) (.cons (PySem.W.mg_none_of X G z10) .nil))))))))))) (List.contains_iff_mem.mp h)
    con := fun x w h => AllL.mem (φ := fun p : Str × W => ∃ v u, mg p.1 = some u ∧ RelV v u ∧ ∀ S H, rep Γ S H p.2 v) (.cons ⟨(.ref p1 : V), _, PySem.W.mg_of X G a9c, by (rw [e10]; exact rfl), fun S H => (show rep Γ S H (.tup [.str [63]]) (.ref p1 : V) from ⟨p1, [((.str ⟨([63] : List Nat).toArray⟩) : V)], rfl, .inr ⟨_, #[u2], _, l6t, rfl, rfl, by (show 1 ≤ sizeLine); decide, (.cons (by rw [e8]; exact ⟨_, rfl⟩) .nil)⟩, ⟨_, _, rfl, ⟨rfl, by decide⟩, rfl⟩⟩)⟩ (.cons ⟨(.int (4) : V), _, PySem.W.mg_of X G a12c, by (rw [e13]; exact ⟨_, rfl⟩), fun S H => (show rep Γ S H (.int 4) (.int (4) : V) from rfl)⟩ (.cons ⟨(.ref p14 : V), _, PySem.W.mg_of X G a22c, by (rw [e23]; exact rfl), fun S H => (show rep Γ S H (.tup [.str [119, 104, 111, 108, 101]]) (.ref p14 : V) from ⟨p14, [((.str ⟨([119, 104, 111, 108, 101] : List Nat).toArray⟩) : V)], rfl, .inr ⟨_, #[u15], _, l19t, rfl, rfl, by (show 1 ≤ sizeLine); decide, (.cons (by rw [e21]; exact ⟨_, rfl⟩) .nil)⟩, ⟨_, _, rfl, ⟨rfl, by decide⟩, rfl⟩⟩)⟩ (.cons ⟨(.ref p24 : V), _, PySem.W.mg_of X G a32c, by (rw [e33]; exact rfl), fun S H => (show rep Γ S H (.tup [.str [116, 114, 117, 116, 104]]) (.ref p24 : V) from ⟨p24, [((.str ⟨([116, 114, 117, 116, 104] : List Nat).toArray⟩) : V)], rfl, .inr ⟨_, #[u25], _, l29t, rfl, rfl, by (show 1 ≤ sizeLine); decide, (.cons (by rw [e31]; exact ⟨_, rfl⟩) .nil)⟩, ⟨_, _, rfl, ⟨rfl, by decide⟩, rfl⟩⟩)⟩ (.cons ⟨(.ref p34 : V), _, PySem.W.mg_of X G a62c, by (rw [e63]; exact rfl), fun S H => (show rep Γ S H (.tup [.str [116, 111], .tup [.str [63]], .tup [.str [63]]]) (.ref p34 : V) from ⟨p34, [((.str ⟨([116, 111] : List Nat).toArray⟩) : V), ((.ref p44) : V), ((.ref p53) : V)], rfl, .inr ⟨_, #[u35, u36, u37], _, l41t, rfl, rfl, by (show 3 ≤ sizeLine); decide, (.cons (by rw [e43]; exact ⟨_, rfl⟩) (.cons (by rw [e52]; exact rfl) (.cons (by rw [e61]; exact rfl) .nil)))⟩, ⟨_, _, rfl, ⟨rfl, by decide⟩, ⟨_, _, rfl, ⟨p44, [((.str ⟨([63] : List Nat).toArray⟩) : V)], rfl, .inr ⟨_, #[u45], _, l49t, rfl, rfl, by (show 1 ≤ sizeLine); decide, (.cons (by rw [e51]; exact ⟨_, rfl⟩) .nil)⟩, ⟨_, _, rfl, ⟨rfl, by decide⟩, rfl⟩⟩, ⟨_, _, rfl, ⟨p53, [((.str ⟨([63] : List Nat).toArray⟩) : V)], rfl, .inr ⟨_, #[u54], _, l58t, rfl, rfl, by (show 1 ≤ sizeLine); decide, (.cons (by rw [e60]; exact ⟨_, rfl⟩) .nil)⟩, ⟨_, _, rfl, ⟨rfl, by decide⟩, rfl⟩⟩, rfl⟩⟩⟩⟩)⟩ (.cons ⟨(.ref p64 : V), _, PySem.W.mg_of X G a82c, by (rw [e83]; exact rfl), fun S H => (show rep Γ S H (.tup [.str [114, 111, 119], .tup [.str [63]]]) (.ref p64 : V) from ⟨p64, [((.str ⟨([114, 111, 119] : List Nat).toArray⟩) : V), ((.ref p73) : V)], rfl, .inr ⟨_, #[u65, u66], _, l70t, rfl, rfl, by (show 2 ≤ sizeLine); decide, (.cons (by rw [e72]; exact ⟨_, rfl⟩) (.cons (by rw [e81]; exact rfl) .nil))⟩, ⟨_, _, rfl, ⟨rfl, by decide⟩, ⟨_, _, rfl, ⟨p73, [((.str ⟨([63] : List Nat).toArray⟩) : V)], rfl, .inr ⟨_, #[u74], _, l78t, rfl, rfl, by (show 1 ≤ sizeLine); decide, (.cons (by rw [e80]; exact ⟨_, rfl⟩) .nil)⟩, ⟨_, _, rfl, ⟨rfl, by decide⟩, rfl⟩⟩, rfl⟩⟩⟩)⟩ (.cons ⟨(.ref p84 : V), _, PySem.W.mg_of X G a112c, by (rw [e113]; exact rfl), fun S H => (show rep Γ S H (.tup [.str [112, 97, 105, 114], .tup [.str [63]], .tup [.str [63]]]) (.ref p84 : V) from ⟨p84, [((.str ⟨([112, 97, 105, 114] : List Nat).toArray⟩) : V), ((.ref p94) : V), ((.ref p103) : V)], rfl, .inr ⟨_, #[u85, u86, u87], _, l91t, rfl, rfl, by (show 3 ≤ sizeLine); decide, (.cons (by rw [e93]; exact ⟨_, rfl⟩) (.cons (by rw [e102]; exact rfl) (.cons (by rw [e111]; exact rfl) .nil)))⟩, ⟨_, _, rfl, ⟨rfl, by decide⟩, ⟨_, _, rfl, ⟨p94, [((.str ⟨([63] : List Nat).toArray⟩) : V)], rfl, .inr ⟨_, #[u95], _, l99t, rfl, rfl, by (show 1 ≤ sizeLine); decide, (.cons (by rw [e101]; exact ⟨_, rfl⟩) .nil)⟩, ⟨_, _, rfl, ⟨rfl, by decide⟩, rfl⟩⟩, ⟨_, _, rfl, ⟨p103, [((.str ⟨([63] : List Nat).toArray⟩) : V)], rfl, .inr ⟨_, #[u104], _, l108t, rfl, rfl, by (show 1 ≤ sizeLine); decide, (.cons (by rw [e110]; exact ⟨_, rfl⟩) .nil)⟩, ⟨_, _, rfl, ⟨rfl, by decide⟩, rfl⟩⟩, rfl⟩⟩⟩⟩)⟩ (.cons ⟨(.ref p114 : V), _, PySem.W.mg_of X G a122c, by (rw [e123]; exact rfl), fun S H => (show rep Γ S H (.tup [.str [63]]) (.ref p114 : V) from ⟨p114, [((.str ⟨([63] : List Nat).toArray⟩) : V)], rfl, .inr ⟨_, #[u115], _, l119t, rfl, rfl, by (show 1 ≤ sizeLine); decide, (.cons (by rw [e121]; exact ⟨_, rfl⟩) .nil)⟩, ⟨_, _, rfl, ⟨rfl, by decide⟩, rfl⟩⟩)⟩ .nil)))))))) (PySem.mem_of_lookup h)
    tab := fun x kvs h => AllL.mem (φ := fun t : Str × List (List Nat × W) => ∃ p, mg t.1 = some (.ref p) ∧ ∀ k w', t.2.lookup k = some w' → ∃ v, KDct Γ.K w p ⟨k.toArray⟩ v ∧ ∀ S H, rep Γ S H w' v) (.cons ⟨p124, PySem.W.mg_of X G a127c, fun k w' h => AllL.mem (φ := fun q : List Nat × W => ∃ v, KDct Γ.K w p124 ⟨q.1.toArray⟩ v ∧ ∀ S H, rep Γ S H q.2 v) (.cons ⟨(.int (3) : V), ⟨_, _, _, l128d, kl129, a131e, by (rw [e132]; exact ⟨_, rfl⟩)⟩, fun S H => (show rep Γ S H (.int 3) (.int (3) : V) from rfl)⟩ (.cons ⟨(.int (3) : V), ⟨_, _, _, l128d, kl129, a135e, by (rw [e136]; exact ⟨_, rfl⟩)⟩, fun S H => (show rep Γ S H (.int 3) (.int (3) : V) from rfl)⟩ (.cons ⟨(.int (3) : V), ⟨_, _, _, l128d, kl129, a139e, by (rw [e140]; exact ⟨_, rfl⟩)⟩, fun S H => (show rep Γ S H (.int 3) (.int (3) : V) from rfl)⟩ (.cons ⟨(.int (3) : V), ⟨_, _, _, l128d, kl129, a143e, by (rw [e144]; exact ⟨_, rfl⟩)⟩, fun S H => (show rep Γ S H (.int 3) (.int (3) : V) from rfl)⟩ (.cons ⟨(.int (4) : V), ⟨_, _, _, l128d, kl129, a147e, by (rw [e148]; exact ⟨_, rfl⟩)⟩, fun S H => (show rep Γ S H (.int 4) (.int (4) : V) from rfl)⟩ (.cons ⟨(.int (6) : V), ⟨_, _, _, l128d, kl129, a151e, by (rw [e152]; exact ⟨_, rfl⟩)⟩, fun S H => (show rep Γ S H (.int 6) (.int (6) : V) from rfl)⟩ (.cons ⟨(.int (2) : V), ⟨_, _, _, l128d, kl129, a155e, by (rw [e156]; exact ⟨_, rfl⟩)⟩, fun S H => (show rep Γ S H (.int 2) (.int (2) : V) from rfl)⟩ (.cons ⟨(.int (3) : V), ⟨_, _, _, l128d, kl129, a159e, by (rw [e160]; exact ⟨_, rfl⟩)⟩, fun S H => (show rep Γ S H (.int 3) (.int (3) : V) from rfl)⟩ (.cons ⟨(.int (2) : V), ⟨_, _, _, l128d, kl129, a163e, by (rw [e164]; exact ⟨_, rfl⟩)⟩, fun S H => (show rep Γ S H (.int 2) (.int (2) : V) from rfl)⟩ (.cons ⟨(.int (3) : V), ⟨_, _, _, l128d, kl129, a167e, by (rw [e168]; exact ⟨_, rfl⟩)⟩, fun S H => (show rep Γ S H (.int 3) (.int (3) : V) from rfl)⟩ (.cons ⟨(.int (2) : V), ⟨_, _, _, l128d, kl129, a171e, by (rw [e172]; exact ⟨_, rfl⟩)⟩, fun S H => (show rep Γ S H (.int 2) (.int (2) : V) from rfl)⟩ (.cons ⟨(.int (2) : V), ⟨_, _, _, l128d, kl129, a175e, by (rw [e176]; exact ⟨_, rfl⟩)⟩, fun S H => (show rep Γ S H (.int 2) (.int (2) : V) from rfl)⟩ (.cons ⟨(.int (2) : V), ⟨_, _, _, l128d, kl129, a179e, by (rw [e180]; exact ⟨_, rfl⟩)⟩, fun S H => (show rep Γ S H (.int 2) (.int (2) : V) from rfl)⟩ (.cons ⟨(.int (2) : V), ⟨_, _, _, l128d, kl129, a183e, by (rw [e184]; exact ⟨_, rfl⟩)⟩, fun S H => (show rep Γ S H (.int 2) (.int (2) : V) from rfl)⟩ (.cons ⟨(.int (2) : V), ⟨_, _, _, l128d, kl129, a187e, by (rw [e188]; exact ⟨_, rfl⟩)⟩, fun S H => (show rep Γ S H (.int 2) (.int (2) : V) from rfl)⟩ (.cons ⟨(.int (3) : V), ⟨_, _, _, l128d, kl129, a191e, by (rw [e192]; exact ⟨_, rfl⟩)⟩, fun S H => (show rep Γ S H (.int 3) (.int (3) : V) from rfl)⟩ (.cons ⟨(.int (4) : V), ⟨_, _, _, l128d, kl129, a195e, by (rw [e196]; exact ⟨_, rfl⟩)⟩, fun S H => (show rep Γ S H (.int 4) (.int (4) : V) from rfl)⟩ .nil))))))))))))))))) (mem_of_lookupN h)⟩ .nil) (PySem.mem_of_lookup h) }
  exact law_end W (n := 101) (li := 241) rfl m
theorem walk {l : PySem.W.OpenLaw} {q : Program} {loose : List Str} {XP : (Str → Option Value) → Heap → Prop} {YP : World → Heap → Prop} {d : DefRec} {K : Params → PySem.W.Frag} (hn : l.most = some 63) (hdf : d.params.defaults = [])
    (hY : ∀ (w : World) (h : Heap), YP w h → (K w.params).In h)
    (F : ∀ (w : World) (mg : Str → Option Value) (fa : Addr) (h : Heap), (K w.params).In h → h.Ns mainGlobals mg → mg d.name = some (.ref fa) →
      ∃ fd : FuncData, (∀ (s : Shared) (u : Value), BindsTo s fd ⟨[u], []⟩ [("_law_script", u)]) ∧ ∀ base : Heap, (K w.params).In base → base.Ns mainGlobals mg → FnOk l.prog w (K w.params) mg base (L2.CX l.prog w) 206 fa fd ["_law_script"] (spL (K w.params))) :
    PySem.W.WalkO q loose XP YP l.row.toRowW d [] (fun f vs => PySem.call f vs) :=
  L2.walk_ofB (n := 63) (k := 206) (x := "_law_script") (CX := fun w => L2.CX l.prog w) (sp := fun w => spL (K w.params)) hn (by decide) hdf ⟨rfl, by decide, by decide⟩ hY F (fun _ _ a ns hl hb _ hS => ⟨a, ns, rfl, hS, hl, hb, fun _ => rfl⟩) fun _ _ _ _ _ z => by
    obtain ⟨_, _, _, _, _, _, _, _, _, _, _, _, z⟩ := z
    exact z
end Bw.k87_softened
open PySem PySem.W PyProof.Rows
set_option maxRecDepth 100000 in
set_option maxHeartbeats 0 in
theorem PySem.Challenge.cw_blamewise_k87_softened_holds : PySem.Challenge.rw_blamewise_k87_softened.Holds := by
  w_on; o_law; k_head; (case hw => w_witness2)
  k_fill
  refine Bw.k87_softened.walk (l := PySem.Challenge.rw_blamewise_k87_softened) rfl rfl (fun w h Y => PySem.W.kIn_of Y) ?F
  case F =>
    intro w mg fa h KX G hmg
    refine' Bw.k87_softened.all_mk KX G hmg ?a1f ?l1f ?c1f ?k1f ?a8f ?l8f ?c8f ?k8f ?a11f ?l11f ?c11f ?k11f ?a21f ?l21f ?c21f ?k21f ?a68f ?l68f ?c68f ?k68f ?a69f ?l69f ?c69f ?k69f ?a70f ?l70f ?c70f ?k70f ?a87f ?l87f ?c87f ?k87f ?a88f ?l88f ?c88f ?k88f ?a89f ?l89f ?c89f ?k89f ?a91f ?l91f ?c91f ?k91f ?a139f ?l139f ?c139f ?k139f ?a140f ?l140f ?c140f ?k140f ?a141f ?l141f ?c141f ?k141f ?a155f ?l155f ?c155f ?k155f ?a156f ?l156f ?c156f ?k156f ?a167f ?l167f ?c167f ?k167f ?a176f ?l176f ?c176f ?k176f ?a177f ?l177f ?c177f ?k177f ?a178f ?l178f ?c178f ?k178f ?a180f ?l180f ?c180f ?k180f ?a185f ?l185f ?c185f ?k185f ?a198f ?l198f ?c198f ?k198f ?a225f ?l225f ?c225f ?k225f ?a234f ?l234f ?c234f ?k234f ?a235f ?l235f ?c235f ?k235f ?a236f ?l236f ?c236f ?k236f ?a237f ?l237f ?c237f ?k237f ?a238f ?l238f ?c238f ?k238f ?a239f ?l239f ?c239f ?k239f ?a240f ?l240f ?c240f ?k240f ?a241f ?l241f ?c241f ?k241f ?a0C ?i0C ?t0C ?s0C ?k0C ?e0C ?a4C ?i4C ?t4C ?s4C ?k4C ?e4C ?a5C ?i5C ?t5C ?s5C ?k5C ?e5C ?a8C ?i8C ?t8C ?s8C ?k8C ?e8C ?a9C ?i9C ?t9C ?s9C ?k9C ?hnX ?htX ?ha4C ?hm4C ?hd4C ?sa4C ?ha5C ?hm5C ?hd5C ?sa5C ?ha8C ?hm8C ?hd8C ?sa8C ?ha9C ?hm9C ?hd9C ?sa9C ?ga4C ?gg4C ?xl4C ?ii4C ?l9004f ?c9004f ?k9004f ?ti4C ?n4Cplace ?ga5C ?gg5C ?xl5C ?ii5C ?l9005f ?c9005f ?k9005f ?ti5C ?n5Cplace ?ga8C ?gg8C ?xl8C ?ii8C ?l9008f ?c9008f ?k9008f ?ti8C ?n8Cplace ?n8Ckind ?n8Cby ?n8Cwanted ?n8Cway ?xga0C ?xrd0C ?xfi0C ?pg9C ?po9C ?mk9C ?st9Cint ?st9Cbool ?st9Cstr ?st9Ctuple ?st9Clist ?st9Cdict ?n9Cfound ?n9Cwanted ?a157f ?if157f ?l157f ?c157f ?k157f ?a158f ?if158f ?l158f ?c158f ?k158f ?a159f ?if159f ?l159f ?c159f ?k159f ?a160f ?if160f ?l160f ?c160f ?k160f ?a161f ?if161f ?l161f ?c161f ?k161f ?a162f ?if162f ?l162f ?c162f ?k162f ?a163f ?if163f ?l163f ?c163f ?k163f ?a164f ?if164f ?l164f ?c164f ?k164f ?a165f ?if165f ?l165f ?c165f ?k165f ?a166f ?if166f ?l166f ?c166f ?k166f ?sb5CNoName ?sb8CNoName ?sb9CNoName ?sy4CNoneType ?sy4Cbool ?sy4Cint ?sb4CParted ?sb5CParted ?sb9CParted ?sy8CNoneType ?sy8Cbool ?sy8Cint ?sb4CTooDeep ?sb8CTooDeep ?sb9CTooDeep ?sy5CNoneType ?sy5Cbool ?sy5Cint ?a9c ?e10 ?l6t ?e8 ?a12c ?e13 ?a22c ?e23 ?l19t ?e21 ?a32c ?e33 ?l29t ?e31 ?a62c ?e63 ?l41t ?e43 ?e52 ?l49t ?e51 ?e61 ?l58t ?e60 ?a82c ?e83 ?l70t ?e72 ?e81 ?l78t ?e80 ?a112c ?e113 ?l91t ?e93 ?e102 ?l99t ?e101 ?e111 ?l108t ?e110 ?a122c ?e123 ?l119t ?e121 ?a127c ?l128d ?kl129 ?a131e ?e132 ?a135e ?e136 ?a139e ?e140 ?a143e ?e144 ?a147e ?e148 ?a151e ?e152 ?a155e ?e156 ?a159e ?e160 ?a163e ?e164 ?a167e ?e168 ?a171e ?e172 ?a175e ?e176 ?a179e ?e180 ?a183e ?e184 ?a187e ?e188 ?a191e ?e192 ?a195e ?e196 ?z0 ?z1 ?z2 ?z3 ?z4 ?z5 ?z6 ?z7 ?z8 ?z9 ?z10 Bw.k87_softened.law_holds
    (case a1f => k_is)
    (case l1f => k_is)
    (case c1f => k_is)
    (case k1f => k_is)
    (case a8f => k_is)
    (case l8f => k_is)
    (case c8f => k_is)
    (case k8f => k_is)
    (case a11f => k_is)
    (case l11f => k_is)
    (case c11f => k_is)
    (case k11f => k_is)
    (case a21f => k_is)
    (case l21f => k_is)
    (case c21f => k_is)
    (case k21f => k_is)
    (case a68f => k_is)
    (case l68f => k_is)
    (case c68f => k_is)
    (case k68f => k_is)
    (case a69f => k_is)
    (case l69f => k_is)
    (case c69f => k_is)
    (case k69f => k_is)
    (case a70f => k_is)
    (case l70f => k_is)
    (case c70f => k_is)
    (case k70f => k_is)
    (case a87f => k_is)
    (case l87f => k_is)
    (case c87f => k_is)
    (case k87f => k_is)
    (case a88f => k_is)
    (case l88f => k_is)
    (case c88f => k_is)
    (case k88f => k_is)
    (case a89f => k_is)
    (case l89f => k_is)
    (case c89f => k_is)
    (case k89f => k_is)
    (case a91f => k_is)
    (case l91f => k_is)
    (case c91f => k_is)
    (case k91f => k_is)
    (case a139f => k_is)
    (case l139f => k_is)
    (case c139f => k_is)
    (case k139f => k_is)
    (case a140f => k_is)
    (case l140f => k_is)
    (case c140f => k_is)
    (case k140f => k_is)
    (case a141f => k_is)
    (case l141f => k_is)
    (case c141f => k_is)
    (case k141f => k_is)
    (case a155f => k_is)
    (case l155f => k_is)
    (case c155f => k_is)
    (case k155f => k_is)
    (case a156f => k_is)
    (case l156f => k_is)
    (case c156f => k_is)
    (case k156f => k_is)
    (case a167f => k_is)
    (case l167f => k_is)
    (case c167f => k_is)
    (case k167f => k_is)
    (case a176f => k_is)
    (case l176f => k_is)
    (case c176f => k_is)
    (case k176f => k_is)
    (case a177f => k_is)
    (case l177f => k_is)
    (case c177f => k_is)
    (case k177f => k_is)
    (case a178f => k_is)
    (case l178f => k_is)
    (case c178f => k_is)
    (case k178f => k_is)
    (case a180f => k_is)
    (case l180f => k_is)
    (case c180f => k_is)
    (case k180f => k_is)
    (case a185f => k_is)
    (case l185f => k_is)
    (case c185f => k_is)
    (case k185f => k_is)
    (case a198f => k_is)
    (case l198f => k_is)
    (case c198f => k_is)
    (case k198f => k_is)
    (case a225f => k_is)
    (case l225f => k_is)
    (case c225f => k_is)
    (case k225f => k_is)
    (case a234f => k_is)
    (case l234f => k_is)
    (case c234f => k_is)
    (case k234f => k_is)
    (case a235f => k_is)
    (case l235f => k_is)
    (case c235f => k_is)
    (case k235f => k_is)
    (case a236f => k_is)
    (case l236f => k_is)
    (case c236f => k_is)
    (case k236f => k_is)
    (case a237f => k_is)
    (case l237f => k_is)
    (case c237f => k_is)
    (case k237f => k_is)
    (case a238f => k_is)
    (case l238f => k_is)
    (case c238f => k_is)
    (case k238f => k_is)
    (case a239f => k_is)
    (case l239f => k_is)
    (case c239f => k_is)
    (case k239f => k_is)
    (case a240f => k_is)
    (case l240f => k_is)
    (case c240f => k_is)
    (case k240f => k_is)
    (case a241f => k_is)
    (case l241f => k_is)
    (case c241f => k_is)
    (case k241f => k_is)
    (case a0C => k_is)
    (case i0C => k_is)
    (case t0C => k_is)
    (case s0C => k_is)
    (case k0C => k_is)
    (case e0C => k_is)
    (case a4C => k_is)
    (case i4C => k_is)
    (case t4C => k_is)
    (case s4C => k_is)
    (case k4C => k_is)
    (case e4C => k_is)
    (case a5C => k_is)
    (case i5C => k_is)
    (case t5C => k_is)
    (case s5C => k_is)
    (case k5C => k_is)
    (case e5C => k_is)
    (case a8C => k_is)
    (case i8C => k_is)
    (case t8C => k_is)
    (case s8C => k_is)
    (case k8C => k_is)
    (case e8C => k_is)
    (case a9C => k_is)
    (case i9C => k_is)
    (case t9C => k_is)
    (case s9C => k_is)
    (case k9C => k_is)
    (case hnX => k_is)
    (case htX => k_is)
    (case ha4C => k_is)
    (case hm4C => k_is)
    (case hd4C => k_is)
    (case sa4C => k_is)
    (case ha5C => k_is)
    (case hm5C => k_is)
    (case hd5C => k_is)
    (case sa5C => k_is)
    (case ha8C => k_is)
    (case hm8C => k_is)
    (case hd8C => k_is)
    (case sa8C => k_is)
    (case ha9C => k_is)
    (case hm9C => k_is)
    (case hd9C => k_is)
    (case sa9C => k_is)
    (case ga4C => k_is)
    (case gg4C => k_is)
    (case xl4C => k_is)
    (case ii4C => k_is)
    (case l9004f => k_is)
    (case c9004f => k_is)
    (case k9004f => k_is)
    (case ti4C => k_is)
    (case n4Cplace => k_is)
    (case ga5C => k_is)
    (case gg5C => k_is)
    (case xl5C => k_is)
    (case ii5C => k_is)
    (case l9005f => k_is)
    (case c9005f => k_is)
    (case k9005f => k_is)
    (case ti5C => k_is)
    (case n5Cplace => k_is)
    (case ga8C => k_is)
    (case gg8C => k_is)
    (case xl8C => k_is)
    (case ii8C => k_is)
    (case l9008f => k_is)
    (case c9008f => k_is)
    (case k9008f => k_is)
    (case ti8C => k_is)
    (case n8Cplace => k_is)
    (case n8Ckind => k_is)
    (case n8Cby => k_is)
    (case n8Cwanted => k_is)
    (case n8Cway => k_is)
    (case xga0C => k_is)
    (case xrd0C => k_is)
    (case xfi0C => k_is)
    (case pg9C => k_is)
    (case po9C => k_is)
    (case mk9C => k_is)
    (case st9Cint => k_is)
    (case st9Cbool => k_is)
    (case st9Cstr => k_is)
    (case st9Ctuple => k_is)
    (case st9Clist => k_is)
    (case st9Cdict => k_is)
    (case n9Cfound => k_is)
    (case n9Cwanted => k_is)
    (case a157f => k_is)
    (case if157f => k_is)
    (case l157f => k_is)
    (case c157f => k_is)
    (case k157f => k_is)
    (case a158f => k_is)
    (case if158f => k_is)
    (case l158f => k_is)
    (case c158f => k_is)
    (case k158f => k_is)
    (case a159f => k_is)
    (case if159f => k_is)
    (case l159f => k_is)
    (case c159f => k_is)
    (case k159f => k_is)
    (case a160f => k_is)
    (case if160f => k_is)
    (case l160f => k_is)
    (case c160f => k_is)
    (case k160f => k_is)
    (case a161f => k_is)
    (case if161f => k_is)
    (case l161f => k_is)
    (case c161f => k_is)
    (case k161f => k_is)
    (case a162f => k_is)
    (case if162f => k_is)
    (case l162f => k_is)
    (case c162f => k_is)
    (case k162f => k_is)
    (case a163f => k_is)
    (case if163f => k_is)
    (case l163f => k_is)
    (case c163f => k_is)
    (case k163f => k_is)
    (case a164f => k_is)
    (case if164f => k_is)
    (case l164f => k_is)
    (case c164f => k_is)
    (case k164f => k_is)
    (case a165f => k_is)
    (case if165f => k_is)
    (case l165f => k_is)
    (case c165f => k_is)
    (case k165f => k_is)
    (case a166f => k_is)
    (case if166f => k_is)
    (case l166f => k_is)
    (case c166f => k_is)
    (case k166f => k_is)
    (case sb5CNoName => k_is)
    (case sb8CNoName => k_is)
    (case sb9CNoName => k_is)
    (case sy4CNoneType => k_is)
    (case sy4Cbool => k_is)
    (case sy4Cint => k_is)
    (case sb4CParted => k_is)
    (case sb5CParted => k_is)
    (case sb9CParted => k_is)
    (case sy8CNoneType => k_is)
    (case sy8Cbool => k_is)
    (case sy8Cint => k_is)
    (case sb4CTooDeep => k_is)
    (case sb8CTooDeep => k_is)
    (case sb9CTooDeep => k_is)
    (case sy5CNoneType => k_is)
    (case sy5Cbool => k_is)
    (case sy5Cint => k_is)
    (case a9c => k_is)
    (case e10 => rfl)
    (case l6t => k_is)
    (case e8 => rfl)
    (case a12c => k_is)
    (case e13 => rfl)
    (case a22c => k_is)
    (case e23 => rfl)
    (case l19t => k_is)
    (case e21 => rfl)
    (case a32c => k_is)
    (case e33 => rfl)
    (case l29t => k_is)
    (case e31 => rfl)
    (case a62c => k_is)
    (case e63 => rfl)
    (case l41t => k_is)
    (case e43 => rfl)
    (case e52 => rfl)
    (case l49t => k_is)
    (case e51 => rfl)
    (case e61 => rfl)
    (case l58t => k_is)
    (case e60 => rfl)
    (case a82c => k_is)
    (case e83 => rfl)
    (case l70t => k_is)
    (case e72 => rfl)
    (case e81 => rfl)
    (case l78t => k_is)
    (case e80 => rfl)
    (case a112c => k_is)
    (case e113 => rfl)
    (case l91t => k_is)
    (case e93 => rfl)
    (case e102 => rfl)
    (case l99t => k_is)
    (case e101 => rfl)
    (case e111 => rfl)
    (case l108t => k_is)
    (case e110 => rfl)
    (case a122c => k_is)
    (case e123 => rfl)
    (case l119t => k_is)
    (case e121 => rfl)
    (case a127c => k_is)
    (case l128d => k_is)
    (case kl129 => exact ⟨⟨_, _, rfl, rfl⟩, ⟨_, _, rfl, rfl⟩, ⟨_, _, rfl, rfl⟩, ⟨_, _, rfl, rfl⟩, ⟨_, _, rfl, rfl⟩, ⟨_, _, rfl, rfl⟩, ⟨_, _, rfl, rfl⟩, ⟨_, _, rfl, rfl⟩, ⟨_, _, rfl, rfl⟩, ⟨_, _, rfl, rfl⟩, ⟨_, _, rfl, rfl⟩, ⟨_, _, rfl, rfl⟩, ⟨_, _, rfl, rfl⟩, ⟨_, _, rfl, rfl⟩, ⟨_, _, rfl, rfl⟩, ⟨_, _, rfl, rfl⟩, ⟨_, _, rfl, rfl⟩, trivial⟩)
    (case a131e => k_is)
    (case e132 => rfl)
    (case a135e => k_is)
    (case e136 => rfl)
    (case a139e => k_is)
    (case e140 => rfl)
    (case a143e => k_is)
    (case e144 => rfl)
    (case a147e => k_is)
    (case e148 => rfl)
    (case a151e => k_is)
    (case e152 => rfl)
    (case a155e => k_is)
    (case e156 => rfl)
    (case a159e => k_is)
    (case e160 => rfl)
    (case a163e => k_is)
    (case e164 => rfl)
    (case a167e => k_is)
    (case e168 => rfl)
    (case a171e => k_is)
    (case e172 => rfl)
    (case a175e => k_is)
    (case e176 => rfl)
    (case a179e => k_is)
    (case e180 => rfl)
    (case a183e => k_is)
    (case e184 => rfl)
    (case a187e => k_is)
    (case e188 => rfl)
    (case a191e => k_is)
    (case e192 => rfl)
    (case a195e => k_is)
    (case e196 => rfl)
    (case z0 => k_is)
    (case z1 => k_is)
    (case z2 => k_is)
    (case z3 => k_is)
    (case z4 => k_is)
    (case z5 => k_is)
    (case z6 => k_is)
    (case z7 => k_is)
    (case z8 => k_is)
    (case z9 => k_is)
    (case z10 => k_is)

