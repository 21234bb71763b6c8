import PyProof.Rows.All
import Wide.All
import OpenK.AllK
import Wide.FinOn
import HandS.TupMul
import HandS.List
import HandS.Exc
import HandS.ExcOwn
import HandS.ExcInit
import HandS.ExcValue
import HandS.ExcField
import HandS.IsInst
import HandS.TryMany
import KE.KExcIs
import KE.KDictKeyed
import HandS.ExcSuper
import HandS.Dict
import HandS.More
import HandS.Codes
import PyProof.DictCopy
import HandS.ForMost
import HandS.Wide
import HandS.TupAny
import HandS.Zip
import HandS.Rev
import HandS.CallSlots
import HandS.RevTup
import KE.DatumOrd
import HandS.Flt
import PyProof.DictTruth
import HandS.NoneIn
import KE.KEqNest
import HandS.EndBits
import PySem.Challenge.RW_blamewise_k11_parts_and_places
set_option Elab.async false
set_option linter.all false
set_option maxRecDepth 100000
set_option maxHeartbeats 4000000
namespace L2
open PySem PySem.Spec PyProof.Rows
theorem tuple_mul1 (l : Addr) (items : Array Value) (n : Nat) (dd : Option Addr) (sl : Array (Option Value)) (x : Int) (u : Tok) (c0 : (decide (x < -(2 ^ 63)) || decide (x ≥ 2 ^ 63)) = false) (c1 : (items.isEmpty || x == 1) = true) :
    Meets (Builtin.«tuple.__mul__» ⟨[.ref l, .int x u], []⟩) (fun _ R s => s.heap.get? l = some { cls := .type "tuple", dict := dd, data := .seq items n, slots := sl } ∧
      R (.ok (.ret (Value.ref l))) s) :=
  .of_wp fun prog w A R s h => by
    obtain ⟨hp, g, d, tk, os⟩ := s
    obtain ⟨hl, h⟩ := h
    have f1 := AutoSeq1.idx_int
    wp_walk using wpAny_loadPart' hl
    repeat (first
      | (refine wpAny_ite_false (decide_eq_false (by rw [c0]; exact Bool.false_ne_true)) ?_; wp_walk using wpAny_loadPart' hl)
      | (refine wpAny_ite_true (decide_eq_true (by rw [c1])) ?_; wp_walk using wpAny_loadPart' hl))
    exact ⟨_, rfl, h⟩
theorem tuple_mul0 (l : Addr) (items : Array Value) (n : Nat) (dd : Option Addr) (sl : Array (Option Value)) (x : Int) (u : Tok) (c0 : (decide (x < -(2 ^ 63)) || decide (x ≥ 2 ^ 63)) = false) (c1 : (items.isEmpty || x == 1) = false) (c2 : (decide (x ≤ 0) || items.isEmpty) = true) :
    Meets (Builtin.«tuple.__mul__» ⟨[.ref l, .int x u], []⟩) (fun _ R s => s.heap.get? l = some { cls := .type "tuple", dict := dd, data := .seq items n, slots := sl } ∧
      R (.ok (.ret (Value.ref s.heap.objs.size))) { s with heap := s.heap.push { cls := Value.type "tuple", data := Data.seq #[] }, toks := s.toks }) :=
  .of_wp fun prog w A R s h => by
    obtain ⟨hp, g, d, tk, os⟩ := s
    obtain ⟨hl, h⟩ := h
    have f1 := AutoSeq1.idx_int
    wp_walk using wpAny_loadPart' hl
    repeat (first
      | (refine wpAny_ite_false (decide_eq_false (by rw [c0]; exact Bool.false_ne_true)) ?_; wp_walk using wpAny_loadPart' hl)
      | (refine wpAny_ite_false (decide_eq_false (by rw [c1]; exact Bool.false_ne_true)) ?_; wp_walk using wpAny_loadPart' hl)
      | (refine wpAny_ite_true (decide_eq_true (by rw [c2])) ?_; wp_walk using wpAny_loadPart' hl))
    exact ⟨_, rfl, h⟩
def rRepA (K : PySem.W.Frag) : R2 := fun x y H Q => ∃ l k xs, x = .ref l ∧ y = .int k ∧ SqT K H l xs ∧ xs ≠ [] ∧ 0 ≤ k ∧ k ≤ 1000 ∧ xs.length ≤ 1000 ∧ (k = 1 → Q (.ref l) H) ∧ (k ≠ 1 → ∀ p, H p = none → Q (.ref p) (upd H p (.tup (List.replicate k.toNat xs).flatten)))
section
variable {X : Cx}
theorem op_repA : OpR X (binaryOp .Mult) (rRepA X.K) := by
  intro pins s σ H x y v u Q I rx ry h
  obtain ⟨l, k, xs, rfl, rfl, hT, hne, h1, h2, hz, q1, q⟩ := h
  by_cases hk2 : 2 ≤ k
  · exact op_repT pins s σ H _ _ v u Q I rx ry ⟨l, k, xs, rfl, rfl, hT, hne, hk2, h2, hz, q (by omega)⟩
  cases rx
  obtain ⟨t, rfl⟩ := ry
  obtain ⟨its, r, ⟨⟨cls, dd, data, sl⟩, ho, hc, n, hd⟩, hs⟩ := I.tuple hT
  simp only at hc hd
  subst hc hd
  have hle : its.length = xs.length := r.length.symm
  have hn : its ≠ [] := fun e => hne (by
    rw [e] at hle
    exact List.eq_nil_of_length_eq_zero hle.symm)
  have hi : its.toArray.isEmpty = false := by
    cases its with
    | nil => exact absurd rfl hn
    | cons a b => rfl
  have c0 : (decide (k < -(2 ^ 63)) || decide (k ≥ 2 ^ 63)) = false := by
    rw [decide_eq_false (by omega), decide_eq_false (by omega)] <;> rfl
  by_cases hk : k = 1
  · have c1 : (its.toArray.isEmpty || k == 1) = true := by rw [hk]; simp
    refine wpAny_binaryOp_repeat_ref (T := "tuple") (U := "int") (by decide) ⟨_, ho, rfl⟩ (fun s' => typeIs_int s' k t) noFill_tuple_mul F.fills_int_mul F.slot_int_rmul repeat_tuple F.slot_int_index.lookup
      (call_meets F.slot_int_rmul (typeIs_int s k t) F.entry_int_rmul (F.args_int_rmul_2 _ _) (int_rmul_tuple k t l its.toArray n dd sl)
        ⟨ho, rfl, ⟨_, ho, rfl⟩, call_meets F.slot_tuple_mul ⟨_, ho, rfl⟩ F.entry_tuple_mul (F.args_tuple_mul_2 _ _) (tuple_mul1 l its.toArray n dd sl k t c0 c1) ⟨ho, ?_⟩⟩)
    exact ⟨.ref l, H, I, rfl, q1 hk⟩
  · have hk0 : k = 0 := by omega
    have c1 : (its.toArray.isEmpty || k == 1) = false := by
      rw [hi, Bool.false_or]
      exact beq_eq_false_iff_ne.mpr hk
    have c2 : (decide (k ≤ 0) || its.toArray.isEmpty) = true := by
      rw [decide_eq_true (by omega)]; rfl
    refine wpAny_binaryOp_repeat_ref (T := "tuple") (U := "int") (by decide) ⟨_, ho, rfl⟩ (fun s' => typeIs_int s' k t) noFill_tuple_mul F.fills_int_mul F.slot_int_rmul repeat_tuple F.slot_int_index.lookup
      (call_meets F.slot_int_rmul (typeIs_int s k t) F.entry_int_rmul (F.args_int_rmul_2 _ _) (int_rmul_tuple k t l its.toArray n dd sl)
        ⟨ho, rfl, ⟨_, ho, rfl⟩, call_meets F.slot_tuple_mul ⟨_, ho, rfl⟩ F.entry_tuple_mul (F.args_tuple_mul_2 _ _) (tuple_mul0 l its.toArray n dd sl k t c0 c1 c2) ⟨ho, ?_⟩⟩)
    have q := q hk
    rw [hk0] at q
    refine ⟨.ref s.heap.objs.size, _, I.laid (t' := s.toks) (o := .tup []) (fun b ob q => Heap.get?_push_of_some _ q) (Nat.le_refl _) ?_, rfl, q _ (I.hok.fresh (Nat.le_refl _))⟩
    exact ⟨by rw [sizeLine_eq]; exact Nat.zero_le _, [], .nil, IsTup.new _ _⟩
theorem count_eqU {x : V} : ∀ {xs : List V} {us : List Value}, Vals xs us → xs.all flatV = true → us.countP (eqU x) = xs.countP fun y => eqV y x
  | _, _, .nil, _ => rfl
  | y :: xs, u :: us, .cons r t, f => by
    rw [List.all_cons, Bool.and_eq_true] at f
    rw [List.countP_cons, List.countP_cons, eqU_of r f.1, count_eqU t f.2]
/-- list.count, flat items -/
def rCntF (K : PySem.W.Frag) : V → List V → Hp → VK → Prop := fun x xs H Q => ∃ (a : Addr) (ys : List V) (y : V), x = V.ref a ∧ xs = [y] ∧ SqL K H a ys ∧ flatV y = true ∧ ys.all flatV = true ∧ Q (.int ((ys.countP fun z => eqV z y : Nat) : Int)) H
theorem mt_lcntF : MtR X "list.count" (rCntF X.K) := by
  intro pins s σ H x xs v us Q I rx rxs h
  obtain ⟨a, ys, y, rfl, rfl, hs, fy, fys, q⟩ := h
  cases rx
  cases rxs with
  | cons ry rt =>
    rename_i uy ut
    cases rt
    obtain ⟨its, rv, ⟨⟨cls, dd, data, sl⟩, n, ho, hc, hdn, hd⟩, hlen⟩ := I.list hs
    simp only at hc hd
    subst hc hd
    refine call_meets PySem.F.slot_list_count ⟨_, ho, rfl⟩ PySem.F.entry_list_count (PySem.F.args_list_count_2 _ _)
      (SeqAt.list_countAt a its.toArray n dd sl uy (eqU y)) ⟨ho, fun u' hu' => mem_eqAt ry fy rv fys u' (by simpa using hu'), ?_⟩
    have ec : its.toArray.toList.countP (eqU y) = ys.countP fun z => eqV z y := count_eqU rv fys
    refine ⟨.int ((ys.countP fun z => eqV z y : Nat) : Int), H, I.tok _, ⟨s.toks, ?_⟩, q⟩
    show Value.int ((its.toArray.toList.countP (eqU y) : Nat) : Int) s.toks = Value.int ((ys.countP fun z => eqV z y : Nat) : Int) s.toks
    rw [ec]
end
end L2

/-! Ex1: a try with any clauses, names and else; the caught exception is tracked from there on. -/
namespace Bw
open PySem L2 PySem.Spec PyProof.Rows
/-- a caught exception of the class cls, its dict at d -/
def ExT (cls : Value) (d : Option Addr) (e : Addr) : HO := .ext fun h => ∃ (ob : Obj) (us : Array Value), h.get? e = some ob ∧ Zc cls d ob ∧ ob.data = .fields us
theorem exT_ok {P : Program} {w : World} {H : Hp} {h : Heap} {e : Addr} {cls : Value} {d : Option Addr} {ob : Obj} {us : Array Value} (q : h.get? e = some ob) (z : Zc cls d ob) (dd : ob.data = .fields us) : ObjOk P w H h e (ExT cls d e) :=
  ⟨⟨ob, us, q, z, dd⟩, ⟨ob, q⟩, fun _ _ ⟨o, v, q1, q2⟩ k => ⟨o, v, k o q1, q2⟩⟩
theorem exT_at {P : Program} {w : World} {H : Hp} {h : Heap} {e : Addr} {cls : Value} {d : Option Addr} (hok : HOk P w H h) (q : H e = some (ExT cls d e)) : ∃ (ob : Obj) (us : Array Value), h.get? e = some ob ∧ Zc cls d ob ∧ ob.data = .fields us := by
  have x : ObjOk P w H h e (.ext fun h => ∃ (ob : Obj) (us : Array Value), h.get? e = some ob ∧ Zc cls d ob ∧ ob.data = .fields us) := hok e _ q
  exact x.1
structure Hc where
  c : Value
  nm : Option Nat
  ts : TS
def endH (nm : Option Nat) (D : Ends) : Ends := match nm with
  | none => D
  | some i => { nx := fun σ' H' => D.nx (σ'.set i none) H', rt := D.rt, bk := fun σ' H' => D.bk (σ'.set i none) H', ct := fun σ' H' => D.ct (σ'.set i none) H' }
def setH (nm : Option Nat) (σ : L2.St) (a : Addr) : L2.St := match nm with
  | none => σ
  | some i => σ.set i (some (.ref a))
/-- what the clauses wish of an exception of the body -/
def wHc (K : PySem.W.Frag) (Wo : WX) (D : Ends) : List Hc → WX
  | [] => Wo
  | q :: r => fun cls d σ H => ∃ b, PySem.W.exmOne K cls q.c = some b ∧ (b = true → ∀ a, H a = none → q.ts (endH q.nm D) (setH q.nm σ a) (upd H a (ExT cls d a))) ∧ (b = false → wHc K Wo D r cls d σ H)
inductive HcOk (X : Cx) : List ExceptHandler → List Hc → Prop
  | nil : HcOk X [] []
  | cons {x : Str} {c : Value} {ts : TS} {st0 : Stmt} {sts : List Stmt} {np np2 : Pos} {hds : List ExceptHandler} {l : List Hc} (hc : Names X x c) (hsu : ∀ (a : Addr) (pn : List (Addr × Obj)), PSs (X.suite a pn) (st0 :: sts) ts) (r : HcOk X hds l) :
      HcOk X (.ExceptHandler (some (.Name x np)) none (st0 :: sts) np2 :: hds) (⟨c, none, ts⟩ :: l)
  | consN {x n : Str} {i : Nat} {c : Value} {ts : TS} {st0 : Stmt} {sts : List Stmt} {np np2 : Pos} {hds : List ExceptHandler} {l : List Hc} (hN : X.N.Nodup) (hi : X.N[i]? = some n) (hln : X.env.kindOf n = some .local) (hc : Names X x c)
      (hsu : ∀ (a : Addr) (pn : List (Addr × Obj)), PSs (X.suite a pn) (st0 :: sts) ts) (r : HcOk X hds l) :
      HcOk X (.ExceptHandler (some (.Name x np)) (some n) (st0 :: sts) np2 :: hds) (⟨c, some i, ts⟩ :: l)
section
variable {X : Cx} {pins : List (Addr × Obj)} {σ : L2.St} {H : Hp} {s : Shared}
theorem Inv.toSuite (I : Inv X pins σ H s) (a : Addr) : Inv (X.suite a (X.pn ++ pins)) [] σ H s :=
  ⟨I.ok.suite _ _, I.os, I.bare, I.base, I.loc, I.cell, I.free, I.freeC, fun p hp => I.pin p (by rw [List.append_nil] at hp; exact hp), I.hok, I.len⟩
theorem Inv.ofSuite {a : Addr} {pn' : List (Addr × Obj)} (I : Inv (X.suite a (X.pn ++ pins)) pn' σ H s) (ok : X.Ok) : Inv X pins σ H s :=
  ⟨ok, I.os, I.bare, I.base, I.loc, I.cell, I.free, I.freeC, fun p hp => I.pin p (List.mem_append_left _ hp), I.hok, I.len⟩
/-- the exception that landed is tracked from now on -/
theorem Inv.catch {sI : Shared} {B : Heap} {l : List Env} {e : Addr} {cls : Value} {d : Option Addr} {h3 : Heap} (J : Inv X pins σ H sI) (nb : ∀ b o, sI.heap.get? b = some o → b ∉ frs X.stack → B.get? b = some o) (fl : HandSPX.FlyingZ B l e (Zc cls d) h3)
    (up : sI.heap.UpToSlots h3) (os : s.os = sI.os) (ag : AllBare s.gens) (na : H e = none) (nfr : e ∉ frs X.stack) : Inv X pins σ (upd H e (ExT cls d e)) { s with heap := h3 } := by
  obtain ⟨ob, us, he, hz, hd⟩ := fl.there
  obtain ⟨G, g1, g2⟩ := restrict h3 fun b => decide (b ≠ e)
  have ge : G.get? e = none := g2 e (decide_eq_false fun z => z rfl)
  have gk : ∀ b, b ≠ e → G.get? b = h3.get? b := fun b hb => g1 b (decide_eq_true hb)
  have sIe : sI.heap.get? e = none := by
    cases q : sI.heap.get? e with
    | none => rfl
    | some o =>
      have q2 := nb e o q nfr
      rw [fl.2.1] at q2
      cases q2
  have st : B.StaysIn G := fun b o q => by
    have hb : b ≠ e := fun z => by rw [z, fl.2.1] at q; cases q
    exact (gk b hb).trans (fl.1 b o q)
  have up2 : sI.heap.UpToSlots G := fun b o q nf => by
    have hb : b ≠ e := fun z => by rw [z, sIe] at q; cases q
    obtain ⟨sl, q2⟩ := up b o q nf
    exact ⟨sl, (gk b hb).trans q2⟩
  have J2 : Inv X pins σ H { s with heap := G } := J.landed nb st up2 os ag
  exact J2.laidN (t' := s.toks) (fun b o q => by
    have hb : b ≠ e := fun z => by
      have q' : G.get? b = some o := q
      rw [z, ge] at q'
      cases q'
    exact (gk b hb).symm.trans q) ge na (exT_ok he hz hd)
end
section
variable {X : Cx} {body : List Stmt} {h0 : ExceptHandler} {hds : List ExceptHandler} {l : List Hc} {pos : Pos} {tb : WX → TS} {Wo : WX}
theorem ps_try_all {orelse : List Stmt} {u : TS} (ho : PSs X orelse u) (hst : X.stack = X.env :: X.outer) (hfm : X.env.frame = some X.env.locals) (tk : Takes X Wo)
    (hb : ∀ (W : WX) (pn : List (Addr × Obj)) (xe : Value → Shared → Prop), Takes (X.tr pn xe) W → PassesOwn (model X.prog X.w) X.A X.env xe → PSs (X.tr pn xe) body (tb W))
    (hh : HcOk X (h0 :: hds) l) : PS X (.Try body (h0 :: hds) orelse [] pos) (fun D σ H => tb (wHc X.K Wo D l) { D with nx := u D } σ H) := by
  refine ⟨fun pins s σ H D I hq => ?_⟩
  have okX := I.ok
  have frm : X.A.frames = some (X.env :: X.outer) := by rw [okX.frames, hst]
  refine wpAny_Try_except ?_
  have caught : ∀ (v : Value) (s' : Shared), XE (X.tr (X.pn ++ pins) (fun e s1 => wpAny (model X.prog X.w) X.A (noteFrame e X.env) (fun _ s2 => wpAny (model X.prog X.w) X.A (setFlight e none) (fun _ s3 => wpAny (model X.prog X.w) X.A (handleBy e X.env (h0 :: hds)) (SP X pins D) X.xe s3) X.xe s2) X.xe s1)) (wHc X.K Wo D l) v s' →
      wpAny (model X.prog X.w) X.A (noteFrame v X.env) (fun _ s2 => wpAny (model X.prog X.w) X.A (setFlight v none) (fun _ s3 => wpAny (model X.prog X.w) X.A (handleBy v X.env (h0 :: hds)) (SP X pins D) X.xe s3) X.xe s2) X.xe s' := by
    intro v s' xx
    obtain ⟨e, B, sI, pins', σ', H', cls, d, rfl, J', nb, up, sky, na, os, ag, w⟩ := xx
    have J : Inv X pins σ' H' sI := J'.ofTry okX
    have skyX : Sky B (X.env :: X.outer) e (Zc cls d) X.env.locals s'.heap := by rw [← hst]; exact sky
    refine Sky.land Zc.steady frm hfm skyX fun hA flA upA => ?_
    have JA : Inv X pins σ' H' { s' with heap := hA } := J.landed nb flA.1 (up.trans upA) os ag
    obtain ⟨obA, usA, heA, hzA, hdA⟩ := flA.there
    have nfr : e ∉ frs (X.env :: X.outer) := fun hm => by
      obtain ⟨_, o2, q2, hnf⟩ := flA.2.2.1.mem hm
      rw [heA] at q2
      cases q2
      exact hnf _ hdA
    have nL : e ≠ X.env.locals := fun z => nfr (List.mem_filterMap.mpr ⟨X.env, List.mem_cons_self, by rw [hfm, z]⟩)
    have nF : e ∉ X.fs := fun hm => by
      obtain ⟨en, hen, q⟩ := List.mem_filterMap.mp hm
      exact nfr (List.mem_filterMap.mpr ⟨en, List.mem_cons_of_mem _ hen, q⟩)
    have SA := JA.suite heA hdA na nL nF
    have LT : PySem.W.Looks (model X.prog X.w) hA (typeOf (.ref e)) cls := fun A Q E s k q => wpAny_typeOf_ref (k _ _ heA) (by rw [hzA.1]; exact q)
    have named : ∀ {x : Str} {c : Value} {np : Pos} {Q : Value → Shared → Prop} {E : Value → Shared → Prop}, Names X x c → Q c { s' with heap := hA } → wpAny (model X.prog X.w) (X.A.mark (some (.ref e))) (eval (.Name x np) X.env) Q E { s' with heap := hA } := fun {x c np Q E} hc q => by
      obtain ⟨hg, hdb, hm | ⟨hm, hv, hnn⟩⟩ := hc
      · exact ld_glob (X := X.suite e ((e, obA) :: (X.pn ++ pins))) SA hg hm q hdb
      · exact ld_blt (X := X.suite e ((e, obA) :: (X.pn ++ pins))) SA hg hm hv q hnn hdb
    have nst : e ∉ frs X.stack := by rw [hst]; exact nfr
    have go : ∀ {hs2 : List ExceptHandler} {l2 : List Hc}, HcOk X hs2 l2 → wHc X.K Wo D l2 cls d σ' H' → wpAny (model X.prog X.w) X.A (handleBy (.ref e) X.env hs2) (SP X pins D) X.xe { s' with heap := hA } := by
      intro hs2 l2 hk
      induction hk with
      | nil =>
        intro w
        refine wpAny_handleBy_nil ?_
        obtain ⟨_, _, _, ob2, us2, T2, oT2, ts2, g1, _, g3, g4, _⟩ := id flA
        unfold PySem.passOn
        refine wpAny_bind (wpAny_field g1 g3 g4 ?_)
        rw [if_neg (show ¬ ((Value.ref T2 == Value.none) = true) from by simp)]
        have up1 : wpAny (model X.prog X.w) X.A (setFlight (.ref e) X.env.frame) (fun _ s4 => wpAny (model X.prog X.w) X.A (throw (.ref e) : Sem Flow) (SP X pins D) X.xe s4) X.xe { s' with heap := hA } := by
          rw [hfm]
          refine HandSPX.setFlight_upZ flA fun hB hh4 upB => wpAny_throw (tk _ _ ?_)
          exact ⟨e, B, sI, pins, σ', H', cls, d, rfl, J, nb, (up.trans upA).trans upB, .inr (.inr (by rw [hst]; exact hh4)), na, os, ag, w⟩
        first
          | exact wpAny_bind (wpAny_pure (wpAny_bind up1))
          | exact wpAny_bind up1
      | @cons x c ts st0 sts np np2 hds2 l3 hc hsu r ih =>
        intro w
        obtain ⟨b, hb1, hyes, hno⟩ := w
        refine wpAny_handleBy_cons (codeAny_handlers_test ?_) (by intro q; cases q)
        have LM := PySem.W.exm_one (M := model X.prog X.w) JA.kIn LT hb1
        refine named hc (LM.here ?_)
        cases b with
        | true =>
          refine codeAny_handlers_suite ?_
          refine HandSPX.lands_againZ flA fun hB flB upB => ?_
          have JB := Inv.catch (s := s') J nb flB ((up.trans upA).trans upB) os ag na nst
          refine wpAny_mono ((hsu e (X.pn ++ pins)).run [] _ _ _ _ (Inv.toSuite JB e) (hyes rfl e na)) (fun f s6 hsp => ?_) (fun _ _ z => False.elim z)
          cases f with
          | next => obtain ⟨σ6, H6, S6, q6⟩ := hsp; exact ⟨_, _, Inv.ofSuite S6 okX, q6⟩
          | brk => obtain ⟨σ6, H6, S6, q6⟩ := hsp; exact ⟨_, _, Inv.ofSuite S6 okX, q6⟩
          | cont => obtain ⟨σ6, H6, S6, q6⟩ := hsp; exact ⟨_, _, Inv.ofSuite S6 okX, q6⟩
          | ret u => obtain ⟨v6, σ6, H6, S6, r6, q6⟩ := hsp; exact ⟨_, _, _, Inv.ofSuite S6 okX, r6, q6⟩
        | false =>
          show wpAny _ X.A (handleBy (.ref e) X.env hds2) _ _ _
          exact ih (hno rfl)
      | @consN x n i c ts st0 sts np np2 hds2 l3 hN hi hln hc hsu r ih =>
        intro w
        obtain ⟨b, hb1, hyes, hno⟩ := w
        refine wpAny_handleBy_cons (codeAny_handlers_test ?_) (by intro q; cases q)
        have LM := PySem.W.exm_one (M := model X.prog X.w) JA.kIn LT hb1
        refine named hc (LM.here ?_)
        cases b with
        | true =>
          refine codeAny_handlers_suite_as ?_
          refine HandSPX.lands_againZ flA fun hB flB upB => ?_
          have JB := Inv.catch (s := s') J nb flB ((up.trans upA).trans upB) os ag na nst
          refine store_ok (X := X.suite e (X.pn ++ pins)) (v := .ref e) (Inv.toSuite JB e) hN hi (.inl hln) rfl (fun s5 S5 => ?_) (.inr hln)
          refine wpAny_mono ((hsu e (X.pn ++ pins)).run [] s5 _ _ _ S5 (hyes rfl e na)) (fun f s6 hsp => ?_) (fun _ _ z => False.elim z)
          have fin : ∀ {σ6 : L2.St} {H6 : Hp} {Q : Shared → Prop}, Inv (X.suite e (X.pn ++ pins)) [] σ6 H6 s6 → (∀ s7, Inv X pins (σ6.set i none) H6 s7 → Q s7) →
              wpAny (model X.prog X.w) X.A (do bindName X.env n .none; unbindBehindTheSuite X.env n np2) (fun _ s7 => Q s7) X.xe s6 := fun {σ6 H6 Q} S6 k => gone_ok (Inv.ofSuite S6 okX) hN hi hln k
          cases f with
          | next => obtain ⟨σ6, H6, S6, q6⟩ := hsp; exact fin S6 fun s7 J7 => ⟨_, _, J7, q6⟩
          | brk => obtain ⟨σ6, H6, S6, q6⟩ := hsp; exact fin S6 fun s7 J7 => ⟨_, _, J7, q6⟩
          | cont => obtain ⟨σ6, H6, S6, q6⟩ := hsp; exact fin S6 fun s7 J7 => ⟨_, _, J7, q6⟩
          | ret u => obtain ⟨v6, σ6, H6, S6, r6, q6⟩ := hsp; exact fin S6 fun s7 J7 => ⟨_, _, _, J7, r6, q6⟩
        | false =>
          show wpAny _ X.A (handleBy (.ref e) X.env hds2) _ _ _
          exact ih (hno rfl)
    exact go hh w
  refine wpAny_mono ((hb (wHc X.K Wo D l) (X.pn ++ pins) _ caught PassesOwn.looking).run [] s σ H { D with nx := u D } (I.toTry _) hq) (fun f s1 hsp => ?_) (fun e s1 he => he)
  cases f with
  | next => obtain ⟨σ', H', J', q⟩ := hsp; exact ho.run pins s1 σ' H' D (J'.ofTry okX) q
  | brk => obtain ⟨σ', H', J', q⟩ := hsp; exact ⟨σ', H', J'.ofTry okX, q⟩
  | cont => obtain ⟨σ', H', J', q⟩ := hsp; exact ⟨σ', H', J'.ofTry okX, q⟩
  | ret u => obtain ⟨v, σ', H', J', r, q⟩ := hsp; exact ⟨v, σ', H', J'.ofTry okX, r, q⟩
end
end Bw

/-! Ex2: own exception classes over ValueError or over Exception: made by their __init__, their fields read, isinstance. -/
namespace Bw
open PySem L2 PySem.Spec PyProof.Rows
/-- what is asked of an own exception class that has an __init__; ve: over ValueError, else over Exception -/
structure OxC (K : PySem.W.Frag) (C : Addr) (ve : Bool) : Prop where
  cls : ∃ nm q N bs bm sn sub ab col dd k0 k1 k2 k3 k5, K.lookup C = some (excClassObj nm q C N bs bm true sn sub ab col dd k0 k1 k2 k3 k5 (if ve = true then "ValueError.__new__" else "Exception.__new__")) ∧ (if ve = true then PySem.HandSPX.refsVE bm = true else bm = PySem.ESX.exTail)
  sa : PySem.W.findIn K (.ref C) "__setattr__" = some (some (.builtin "object.__setattr__"))
  exC : PySem.W.subIn K (.ref C) (.type "BaseException") = some true
  tyC : PySem.W.typeIn K (.ref C) = some (.type "type")
  kC : PySem.W.keepIn K (.ref C) = true
section
variable {X : Cx} {pins : List (Addr × Obj)} {σ : L2.St} {H : Hp} {s : Shared} {a C dx : Addr} {ve : Bool} {f : Str} {y : V} {u : Value} {fs : List (Str × V)} {Q : Unit → Shared → Prop} {E : Value → Shared → Prop} {A : Around}
end
section
variable {X : Cx} {C B : Addr} {ve : Bool} {f : Str} {o e : Expr} {es : List Expr} {to te : TE} {ta : TA} {p p1 p2 pos : Pos}
def tMkX (C : Addr) (sp : Sp) (ta : TA) : L2.St → Hp → XK → Prop := fun σ H Q => ta σ H fun vs H1 => vs.length ≤ 1000 ∧ ∀ a, H1 a = none → sp (.ref a :: vs) (upd H1 a (exo a C none))
  (fun v H2 => v = .non ∧ ∃ (d : Addr) (fs : List (Str × V)), H2 a = some (exo a C (some d)) ∧ H2 d = some (exd d fs) ∧ H1 d = none ∧ Q (.ref C) (some d) (upd (L2.del H2 a) d (.xd fs))) (fun _ _ _ => False)
/-- C(e, ..), C an own exception class with an __init__ that keeps sp -/
theorem pmk_ox {CX : CXT} {x : Str} {fI : Addr} {k : Nat} {fd : FuncData} {ps : List Str} {sp : Sp} (T : OxC X.K C ve) (iC : PySem.W.findIn X.K (.ref C) "__init__" = some (some (.ref fI))) (tI : PySem.W.typeIn X.K (.ref fI) = some (.type "function"))
    (F1 : FnOk X.prog X.w X.K X.mg X.base CX k fI fd ps sp) (hr : Room (k + 1) X.A) (hb : Binds X.K fd ps []) (hx : Passes CX X (fun _ _ _ => False)) (hg : Gl X x) (hm : X.mg x = some (.ref C)) (ha : PA X (e :: es) ta)
    (hdb : (x == ("__debug__" : Str)) = false) (he : starEach (e :: es) X.env = (false, eval e X.env) :: starEach es X.env) (hpl : (backTo pos (starEach es X.env)).any (·.1) = false) :
    PMk X (.Call (.Name x p) (e :: es) [] pos) (tMkX C sp ta) := by
  intro pins s σ H Q I h
  obtain ⟨nm, q, N, bs, bm, sn, sub, ab, col, dd, k0, k1, k2, k3, k5, hC, hbm⟩ := T.cls
  refine wpAny_Call_Name_kw (ld_glob I hg hm ?_ hdb)
  refine PySem.W.callWith_K (h₀ := X.base) I.ok.mod.kin T.kC (thn (ha.run pos pins s σ H _ I h) fun us s1 ⟨vs, H1, I1, r1, hz, q1⟩ => ⟨I1.kIn, ?_⟩) he hpl
  show wpAny _ _ (call (.ref C) us) _ _ _
  obtain ⟨hp, g, dr, tk, os⟩ := s1
  have big : hp.objs.size ≤ hp.objs.size + 1 := Nat.le_succ _
  have hn : H1 (hp.objs.size + 1) = none := I1.hok.fresh big
  have hq := q1 (hp.objs.size + 1) hn
  have kk : ∀ b o, hp.get? b = some o → ((hp.push (PySem.W.kdv_tup us)).push (PySem.HandSPX.excO C hp.objs.size)).get? b = some o := fun b o z => Heap.get?_push_of_some _ (Heap.get?_push_of_some _ z)
  have there : ((hp.push (PySem.W.kdv_tup us)).push (PySem.HandSPX.excO C hp.objs.size)).get? (hp.objs.size + 1) = some (PySem.HandSPX.excO C hp.objs.size) := by heap_get
  have I2 : Inv X pins σ (upd H1 (hp.objs.size + 1) (exo (hp.objs.size + 1) C none)) ⟨(hp.push (PySem.W.kdv_tup us)).push (PySem.HandSPX.excO C hp.objs.size), g, dr, tk, os⟩ :=
    I1.laid (t' := tk) (a := hp.objs.size + 1) (o := exo (hp.objs.size + 1) C none) (h' := (hp.push (PySem.W.kdv_tup us)).push (PySem.HandSPX.excO C hp.objs.size)) kk big (exo_ok there)
  have r2 : Vals (V.ref (hp.objs.size + 1) :: vs) (Value.ref (hp.objs.size + 1) :: us) := .cons rfl r1
  have hl : (Value.ref (hp.objs.size + 1) :: us).length = ps.length := by
    have z := r2.length
    rw [F1.len _ _ _ _ hq] at z
    exact z.symm
  have hus : us.length ≤ sizeLine := by
    rw [← Paired.length r1, sizeLine_eq]
    omega
  have hb2 := hb _ (Value.ref (hp.objs.size + 1) :: us) I2.kIn (by rw [List.append_nil]; exact hl)
  rw [List.append_nil] at hb2
  have body : codeAny (model X.prog X.w) (X.A.under (.builtin "type.__call__" ⟨.ref C :: us, []⟩)) (.call (.ref fI) ⟨.ref (hp.objs.size + 1) :: us, []⟩)
      (PySem.W.InitBack (hp.objs.size + 1) fun r s' => match r with | .ok (.ret u) => MkP X pins σ Q u s' | .ok _ => False | .error u => X.xe u s') ⟨(hp.push (PySem.W.kdv_tup us)).push (PySem.HandSPX.excO C hp.objs.size), g, dr, tk, os⟩ := by
    refine codeAny_mono (F1.run _ X.stack _ _ ⟨Value.ref (hp.objs.size + 1) :: us, []⟩ (Value.ref (hp.objs.size + 1) :: us) _ _ (fun _ _ _ => False) (hr.make C us []) (I2.env0.make C us []) hb2 r2 hq) fun r s' hq' => ?_
    cases r with
    | error er => exact hx pins σ _ _ er s' I2 hq'
    | ok fl =>
      cases fl with
      | ret u =>
        obtain ⟨v, H2, os2, bare2, un2, hok2, rv, ev, d, fs, ea, ed, hd1, q2⟩ := hq'
        subst ev
        obtain ⟨h2, g2, d2, t2, os'⟩ := s'
        exact ⟨rv, mk_end (raises_own T.exC T.tyC) I1 big kk un2 hok2 os2 bare2 ea ed hd1 q2⟩
      | next => exact False.elim hq'
      | brk => exact False.elim hq'
      | cont => exact False.elim hq'
  cases ve with
  | true =>
    rw [if_pos rfl] at hbm
    rw [if_pos rfl] at hC
    exact wpAny_call (PySem.HandSPX.call_own F.excBase_ValueError (fun Y => PySem.HandSPX.refsVE_contains Y bm hbm) (I1.kIn _ _ hC) (PySem.W.looks_findIn I1.kIn iC) (fun self => PySem.W.bind_fn I1.kIn self tI) hus body)
  | false =>
    rw [if_neg (by decide)] at hbm
    rw [if_neg (by decide)] at hC
    exact wpAny_call (PySem.HandSPX.call_own F.excBase_Exception (fun Y => by rw [hbm]) (I1.kIn _ _ hC) (PySem.W.looks_findIn I1.kIn iC) (fun self => PySem.W.bind_fn I1.kIn self tI) hus body)
end
end Bw

/-! Ex3: dicts by values: d[k], k in d, d[k] = v, d.get, d.copy. -/
namespace Bw
open PySem L2 PySem.Spec PyProof.Rows
section
variable {X : Cx}
def rDIx : R2 := fun x y H Q => ∃ (a : Addr) (v : V), x = .ref a ∧ DGet H a y (some v) ∧ Q v H
theorem ix_dk (hu : X.A.units + 1 < cLine) : IxR X rDIx := by
  intro value slice pins s σ H x y v u Q I rx ry h hsub
  obtain ⟨a, w, rfl, g, q⟩ := h
  cases rx
  have hT := dict_typeIs I g
  unfold subscriptTail
  refine wpAny_bind ?_
  rw [getitemInPython_of_ne hT.not_modules]
  refine wpAny_bind (wpAny_specialOf hT PySem.F.slot_dict_getitem.lookup ?_)
  have rest : wpAny (model X.prog X.w) X.A (subscripted slice false (.ref a) u) (fun r s3 => wpAny (model X.prog X.w) X.A (letTemporaryGo value (.ref a) r >>= fun _ => pure r) (EP X pins σ Q) X.xe s3) X.xe s := by
    rw [hsub]
    exact wpAny_operating (d_getItem hu I g ry fun w' s3 I3 rw' => wpAny_bind (wpAny_letTemporaryGo (wpAny_pure ⟨w, H, I3, rw', q⟩)))
  first
    | exact wpAny_pure (wpAny_bind rest)
    | exact wpAny_bind (wpAny_pure (wpAny_bind rest))
    | exact wpAny_bind rest
def rDIn (neg : Bool) : R2 := fun y x H Q => ∃ (a : Addr) (o : Option V), x = .ref a ∧ DGet H a y o ∧ Q (.bl (o.isSome != neg)) H
theorem op_dkIn (hu : X.A.units + 1 < cLine) : OpR X (compareOp .In) (rDIn false) := by
  intro pins s σ H y x u v Q I ry rx h
  obtain ⟨a, o, rfl, g, q⟩ := h
  cases rx
  exact d_in hu I g ry fun s3 I3 => ⟨.bl o.isSome, H, I3, rfl, by simpa using q⟩
theorem op_dkNin (hu : X.A.units + 1 < cLine) : OpR X (compareOp .NotIn) (rDIn true) := by
  intro pins s σ H y x u v Q I ry rx h
  obtain ⟨a, o, rfl, g, q⟩ := h
  cases rx
  exact d_notIn hu I g ry fun s3 I3 => ⟨.bl (!o.isSome), H, I3, rfl, by simpa using q⟩
def rDSet : TSet := fun o i v H Q => ∃ (a : Addr) (H4 : Hp), o = .ref a ∧ DPut H a i v H4 ∧ Q H4
theorem set_dk (hu : X.A.units + 1 < cLine) : PSet X rDSet := by
  intro pins s σ H o i v ov iv u Q I ro ri rv h
  obtain ⟨a, H4, rfl, g, q⟩ := h
  cases ro
  exact d_setItem hu I g ri rv fun s4 I4 => ⟨H4, I4, q⟩
def rDGet1 : V → List V → Hp → VK → Prop := fun x ys H Q => ∃ (a : Addr) (y : V) (o : Option V), x = .ref a ∧ ys = [y] ∧ DGet H a y o ∧ Q (o.getD .non) H
theorem mt_dget1 (hu : X.A.units + 1 < cLine) : MtR X "dict.get" rDGet1 := by
  intro pins s σ H x xs v us Q I rx rxs h
  obtain ⟨a, y, o, rfl, rfl, g, q⟩ := h
  cases rx
  cases rxs with
  | cons r1 rt =>
    cases rt
    exact d_get1 hu I g r1 fun w' s4 I4 rw' => ⟨_, H, I4, rw', q⟩
def rDGet2 : V → List V → Hp → VK → Prop := fun x ys H Q => ∃ (a : Addr) (y z : V) (o : Option V), x = .ref a ∧ ys = [y, z] ∧ DGet H a y o ∧ Q (o.getD z) H
theorem mt_dget2 (hu : X.A.units + 1 < cLine) : MtR X "dict.get" rDGet2 := by
  intro pins s σ H x xs v us Q I rx rxs h
  obtain ⟨a, y, z, o, rfl, rfl, g, q⟩ := h
  cases rx
  cases rxs with
  | cons r1 rt =>
    cases rt with
    | cons r2 rt =>
      cases rt
      exact d_get2 hu I g r1 r2 fun w' s4 I4 rw' => ⟨_, H, I4, rw', q⟩
def rDCopy : V → List V → Hp → VK → Prop := fun x ys H Q => ∃ (a : Addr) (kvs : List (Key × V)), x = .ref a ∧ ys = [] ∧ Rd H a (.dK kvs) ∧ ∀ p, H p = none → Q (.ref p) (upd H p (.dK kvs))
theorem mt_dcopy : MtR X "dict.copy" rDCopy := by
  intro pins s σ H x xs v us Q I rx rxs h
  obtain ⟨a, kvs, rfl, rfl, e, q⟩ := h
  cases rx
  cases rxs
  obtain ⟨z, hd, vs, rel, dd⟩ := dk_rd I.hok e
  refine call_meetsIn PySem.F.slot_dict_copy dd.typeIs PySem.F.entry_dict_copy (PySem.F.args_dict_copy_1 _) (meets_dict_copy (mixKind X.prog X.w) a hd) ⟨vs, dd, by rw [← rel.length]; exact z, fun h' dd' _ k => ?_⟩
  refine ⟨.ref s.heap.objs.size, _, I.laid (a := s.heap.objs.size) (o := .dK kvs) (t' := s.toks) (fun b o hq => k b o hq) (Nat.le_refl _) (dk_new z (beq_eq_false_iff_ne.mpr (Ne.symm (Nat.ne_of_lt I.big))) rel dd'), rfl, q _ (I.hok.fresh (Nat.le_refl _))⟩
end
end Bw

/-! Ex4: calls with defaults, methods by the instance's class, new instances, fields, isinstance; what is raised is wished for at the caller's slots. -/
namespace Bw
open PySem L2 PySem.Spec PyProof.Rows
/-- not a call that might be super() -/
def plainO : Expr → Bool
  | .Call (.Name _ _) [] [] _ => false
  | _ => true
theorem base_of {o : Expr} {nm : Str} {env : PySem.Env} (h : plainO o = true) : attributeBase o nm env (eval o env) = eval o env := by
  cases o with
  | Call f as ks p => cases f <;> cases as <;> cases ks <;> first | rfl | (simp [plainO] at h)
  | _ => rfl
abbrev plOf (o : Expr) (env : PySem.Env) : Sem Bool := do return (← importBound o env).getD true
theorem mc_eq {o : Expr} {nm : Str} {apos pos : Pos} {args : List Expr} {env : PySem.Env} (h : plainO o = true) (hl : (apos.endLine == pos.line) = true) (hf : ((backTo pos (starEach args env)).all (fun x => !x.1)) = true) (hn : args.length < 30) :
    eval (.Call (.Attribute o nm apos) args [] pos) env = (do
      let ov ← eval o env
      standAt apos.atName
      let (f, first) ← holding [ov] (getMethod ov nm (plOf o env))
      callWith pos f first (backTo pos (starEach args env)) (backToKw pos (keywordEach [] env))) := by
  rw [PySem.arm_eval_Call, base_of h]
  have kz : backToKw pos (keywordEach [] env) = [] := rfl
  have form : methodCallForm (args.length + ([] : List Keyword).length) (backTo pos (starEach args env)) (backToKw pos (keywordEach [] env)) = true := by
    unfold methodCallForm
    rw [hf, kz]
    simp [hn]
  have hpos : methodCallPos true o env apos pos = pure pos := by unfold methodCallPos; simp [hl]
  unfold methodCall
  rw [form]
  unfold calleeOf
  simp only [hpos, if_true, pure_bind]
section
variable {X : Cx} {CX : CXT} {k : Nat} {f C : Addr} {fd : FuncData} {ps : List Str} {sp : Sp} {dvs : List V} {ds : List Value} {E : L2.St → XK} {x m : Str} {p pos apos : Pos} {e o : Expr} {es : List Expr} {ta : TE} {t : TA}
theorem run_fnD {pins : List (Addr × Obj)} {σ : L2.St} {H : Hp} {s : Shared} {Q : VK} {us : List Value} {vs : List V} (F : FnOk X.prog X.w X.K X.mg X.base CX k f fd ps sp) (hr : Room k X.A) (hb : Binds X.K fd ps ds) (hd : Vals dvs ds) (hx : PassesAt CX X σ (E σ))
    (I : Inv X pins σ H s) (r : Vals vs us) (h : sp (vs ++ dvs) H Q (E σ)) : wpAny (model X.prog X.w) X.A (call (.ref f) us) (EP X pins σ Q) X.xe s := by
  have r2 : Vals (vs ++ dvs) (us ++ ds) := r.append hd
  have hl : (us ++ ds).length = ps.length := by rw [← r2.length]; exact F.len _ _ _ _ h
  refine wpAny_call (codeAny_mono (F.run X.A X.stack s H ⟨us, []⟩ (us ++ ds) (vs ++ dvs) Q (E σ) hr I.env0 (hb s us I.kIn hl) r2 h) fun r s' hq => ?_)
  cases r with
  | error er => exact hx pins H s er s' I hq
  | ok fl => cases fl with
    | ret u => exact I.after hq
    | _ => exact False.elim hq
def tCallD (sp : Sp) (dvs : List V) (E : L2.St → XK) (t : TA) : TE := fun σ H Q => t σ H fun vs H1 => sp (vs ++ dvs) H1 Q (E σ)
theorem pe_callD (F : FnOk X.prog X.w X.K X.mg X.base CX k f fd ps sp) (hr : Room k X.A) (hg : Gl X x) (hm : X.mg x = some (.ref f)) (hk : PySem.W.keepIn X.K (.ref f) = true) (hb : Binds X.K fd ps ds) (hd : Vals dvs ds) (hx : ∀ σ, PassesAt CX X σ (E σ))
    (ha : PA X (e :: es) t) (hdb : (x == ("__debug__" : Str)) = false) (he : starEach (e :: es) X.env = (false, eval e X.env) :: starEach es X.env) (hpl : (backTo pos (starEach es X.env)).any (·.1) = false) :
    PE X (.Call (.Name x p) (e :: es) [] pos) (tCallD sp dvs E t) := by
  refine ⟨fun pins s σ H Q I h => ?_⟩
  refine wpAny_Call_Name_kw (ld_glob I hg hm ?_ hdb)
  refine PySem.W.callWith_K (h₀ := X.base) I.ok.mod.kin hk (thn (ha.run pos pins s σ H _ I h) fun us s1 ⟨vs, H1, I1, r, q⟩ => ⟨I1.kIn, ?_⟩) he hpl
  exact run_fnD F hr hb hd (hx σ) I1 r q
/-- a def that some names lead to: at f, at level k -/
def Fk (X : Cx) (CX : CXT) (k : Nat) (f : Addr) (sp : Sp) : Prop := ∃ fd ps, FnOk X.prog X.w X.K X.mg X.base CX k f fd ps sp ∧ Binds X.K fd ps []
/-- f(..), f a local name that holds a def -/
def tCallV (X : Cx) (CX : CXT) (i : Nat) (E : L2.St → XK) (t : TA) : TE := fun σ H Q => ∃ (k : Nat) (f : Addr) (sp : Sp), σ[i]? = some (some (.ref f)) ∧ Fk X CX k f sp ∧ Room k X.A ∧ PySem.W.keepIn X.K (.ref f) = true ∧ t σ H fun vs H1 => sp vs H1 Q (E σ)
theorem pe_callV {i : Nat} (hN : X.N[i]? = some x) (hv : Vis X.env.scope x) (hx : ∀ σ, PassesAt CX X σ (E σ)) (ha : PA X (e :: es) t) (hdb : (x == ("__debug__" : Str)) = false) (hcd : (x == ("__classdict__" : Str)) = false)
    (he : starEach (e :: es) X.env = (false, eval e X.env) :: starEach es X.env) (hpl : (backTo pos (starEach es X.env)).any (·.1) = false) : PE X (.Call (.Name x p) (e :: es) [] pos) (tCallV X CX i E t) := by
  refine ⟨fun pins s σ H Q I h => ?_⟩
  obtain ⟨k, f, sp, hs, ⟨fd, ps, F, hb⟩, hr, hk, ht⟩ := h
  refine wpAny_Call_Name_kw (thn ((pe_var (pos := p) hN hv hdb hcd).run pins s σ H (fun v H1 => v = .ref f ∧ H1 = H) I ⟨.ref f, hs, rfl, rfl⟩) fun u s1 ⟨v, H1, I1, r1, q1⟩ => ?_)
  obtain ⟨rfl, rfl⟩ := q1
  cases r1
  refine PySem.W.callWith_K (h₀ := X.base) I.ok.mod.kin hk (thn (ha.run pos pins s1 σ _ _ I1 ht) fun us s2 ⟨vs, H2, I2, r, q⟩ => ⟨I2.kIn, ?_⟩) he hpl
  exact run_fnD (dvs := []) F hr hb .nil (hx σ) I2 r (by rw [List.append_nil]; exact q)
/-- o.m(..): the def is found by the instance's class -/
def tMethD (X : Cx) (CX : CXT) (m : Str) (E : L2.St → XK) (ta : TE) (t : TA) : TE := fun σ H Q => ta σ H fun x H1 => ∃ (a C dx : Addr) (fs : List (Str × V)) (g : Addr) (k : Nat) (sp : Sp), x = .ref a ∧ H1 a = some (.ins C dx fs) ∧ Cls X.K C ∧ Meth X.K C m g ∧ fs.lookup m = none ∧
  Fk X CX k g sp ∧ Room k X.A ∧ t σ H1 fun vs H2 => sp (x :: vs) H2 Q (E σ)
theorem pe_methD (he : PE X o ta) (ho : plainO o = true) (hl : (apos.endLine == pos.line) = true) (hx : ∀ σ, PassesAt CX X σ (E σ)) (ha : PA X (e :: es) t) (hn : (e :: es).length < 30)
    (hst : starEach (e :: es) X.env = (false, eval e X.env) :: starEach es X.env) (hpl : (backTo pos (starEach es X.env)).any (·.1) = false) (hf : ((backTo pos (starEach (e :: es) X.env)).all (fun x => !x.1)) = true) :
    PE X (.Call (.Attribute o m apos) (e :: es) [] pos) (tMethD X CX m E ta t) := by
  refine ⟨fun pins s σ H Q I h => ?_⟩
  refine PySem.W.methodCall_KW (thn (he.run pins s σ H _ I h) fun u s1 ⟨x, H1, I1, rx, a, C, dx, fs, g, k, sp, ex, ea, c, hm, l, ⟨fd, ps, F, hb⟩, hr, q⟩ => ?_) (mc_eq ho hl hf hn)
  subst ex
  obtain rfl : u = Value.ref a := rx
  refine getmeth_ok I1 ea c hm l ?_
  refine PySem.W.callWith_K (first := [.ref a]) (h₀ := X.base) I1.ok.mod.kin hm.kp (thn (ha.run pos pins s1 σ H1 _ I1 q) fun us s2 ⟨vs, H2, I2, r, q2⟩ => ⟨I2.kIn, ?_⟩) hst hpl
  exact run_fnD (us := .ref a :: us) (vs := .ref a :: vs) (dvs := []) F hr hb .nil (hx σ) I2 (.cons rfl r) (by rw [List.append_nil]; exact q2)
theorem pe_methD0 (he : PE X o ta) (ho : plainO o = true) (hl : (apos.endLine == pos.line) = true) (hx : ∀ σ, PassesAt CX X σ (E σ)) :
    PE X (.Call (.Attribute o m apos) [] [] pos) (tMethD X CX m E ta tNil) := by
  refine ⟨fun pins s σ H Q I h => ?_⟩
  refine PySem.W.methodCall_KW (thn (he.run pins s σ H _ I h) fun u s1 ⟨x, H1, I1, rx, a, C, dx, fs, g, k, sp, ex, ea, c, hm, l, ⟨fd, ps, F, hb⟩, hr, q⟩ => ?_) (mc_eq ho hl rfl (by decide))
  subst ex
  obtain rfl : u = Value.ref a := rx
  refine getmeth_ok I1 ea c hm l ?_
  exact PySem.W.callWith_K0 (first := [.ref a]) I1.kIn hm.kp (run_fnD (us := [.ref a]) (vs := [.ref a]) (dvs := []) F hr hb .nil (hx σ) I1 (.cons rfl .nil) (by rw [List.append_nil]; exact q))
theorem run_makeD {pins : List (Addr × Obj)} {σ : L2.St} {H : Hp} {s : Shared} {Q : VK} {us : List Value} {vs : List V} (M : Mk X.K C f) (F : FnOk X.prog X.w X.K X.mg X.base CX k f fd ps sp) (hr : Room (k + 1) X.A) (hb : Binds X.K fd ps [])
    (hx : ∀ (H' : Hp) (s1 : Shared) (e : Value) (s' : Shared), Inv X pins σ H' s1 → CX X.stack H' s1 (E σ) e s' → X.xe e s') (I : Inv X pins σ H s) (r : Vals vs us)
    (h : ∀ x dx, H x = none → H dx = none → dx ≠ x → sp (.ref x :: vs) (upd (upd H dx (.own x)) x (.ins C dx [])) (fun v H2 => v = .non ∧ Q (.ref x) H2) (E σ)) :
    wpAny (model X.prog X.w) X.A (call (.ref C) us) (EP X pins σ Q) X.xe s := by
  have hq := h (s.heap.objs.size + 1) s.heap.objs.size (I.hok.fresh (Nat.le_succ _)) (I.hok.fresh (Nat.le_refl _)) (Nat.ne_of_lt (Nat.lt_succ_self _))
  have I2 := Inv.made (C := C) I
  have r2 : Vals (V.ref (s.heap.objs.size + 1) :: vs) (Value.ref (s.heap.objs.size + 1) :: us) := .cons rfl r
  have hl : (Value.ref (s.heap.objs.size + 1) :: us).length = ps.length := by
    have z := r2.length
    rw [F.len _ _ _ _ hq] at z
    exact z.symm
  have hb2 := hb _ (Value.ref (s.heap.objs.size + 1) :: us) I2.kIn (by rw [List.append_nil]; exact hl)
  rw [List.append_nil] at hb2
  refine wpAny_call (make_map (f := f) I.kIn M.makes M.init (beq_iff_eq.mp M.fn) (codeAny_mono (F.run _ X.stack _ _ ⟨Value.ref (s.heap.objs.size + 1) :: us, []⟩ (Value.ref (s.heap.objs.size + 1) :: us) _ _ (E σ) (hr.make C us [])
    (I2.env0.make C us []) hb2 r2 hq) fun r s' hq' => ?_))
  cases r with
  | error er => exact hx _ _ er s' I2 hq'
  | ok fl => cases fl with
    | ret u =>
      obtain ⟨v, H', I3, rv, ev, q3⟩ := I2.after hq'
      subst ev
      exact ⟨rv, ⟨V.ref (s.heap.objs.size + 1), H', I3, rfl, q3⟩⟩
    | _ => exact False.elim hq'
def tMakeD (C : Addr) (sp : Sp) (E : L2.St → XK) (t : TA) : TE := fun σ H Q => t σ H fun vs H1 => ∀ x dx, H1 x = none → H1 dx = none → dx ≠ x →
  sp (.ref x :: vs) (upd (upd H1 dx (.own x)) x (.ins C dx [])) (fun v H2 => v = .non ∧ Q (.ref x) H2) (E σ)
theorem pe_makeD (M : Mk X.K C f) (F : FnOk X.prog X.w X.K X.mg X.base CX k f fd ps sp) (hr : Room (k + 1) X.A) (hg : Gl X x) (hm : X.mg x = some (.ref C)) (hb : Binds X.K fd ps []) (hx : ∀ σ, PassesAt CX X σ (E σ)) (ha : PA X (e :: es) t)
    (hdb : (x == ("__debug__" : Str)) = false) (he : starEach (e :: es) X.env = (false, eval e X.env) :: starEach es X.env) (hpl : (backTo pos (starEach es X.env)).any (·.1) = false) : PE X (.Call (.Name x p) (e :: es) [] pos) (tMakeD C sp E t) := by
  refine ⟨fun pins s σ H Q I h => ?_⟩
  refine wpAny_Call_Name_kw (ld_glob I hg hm ?_ hdb)
  refine PySem.W.callWith_K (h₀ := X.base) I.ok.mod.kin M.kp (thn (ha.run pos pins s σ H _ I h) fun us s1 ⟨vs, H1, I1, r, q⟩ => ⟨I1.kIn, ?_⟩) he hpl
  exact run_makeD M F hr hb (fun H' s1 e s' I c => hx σ pins H' s1 e s' I c) I1 r q
theorem pe_makeD0 (M : Mk X.K C f) (F : FnOk X.prog X.w X.K X.mg X.base CX k f fd ps sp) (hr : Room (k + 1) X.A) (hg : Gl X x) (hm : X.mg x = some (.ref C)) (hb : Binds X.K fd ps []) (hx : ∀ σ, PassesAt CX X σ (E σ))
    (hdb : (x == ("__debug__" : Str)) = false) : PE X (.Call (.Name x p) [] [] pos) (tMakeD C sp E tNil) := by
  refine ⟨fun pins s σ H Q I h => ?_⟩
  refine wpAny_Call_Name_kw (ld_glob I hg hm ?_ hdb)
  exact PySem.W.callWith_K0 I.kIn M.kp (run_makeD (us := []) M F hr hb (fun H' s1 e s' I c => hx σ pins H' s1 e s' I c) I .nil h)
end
/-! ### fields, of an instance or of a caught exception -/
def rFldX (K : PySem.W.Frag) (f : Str) (x : V) (H : Hp) (Q : VK) : Prop :=
  (∃ a C dx fs v, x = .ref a ∧ H a = some (.ins C dx fs) ∧ Cls K C ∧ NoAttr K C f ∧ fs.lookup f = some v ∧ Q v H) ∨
  ∃ (a C dd : Addr) (fs : List (Str × V)) (v : V), x = .ref a ∧ H a = some (ExT (.ref C) (some dd) a) ∧ XfC K C ∧ PySem.W.findIn K (.ref C) f = some none ∧ H dd = some (.xd fs) ∧ fs.lookup f = some v ∧ Q v H
section
variable {X : Cx} {o e : Expr} {f : Str} {pos : Pos} {ta : TE}
theorem ext_inst {pins : List (Addr × Obj)} {σ : L2.St} {H : Hp} {s : Shared} {a C : Addr} {d : Option Addr} (I : Inv X pins σ H s) (ha : H a = some (ExT (.ref C) d a)) (od : Option Obj) (hd : match d, od with | none, none => True | some dd, some o => s.heap.get? dd = some o | _, _ => False) :
    ∃ ob, PySem.W.InstAt s.heap a ob C od := by
  obtain ⟨ob, us, h1, h2, h3⟩ := exT_at I.hok ha
  refine ⟨ob, h1, h2.1, by unfold PySem.W.notCls; rw [h3] <;> rfl, ?_⟩
  rw [h2.2]
  cases d <;> cases od <;> first | trivial | exact hd | exact hd.elim
theorem fldX_ok {pins : List (Addr × Obj)} {σ : L2.St} {H : Hp} {s : Shared} {x : V} {u : Value} {Q : VK} (I : Inv X pins σ H s) (rx : RelV x u) (h : rFldX X.K f x H Q) : wpAny (model X.prog X.w) X.A (getAttr u f true) (EP X pins σ Q) X.xe s := by
  rcases h with ⟨a, C, dx, fs, v, ex, ea, c, n, l, q⟩ | ⟨a, C, dd, fs, v, ex, ea, T, hno, ed, l, q⟩
  · subst ex
    obtain rfl : u = Value.ref a := rx
    exact getattr_ok I ea c n l fun u' s2 I2 ru => ⟨v, H, I2, ru, q⟩
  · subst ex
    obtain rfl : u = Value.ref a := rx
    obtain ⟨mA, hns, hr⟩ := (show ObjOk X.prog X.w H s.heap dd (.xd fs) from I.hok dd _ ed)
    obtain ⟨od, ho, hl⟩ := lookIn_ns hns
    obtain ⟨w, hw, rw⟩ := RelO.some_of (v := v) (o := mA f) (by rw [← l]; exact hr f)
    obtain ⟨ob, J⟩ := ext_inst I ea (some od) ho
    exact HandSPX.exc_get I.kIn J T.ga T.gg T.exC (PySem.W.findObj_own T.hdC hno rfl (by rw [hl, hw])) (handed_of rw) ⟨v, H, I.tok _, rw, q⟩
def tFldX (K : PySem.W.Frag) (ta : TE) (f : Str) : TE := fun σ H Q => ta σ H fun x H1 => rFldX K f x H1 Q
theorem pe_fldX (he : PE X e ta) (hb : attributeBase e f X.env (eval e X.env) = eval e X.env) : PE X (.Attribute e f pos) (tFldX X.K ta f) := by
  refine ⟨fun pins s σ H Q I h => ?_⟩
  exact attr_of hb (thn (he.run pins s σ H _ I h) fun u s1 ⟨x, H1, I1, rx, q⟩ => fldX_ok I1 rx q)
/-! ### isinstance -/
structure XisC (K : PySem.W.Frag) (C : Addr) : Prop where
  xf : XfC K C
  ha : PySem.W.findIn K (.ref C) "__class__" = some (some (.builtin "object.__class__"))
  hn : PySem.W.specialIn K (.builtin "object.__class__") "__get__" = some (some (.builtin "getset_descriptor.__get__"))
  ht : PySem.W.takesIn K (.builtin "object.__class__") = some true
  hm : PySem.W.mroIn K C (.type "object") = some true
/-- isinstance(x, c), x any value that is known, or a caught exception -/
def rIsX (K : PySem.W.Frag) : List V → Hp → VK → Prop := fun xs H Q => ∃ (x c : V) (u : Value) (b : Bool), xs = [x, c] ∧ ClsV c u ∧ Q (.bl b) H ∧
  ((∃ t, TyX K H x t ∧ PySem.W.kitOne K t u = some b) ∨ ∃ (a C : Addr) (d : Option Addr), x = .ref a ∧ H a = some (ExT (.ref C) d a) ∧ (∀ dd, d = some dd → ∃ fs, H dd = some (.xd fs)) ∧ XisC K C ∧ PySem.W.kitOne K (.ref C) u = some b)
theorem call_isX : CallR X (.builtin "isinstance") (rIsX X.K) := by
  intro pins s σ H xs us Q I r h
  obtain ⟨x, c, u, b, rfl, k, q, h⟩ := h
  rcases h with ⟨t, ty, e⟩ | ⟨a, C, d, ex, ea, hd, T, e⟩
  · exact call_isi pins s σ H _ us Q I r ⟨x, c, t, u, b, rfl, k, ty, e, q⟩
  · subst ex
    obtain ⟨u1, u2, rfl, r1, r2⟩ := vals2 r
    have e2 := k.eq r2
    subst e2
    obtain rfl : u1 = Value.ref a := r1
    have J : ∃ ob od, PySem.W.InstAt s.heap a ob C od := by
      cases d with
      | none =>
        obtain ⟨ob, J⟩ := ext_inst I ea none trivial
        exact ⟨ob, none, J⟩
      | some dd =>
        obtain ⟨fs, ed⟩ := hd dd rfl
        obtain ⟨mA, hns, hr⟩ := (show ObjOk X.prog X.w H s.heap dd (.xd fs) from I.hok dd _ ed)
        obtain ⟨od, ho, hl⟩ := lookIn_ns hns
        obtain ⟨ob, J⟩ := ext_inst I ea (some od) ho
        exact ⟨ob, some od, J⟩
    obtain ⟨ob, od, J⟩ := J
    have hc : (PySem.W.clsIn X.K C).isSome = true := by
      obtain ⟨cd, hc, _⟩ := PySem.W.any_some T.xf.hdC
      rw [hc]; rfl
    exact PySem.W.kia_one (PySem.W.kitx_exc hc T.xf.ga T.xf.gg T.xf.exC T.ha T.hn T.ht T.hm) I.kIn J e (fun z => nomatch z) fun tk => ⟨.bl b, H, I.tok tk, rfl, q⟩
/-! ### an exception made with a text, as a value -/
def tMkT (C : Addr) : TE := fun _ H Q => ∀ a, H a = none → Q (.ref a) (upd H a (ExT (.ref C) none a))
theorem pe_mkT {C : Addr} {bmB : List Value} {B newId initId : String} {x y : Str} {j : Nat} {p p2 pos : Pos} (F : ExcBaseFacts B newId initId bmB) (q : PySem.W.excIn X.K C bmB newId = true) (gC : X.mg x = some (.ref C)) (kC : PySem.W.keepIn X.K (.ref C) = true) (hg : Gl X x)
    (hdb : (x == ("__debug__" : Str)) = false) : PE X (.Call (.Name x p) [.Constant (.str y) j p2] [] pos) (tMkT C) := by
  refine ⟨fun pins s σ H Q I h => ?_⟩
  refine wpAny_Call_Name_kw (ld_glob I hg gC ?_ hdb)
  have ha : PA X [.Constant (.str y) j p2] (tCons (tC (.str y)) tNil) := pa_cons pe_str pa_nil
  refine PySem.W.callWith_K (h₀ := X.base) I.ok.mod.kin kC (thn (ha.run pos pins s σ H (fun vs H1 => vs = [V.str y] ∧ H = H1) I ⟨rfl, rfl⟩) fun us s1 hh => ?_) rfl rfl
  obtain ⟨vs, H1, I1, r1, ev, eH⟩ := hh
  subst ev
  rw [← eH] at I1
  refine ⟨I1.kIn, ?_⟩
  cases r1 with
  | cons ru rn =>
    rename_i u us'
    cases rn
    show wpAny _ _ (call (.ref C) [u]) _ _ _
    obtain ⟨bm, N, nm, qn, bs, hdct, sn, sub, ab, col, dd, k0, k1, k2, k3, k5, mN, hC, hN, hni, T⟩ := exc_obj I1.kIn q
    refine wpAny_call_exc_subT F T hC hN hni (fun h' a hm => ?_) (by show 1 ≤ sizeLine; rw [sizeLine_eq]; omega)
    have hn : H a = none := I1.hok.gone hm.new
    obtain ⟨t, ht, _, _⟩ := hm.there
    exact ⟨.ref a, upd H a (ExT (.ref C) none a), I1.laidN hm.keeps hm.new hn (exT_ok ht ⟨rfl, rfl⟩ rfl), rfl, h a hn⟩
end
end Bw

/-! Ev1: a small evaluator of Python by weakest preconditions: values by content, a store of lists. No model in it. -/
namespace Bw
open PySem (Addr)

/-- values: tuples (tup) and lists that nobody changes (rl, sc) by their content; ref: a list, a dict, an instance in the store; fn: a def -/
abbrev Ky := Sum Int (List Nat)
/-- obj: an instance that nobody changes; exn: a caught exception -/
inductive W where
  | non | bl (b : Bool) | int (i : Int) | str (x : List Nat) | tup (ws : List W) | rl (ws : List W) | sc (ws : List W) | ref (a : Addr) | fn (i : Nat) | dct (ks : List Ky) (ws : List W)
  | obj (c : Nat) (ks : List (List Nat)) (ws : List W) | exn (c : Nat) (ks : List (List Nat)) (ws : List W)
inductive O where
  | lst (ws : List W) | dic (ks : List Ky) (ws : List W) | ins (c : Nat) (ks : List (List Nat)) (ws : List W) | hid
abbrev Sto := Addr → Option O
def Sto.set (S : Sto) (a : Addr) (o : O) : Sto := fun b => if b = a then some o else S b
def Sto.del (S : Sto) (a : Addr) : Sto := fun b => if b = a then none else S b
/-- an exception: its class, its fields -/
structure Xn where
  c : Nat
  ks : List (List Nat)
  ws : List W
abbrev VQ := W → Sto → Prop
abbrev XQ := Xn → Sto → Prop
abbrev Env := List (Option W)

inductive BOp where
  | add (fz : Bool) | sub | mul (fz : Bool) | fdiv | mod | pow | shl | shr | band | bor | bxor
inductive COp where
  | eq | ne | lt | le | gt | ge | isin | notin
inductive Bi where
  | len | int1 | str1 | abs | max2 | max3 | min2 | max1 | maxd | min1 | sum1 | all1 | any1 | tuple1 | list1 (fz : Bool) | listrev (fz : Bool) | dict1 | ord1 | lenset
/-- methods of built-in types -/
inductive MB where
  | count | index | dget1 | dget2 | dcopy | join
  deriving DecidableEq
inductive Ty where
  | int | bool | str | tuple | list | dict
  deriving DecidableEq
inductive IK where
  | seq | rng1 | rng2 | enum | zip | rev
inductive Tg where
  | nm (i : Nat) | pr (is : List Nat)

inductive E where
  | var (i : Nat) | cst (w : W) | tup (es : List E) | lst (fz : Bool) (es : List E)
  | bin (o : BOp) (a b : E) | cmp (o : COp) (a b : E) | chain (o o' : COp) (a b c : E) | isN (neg : Bool) (a : E)
  | and (es : List E) | or (es : List E) | not (a : E) | neg (a : E) | ite (c a b : E)
  | idx (a i : E) | sl (fz : Bool) (a : E) (lo hi : List E)
  | call (f : Nat) (es : List E) | bi (b : Bi) (es : List E) | isi (t : Ty) (a : E)
  | comp (fz : Bool) (tg : Tg) (ik : IK) (its : List E) (cond : List E) (elt : E) (own : List Nat)
  | tab (kvs : List (List Nat × W)) (i : E) | app (a e : E) | pop (a : E)
  | dic (ks : List (List Nat)) (es : List E) | dicV (kvs : List E) | dEq (a b : E) | dNe (a b : E) | ext (a b : E) | dnew | fzv (e : E) | fits (i j k : Nat) | keysOf (i k : Nat)
  | meb (m : MB) (a : E) (es : List E) | fld (cs : List Nat) (a : E) (f : List Nat) | meth (tb : List (Nat × Nat)) (m : List Nat) (a : E) (es : List E)
  | mk (c fi : Nat) (es : List E) | mkx (c : Nat) (z : List Nat) | isC (yes no : List Nat) (a : E) | callV (i : Nat) (fs : List Nat) (es : List E) | callD (f : Nat) (es : List E) (ds : List W)

mutual
inductive St where
  | pass | ex (e : E) | ret (e : E) | retN | asg (i : Nat) (e : E) | asgT (is : List Nat) (e : E) | par (i j : Nat) (a b : E) | setIx (o i e : E)
  | ite (c : E) (a b : List St) | for (tg : Tg) (ik : IK) (its : List E) (body : List St) | whl (c : E) (body : List St) | brk | cnt
  | fldS (cs : List Nat) (o : E) (f : List Nat) (e : E) | augF (cs : List Nat) (o : E) (f : List Nat) (e : E) | rse (c : Nat) (fs : List (List Nat)) (es : List E) | trys (body : List St) (hs : List Hn) (orelse : List St)
/-- a clause: the classes that it takes, those that it lets by, its name's slot -/
inductive Hn where
  | mk (yes no : List Nat) (nm : Option Nat) (suite : List St)
end

/-! ### values -/
mutual
def eqv : W → W → Bool
  | .non, .non => true
  | .bl a, .bl b => a == b
  | .bl a, .int j => (if a then 1 else 0) == j
  | .int i, .bl b => i == (if b then 1 else 0)
  | .int i, .int j => i == j
  | .str x, .str y => x == y
  | .tup xs, .tup ys => eqvs xs ys
  | .rl xs, .rl ys => eqvs xs ys
  | .rl xs, .sc ys => eqvs xs ys
  | .sc xs, .rl ys => eqvs xs ys
  | .sc xs, .sc ys => eqvs xs ys
  | _, _ => false
def eqvs : List W → List W → Bool
  | [], [] => true
  | x :: xs, y :: ys => eqv x y && eqvs xs ys
  | _, _ => false
end
mutual
/-- plain data: nothing that stands in the store -/
def dataW : W → Bool
  | .non => true
  | .bl _ => true
  | .int _ => true
  | .str _ => true
  | .tup ws => dataWs ws
  | .rl ws => dataWs ws
  | .sc ws => dataWs ws
  | .ref _ => false
  | .fn _ => false
  | .dct _ _ => false
  | .obj _ _ _ => false
  | .exn _ _ _ => false
def dataWs : List W → Bool
  | [] => true
  | w :: ws => dataW w && dataWs ws
end
mutual
def depW : W → Nat
  | .tup ws => depWs ws + 1
  | .rl ws => depWs ws + 1
  | .sc ws => depWs ws + 1
  | _ => 0
def depWs : List W → Nat
  | [] => 0
  | w :: ws => max (depW w) (depWs ws)
end
def flatW : W → Bool
  | .non => true
  | .bl _ => true
  | .int _ => true
  | .str _ => true
  | _ => false
def deref (S : Sto) : W → W
  | .ref a => match S a with
    | some (.lst ws) => .rl ws
    | _ => .ref a
  | w => w
/-- what is walked or asked by places: the items -/
def seqOf (S : Sto) (w : W) : Option (List W) :=
  match deref S w with
  | .tup ws => some ws
  | .rl ws => some ws
  | .sc ws => some ws
  | _ => none
/-- a list's items -/
def lstOf (S : Sto) (w : W) : Option (List W) :=
  match deref S w with
  | .rl ws => some ws
  | _ => none
def intsOf : List W → Option (List Int)
  | [] => some []
  | .int i :: ws => (intsOf ws).map (i :: ·)
  | _ => none
def blsOf : List W → Option (List Bool)
  | [] => some []
  | .bl b :: ws => (blsOf ws).map (b :: ·)
  | _ => none
/-- a place, of either sign -/
def ixW (n : Nat) (i : Int) : Option Nat := if 0 ≤ i then (if i < n then some i.toNat else none) else if -(n : Int) ≤ i then some (i + n).toNat else none
def atW {α : Type} (xs : List α) (i : Int) : Option α := (ixW xs.length i).bind fun j => xs[j]?
def cutW {α : Type} (xs : List α) (lo hi : Option Int) : List α := (xs.drop (HT.sIx xs.length 0 lo)).take (HT.sIx xs.length xs.length hi - HT.sIx xs.length 0 lo)
def decW (i : Int) : List Nat := (toString i).toList.map Char.toNat
def inW (x : W) (xs : List W) : Bool := xs.any fun y => eqv y x

/-- a new list: known by content, or in the store -/
def mkL (fz : Bool) (ws : List W) (S : Sto) (Q : VQ) : Prop := if fz = true then Q (.rl ws) S else ∀ p, S p = none → Q (.ref p) (S.set p (.lst ws))

def wAdd (fz : Bool) (x y : W) (S : Sto) (Q : VQ) : Prop :=
  match x, y with
  | .int i, .int j => Q (.int (i + j)) S
  | .str a, .str b => a.length + b.length ≤ PySem.sizeLine ∧ Q (.str (a ++ b)) S
  | .tup a, .tup b => a.length + b.length ≤ PySem.sizeLine ∧ Q (.tup (a ++ b)) S
  | x, y => match lstOf S x, lstOf S y with
    | some a, some b => a.length + b.length ≤ PySem.sizeLine ∧ mkL fz (a ++ b) S Q
    | _, _ => False
def wInts (x y : W) (P : Int → Int → Prop) : Prop :=
  match x, y with
  | .int i, .int j => P i j
  | _, _ => False
def wMul (x y : W) (S : Sto) (Q : VQ) : Prop :=
  match x with
  | .tup ws => match y with
    | .int k => ws ≠ [] ∧ 0 ≤ k ∧ k ≤ 1000 ∧ ws.length ≤ 1000 ∧ Q (.tup (List.replicate k.toNat ws).flatten) S
    | _ => False
  | x => wInts x y fun i j => (L2.CMul i j ∨ L2.CMulW i j) ∧ Q (.int (i * j)) S
def wBin (o : BOp) (x y : W) (S : Sto) (Q : VQ) : Prop :=
  match o with
  | .add fz => wAdd fz x y S Q
  | .sub => wInts x y fun i j => Q (.int (i - j)) S
  | .mul _ => wMul x y S Q
  | .fdiv => wInts x y fun i j => (0 < j ∧ j.natAbs.log2 < 9000) ∧ Q (.int (i / j)) S
  | .mod => wInts x y fun i j => 0 < j ∧ Q (.int (i % j)) S
  | .pow => wInts x y fun i j => L2.CPow i j ∧ Q (.int (i ^ j.toNat)) S
  | .shl => wInts x y fun i j => L2.CPow i j ∧ Q (.int (i * 2 ^ j.toNat)) S
  | .shr => wInts x y fun i j => 0 ≤ j ∧ Q (.int (i / 2 ^ j.toNat)) S
  | .band => wInts x y fun i j => Q (.int (PySem.Builtin.bitAnd i j)) S
  | .bor => wInts x y fun i j => Q (.int (PySem.Builtin.bitOr i j)) S
  | .bxor => wInts x y fun i j => Q (.int (PySem.Builtin.bitXor i j)) S
def wEq (neg : Bool) (x y : W) (S : Sto) (Q : VQ) : Prop :=
  dataW (deref S x) = true ∧ dataW (deref S y) = true ∧ min (depW (deref S x)) (depW (deref S y)) ≤ 60 ∧ Q (.bl (eqv (deref S x) (deref S y) != neg)) S
/-! dicts, instances -/
def kyOf : W → Option Ky
  | .int i => some (.inl i)
  | .str z => some (.inr z)
  | _ => none
def lookD : List Ky → List W → Ky → Option W
  | k :: ks, w :: ws, z => if k = z then some w else lookD ks ws z
  | _, _, _ => none
def repD : List Ky → List W → Ky → W → List W
  | k :: ks, w :: ws, z, x => (if k = z then x else w) :: repD ks ws z x
  | _, _, _, _ => []
def putD (ks : List Ky) (ws : List W) (z : Ky) (x : W) : List Ky × List W := if (ks.any fun k => decide (k = z)) = true then (ks, repD ks ws z x) else (ks ++ [z], ws ++ [x])
def lookF : List (List Nat) → List W → List Nat → Option W
  | k :: ks, w :: ws, z => if k = z then some w else lookF ks ws z
  | _, _, _ => none
def putW : List (List Nat) → List W → List Nat → W → List (List Nat) × List W
  | k :: ks, w :: ws, z, x => if k = z then (k :: ks, x :: ws) else (k :: (putW ks ws z x).1, w :: (putW ks ws z x).2)
  | _, _, z, x => ([z], [x])
def dicOf (S : Sto) (x : W) : Option (List Ky × List W) :=
  match x with
  | .dct ks ws => some (ks, ws)
  | .ref a => match S a with
    | some (.dic ks ws) => some (ks, ws)
    | _ => none
  | _ => none
/-- an instance: its class, its fields -/
def objOf (S : Sto) (x : W) : Option (Nat × List (List Nat) × List W) :=
  match x with
  | .obj c ks ws => some (c, ks, ws)
  | .ref a => match S a with
    | some (.ins c ks ws) => some (c, ks, ws)
    | _ => none
  | _ => none
/-- an instance or a caught exception -/
def fldOf (S : Sto) (x : W) : Option (Nat × List (List Nat) × List W) :=
  match x with
  | .exn c ks ws => some (c, ks, ws)
  | x => objOf S x
/-- keys and values by turns -/
def pairUp : List W → Option (List Ky × List W)
  | [] => some ([], [])
  | k :: v :: r => (kyOf k).bind fun k => (pairUp r).map fun p => (k :: p.1, v :: p.2)
  | _ => none
/-- two dicts by their items -/
def dEqv (p q : List Ky × List W) : Bool := p.1.length == q.1.length && (p.1.zip p.2).all fun kw => match lookD q.1 q.2 kw.1 with
  | some w => eqv kw.2 w
  | none => false
/-- two dicts with like data -/
def wDPr (S : Sto) (x y : W) : Prop :=
  match dicOf S x with
  | some p => match dicOf S y with
    | some q => dataWs p.2 = true ∧ dataWs q.2 = true ∧ depWs p.2 ≤ 40 ∧ dEqv p q = true
    | none => False
  | none => False
def wDEq (x y : W) (S : Sto) (Q : VQ) : Prop :=
  match dicOf S x with
  | some p => match dicOf S y with
    | some q => dataWs p.2 = true ∧ dataWs q.2 = true ∧ depWs p.2 ≤ 40 ∧ Q (.bl (dEqv p q)) S
    | none => False
  | none => match x, y with
    | .tup [x1, x2], .tup [y1, y2] => wDPr S x1 y1 ∧ wDPr S x2 y2 ∧ Q (.bl true) S
    | _, _ => False
/-- two dicts held to be unlike -/
def wDNe (x y : W) (S : Sto) (Q : VQ) : Prop :=
  match dicOf S x with
  | some p => match dicOf S y with
    | some q => dataWs p.2 = true ∧ dataWs q.2 = true ∧ depWs p.2 ≤ 40 ∧ Q (.bl (!dEqv p q)) S
    | none => False
  | none => False
/-- what may be sought: plain things, or data -/
def inOk (S : Sto) (x : W) (ws : List W) : Bool := (flatW x && ws.all flatW) || (dataW (deref S x) && (dataWs ws && decide (min (depWs ws) (depW (deref S x)) ≤ 60)))
def wIn (neg : Bool) (x y : W) (S : Sto) (Q : VQ) : Prop :=
  match dicOf S y with
  | some p => match kyOf x with
    | some k => Q (.bl ((lookD p.1 p.2 k).isSome != neg)) S
    | none => False
  | none => match x, y with
    | .str [c], .str z => Q (.bl (decide (c ∈ z) != neg)) S
    | x, y => match seqOf S y with
      | some ws => inOk S x ws = true ∧ Q (.bl (inW (deref S x) ws != neg)) S
      | none => False
def wCmp (o : COp) (x y : W) (S : Sto) (Q : VQ) : Prop :=
  match o with
  | .eq => wEq false x y S Q
  | .ne => wEq true x y S Q
  | .lt => wInts x y fun i j => Q (.bl (decide (i < j))) S
  | .le => wInts x y fun i j => Q (.bl (decide (i ≤ j))) S
  | .gt => wInts x y fun i j => Q (.bl (decide (j < i))) S
  | .ge => wInts x y fun i j => Q (.bl (decide (j ≤ i))) S
  | .isin => wIn false x y S Q
  | .notin => wIn true x y S Q
def wIdx (x y : W) (S : Sto) (Q : VQ) : Prop :=
  match dicOf S x with
  | some p => match kyOf y with
    | some k => match lookD p.1 p.2 k with
      | some w => Q w S
      | none => False
    | none => False
  | none => match y with
    | .int i => match x with
      | .str z => z.length ≤ PySem.sizeLine ∧ match atW z i with
        | some c => Q (.str [c]) S
        | none => False
      | x => match seqOf S x with
        | some ws => match atW ws i with
          | some w => Q w S
          | none => False
        | none => False
    | _ => False
def optInt : List W → Option (Option Int)
  | [] => some none
  | [.int i] => some (some i)
  | _ => none
def wSl (fz : Bool) (x : W) (lo hi : List W) (S : Sto) (Q : VQ) : Prop :=
  match optInt lo, optInt hi with
  | some l, some h => match deref S x with
    | .tup ws => Q (.tup (cutW ws l h)) S
    | .rl ws => mkL fz (cutW ws l h) S Q
    | .sc ws => mkL fz (cutW ws l h) S Q
    | .str z => z.length ≤ PySem.sizeLine ∧ Q (.str (cutW z l h)) S
    | _ => False
  | _, _ => False
def isiW (t : Ty) (S : Sto) (w : W) : Option Bool :=
  match deref S w with
  | .ref a => match S a with
    | some (.dic _ _) => some (t == .dict)
    | some (.ins _ _ _) => some false
    | _ => none
  | .dct _ _ => some (t == .dict)
  | .obj _ _ _ => some false
  | .exn _ _ _ => none
  | .non => some false
  | .bl _ => some (t == .int || t == .bool)
  | .int _ => some (t == .int)
  | .str _ => some (t == .str)
  | .tup _ => some (t == .tuple)
  | .rl _ => some (t == .list)
  | .sc _ => some (t == .list)
  | .fn _ => none
def maxL : List Int → Int
  | [] => 0
  | [i] => i
  | i :: r => max i (maxL r)
def minL : List Int → Int
  | [] => 0
  | [i] => i
  | i :: r => min i (minL r)
/-! ### walks: the items, and the lists that stay locked meanwhile -/
abbrev Lk := List (Addr × List W)
/-- the lists that are walked stand as they stood -/
def liveS : Lk → Sto → Prop
  | [], _ => True
  | p :: r, S => S p.1 = some (.lst p.2) ∧ liveS r S
def walkOf (S : Sto) (w : W) : Option (List W × Lk) :=
  match w with
  | .tup ws => some (ws, [])
  | .rl ws => some (ws, [])
  | .sc ws => some (ws, [])
  | .str z => some (z.map fun c => .str [c], [])
  | .ref a => match S a with
    | some (.lst ws) => some (ws, [(a, ws)])
    | _ => none
  | _ => none
/-- list-like alone -/
def walkL (S : Sto) (w : W) : Option (List W × Lk) :=
  match w with
  | .rl ws => some (ws, [])
  | .sc ws => some (ws, [])
  | .ref a => match S a with
    | some (.lst ws) => some (ws, [(a, ws)])
    | _ => none
  | _ => none
def w1 (ws : List W) (P : W → Prop) : Prop :=
  match ws with
  | [x] => P x
  | _ => False
def wSome {α : Type} (o : Option α) (P : α → Prop) : Prop :=
  match o with
  | some x => P x
  | none => False
def wLen (x : W) (S : Sto) (Q : VQ) : Prop :=
  match x with
  | .str z => z.length ≤ PySem.sizeLine ∧ Q (.int z.length) S
  | x => match dicOf S x with
    | some p => Q (.int p.1.length) S
    | none => wSome (seqOf S x) fun ws => Q (.int ws.length) S
def wIntOf (x : W) (S : Sto) (Q : VQ) : Prop :=
  match x with
  | .int i => Q (.int i) S
  | .bl b => Q (.int (if b then 1 else 0)) S
  | _ => False
def wI1 (x : W) (P : Int → Prop) : Prop :=
  match x with
  | .int i => P i
  | _ => False
def wInts3 (ws : List W) (P : Int → Int → Int → Prop) : Prop :=
  match ws with
  | [.int i, .int j, .int k] => P i j k
  | _ => False
def wInts2 (ws : List W) (P : Int → Int → Prop) : Prop :=
  match ws with
  | [.int i, .int j] => P i j
  | _ => False
def wMaxd (ws : List W) (S : Sto) (Q : VQ) : Prop :=
  match ws with
  | [x, .int d] => wSome ((lstOf S x).bind intsOf) fun ns => Q (.int (if ns = [] then d else maxL ns)) S
  | _ => False
def wOrd (x : W) (S : Sto) (Q : VQ) : Prop :=
  match x with
  | .str [c] => Q (.int (c : Int)) S
  | _ => False
def wBi (b : Bi) (ws : List W) (S : Sto) (Q : VQ) : Prop :=
  match b with
  | .len => w1 ws fun x => wLen x S Q
  | .int1 => w1 ws fun x => wIntOf x S Q
  | .str1 => w1 ws fun x => wI1 x fun i => i.natAbs.log2 < 1920 ∧ Q (.str (decW i)) S
  | .abs => w1 ws fun x => wI1 x fun i => Q (.int (if i < 0 then -i else i)) S
  | .max2 => wInts2 ws fun i j => Q (.int (max i j)) S
  | .max3 => wInts3 ws fun i j k => Q (.int (max (max i j) k)) S
  | .min2 => wInts2 ws fun i j => Q (.int (min i j)) S
  | .max1 => w1 ws fun x => wSome ((lstOf S x).bind intsOf) fun ns => 0 < ns.length ∧ Q (.int (maxL ns)) S
  | .maxd => wMaxd ws S Q
  | .min1 => w1 ws fun x => wSome ((lstOf S x).bind intsOf) fun ns => 0 < ns.length ∧ Q (.int (minL ns)) S
  | .sum1 => w1 ws fun x => wSome ((lstOf S x).bind intsOf) fun ns => Q (.int ns.sum) S
  | .all1 => w1 ws fun x => wSome ((lstOf S x).bind blsOf) fun bs => Q (.bl (bs.all id)) S
  | .any1 => w1 ws fun x => wSome ((lstOf S x).bind blsOf) fun bs => Q (.bl (bs.any id)) S
  | .tuple1 => w1 ws fun x => wSome (seqOf S x) fun us => Q (.tup us) S
  | .list1 fz => w1 ws fun x => wSome (seqOf S x) fun us => mkL fz us S Q
  | .listrev fz => w1 ws fun x => wSome (walkL S x) fun p => mkL fz p.1.reverse S Q
  | .lenset => w1 ws fun x => wSome ((lstOf S x).bind intsOf) fun ns => ns.Nodup ∧ ns.length ≤ 4000 ∧ Q (.int (ns.length : Nat)) S
  | .ord1 => w1 ws fun x => wOrd x S Q
  | .dict1 => w1 ws fun x => wSome (dicOf S x) fun p => ∀ a, S a = none → Q (.ref a) (S.set a (.dic p.1 p.2))
/-- a dict's keys, those alone whose value is like another one -/
def kyW : Ky → W
  | .inl i => .int i
  | .inr z => .str z
def okKy : Ky → Bool
  | .inl _ => true
  | .inr z => z.all (· < 0x110000)
def fitB (ks : List Ky) (ws : List W) (y : W) (k : Ky) : Bool := match lookD ks ws k with
  | some w => eqv w y
  | none => false
def wFits (d y : W) (S : Sto) (Q : VQ) : Prop :=
  match d with
  | .dct ks ws => dataWs ws = true ∧ dataW y = true ∧ depW y ≤ 60 ∧ ks.all okKy = true ∧ ks.length ≤ PySem.sizeLine ∧ Q (.rl ((ks.filter (fitB ks ws y)).map kyW)) S
  | _ => False
def wKeys (d : W) (S : Sto) (Q : VQ) : Prop :=
  match d with
  | .dct ks ws => ks.all okKy = true ∧ ks.length ≤ PySem.sizeLine ∧ Q (.rl (ks.map kyW)) S
  | _ => False
def wTab (kvs : List (List Nat × W)) (x : W) (S : Sto) (Q : VQ) : Prop :=
  match x with
  | .str k => match kvs.lookup k with
    | some w => Q w S
    | none => False
  | _ => False
def wApp (x w : W) (S : Sto) (Q : VQ) : Prop :=
  match x with
  | .ref a => match S a with
    | some (.lst ws) => ws.length < PySem.sizeLine ∧ Q .non (S.set a (.lst (ws ++ [w])))
    | _ => False
  | _ => False
def wPop (x : W) (S : Sto) (Q : VQ) : Prop :=
  match x with
  | .ref a => match S a with
    | some (.lst ws) => match ws.getLast? with
      | some w => Q w (S.set a (.lst ws.dropLast))
      | none => False
    | _ => False
  | _ => False
def wExt (x y : W) (S : Sto) (Q : VQ) : Prop :=
  match x with
  | .ref a => match S a with
    | some (.lst ws) => match lstOf S y with
      | some us => ws.length + us.length ≤ PySem.sizeLine ∧ Q .non (S.set a (.lst (ws ++ us)))
      | none => False
    | _ => False
  | _ => False
def wSetIx (x y w : W) (S : Sto) (Q : Sto → Prop) : Prop :=
  match x with
  | .ref a => match S a with
    | some (.lst ws) => match y with
      | .int i => match ixW ws.length i with
        | some j => Q (S.set a (.lst (ws.set j w)))
        | none => False
      | _ => False
    | some (.dic ks ws) => match kyOf y with
      | some k => ws.length < PySem.sizeLine ∧ Q (S.set a (.dic (putD ks ws k w).1 (putD ks ws k w).2))
      | none => False
    | _ => False
  | _ => False
/-- from here on nobody changes it -/
def wFz (x : W) (S : Sto) (Q : VQ) : Prop :=
  match x with
  | .ref a => match S a with
    | some (.lst ws) => Q (.rl ws) (S.del a)
    | some (.dic ks ws) => Q (.dct ks ws) (S.del a)
    | some (.ins c ks ws) => Q (.obj c ks ws) (S.del a)
    | _ => Q (.ref a) S
  | x => Q x S
def strsOf : List W → Option (List (List Nat))
  | [] => some []
  | .str z :: ws => (strsOf ws).map (z :: ·)
  | _ => none
/-- the receiver's kind, before the arguments are reckoned -/
def recvOf (m : MB) (S : Sto) (x : W) : Bool :=
  match m with
  | .count => (lstOf S x).isSome
  | .index => (lstOf S x).isSome
  | .dget1 => (dicOf S x).isSome
  | .dget2 => (dicOf S x).isSome
  | .dcopy => (dicOf S x).isSome
  | .join => match x with
    | .str _ => true
    | _ => false
def ixOf (z : List Nat) : List (List Nat) → Option Nat
  | [] => none
  | y :: ys => if y = z then some 0 else (ixOf z ys).map (· + 1)
def wStr (x : W) (P : List Nat → Prop) : Prop :=
  match x with
  | .str z => P z
  | _ => False
def w2 (ws : List W) (P : W → W → Prop) : Prop :=
  match ws with
  | [x, y] => P x y
  | _ => False
def wMeb (m : MB) (x : W) (ws : List W) (S : Sto) (Q : VQ) : Prop :=
  match m with
  | .count => w1 ws fun y => wStr y fun z => wSome ((lstOf S x).bind strsOf) fun zs => Q (.int ((zs.countP (· == z) : Nat) : Int)) S
  | .index => w1 ws fun y => wStr y fun z => wSome ((lstOf S x).bind strsOf) fun zs => wSome (ixOf z zs) fun i => Q (.int (i : Nat)) S
  | .dget1 => w1 ws fun y => wSome (dicOf S x) fun p => wSome (kyOf y) fun k => Q ((lookD p.1 p.2 k).getD .non) S
  | .dget2 => w2 ws fun y d => wSome (dicOf S x) fun p => wSome (kyOf y) fun k => Q ((lookD p.1 p.2 k).getD d) S
  | .dcopy => ws = [] ∧ wSome (dicOf S x) fun p => ∀ a, S a = none → Q (.ref a) (S.set a (.dic p.1 p.2))
  | .join => False
def wFld (cs : List Nat) (x : W) (f : List Nat) (S : Sto) (Q : VQ) : Prop :=
  wSome (fldOf S x) fun p => wSome (lookF p.2.1 p.2.2 f) fun w => Q w S
def wFldS (cs : List Nat) (x : W) (f : List Nat) (w : W) (S : Sto) (Q : Sto → Prop) : Prop :=
  match x with
  | .ref a => match S a with
    | some (.ins c ks ws) => c ∈ cs ∧ ws.length < 900 ∧ Q (S.set a (.ins c (putW ks ws f w).1 (putW ks ws f w).2))
    | _ => False
  | _ => False
def clsOf (S : Sto) (x : W) : Option Nat := (fldOf S x).map (·.1)
/-- isinstance(x, an own class): by the instance's class; a number, a truth, None is none -/
def isCW (yes no : List Nat) (S : Sto) (x : W) : Option Bool :=
  match x with
  | .non => some false
  | .bl _ => some false
  | .int _ => some false
  | x => (clsOf S x).bind fun c => if c ∈ yes then some true else if c ∈ no then some false else none

def rngW (lo : Int) (n : Nat) : List W := (List.range n).map fun (i : Nat) => .int (lo + (i : Int))
def enumW : Nat → List W → List W
  | _, [] => []
  | i, w :: ws => .tup [.int i, w] :: enumW (i + 1) ws
def zipW : List W → List W → List W
  | x :: xs, y :: ys => .tup [x, y] :: zipW xs ys
  | _, _ => []
def fits (i : Int) : Bool := decide (-(2 ^ 62) ≤ i ∧ i < 2 ^ 62)
def o1 {α : Type} (ws : List W) (f : W → Option α) : Option α :=
  match ws with
  | [x] => f x
  | _ => none
def oI {α : Type} (x : W) (f : Int → Option α) : Option α :=
  match x with
  | .int i => f i
  | _ => none
def oRng2 (ws : List W) : Option (List W × Lk) :=
  match ws with
  | [.int a, .int b] => if (fits a && fits b) = true then some (rngW a (b - a).toNat, []) else none
  | _ => none
def oZip (ws : List W) (S : Sto) : Option (List W × Lk) :=
  match ws with
  | [.tup xs, .tup ys] => some (zipW xs ys, [])
  | [x, y] => (walkL S x).bind fun p => (walkL S y).map fun q => (zipW p.1 q.1, p.2 ++ q.2)
  | _ => none
def itemsOf (ik : IK) (ws : List W) (S : Sto) : Option (List W × Lk) :=
  match ik with
  | .seq => o1 ws (walkOf S)
  | .rng1 => o1 ws fun x => oI x fun n => if fits n = true then some (rngW 0 n.toNat, []) else none
  | .rng2 => oRng2 ws
  | .enum => o1 ws fun x => (walkL S x).map fun p => (enumW 0 p.1, p.2)
  | .zip => oZip ws S
  | .rev => o1 ws fun x => (walkL S x).map fun p => (p.1.reverse, p.2)
def bindIs : List Nat → List W → Env → Option Env
  | [], [], env => some env
  | i :: is, w :: ws, env => bindIs is ws (env.set i (some w))
  | _, _, _ => none
def bindTg (tg : Tg) (w : W) (env : Env) : Option Env :=
  match tg with
  | .nm i => some (env.set i (some w))
  | .pr is => match w with
    | .tup ws => bindIs is ws env
    | .rl ws => bindIs is ws env
    | _ => none
def wipeE (env : Env) : List Nat → Env
  | [] => env
  | v :: vs => (wipeE env vs).set v none
def wMap (lk : Lk) (f : W → Sto → (List W → Sto → Prop) → Prop) : List W → Sto → (List W → Sto → Prop) → Prop
  | [], S, Q => liveS lk S ∧ Q [] S
  | x :: xs, S, Q => liveS lk S ∧ f x S fun o S1 => wMap lk f xs S1 fun ys S2 => Q (o ++ ys) S2

def wB (x : W) (t f : Prop) : Prop :=
  match x with
  | .bl true => t
  | .bl false => f
  | _ => False
def wVar (o : Option (Option W)) (P : W → Prop) : Prop :=
  match o with
  | some (some w) => P w
  | _ => False
def wWalk (o : Option (List W × Lk)) (P : List W → Lk → Prop) : Prop :=
  match o with
  | some p => P p.1 p.2
  | none => False
def wNon (x : W) (t f : Prop) : Prop :=
  match x with
  | .non => t
  | _ => f
def wNot (x : W) (P : Bool → Prop) : Prop :=
  match x with
  | .bl b => P (!b)
  | _ => False
abbrev CT := Nat → List W → Sto → VQ → XQ → Prop
section
variable (C : CT)
mutual
def wE : E → Env → Sto → VQ → XQ → Prop
  | .var i, env, S, Q, _ => wVar env[i]? fun w => Q w S
  | .cst w, _, S, Q, _ => Q w S
  | .tup es, env, S, Q, X => wEs es env S (fun ws S1 => ws.length ≤ PySem.sizeLine ∧ Q (.tup ws) S1) X
  | .lst fz es, env, S, Q, X => wEs es env S (fun ws S1 => ws.length ≤ PySem.sizeLine ∧ mkL fz ws S1 Q) X
  | .bin o a b, env, S, Q, X => wE a env S (fun x S1 => wE b env S1 (fun y S2 => wBin o x y S2 Q) X) X
  | .cmp o a b, env, S, Q, X => wE a env S (fun x S1 => wE b env S1 (fun y S2 => wCmp o x y S2 Q) X) X
  | .chain o o' a b c, env, S, Q, X => wE a env S (fun x S1 => wE b env S1 (fun y S2 => wCmp o x y S2 fun z S3 => wB z (wE c env S3 (fun u S4 => wCmp o' y u S4 Q) X) (Q (.bl false) S3)) X) X
  | .isN neg a, env, S, Q, X => wE a env S (fun x S1 => wNon x (Q (.bl (!neg)) S1) (Q (.bl neg) S1)) X
  | .and es, env, S, Q, X => wAnd es env S Q X
  | .or es, env, S, Q, X => wOr es env S Q X
  | .not a, env, S, Q, X => wE a env S (fun x S1 => wNot x fun b => Q (.bl b) S1) X
  | .neg a, env, S, Q, X => wE a env S (fun x S1 => wI1 x fun i => Q (.int (-i)) S1) X
  | .ite c a b, env, S, Q, X => wE c env S (fun x S1 => wB x (wE a env S1 Q X) (wE b env S1 Q X)) X
  | .idx a i, env, S, Q, X => wE a env S (fun x S1 => wE i env S1 (fun y S2 => wIdx x y S2 Q) X) X
  | .sl fz a lo hi, env, S, Q, X => wE a env S (fun x S1 => wEs lo env S1 (fun l S2 => (optInt l).isSome = true ∧ wEs hi env S2 (fun h S3 => wSl fz x l h S3 Q) X) X) X
  | .call f es, env, S, Q, X => wEs es env S (fun ws S1 => C f ws S1 Q X) X
  | .bi b es, env, S, Q, X => wEs es env S (fun ws S1 => wBi b ws S1 Q) X
  | .isi t a, env, S, Q, X => wE a env S (fun x S1 => wSome (isiW t S1 x) fun b => Q (.bl b) S1) X
  | .comp fz tg ik its cond elt own, env, S, Q, X => wEs its env S (fun args S1 => wWalk (itemsOf ik args S1) fun items lk =>
      items.length ≤ PySem.sizeLine ∧ ∀ D, S1 D = none → wMap lk (fun w S2 R => wSome (bindTg tg w (wipeE env own)) fun env' =>
        wAnd cond env' S2 (fun b S3 => wB b (wE elt env' S3 (fun y S4 => R [y] S4) (fun _ _ => False)) (R [] S3)) (fun _ _ => False)) items (S1.set D .hid) (fun ys S2 => mkL fz ys (S2.del D) Q)) X
  | .tab kvs i, env, S, Q, X => wE i env S (fun x S1 => wTab kvs x S1 Q) X
  | .app a e, env, S, Q, X => wE a env S (fun x S1 => (lstOf S1 x).isSome = true ∧ wE e env S1 (fun w S2 => wApp x w S2 Q) X) X
  | .pop a, env, S, Q, X => wE a env S (fun x S1 => wPop x S1 Q) X
  | .dic ks es, env, S, Q, X => ∀ p, S p = none → wEs es env (S.set p .hid) (fun ws S1 => ks.length = ws.length ∧ Q (.dct (ks.map Sum.inr) ws) (S1.del p)) (fun _ _ => False)
  | .dicV kvs, env, S, Q, X => ∀ p, S p = none → wEs kvs env (S.set p .hid) (fun ws S1 => wSome (pairUp ws) fun d => d.1.Nodup ∧ d.1.length ≤ 15 ∧ Q (.dct d.1 d.2) (S1.del p)) (fun _ _ => False)
  | .dEq a b, env, S, Q, X => wE a env S (fun x S1 => wE b env S1 (fun y S2 => wDEq x y S2 Q) X) X
  | .dNe a b, env, S, Q, X => wE a env S (fun x S1 => wE b env S1 (fun y S2 => wDNe x y S2 Q) X) X
  | .dnew, _, S, Q, _ => ∀ a, S a = none → Q (.ref a) (S.set a (.dic [] []))
  | .fzv e, env, S, Q, X => wE e env S (fun x S1 => wFz x S1 Q) X
  | .fits i j k, env, S, Q, _ => k < env.length ∧ wVar env[i]? fun d => wVar env[j]? fun y => wFits d y S Q
  | .keysOf i k, env, S, Q, _ => k < env.length ∧ wVar env[i]? fun d => wKeys d S Q
  | .meb m a es, env, S, Q, X => wE a env S (fun x S1 => recvOf m S1 x = true ∧ wEs es env S1 (fun ws S2 => wMeb m x ws S2 Q) X) X
  | .fld cs a f, env, S, Q, X => wE a env S (fun x S1 => wFld cs x f S1 Q) X
  | .meth tb m a es, env, S, Q, X => wE a env S (fun x S1 => wSome (objOf S1 x) fun p => lookF p.2.1 p.2.2 m = none ∧ wSome (tb.lookup p.1) fun f => wEs es env S1 (fun ws S2 => C f (x :: ws) S2 Q X) X) X
  | .mk c fi es, env, S, Q, X => wEs es env S (fun ws S1 => ∀ a, S1 a = none → C fi (.ref a :: ws) (S1.set a (.ins c [] [])) (fun w S2 => w = .non ∧ Q (.ref a) S2) X) X
  | .mkx c _, _, S, Q, _ => Q (.exn c [] []) S
  | .isC yes no a, env, S, Q, X => wE a env S (fun x S1 => wSome (isCW yes no S1 x) fun b => Q (.bl b) S1) X
  | .callD f es ds, env, S, Q, X => wEs es env S (fun ws S1 => C f (ws ++ ds) S1 Q X) X
  | .callV i fs es, env, S, Q, X => wVar env[i]? fun v => match v with
    | .fn f => f ∈ fs ∧ wEs es env S (fun ws S1 => C f ws S1 Q X) X
    | _ => False
  | .ext a b, env, S, Q, X => wE a env S (fun x S1 => (lstOf S1 x).isSome = true ∧ wE b env S1 (fun y S2 => wExt x y S2 Q) X) X
def wEs : List E → Env → Sto → (List W → Sto → Prop) → XQ → Prop
  | [], _, S, Q, _ => Q [] S
  | e :: es, env, S, Q, X => wE e env S (fun w S1 => wEs es env S1 (fun ws S2 => Q (w :: ws) S2) X) X
/-- and: no item is yes -/
def wAnd : List E → Env → Sto → VQ → XQ → Prop
  | [], _, S, Q, _ => Q (.bl true) S
  | [e], env, S, Q, X => wE e env S Q X
  | e :: es, env, S, Q, X => wE e env S (fun x S1 => wB x (wAnd es env S1 Q X) (Q (.bl false) S1)) X
def wOr : List E → Env → Sto → VQ → XQ → Prop
  | [], _, _, _, _ => False
  | [e], env, S, Q, X => wE e env S Q X
  | e :: es, env, S, Q, X => wE e env S (fun x S1 => wB x (Q (.bl true) S1) (wOr es env S1 Q X)) X
end

structure Dn where
  nx : Env → Sto → Prop
  rt : VQ
  bk : Env → Sto → Prop
  ct : Env → Sto → Prop
  xc : Xn → Env → Sto → Prop
/-- a suite's slot, and how it ends -/
def bindH (nm : Option Nat) (x : Xn) (env : Env) : Env :=
  match nm with
  | none => env
  | some i => env.set i (some (.exn x.c x.ks x.ws))
def goneH (nm : Option Nat) (env : Env) : Env :=
  match nm with
  | none => env
  | some i => env.set i none
def sutD (nm : Option Nat) (D : Dn) : Dn where
  nx := fun e S => D.nx (goneH nm e) S
  rt := D.rt
  bk := fun e S => D.bk (goneH nm e) S
  ct := fun e S => D.ct (goneH nm e) S
  xc := fun _ _ _ => False
def wFor (lk : Lk) (tg : Tg) (body : Env → Sto → Dn → Prop) : List W → Env → Sto → Dn → Prop
  | [], env, S, D => liveS lk S ∧ D.nx env S
  | w :: ws, env, S, D => liveS lk S ∧ wSome (bindTg tg w env) fun env' =>
      body env' S { D with nx := fun e S => wFor lk tg body ws e S D, ct := fun e S => wFor lk tg body ws e S D, bk := D.nx }
def wWhl (c : Env → Sto → VQ → XQ → Prop) (body : Env → Sto → Dn → Prop) : Nat → Env → Sto → Dn → Prop
  | 0, _, _, _ => False
  | n + 1, env, S, D => c env S (fun x S1 => wB x (body env S1 { D with nx := fun e S => wWhl c body n e S D, ct := fun e S => wWhl c body n e S D, bk := D.nx }) (D.nx env S1)) (fun x S1 => D.xc x env S1)
mutual
def wS : St → Env → Sto → Dn → Prop
  | .pass, env, S, D => D.nx env S
  | .ex e, env, S, D => wE C e env S (fun _ S1 => D.nx env S1) (fun x S1 => D.xc x env S1)
  | .ret e, env, S, D => wE C e env S D.rt (fun x S1 => D.xc x env S1)
  | .retN, _, S, D => D.rt .non S
  | .asg i e, env, S, D => wE C e env S (fun w S1 => D.nx (env.set i (some w)) S1) (fun x S1 => D.xc x env S1)
  | .asgT is e, env, S, D => wE C e env S (fun w S1 => wSome (bindTg (.pr is) w env) fun env' => D.nx env' S1) (fun x S1 => D.xc x env S1)
  | .par i j a b, env, S, D => wE C a env S (fun v S1 => wE C b env S1 (fun w S2 => D.nx ((env.set i (some v)).set j (some w)) S2) (fun x S1 => D.xc x env S1)) (fun x S1 => D.xc x env S1)
  | .setIx o i e, env, S, D => wE C e env S (fun w S1 => wE C o env S1 (fun x S2 => wE C i env S2 (fun y S3 => wSetIx x y w S3 fun S4 => D.nx env S4) (fun x S1 => D.xc x env S1)) (fun x S1 => D.xc x env S1)) (fun x S1 => D.xc x env S1)
  | .ite c a b, env, S, D => wE C c env S (fun x S1 => wB x (wSs a env S1 D) (wSs b env S1 D)) (fun x S1 => D.xc x env S1)
  | .for tg ik its body, env, S, D => wEs C its env S (fun args S1 => wWalk (itemsOf ik args S1) fun items lk => wFor lk tg (fun e S D => wSs body e S D) items env S1 D) (fun x S1 => D.xc x env S1)
  | .whl c body, env, S, D => ∃ n, wWhl (fun e S Q X => wE C c e S Q X) (fun e S D => wSs body e S D) n env S D
  | .brk, env, S, D => D.bk env S
  | .cnt, env, S, D => D.ct env S
  | .fldS cs o f e, env, S, D => wE C e env S (fun w S1 => wE C o env S1 (fun x S2 => wFldS cs x f w S2 fun S3 => D.nx env S3) (fun x S1 => D.xc x env S1)) (fun x S1 => D.xc x env S1)
  | .augF cs o f e, env, S, D => wE C o env S (fun x S1 => wFld cs x f S1 fun v S2 => wE C e env S2 (fun w S3 => wInts v w fun i j => wFldS cs x f (.int (i + j)) S3 fun S4 => D.nx env S4) (fun x S1 => D.xc x env S1)) (fun x S1 => D.xc x env S1)
  | .rse c fs es, env, S, D => wEs C es env S (fun ws S1 => ws.length ≤ 20 ∧ (fs ≠ [] → fs.length = ws.length) ∧ D.xc ⟨c, fs.reverse, if fs = [] then [] else ws.reverse⟩ env S1) (fun x S1 => D.xc x env S1)
  | .trys body hs orelse, env, S, D => wSs body env S { D with nx := fun e S => wSs orelse e S D, xc := fun x e S => wHs hs x e S D }
def wSs : List St → Env → Sto → Dn → Prop
  | [], env, S, D => D.nx env S
  | s :: ss, env, S, D => wS s env S { D with nx := fun e S1 => wSs ss e S1 D }
def wHn : Hn → Xn → Env → Sto → Dn → Prop → Prop
  | .mk yes no nm suite, x, env, S, D, r => if x.c ∈ yes then wSs suite (bindH nm x env) S (sutD nm D) else x.c ∈ no ∧ r
def wHs : List Hn → Xn → Env → Sto → Dn → Prop
  | [], x, env, S, D => D.xc x env S
  | h :: hs, x, env, S, D => wHn h x env S D (wHs hs x env S D)
end
end

/-! ### calls -/
structure FD where
  ar : Nat
  slots : Nat
  body : List St
def Sub (S' S : Sto) : Prop := (∀ a o, S' a = some o → S a = some o) ∧ ∀ a, S a = some .hid → S' a = some .hid
/-- behind a return: what the caller needn't know is let go; a list may be known by content from there on -/
def Fz (S : Sto) (w w' : W) (S' : Sto) : Prop := Sub S' S ∧ (w' = w ∨ ∃ a, w = .ref a ∧ S' a = none ∧ ((∃ ws, S a = some (.lst ws) ∧ w' = .rl ws) ∨ (∃ ks ws, S a = some (.dic ks ws) ∧ w' = .dct ks ws) ∨ ∃ c ks ws, S a = some (.ins c ks ws) ∧ w' = .obj c ks ws))
def entry (d : FD) (ws : List W) : Env := ws.map some ++ List.replicate (d.slots - ws.length) none
def dnOf (Q : VQ) (X : XQ) : Dn where
  nx := fun _ S => ∃ S', Sub S' S ∧ Q .non S'
  rt := fun w S => ∃ w' S', Fz S w w' S' ∧ Q w' S'
  bk := fun _ _ => False
  ct := fun _ _ => False
  xc := fun x _ S => ∃ S', Sub S' S ∧ X x S'
def wF (T : Nat → Option FD) : Nat → CT
  | 0, _, _, _, _, _ => False
  | n + 1, f, ws, S, Q, X => wSome (T f) fun d => ws.length = d.ar ∧ wSs (wF T n) d.body (entry d ws) S (dnOf Q X)
end Bw

/-! Ev2: what a value and a store of the evaluator stand for in HandS's heap. -/
namespace Bw
open PySem L2 PySem.Spec PyProof.Rows

structure Gm where
  K : PySem.W.Frag
  fa : Nat → Addr
  ca : Nat → Addr

def KTup (K : PySem.W.Frag) (a : Addr) (xs : List V) : Prop :=
  ∃ (o : Obj) (its : Array Value) (n : Nat), K.lookup a = some o ∧ o.cls = .type "tuple" ∧ o.data = .seq its n ∧ its.size ≤ sizeLine ∧ Vals xs its.toList
def KLst (K : PySem.W.Frag) (a : Addr) (xs : List V) : Prop :=
  ∃ (o : Obj) (its : Array Value) (n : Nat), K.lookup a = some o ∧ o.cls = .type "list" ∧ o.dict = none ∧ o.data = .seq its n ∧ its.size ≤ sizeLine ∧ Vals xs its.toList
def TupA (Γ : Gm) (S : Sto) (H : Hp) (a : Addr) (vs : List V) : Prop := (S a = none ∧ Rd H a (.tup vs)) ∨ KTup Γ.K a vs
def RlA (S : Sto) (H : Hp) (a : Addr) (vs : List V) : Prop := S a = none ∧ H a = some (.lst vs)
def ScA (Γ : Gm) (S : Sto) (H : Hp) (a : Addr) (vs : List V) : Prop := (S a = none ∧ Rd H a (.lst vs)) ∨ KLst Γ.K a vs
def okStr (x : List Nat) : Bool := x.all (· < 0x110000)
def keyV : Ky → Key
  | .inl j => .inl j
  | .inr x => .inr ⟨x.toArray⟩
def strV (x : List Nat) : V := .str ⟨x.toArray⟩

def dkz (ks : List Ky) (vs : List V) : List (Key × V) := (ks.zip vs).map fun p => (keyV p.1, p.2)
def insz (ks : List (List Nat)) (vs : List V) : List (Str × V) := (ks.zip vs).map fun p => ((⟨p.1.toArray⟩ : Str), p.2)
/-- an exception's own dict -/
def xdR (S : Sto) (H : Hp) (ks : List (List Nat)) (d : Option Addr) (vs : List V) : Prop := (ks = [] ∧ d = none) ∨ ∃ dd, d = some dd ∧ S dd = none ∧ H dd = some (.xd (insz ks vs))
def tyAll : List String := ["int", "bool", "str", "tuple", "list", "dict"]
/-- what is asked of an own class whose instances are made -/
structure InsC (K : PySem.W.Frag) (C : Addr) : Prop where
  cl : Cls K C
  ha : PySem.W.findIn K (.ref C) "__class__" = some (some (.builtin "object.__class__"))
  hn : PySem.W.specialIn K (.builtin "object.__class__") "__get__" = some (some (.builtin "getset_descriptor.__get__"))
  ht : PySem.W.takesIn K (.builtin "object.__class__") = some true
  hm : PySem.W.mroIn K C (.type "object") = some true
  kt : ∀ n ∈ tyAll, PySem.W.kitOne K (.ref C) (.type n) = some false
abbrev XkC := XisC
def IC (Γ : Gm) (c : Nat) (ks : List (List Nat)) : Prop := InsC Γ.K (Γ.ca c) ∧ ∀ k ∈ ks, NoAttr Γ.K (Γ.ca c) ⟨k.toArray⟩
def XC (Γ : Gm) (c : Nat) (ks : List (List Nat)) : Prop := XkC Γ.K (Γ.ca c) ∧ ∀ k ∈ ks, PySem.W.findIn Γ.K (.ref (Γ.ca c)) ⟨k.toArray⟩ = some none
mutual
def rep (Γ : Gm) (S : Sto) (H : Hp) : W → V → Prop
  | .non, v => v = .non
  | .bl b, v => v = .bl b
  | .int i, v => v = .int i
  | .str x, v => v = strV x ∧ okStr x = true
  | .tup ws, v => ∃ a vs, v = .ref a ∧ TupA Γ S H a vs ∧ reps Γ S H ws vs
  | .rl ws, v => ∃ a vs, v = .ref a ∧ RlA S H a vs ∧ reps Γ S H ws vs
  | .sc ws, v => ∃ a vs, v = .ref a ∧ ScA Γ S H a vs ∧ reps Γ S H ws vs
  | .ref a, v => v = .ref a
  | .fn i, v => v = .ref (Γ.fa i)
  | .dct ks ws, v => ∃ a vs, v = .ref a ∧ (S a = none ∧ H a = some (.dK (dkz ks vs))) ∧ ks.length = ws.length ∧ reps Γ S H ws vs
  | .obj c ks ws, v => ∃ a dx vs, v = .ref a ∧ (S a = none ∧ H a = some (.ins (Γ.ca c) dx (insz ks vs))) ∧ (ks.length = ws.length ∧ IC Γ c ks) ∧ reps Γ S H ws vs
  | .exn c ks ws, v => ∃ a d vs, v = .ref a ∧ (S a = none ∧ H a = some (ExT (.ref (Γ.ca c)) d a)) ∧ xdR S H ks d vs ∧ (ks.length = ws.length ∧ XC Γ c ks) ∧ reps Γ S H ws vs
def reps (Γ : Gm) (S : Sto) (H : Hp) : List W → List V → Prop
  | [], vs => vs = []
  | w :: ws, vs => ∃ v r, vs = v :: r ∧ rep Γ S H w v ∧ reps Γ S H ws r
end

def Fr0 (S : Sto) (H : Hp) (S' : Sto) (H' : Hp) : Prop := ∀ a o, S a = none → H a = some o → S' a = none ∧ H' a = some o
/-- what the store doesn't know, and what it hides, stays -/
def Fr (S : Sto) (H : Hp) (S' : Sto) (H' : Hp) : Prop := Fr0 S H S' H' ∧ ∀ a o, S a = some .hid → H a = some o → S' a = some .hid ∧ H' a = some o
theorem Fr0.refl (S : Sto) (H : Hp) : Fr0 S H S H := fun _ _ h1 h2 => ⟨h1, h2⟩
theorem Fr.refl (S : Sto) (H : Hp) : Fr S H S H := ⟨Fr0.refl S H, fun _ _ h1 h2 => ⟨h1, h2⟩⟩
theorem Fr0.trans {S S1 S2 : Sto} {H H1 H2 : Hp} (a : Fr0 S H S1 H1) (b : Fr0 S1 H1 S2 H2) : Fr0 S H S2 H2 := fun p o h1 h2 => by
  obtain ⟨q1, q2⟩ := a p o h1 h2
  exact b p o q1 q2
theorem Fr.trans {S S1 S2 : Sto} {H H1 H2 : Hp} (a : Fr S H S1 H1) (b : Fr S1 H1 S2 H2) : Fr S H S2 H2 := ⟨a.1.trans b.1, fun p o h1 h2 => by
  obtain ⟨q1, q2⟩ := a.2 p o h1 h2
  exact b.2 p o q1 q2⟩

section
variable {Γ : Gm} {S S' S1 : Sto} {H H' H1 : Hp} {a p : Addr} {vs : List V}
theorem Rd.fr0 (f : Fr0 S H S' H') {u : HO} (h : S a = none ∧ Rd H a u) : S' a = none ∧ Rd H' a u := by
  obtain ⟨h0, h | ⟨o, h⟩⟩ := h
  · obtain ⟨q1, q2⟩ := f a _ h0 h
    exact ⟨q1, .inl q2⟩
  · obtain ⟨q1, q2⟩ := f a _ h0 h
    exact ⟨q1, .inr ⟨o, q2⟩⟩
theorem TupA.fr0 (f : Fr0 S H S' H') (h : TupA Γ S H a vs) : TupA Γ S' H' a vs := h.imp (Rd.fr0 f) id
theorem ScA.fr0 (f : Fr0 S H S' H') (h : ScA Γ S H a vs) : ScA Γ S' H' a vs := h.imp (Rd.fr0 f) id
theorem RlA.fr0 (f : Fr0 S H S' H') (h : RlA S H a vs) : RlA S' H' a vs := f a _ h.1 h.2
theorem Rd.fr (f : Fr S H S' H') {u : HO} (h : S a = none ∧ Rd H a u) : S' a = none ∧ Rd H' a u := Rd.fr0 f.1 h
theorem TupA.fr (f : Fr S H S' H') (h : TupA Γ S H a vs) : TupA Γ S' H' a vs := h.fr0 f.1
theorem ScA.fr (f : Fr S H S' H') (h : ScA Γ S H a vs) : ScA Γ S' H' a vs := h.fr0 f.1
theorem RlA.fr (f : Fr S H S' H') (h : RlA S H a vs) : RlA S' H' a vs := h.fr0 f.1
theorem TupA.sq (h : TupA Γ S H a vs) : SqT Γ.K H a vs := h.imp (fun q => q.2) id
theorem ScA.sq (h : ScA Γ S H a vs) : SqL Γ.K H a vs := h.imp (fun q => q.2) id
theorem RlA.sq (h : RlA S H a vs) : SqL Γ.K H a vs := .inl (.inl h.2)
theorem xdR.fr0 (f : Fr0 S H S' H') {ks : List (List Nat)} {d : Option Addr} (h : xdR S H ks d vs) : xdR S' H' ks d vs := by
  rcases h with h | ⟨dd, e, h1, h2⟩
  · exact .inl h
  · obtain ⟨q1, q2⟩ := f dd _ h1 h2
    exact .inr ⟨dd, e, q1, q2⟩
mutual
theorem rep.fr0 (f : Fr0 S H S' H') : ∀ (w : W) (v : V), rep Γ S H w v → rep Γ S' H' w v
  | .non, _, h => h
  | .bl _, _, h => h
  | .int _, _, h => h
  | .str _, _, h => h
  | .tup ws, v, ⟨a, vs, e, q, r⟩ => ⟨a, vs, e, q.fr0 f, reps.fr0 f ws vs r⟩
  | .rl ws, v, ⟨a, vs, e, q, r⟩ => ⟨a, vs, e, q.fr0 f, reps.fr0 f ws vs r⟩
  | .sc ws, v, ⟨a, vs, e, q, r⟩ => ⟨a, vs, e, q.fr0 f, reps.fr0 f ws vs r⟩
  | .ref _, _, h => h
  | .fn _, _, h => h
  | .dct ks ws, v, ⟨a, vs, e, q, l, r⟩ => ⟨a, vs, e, f a _ q.1 q.2, l, reps.fr0 f ws vs r⟩
  | .obj c ks ws, v, ⟨a, dx, vs, e, q, l, r⟩ => ⟨a, dx, vs, e, f a _ q.1 q.2, l, reps.fr0 f ws vs r⟩
  | .exn c ks ws, v, ⟨a, d, vs, e, q, x, l, r⟩ => ⟨a, d, vs, e, f a _ q.1 q.2, x.fr0 f, l, reps.fr0 f ws vs r⟩
theorem reps.fr0 (f : Fr0 S H S' H') : ∀ (ws : List W) (vs : List V), reps Γ S H ws vs → reps Γ S' H' ws vs
  | [], _, h => h
  | w :: ws, vs, ⟨v, r, e, q, t⟩ => ⟨v, r, e, rep.fr0 f w v q, reps.fr0 f ws r t⟩
end
theorem rep.fr (f : Fr S H S' H') (w : W) (v : V) (h : rep Γ S H w v) : rep Γ S' H' w v := rep.fr0 f.1 w v h
theorem reps.fr (f : Fr S H S' H') (ws : List W) (vs : List V) (h : reps Γ S H ws vs) : reps Γ S' H' ws vs := reps.fr0 f.1 ws vs h
theorem reps.len : ∀ {ws : List W} {vs : List V}, reps Γ S H ws vs → ws.length = vs.length
  | [], _, h => by cases h; rfl
  | w :: ws, _, ⟨v, r, rfl, _, t⟩ => by simp [reps.len t]
theorem reps.get : ∀ {ws : List W} {vs : List V} {i : Nat} {w : W}, reps Γ S H ws vs → ws[i]? = some w → ∃ v, vs[i]? = some v ∧ rep Γ S H w v
  | [], _, _, _, _, h => by simp at h
  | w :: ws, _, 0, w', ⟨v, r, rfl, q, t⟩, h => by simp at h; subst h; exact ⟨v, rfl, q⟩
  | w :: ws, _, i + 1, w', ⟨v, r, rfl, q, t⟩, h => by
    obtain ⟨u, h1, h2⟩ := reps.get (i := i) t (by simpa using h)
    exact ⟨u, by simpa using h1, h2⟩
theorem reps.app : ∀ {ws us : List W} {vs xs : List V}, reps Γ S H ws vs → reps Γ S H us xs → reps Γ S H (ws ++ us) (vs ++ xs)
  | [], _, _, _, h, q => by cases h; exact q
  | w :: ws, _, _, _, ⟨v, r, rfl, q, t⟩, h => ⟨v, _, rfl, q, reps.app t h⟩
theorem reps.one {w : W} {v : V} (h : rep Γ S H w v) : reps Γ S H [w] [v] := ⟨v, [], rfl, h, rfl⟩
theorem reps.take : ∀ (n : Nat) {ws : List W} {vs : List V}, reps Γ S H ws vs → reps Γ S H (ws.take n) (vs.take n)
  | 0, _, _, _ => rfl
  | n + 1, [], _, h => by cases h; rfl
  | n + 1, w :: ws, _, ⟨v, r, rfl, q, t⟩ => ⟨v, _, rfl, q, reps.take n t⟩
theorem reps.drop : ∀ (n : Nat) {ws : List W} {vs : List V}, reps Γ S H ws vs → reps Γ S H (ws.drop n) (vs.drop n)
  | 0, _, _, h => h
  | n + 1, [], _, h => by cases h; rfl
  | n + 1, w :: ws, _, ⟨v, r, rfl, q, t⟩ => reps.drop n t
theorem reps.cut {ws : List W} {vs : List V} (h : reps Γ S H ws vs) (lo hi : Option Int) : reps Γ S H (cutW ws lo hi) (cutV vs lo hi) := by
  unfold cutW cutV
  rw [h.len]
  exact reps.take _ (reps.drop _ h)
theorem reps.rev : ∀ {ws : List W} {vs : List V}, reps Γ S H ws vs → reps Γ S H ws.reverse vs.reverse
  | [], _, h => by cases h; rfl
  | w :: ws, _, ⟨v, r, rfl, q, t⟩ => by
    rw [List.reverse_cons, List.reverse_cons]
    exact (reps.rev t).app (reps.one q)
theorem reps.set : ∀ {ws : List W} {vs : List V} (i : Nat) {w : W} {v : V}, reps Γ S H ws vs → rep Γ S H w v → reps Γ S H (ws.set i w) (vs.set i v)
  | [], _, _, _, _, h, _ => by cases h; rfl
  | x :: ws, _, 0, w, v, ⟨u, r, rfl, q, t⟩, h => ⟨v, r, rfl, h, t⟩
  | x :: ws, _, i + 1, w, v, ⟨u, r, rfl, q, t⟩, h => ⟨u, _, rfl, q, reps.set i t h⟩
theorem reps.dropLast {ws : List W} {vs : List V} (h : reps Γ S H ws vs) : reps Γ S H ws.dropLast vs.dropLast := by
  rw [List.dropLast_eq_take, List.dropLast_eq_take, h.len]
  exact reps.take _ h

/-- an object of the store -/
def orep (Γ : Gm) (S : Sto) (H : Hp) (a : Addr) : O → Prop
  | .lst ws => ∃ vs, H a = some (.lst vs) ∧ reps Γ S H ws vs
  | .dic ks ws => ∃ vs, H a = some (.dK (dkz ks vs)) ∧ ks.length = ws.length ∧ reps Γ S H ws vs
  | .ins c ks ws => ∃ (dx : Addr) (vs : List V), H a = some (.ins (Γ.ca c) dx (insz ks vs)) ∧ (ks.length = ws.length ∧ IC Γ c ks) ∧ reps Γ S H ws vs
  | .hid => ∃ o, H a = some o
def SR (Γ : Gm) (S : Sto) (H : Hp) : Prop := ∀ a o, S a = some o → orep Γ S H a o
theorem orep.fr0 (f : Fr0 S H S' H') (e : H' a = H a) : ∀ {o : O}, orep Γ S H a o → orep Γ S' H' a o
  | .lst ws, ⟨vs, h, r⟩ => ⟨vs, e.trans h, reps.fr0 f ws vs r⟩
  | .dic ks ws, ⟨vs, h, l, r⟩ => ⟨vs, e.trans h, l, reps.fr0 f ws vs r⟩
  | .ins c ks ws, ⟨dx, vs, h, l, r⟩ => ⟨dx, vs, e.trans h, l, reps.fr0 f ws vs r⟩
  | .hid, ⟨vs, h⟩ => ⟨vs, e.trans h⟩
theorem orep.there : ∀ {o : O}, orep Γ S H a o → H a ≠ none
  | .lst ws, ⟨vs, h, r⟩ => by rw [h]; simp
  | .dic ks ws, ⟨vs, h, _⟩ => by rw [h]; simp
  | .ins c ks ws, ⟨dx, vs, h, _⟩ => by rw [h]; simp
  | .hid, ⟨vs, h⟩ => by rw [h]; simp
theorem SR.nil (h : SR Γ S H) (e : H p = none) : S p = none := by
  cases q : S p with
  | none => rfl
  | some o => exact absurd e (h p o q).there
theorem SR.step0 (h : SR Γ S H) (f : Fr0 S H S' H') (k : ∀ a o, S' a = some o → (S a = some o ∧ H' a = H a) ∨ orep Γ S' H' a o) : SR Γ S' H' := fun a o e => by
  rcases k a o e with ⟨e1, e2⟩ | q
  · exact (h a o e1).fr0 f e2
  · exact q
theorem SR.step (h : SR Γ S H) (f : Fr S H S' H') (k : ∀ a o, S' a = some o → (S a = some o ∧ H' a = H a) ∨ orep Γ S' H' a o) : SR Γ S' H' := h.step0 f.1 k
theorem Sto.set_same {o : O} : Sto.set S a o a = some o := by unfold Sto.set; rw [if_pos rfl]
theorem Sto.set_ne {o : O} {b : Addr} (h : b ≠ a) : Sto.set S a o b = S b := by unfold Sto.set; rw [if_neg h]
theorem Sto.set_set {o u : O} : Sto.set (Sto.set S a o) a u = Sto.set S a u := by funext b; unfold Sto.set; split <;> rfl
/-- a new object that the store doesn't know -/
theorem Fr.new {o : HO} (e : H p = none) : Fr S H S (upd H p o) := ⟨fun a u h1 h2 => ⟨h1, by rw [upd_ne (ne_of_none h2 e)]; exact h2⟩, fun a u h1 h2 => ⟨h1, by rw [upd_ne (ne_of_none h2 e)]; exact h2⟩⟩
theorem SR.new {o : HO} (h : SR Γ S H) (e : H p = none) : SR Γ S (upd H p o) := h.step (Fr.new e) fun a u q => .inl ⟨q, upd_ne fun z => by subst z; exact (h _ u q).there e⟩
/-- a new list in the store -/
theorem Fr.newS {o : HO} {u : O} (e : H p = none) : Fr S H (S.set p u) (upd H p o) := by
  refine ⟨fun a x h1 h2 => ?_, fun a x h1 h2 => ?_⟩
  · have n := ne_of_none h2 e
    exact ⟨by rw [Sto.set_ne n]; exact h1, by rw [upd_ne n]; exact h2⟩
  · have n := ne_of_none h2 e
    exact ⟨by rw [Sto.set_ne n]; exact h1, by rw [upd_ne n]; exact h2⟩
theorem SR.newL {ws : List W} (h : SR Γ S H) (e : H p = none) (r : reps Γ S H ws vs) : SR Γ (S.set p (.lst ws)) (upd H p (.lst vs)) := h.step (Fr.newS e) fun a u q => by
  by_cases n : a = p
  · subst n
    rw [Sto.set_same] at q
    cases q
    exact .inr ⟨vs, upd_same, reps.fr (Fr.newS e) _ _ r⟩
  · rw [Sto.set_ne n] at q
    exact .inl ⟨q, upd_ne n⟩
/-- a list of the store is changed -/
theorem Fr0.wr {o : HO} {u u' : O} (e : S p = some u) : Fr0 S H (S.set p u') (upd H p o) := fun a x h1 h2 => by
  have n : a ≠ p := fun z => by subst z; rw [e] at h1; cases h1
  exact ⟨by rw [Sto.set_ne n]; exact h1, by rw [upd_ne n]; exact h2⟩
theorem Fr.wr {o : HO} {u u' : O} (e : S p = some u) (hu : u ≠ .hid := by intro h; cases h) : Fr S H (S.set p u') (upd H p o) := ⟨Fr0.wr e, fun a x h1 h2 => by
  have n : a ≠ p := fun z => by subst z; rw [e] at h1; cases h1; exact hu rfl
  exact ⟨by rw [Sto.set_ne n]; exact h1, by rw [upd_ne n]; exact h2⟩⟩
theorem SR.wrL {u : O} {ws : List W} (h : SR Γ S H) (e : S p = some u) (r : reps Γ S H ws vs) : SR Γ (S.set p (.lst ws)) (upd H p (.lst vs)) := h.step0 (Fr0.wr e) fun a x q => by
  by_cases n : a = p
  · subst n
    rw [Sto.set_same] at q
    cases q
    exact .inr ⟨vs, upd_same, reps.fr0 (Fr0.wr e) _ _ r⟩
  · rw [Sto.set_ne n] at q
    exact .inl ⟨q, upd_ne n⟩
theorem orep.new {o : HO} {u : O} (h : SR Γ S H) (e : H p = none) (r : orep Γ (S.set p u) (upd H p o) p u) : SR Γ (S.set p u) (upd H p o) := h.step (Fr.newS e) fun a x q => by
  by_cases n : a = p
  · subst n
    rw [Sto.set_same] at q
    cases q
    exact .inr r
  · rw [Sto.set_ne n] at q
    exact .inl ⟨q, upd_ne n⟩
theorem orep.wr {o : HO} {u u' : O} (h : SR Γ S H) (e : S p = some u) (r : orep Γ (S.set p u') (upd H p o) p u') : SR Γ (S.set p u') (upd H p o) := h.step0 (Fr0.wr e) fun a x q => by
  by_cases n : a = p
  · subst n
    rw [Sto.set_same] at q
    cases q
    exact .inr r
  · rw [Sto.set_ne n] at q
    exact .inl ⟨q, upd_ne n⟩
/-- a list that is made meanwhile -/
theorem SR.hide {o : HO} (h : SR Γ S H) (e : H p = none) : SR Γ (S.set p .hid) (upd H p o) := h.step (Fr.newS e) fun a u q => by
  by_cases n : a = p
  · subst n
    rw [Sto.set_same] at q
    cases q
    exact .inr ⟨_, upd_same⟩
  · rw [Sto.set_ne n] at q
    exact .inl ⟨q, upd_ne n⟩
theorem Fr0.hid {o : HO} (e : S p = some .hid) : Fr0 S H S (upd H p o) := fun a x h1 h2 => by
  have n : a ≠ p := fun z => by subst z; rw [e] at h1; cases h1
  exact ⟨h1, by rw [upd_ne n]; exact h2⟩
theorem SR.hid {o : HO} (h : SR Γ S H) (e : S p = some .hid) : SR Γ S (upd H p o) := h.step0 (Fr0.hid e) fun a x q => by
  by_cases n : a = p
  · subst n
    rw [e] at q
    cases q
    exact .inr ⟨_, upd_same⟩
  · exact .inl ⟨q, upd_ne n⟩
theorem Sto.del_same : Sto.del S p p = none := by unfold Sto.del; rw [if_pos rfl]
/-- what is let go -/
theorem Fr.sub (s : Sub S' S) : Fr S H S' H := by
  refine ⟨fun a o h1 h2 => ⟨?_, h2⟩, fun a o h1 h2 => ⟨s.2 a h1, h2⟩⟩
  cases q : S' a with
  | none => rfl
  | some u => rw [s.1 a u q] at h1; cases h1
theorem SR.sub (h : SR Γ S H) (s : Sub S' S) : SR Γ S' H := h.step (Fr.sub s) fun a o q => .inl ⟨s.1 a o q, rfl⟩
theorem Fz.rep {w w' : W} {v : V} (z : Fz S w w' S') (h : SR Γ S H) (r : rep Γ S H w v) : rep Γ S' H w' v ∧ SR Γ S' H ∧ Fr S H S' H := by
  obtain ⟨s, e⟩ := z
  refine ⟨?_, h.sub s, Fr.sub s⟩
  rcases e with rfl | ⟨a, rfl, e2, ⟨ws, e1, rfl⟩ | ⟨ks, ws, e1, rfl⟩ | ⟨c, ks, ws, e1, rfl⟩⟩
  · exact rep.fr (Fr.sub s) _ _ r
  · obtain ⟨vs, h1, h2⟩ := h a _ e1
    exact ⟨a, vs, r, ⟨e2, h1⟩, reps.fr (Fr.sub s) _ _ h2⟩
  · obtain ⟨vs, h1, hl, h2⟩ := h a _ e1
    exact ⟨a, vs, r, ⟨e2, h1⟩, hl, reps.fr (Fr.sub s) _ _ h2⟩
  · obtain ⟨dx, vs, h1, hl, h2⟩ := h a _ e1
    exact ⟨a, dx, vs, r, ⟨e2, h1⟩, hl, reps.fr (Fr.sub s) _ _ h2⟩

/-! ### the names' values -/
def envR (Γ : Gm) (S : Sto) (H : Hp) (env : Env) (σ : L2.St) : Prop := env.length = σ.length ∧ ∀ (i : Nat) (w : W), env[i]? = some (some w) → ∃ v, σ[i]? = some (some v) ∧ rep Γ S H w v
variable {env : Env} {σ : L2.St}
theorem envR.fr (f : Fr S H S' H') (h : envR Γ S H env σ) : envR Γ S' H' env σ := ⟨h.1, fun i w e => let ⟨v, h1, h2⟩ := h.2 i w e; ⟨v, h1, rep.fr f _ _ h2⟩⟩
theorem envR.set (h : envR Γ S H env σ) (i : Nat) {w : W} {v : V} (r : rep Γ S H w v) : envR Γ S H (env.set i (some w)) (σ.set i (some v)) := by
  refine ⟨by simp [h.1], fun j x e => ?_⟩
  by_cases hj : i = j
  · subst hj
    have hi : i < env.length := by
      by_cases hi : i < env.length
      · exact hi
      · rw [List.getElem?_eq_none (by simpa using hi)] at e; cases e
    rw [List.getElem?_set_self hi] at e
    cases e
    exact ⟨v, by rw [List.getElem?_set_self (by rw [← h.1]; exact hi)], r⟩
  · rw [List.getElem?_set_ne hj] at e
    obtain ⟨u, h1, h2⟩ := h.2 j x e
    exact ⟨u, by rw [List.getElem?_set_ne hj]; exact h1, h2⟩
theorem envR.clr (h : envR Γ S H env σ) (i : Nat) : envR Γ S H (env.set i none) (σ.set i none) := by
  refine ⟨by simp [h.1], fun j x e => ?_⟩
  by_cases hj : i = j
  · subst hj
    by_cases hi : i < env.length
    · rw [List.getElem?_set_self hi] at e; cases e
    · rw [List.getElem?_eq_none (by simpa using hi)] at e; cases e
  · rw [List.getElem?_set_ne hj] at e
    obtain ⟨u, h1, h2⟩ := h.2 j x e
    exact ⟨u, by rw [List.getElem?_set_ne hj]; exact h1, h2⟩
theorem envR.wipe (h : envR Γ S H env σ) : ∀ vs : List Nat, envR Γ S H (wipeE env vs) (L2.wipe σ vs)
  | [] => h
  | v :: vs => (envR.wipe h vs).clr v
theorem reps.getS : ∀ {ws : List W} {vs : List V} {i : Nat} {w : W}, reps Γ S H ws vs → (ws.map some)[i]? = some (some w) → ∃ v, (vs.map some)[i]? = some (some v) ∧ rep Γ S H w v := fun {ws vs i w} h e => by
  rw [List.getElem?_map] at e
  cases q : ws[i]? with
  | none => rw [q] at e; cases e
  | some x =>
    rw [q] at e
    cases e
    obtain ⟨v, h1, h2⟩ := h.get q
    exact ⟨v, by rw [List.getElem?_map, h1]; rfl, h2⟩

/-! ### what is wanted behind -/
def KQ (Γ : Gm) (S : Sto) (H : Hp) (QW : VQ) (Q : VK) : Prop := ∀ w S' v H', rep Γ S' H' w v → SR Γ S' H' → Fr S H S' H' → QW w S' → Q v H'
def xrep (Γ : Gm) (S : Sto) (H : Hp) (x : Xn) (cls : Value) (d : Option Addr) : Prop :=
  cls = .ref (Γ.ca x.c) ∧ (x.ks.length = x.ws.length ∧ XC Γ x.c x.ks) ∧ ∃ vs, xdR S H x.ks d vs ∧ reps Γ S H x.ws vs
def KX (Γ : Gm) (S : Sto) (H : Hp) (XW : XQ) (X : XK) : Prop := ∀ x S' cls d H', xrep Γ S' H' x cls d → SR Γ S' H' → Fr S H S' H' → XW x S' → X cls d H'
theorem KQ.fr {QW : VQ} {Q : VK} (f : Fr S H S' H') (k : KQ Γ S H QW Q) : KQ Γ S' H' QW Q := fun w S2 v H2 r s f2 q => k w S2 v H2 r s (f.trans f2) q
theorem KX.fr {XW : XQ} {X : XK} (f : Fr S H S' H') (k : KX Γ S H XW X) : KX Γ S' H' XW X := fun x S2 c d H2 r s f2 q => k x S2 c d H2 r s (f.trans f2) q
end
end Bw

/-! Ev3: the operators, by HandS's rules. -/
namespace Bw
open PySem L2 PySem.Spec PyProof.Rows

theorem str_app (a b : List Nat) : ((⟨a.toArray⟩ : Str) ++ (⟨b.toArray⟩ : Str)) = ⟨(a ++ b).toArray⟩ := by
  show Str.append _ _ = _
  unfold Str.append
  simp
theorem str_len (a : List Nat) : (⟨a.toArray⟩ : Str).length = a.length := by simp [Str.length]
theorem okStr_app {a b : List Nat} (h : okStr a = true) (k : okStr b = true) : okStr (a ++ b) = true := by
  unfold okStr at *
  rw [List.all_append, h, k]; rfl

section
variable {X : Cx} {Γ : Gm} {S : Sto} {H : Hp} {QW : VQ} {Q : VK}

theorem mkL_ok {fz : Bool} {ws : List W} {vs : List V} (h : mkL fz ws S QW) (r : reps Γ S H ws vs) (s : SR Γ S H) (k : KQ Γ S H QW Q) : ∀ p, H p = none → Q (.ref p) (upd H p (.lst vs)) := fun p e => by
  unfold mkL at h
  split at h
  · exact k (.rl ws) S (.ref p) _ ⟨p, vs, rfl, ⟨s.nil e, upd_same⟩, reps.fr (Fr.new e) _ _ r⟩ (s.new e) (Fr.new e) h
  · exact k (.ref p) _ (.ref p) _ rfl (s.newL e r) (Fr.newS e) (h p (s.nil e))
theorem tup_ok {ws : List W} {vs : List V} (h : QW (.tup ws) S) (r : reps Γ S H ws vs) (s : SR Γ S H) (k : KQ Γ S H QW Q) : ∀ p, H p = none → Q (.ref p) (upd H p (.tup vs)) := fun p e =>
  k (.tup ws) S (.ref p) _ ⟨p, vs, rfl, .inl ⟨s.nil e, .inl upd_same⟩, reps.fr (Fr.new e) _ _ r⟩ (s.new e) (Fr.new e) h
theorem KQ.here {w : W} {v : V} (k : KQ Γ S H QW Q) (s : SR Γ S H) (r : rep Γ S H w v) (h : QW w S) : Q v H := k w S v H r s (Fr.refl _ _) h

theorem deref_ref {a : Addr} : deref S (.ref a) = (match S a with | some (.lst ws) => W.rl ws | _ => .ref a) := rfl
theorem lst_rep {x : W} {v : V} {ws : List W} (h : lstOf S x = some ws) (r : rep Γ S H x v) (s : SR Γ S H) : ∃ p vs, v = .ref p ∧ H p = some (.lst vs) ∧ reps Γ S H ws vs := by
  unfold lstOf at h
  cases x with
  | rl ws' =>
    simp only [deref] at h
    cases h
    obtain ⟨a, vs, e, q, t⟩ := r
    exact ⟨a, vs, e, q.2, t⟩
  | ref a =>
    rw [deref_ref] at h
    cases q : S a with
    | none => rw [q] at h; simp at h
    | some o =>
      cases o with
      | lst us =>
        rw [q] at h
        simp at h
        subst h
        obtain ⟨vs, h1, h2⟩ := s a _ q
        exact ⟨a, vs, r, h1, h2⟩
      | dic _ _ => rw [q] at h; simp at h
      | ins _ _ _ => rw [q] at h; simp at h
      | hid => rw [q] at h; simp at h
  | _ => simp [deref] at h
theorem seq_rep {x : W} {v : V} {ws : List W} (h : seqOf S x = some ws) (r : rep Γ S H x v) (s : SR Γ S H) : ∃ p vs, v = .ref p ∧ (SqL Γ.K H p vs ∨ SqT Γ.K H p vs) ∧ reps Γ S H ws vs := by
  unfold seqOf at h
  cases x with
  | tup ws' =>
    simp only [deref] at h
    cases h
    obtain ⟨a, vs, e, q, t⟩ := r
    exact ⟨a, vs, e, .inr q.sq, t⟩
  | sc ws' =>
    simp only [deref] at h
    cases h
    obtain ⟨a, vs, e, q, t⟩ := r
    exact ⟨a, vs, e, .inl q.sq, t⟩
  | rl ws' =>
    simp only [deref] at h
    cases h
    obtain ⟨a, vs, e, q, t⟩ := r
    exact ⟨a, vs, e, .inl q.sq, t⟩
  | ref a =>
    rw [deref_ref] at h
    cases q : S a with
    | none => rw [q] at h; simp at h
    | some o =>
      cases o with
      | lst us =>
        rw [q] at h
        simp at h
        subst h
        obtain ⟨vs, h1, h2⟩ := s a _ q
        exact ⟨a, vs, r, .inl (.inl (.inl h1)), h2⟩
      | dic _ _ => rw [q] at h; simp at h
      | ins _ _ _ => rw [q] at h; simp at h
      | hid => rw [q] at h; simp at h
  | _ => simp [deref] at h

/-! ### dicts -/
theorem keyV_inj {a b : Ky} (h : keyV a = keyV b) : a = b := by
  cases a with
  | inl i => cases b with
    | inl j => injection h with h; rw [h]
    | inr z => cases h
  | inr y => cases b with
    | inl j => cases h
    | inr z =>
      have h : (Sum.inr (⟨y.toArray⟩ : Str) : Key) = Sum.inr ⟨z.toArray⟩ := h
      injection h with h
      injection h with h
      have : y = z := by simpa using h
      rw [this]
theorem key_rep {y : W} {u : V} {k : Ky} (h : kyOf y = some k) (r : rep Γ S H y u) : u = kV (keyV k) := by
  cases y with
  | int i => cases h; cases r; rfl
  | str z => cases h; exact r.1
  | _ => cases h
theorem dkz_val : ∀ {ks : List Ky} {ws : List W} {vs : List V} {S : Sto} {H : Hp} (z : Ky), ks.length = ws.length → reps Γ S H ws vs →
    (∀ w, lookD ks ws z = some w → ∃ v, valV (dkz ks vs) (keyV z) = some v ∧ rep Γ S H w v) ∧ (lookD ks ws z = none → valV (dkz ks vs) (keyV z) = none)
  | [], [], vs, S, H, z, _, r => by cases r; exact ⟨fun w h => by simp [lookD] at h, fun _ => rfl⟩
  | [], _ :: _, _, _, _, _, h, _ => by simp at h
  | _ :: _, [], _, _, _, _, h, _ => by simp at h
  | k :: ks, w :: ws, _, S, H, z, hl, ⟨v, vr, rfl, q, t⟩ => by
    have ih := dkz_val (ks := ks) (ws := ws) z (by simpa using hl) t
    by_cases e : k = z
    · subst e
      refine ⟨fun w' h => ?_, fun h => ?_⟩
      · simp only [lookD, if_pos rfl] at h
        cases h
        exact ⟨v, valV_pos rfl, q⟩
      · simp [lookD] at h
    · have e2 : ¬ keyV k = keyV z := fun h => e (keyV_inj h)
      refine ⟨fun w' h => ?_, fun h => ?_⟩
      · simp only [lookD, if_neg e] at h
        obtain ⟨v', h1, h2⟩ := ih.1 w' h
        exact ⟨v', (valV_neg e2).trans h1, h2⟩
      · simp only [lookD, if_neg e] at h
        exact (valV_neg e2).trans (ih.2 h)
theorem dic_rep {x : W} {v : V} {p : List Ky × List W} (h : dicOf S x = some p) (r : rep Γ S H x v) (s : SR Γ S H) : ∃ a vs, v = .ref a ∧ H a = some (.dK (dkz p.1 vs)) ∧ p.1.length = p.2.length ∧ reps Γ S H p.2 vs := by
  cases x with
  | dct ks ws =>
    cases h
    obtain ⟨a, vs, e, q, l, t⟩ := r
    exact ⟨a, vs, e, q.2, l, t⟩
  | ref a =>
    cases q : S a with
    | none => simp only [dicOf, q] at h; cases h
    | some o =>
      cases o with
      | dic ks ws =>
        simp only [dicOf, q] at h
        cases h
        obtain ⟨vs, h1, l, h2⟩ := s a _ q
        exact ⟨a, vs, r, h1, l, h2⟩
      | _ => simp only [dicOf, q] at h; cases h
  | _ => cases h
theorem dic_get {x y : W} {v u : V} {p : List Ky × List W} {k : Ky} (h : dicOf S x = some p) (hk : kyOf y = some k) (r : rep Γ S H x v) (q : rep Γ S H y u) (s : SR Γ S H) :
    ∃ a o, v = .ref a ∧ DGet H a u o ∧ (∀ w, lookD p.1 p.2 k = some w → ∃ t, o = some t ∧ rep Γ S H w t) ∧ (lookD p.1 p.2 k = none → o = none) := by
  obtain ⟨a, vs, rfl, hh, hl, rr⟩ := dic_rep h r s
  obtain ⟨h1, h2⟩ := dkz_val (Γ := Γ) k hl rr
  rw [key_rep hk q]
  exact ⟨a, valV (dkz p.1 vs) (keyV k), rfl, DGet.k (k := keyV k) hh, h1, h2⟩
theorem repD_rep : ∀ {ks : List Ky} {ws : List W} {vs : List V} {z : Ky} {w : W} {v : V}, ks.length = ws.length → reps Γ S H ws vs → rep Γ S H w v →
    ∃ vs', ((dkz ks vs).map fun kv => if kv.1 = keyV z then (kv.1, v) else kv) = dkz ks vs' ∧ ks.length = (repD ks ws z w).length ∧ reps Γ S H (repD ks ws z w) vs'
  | [], [], vs, z, w, v, _, r, _ => by cases r; exact ⟨[], rfl, rfl, rfl⟩
  | [], _ :: _, _, _, _, _, h, _, _ => by simp at h
  | _ :: _, [], _, _, _, _, h, _, _ => by simp at h
  | k :: ks, x :: ws, _, z, w, v, hl, ⟨u, vr, rfl, q, t⟩, rw => by
    obtain ⟨vs', h1, h2, h3⟩ := repD_rep (ks := ks) (ws := ws) (z := z) (by simpa using hl) t rw
    by_cases e : k = z
    · subst e
      refine ⟨v :: vs', ?_, by simp [repD, h2], ⟨v, vs', rfl, by rw [if_pos rfl]; exact rw, h3⟩⟩
      show (if keyV k = keyV k then (keyV k, v) else (keyV k, u)) :: (dkz ks vr).map _ = (keyV k, v) :: dkz ks vs'
      rw [if_pos rfl, h1]
    · refine ⟨u :: vs', ?_, by simp [repD, h2], ⟨u, vs', rfl, by rw [if_neg e]; exact q, h3⟩⟩
      show (if keyV k = keyV z then (keyV k, v) else (keyV k, u)) :: (dkz ks vr).map _ = (keyV k, u) :: dkz ks vs'
      rw [if_neg (fun h => e (keyV_inj h)), h1]
theorem dkz_keys : ∀ {ks : List Ky} {vs : List V}, ks.length = vs.length → (dkz ks vs).map (·.1) = ks.map keyV
  | [], [], _ => rfl
  | [], _ :: _, h => by simp at h
  | _ :: _, [], h => by simp at h
  | k :: ks, v :: vs, h => by
    show keyV k :: (dkz ks vs).map (·.1) = _
    rw [dkz_keys (by simpa using h)]; rfl
theorem dkz_len {ks : List Ky} {vs : List V} (h : ks.length = vs.length) : (dkz ks vs).length = ks.length := by
  have := congrArg List.length (dkz_keys h)
  simpa using this
theorem dkz_snoc : ∀ {ks : List Ky} {vs : List V} {z : Ky} {v : V}, ks.length = vs.length → dkz ks vs ++ [(keyV z, v)] = dkz (ks ++ [z]) (vs ++ [v])
  | [], [], _, _, _ => rfl
  | [], _ :: _, _, _, h => by simp at h
  | _ :: _, [], _, _, h => by simp at h
  | k :: ks, v :: vs, z, u, h => by
    show (keyV k, v) :: (dkz ks vs ++ [(keyV z, u)]) = _
    rw [dkz_snoc (by simpa using h)]; rfl
theorem putD_rep {ks : List Ky} {ws : List W} {vs : List V} {z : Ky} {w : W} {v : V} (hl : ks.length = ws.length) (r : reps Γ S H ws vs) (rw : rep Γ S H w v) :
    ∃ vs', putK (dkz ks vs) (keyV z) v = dkz (putD ks ws z w).1 vs' ∧ (putD ks ws z w).1.length = (putD ks ws z w).2.length ∧ reps Γ S H (putD ks ws z w).2 vs' := by
  have hv : ks.length = vs.length := hl.trans r.len
  have any : ((dkz ks vs).any fun kv => decide (kv.1 = keyV z)) = ks.any fun k => decide (k = z) := by
    have e : ((dkz ks vs).any fun kv => decide (kv.1 = keyV z)) = ((dkz ks vs).map (·.1)).any fun k => decide (k = keyV z) := by rw [List.any_map]; rfl
    rw [e, dkz_keys hv, List.any_map]
    congr 1
    funext k
    show decide (keyV k = keyV z) = decide (k = z)
    by_cases h : k = z
    · rw [h, decide_eq_true rfl, decide_eq_true rfl]
    · rw [decide_eq_false h, decide_eq_false fun q => h (keyV_inj q)]
  unfold putK putD
  rw [any]
  by_cases h : (ks.any fun k => decide (k = z)) = true
  · rw [if_pos h, if_pos h]
    obtain ⟨vs', h1, h2, h3⟩ := repD_rep (z := z) hl r rw
    exact ⟨vs', h1, h2, h3⟩
  · rw [if_neg h, if_neg h]
    exact ⟨vs ++ [v], dkz_snoc hv, by simp [hl], r.app (reps.one rw)⟩
/-! ### binary operators -/
def bopOf : BOp → Operator
  | .add _ => .Add
  | .sub => .Sub
  | .mul _ => .Mult
  | .fdiv => .FloorDiv
  | .mod => .Mod
  | .pow => .Pow
  | .shl => .LShift
  | .shr => .RShift
  | .band => .BitAnd
  | .bor => .BitOr
  | .bxor => .BitXor
def rB (Γ : Gm) (o : BOp) : R2 := fun v u H Q => ∃ x y S QW, rep Γ S H x v ∧ rep Γ S H y u ∧ SR Γ S H ∧ wBin o x y S QW ∧ KQ Γ S H QW Q
theorem wInts_el {x y : W} {P : Int → Int → Prop} (h : wInts x y P) : ∃ i j, x = .int i ∧ y = .int j ∧ P i j := by
  unfold wInts at h
  split at h
  · exact ⟨_, _, rfl, rfl, h⟩
  · exact h.elim
theorem opI_of {f : Value → Value → Sem Value} {Cd : Int → Int → Prop} {g : Int → Int → V} {g' : Int → Int → W} (op : OpR X f (rI Cd g)) {pins : List (Addr × Obj)} {s : Shared} {σ : L2.St} {x y : V} {v u : Value} (I : Inv X pins σ H s) (rx : RelV x v) (ry : RelV y u)
    {a b : W} (ra : rep Γ S H a x) (rb : rep Γ S H b y) (hs : SR Γ S H) (k : KQ Γ S H QW Q) (hg : ∀ i j, rep Γ S H (g' i j) (g i j)) (h : wInts a b fun i j => Cd i j ∧ QW (g' i j) S) :
    wpAny (model X.prog X.w) X.A (f v u) (EP X pins σ Q) X.xe s := by
  obtain ⟨i, j, rfl, rfl, hc, q⟩ := wInts_el h
  exact op pins s σ H x y v u Q I rx ry ⟨i, j, ra, rb, hc, k.here hs (hg i j) q⟩
theorem opI0_of {f : Value → Value → Sem Value} {g : Int → Int → V} {g' : Int → Int → W} (op : OpR X f (rI0 g)) {pins : List (Addr × Obj)} {s : Shared} {σ : L2.St} {x y : V} {v u : Value} (I : Inv X pins σ H s) (rx : RelV x v) (ry : RelV y u)
    {a b : W} (ra : rep Γ S H a x) (rb : rep Γ S H b y) (hs : SR Γ S H) (k : KQ Γ S H QW Q) (hg : ∀ i j, rep Γ S H (g' i j) (g i j)) (h : wInts a b fun i j => QW (g' i j) S) :
    wpAny (model X.prog X.w) X.A (f v u) (EP X pins σ Q) X.xe s := by
  obtain ⟨i, j, rfl, rfl, q⟩ := wInts_el h
  exact op pins s σ H x y v u Q I rx ry ⟨i, j, ra, rb, k.here hs (hg i j) q⟩
theorem op_mul2 : OpR X (binaryOp .Mult) (rI (fun i j => CMul i j ∨ CMulW i j) fun i j => .int (i * j)) := by
  intro pins s σ H x y v u Q I rx ry h
  obtain ⟨i, j, rfl, rfl, hc | hc, q⟩ := h
  · exact op_mul pins s σ H _ _ v u Q I rx ry ⟨i, j, rfl, rfl, hc, q⟩
  · exact op_mulW pins s σ H _ _ v u Q I rx ry ⟨i, j, rfl, rfl, hc, q⟩
theorem reps.flat {ws : List W} {vs : List V} : ∀ (m : Nat), reps Γ S H ws vs → reps Γ S H (List.replicate m ws).flatten (List.replicate m vs).flatten
  | 0, _ => rfl
  | m + 1, r => by
    rw [List.replicate_succ, List.replicate_succ, List.flatten_cons, List.flatten_cons]
    exact r.app (reps.flat m r)
theorem op_B (hK : X.K = Γ.K) (o : BOp) : OpR X (binaryOp (bopOf o)) (rB Γ o) := by
  intro pins s σ H x y v u Q I rx ry h
  obtain ⟨a, b, S, QW, ra, rb, hs, h, k⟩ := h
  cases o with
  | add fz =>
    simp only [wBin, wAdd] at h
    split at h
    · exact op_add pins s σ H x y v u Q I rx ry ⟨_, _, ra, rb, k.here hs (w := .int _) rfl h⟩
    · rename_i p q
      obtain ⟨ra, oa⟩ := ra
      obtain ⟨rb, ob⟩ := rb
      subst ra rb
      refine op_add_str pins s σ H _ _ v u Q I rx ry ⟨_, _, rfl, rfl, ?_, ?_⟩
      · rw [str_len, str_len]; exact h.1
      · rw [str_app]; exact k.here hs (w := .str _) ⟨rfl, okStr_app oa ob⟩ h.2
    · rename_i p q
      obtain ⟨a1, xs, rfl, ta, rra⟩ := ra
      obtain ⟨b1, ys, rfl, tb, rrb⟩ := rb
      have l1 := rra.len
      have l2 := rrb.len
      refine op_catA pins s σ H _ _ v u Q I rx ry ⟨a1, b1, xs, ys, rfl, rfl, hK ▸ ta.sq, hK ▸ tb.sq, by rw [← l1, ← l2]; exact h.1, fun e => ?_, fun n e => ?_, fun n1 n2 p e => ?_⟩
      · subst e
        have z : p = [] := List.length_eq_zero_iff.mp (by rw [l1]; rfl)
        subst z
        exact k.here hs (w := .tup q) ⟨b1, ys, rfl, tb, rrb⟩ h.2
      · subst e
        have z : q = [] := List.length_eq_zero_iff.mp (by rw [l2]; rfl)
        subst z
        have h2 := h.2
        rw [List.append_nil] at h2
        exact k.here hs (w := .tup p) ⟨a1, xs, rfl, ta, rra⟩ h2
      · exact tup_ok h.2 (rra.app rrb) hs k p e
    · split at h
      · rename_i p q e1 e2
        obtain ⟨p1, xs, rfl, h1, r1⟩ := lst_rep e1 ra hs
        obtain ⟨p2, ys, rfl, h2, r2⟩ := lst_rep e2 rb hs
        exact op_cat pins s σ H _ _ v u Q I rx ry ⟨p1, p2, xs, ys, rfl, rfl, h1, h2, by rw [← r1.len, ← r2.len]; exact h.1, mkL_ok h.2 (r1.app r2) hs k⟩
      · exact h.elim
  | sub => exact opI0_of op_sub I rx ry ra rb hs k (g' := fun i j => .int (i - j)) (fun _ _ => rfl) h
  | mul fz =>
    simp only [wBin, wMul] at h
    split at h
    · rename_i p
      split at h
      · rename_i i
        obtain ⟨a1, xs, rfl, ta, rra⟩ := ra
        cases rb
        obtain ⟨h1, h2, h3, h4, h5⟩ := h
        refine op_repA pins s σ H _ _ v u Q I rx ry ⟨a1, i, xs, rfl, rfl, hK ▸ ta.sq, fun e => h1 ?_, h2, h3, by rw [← rra.len]; exact h4, fun e => ?_, fun e => ?_⟩
        · subst e
          exact List.length_eq_zero_iff.mp (by rw [rra.len]; rfl)
        · subst e
          rw [show (List.replicate (Int.toNat 1) p).flatten = p by simp [List.replicate]] at h5
          exact k.here hs (w := .tup p) ⟨a1, xs, rfl, ta, rra⟩ h5
        · exact tup_ok h5 (reps.flat i.toNat rra) hs k
      · exact h.elim
    · exact opI_of op_mul2 I rx ry ra rb hs k (g' := fun i j => .int (i * j)) (fun _ _ => rfl) h
  | fdiv => exact opI_of op_fdivW I rx ry ra rb hs k (g' := fun i j => .int (i / j)) (fun _ _ => rfl) h
  | mod => exact opI_of op_mod I rx ry ra rb hs k (g' := fun i j => .int (i % j)) (fun _ _ => rfl) h
  | pow => exact opI_of op_pow I rx ry ra rb hs k (g' := fun i j => .int (i ^ j.toNat)) (fun _ _ => rfl) h
  | shl => exact opI_of op_shl I rx ry ra rb hs k (g' := fun i j => .int (i * 2 ^ j.toNat)) (fun _ _ => rfl) h
  | shr => exact opI_of op_shr I rx ry ra rb hs k (g' := fun i j => .int (i / 2 ^ j.toNat)) (fun _ _ => rfl) h
  | band => exact opI0_of op_and I rx ry ra rb hs k (g' := fun i j => .int (Builtin.bitAnd i j)) (fun _ _ => rfl) h
  | bor => exact opI0_of op_or I rx ry ra rb hs k (g' := fun i j => .int (Builtin.bitOr i j)) (fun _ _ => rfl) h
  | bxor => exact opI0_of op_xor I rx ry ra rb hs k (g' := fun i j => .int (Builtin.bitXor i j)) (fun _ _ => rfl) h

/-! ### comparisons -/
def copOf : COp → CmpOp
  | .eq => .Eq
  | .ne => .NotEq
  | .lt => .Lt
  | .le => .LtE
  | .gt => .Gt
  | .ge => .GtE
  | .isin => .In
  | .notin => .NotIn
mutual
def toD : W → PyData
  | .non => .none
  | .bl b => .bool b
  | .int i => .int i
  | .str x => .str ⟨x.toArray⟩
  | .tup ws => .tuple (toDs ws)
  | .rl ws => .list (toDs ws)
  | .sc ws => .list (toDs ws)
  | .ref _ => .none
  | .fn _ => .none
  | .dct _ _ => .none
  | .obj _ _ _ => .none
  | .exn _ _ _ => .none
def toDs : List W → List PyData
  | [] => []
  | w :: ws => toD w :: toDs ws
end
theorem str_eq {x y : List Nat} : ((⟨x.toArray⟩ : Str) == ⟨y.toArray⟩) = (x == y) := by
  by_cases h : x = y
  · subst h; rw [beq_self_eq_true, beq_self_eq_true]
  · have n : (⟨x.toArray⟩ : Str) ≠ ⟨y.toArray⟩ := fun e => h (by injection e with e; simpa using e)
    rw [beq_eq_false_iff_ne.mpr n, beq_eq_false_iff_ne.mpr h]
mutual
theorem toD_eqv : ∀ (x y : W), dataW x = true → dataW y = true → PyData.eqv (toD x) (toD y) = eqv x y
  | .non, y, hx, hy => by cases y <;> first | rfl | (simp [dataW] at hy) 
  | .bl _, y, hx, hy => by cases y <;> first | rfl | (simp [dataW] at hy) 
  | .int _, y, hx, hy => by cases y <;> first | rfl | (simp [dataW] at hy) 
  | .str x, y, hx, hy => by
    cases y with
    | str z =>
      show ((⟨x.toArray⟩ : Str) == ⟨z.toArray⟩) = (x == z)
      exact str_eq
    | _ => first | rfl | (simp [dataW] at hy)
  | .tup xs, y, hx, hy => by
    cases y with
    | tup ys => exact toDs_eqv xs ys hx hy
    | _ => first | rfl | (simp [dataW] at hy)
  | .rl xs, y, hx, hy => by
    cases y with
    | rl ys => exact toDs_eqv xs ys hx hy
    | sc ys => exact toDs_eqv xs ys hx hy
    | _ => first | rfl | (simp [dataW] at hy)
  | .sc xs, y, hx, hy => by
    cases y with
    | rl ys => exact toDs_eqv xs ys hx hy
    | sc ys => exact toDs_eqv xs ys hx hy
    | _ => first | rfl | (simp [dataW] at hy)
  | .ref _, y, hx, hy => by simp [dataW] at hx
  | .fn _, y, hx, hy => by simp [dataW] at hx
  | .dct _ _, y, hx, hy => by simp [dataW] at hx
  | .obj _ _ _, y, hx, hy => by simp [dataW] at hx
  | .exn _ _ _, y, hx, hy => by simp [dataW] at hx
theorem toDs_eqv : ∀ (xs ys : List W), dataWs xs = true → dataWs ys = true → PyData.eqvAll (toDs xs) (toDs ys) = eqvs xs ys
  | [], [], _, _ => rfl
  | [], _ :: _, _, _ => rfl
  | _ :: _, [], _, _ => rfl
  | x :: xs, y :: ys, hx, hy => by
    simp only [dataWs, Bool.and_eq_true] at hx hy
    show (PyData.eqv (toD x) (toD y) && PyData.eqvAll (toDs xs) (toDs ys)) = (eqv x y && eqvs xs ys)
    rw [toD_eqv x y hx.1 hy.1, toDs_eqv xs ys hx.2 hy.2]
end
mutual
theorem toD_dep : ∀ x : W, (toD x).depth = depW x
  | .non => rfl
  | .bl _ => rfl
  | .int _ => rfl
  | .str _ => rfl
  | .tup ws => by show PyData.depthAll (toDs ws) + 1 = depWs ws + 1; rw [toDs_dep ws]
  | .rl ws => by show PyData.depthAll (toDs ws) + 1 = depWs ws + 1; rw [toDs_dep ws]
  | .sc ws => by show PyData.depthAll (toDs ws) + 1 = depWs ws + 1; rw [toDs_dep ws]
  | .ref _ => rfl
  | .fn _ => rfl
  | .dct _ _ => rfl
  | .obj _ _ _ => rfl
  | .exn _ _ _ => rfl
theorem toDs_dep : ∀ xs : List W, PyData.depthAll (toDs xs) = depWs xs
  | [] => rfl
  | x :: xs => by show max (toD x).depth (PyData.depthAll (toDs xs)) = max (depW x) (depWs xs); rw [toD_dep x, toDs_dep xs]
end
mutual
theorem toD_dp : ∀ (x : W) (v : V), dataW x = true → rep Γ S H x v → Dp Γ.K H v (toD x) ∧ (toD x).canLay0 = true
  | .non, _, _, rfl => ⟨.non, rfl⟩
  | .bl _, _, _, rfl => ⟨.bl _, rfl⟩
  | .int _, _, _, rfl => ⟨.int _, rfl⟩
  | .str x, _, _, ⟨rfl, o⟩ => ⟨.str _, by
      show PyData.strOk (⟨x.toArray⟩ : Str) = true
      unfold PyData.strOk
      unfold okStr at o
      simpa using o⟩
  | .tup ws, _, d, ⟨a, vs, rfl, q, r⟩ => let ⟨h1, h2⟩ := toDs_dp ws vs d r; ⟨.tup q.sq h1, h2⟩
  | .rl ws, _, d, ⟨a, vs, rfl, q, r⟩ => let ⟨h1, h2⟩ := toDs_dp ws vs d r; ⟨.lst q.sq h1, h2⟩
  | .sc ws, _, d, ⟨a, vs, rfl, q, r⟩ => let ⟨h1, h2⟩ := toDs_dp ws vs d r; ⟨.lst q.sq h1, h2⟩
  | .ref _, _, d, _ => by simp [dataW] at d
  | .fn _, _, d, _ => by simp [dataW] at d
  | .dct _ _, _, d, _ => by simp [dataW] at d
  | .obj _ _ _, _, d, _ => by simp [dataW] at d
  | .exn _ _ _, _, d, _ => by simp [dataW] at d
theorem toDs_dp : ∀ (xs : List W) (vs : List V), dataWs xs = true → reps Γ S H xs vs → DpAll Γ.K H vs (toDs xs) ∧ PyData.canLayAll0 (toDs xs) = true
  | [], _, _, rfl => ⟨.nil, rfl⟩
  | x :: xs, _, d, ⟨v, r, rfl, q, t⟩ => by
    simp only [dataWs, Bool.and_eq_true] at d
    obtain ⟨h1, h2⟩ := toD_dp x v d.1 q
    obtain ⟨h3, h4⟩ := toDs_dp xs r d.2 t
    exact ⟨.cons h1 h3, by show (PyData.canLay0 (toD x) && PyData.canLayAll0 (toDs xs)) = true; rw [h2, h4]; rfl⟩
end
theorem deref_dp {x : W} {v : V} (h : dataW (deref S x) = true) (r : rep Γ S H x v) (s : SR Γ S H) : Dp Γ.K H v (toD (deref S x)) ∧ (toD (deref S x)).canLay0 = true := by
  cases x with
  | ref a =>
    rw [deref_ref] at h ⊢
    cases q : S a with
    | none => rw [q] at h; simp [dataW] at h
    | some o =>
      cases o with
      | lst us =>
        rw [q] at h
        obtain ⟨vs, h1, h2⟩ := s a _ q
        obtain ⟨h3, h4⟩ := toDs_dp us vs h h2
        subst r
        exact ⟨.lst (.inl (.inl h1)) h3, h4⟩
      | dic _ _ => rw [q] at h; simp [dataW] at h
      | ins _ _ _ => rw [q] at h; simp [dataW] at h
      | hid => rw [q] at h; simp [dataW] at h
  | _ => exact toD_dp _ v h r
def rC (Γ : Gm) (o : COp) : R2 := fun v u H Q => ∃ x y S QW, rep Γ S H x v ∧ rep Γ S H y u ∧ SR Γ S H ∧ wCmp o x y S QW ∧ KQ Γ S H QW Q
theorem eqC (hK : X.K = Γ.K) (hu : X.A.units + 64 < cLine) {pins : List (Addr × Obj)} {s : Shared} {σ : L2.St} {x y : V} {v u : Value} (I : Inv X pins σ H s) (rx : RelV x v) (ry : RelV y u)
    {a b : W} (ra : rep Γ S H a x) (rb : rep Γ S H b y) (hs : SR Γ S H) (k : KQ Γ S H QW Q) :
    (wEq false a b S QW → wpAny (model X.prog X.w) X.A (compareOp .Eq v u) (EP X pins σ Q) X.xe s) ∧ (wEq true a b S QW → wpAny (model X.prog X.w) X.A (compareOp .NotEq v u) (EP X pins σ Q) X.xe s) := by
  refine ⟨fun h => ?_, fun h => ?_⟩ <;>
  · obtain ⟨d1, d2, dp, q⟩ := h
    obtain ⟨h1, c1⟩ := deref_dp d1 ra hs
    obtain ⟨h2, c2⟩ := deref_dp d2 rb hs
    rw [← hK] at h1 h2
    obtain ⟨as, r1⟩ := Dp.reads I _ x v h1 rx
    obtain ⟨bs, r2⟩ := Dp.reads I _ y u h2 ry
    have q' := k.here hs (w := .bl _) rfl q
    have room : X.A.units + min (toD (deref S a)).depth (toD (deref S b)).depth < cLine := by rw [toD_dep, toD_dep]; omega
    first
      | (refine SeqAt.compareEq_reads r1 r2 c1 c2 room ?_
         rw [toD_eqv _ _ d1 d2]
         exact ⟨.bl _, H, I, rfl, by simpa using q'⟩)
      | (refine SeqAt.compareNe_reads r1 r2 c1 c2 room ?_
         rw [toD_eqv _ _ d1 d2]
         exact ⟨.bl _, H, I, rfl, by simpa using q'⟩)
theorem flat_rep {x : W} {v : V} (f : flatW x = true) (r : rep Γ S H x v) : flatV v = true := by
  cases x with
  | non => cases r; rfl
  | bl _ => cases r; rfl
  | int _ => cases r; rfl
  | str _ => obtain ⟨rfl, _⟩ := r; rfl
  | _ => simp [flatW] at f
theorem eqv_rep {x y : W} {v u : V} (f : flatW x = true) (g : flatW y = true) (r : rep Γ S H x v) (q : rep Γ S H y u) : eqV v u = eqv x y := by
  cases x with
  | non => cases r; cases y <;> first | (cases q; rfl) | (obtain ⟨rfl, _⟩ := q; rfl) | (simp [flatW] at g)
  | bl _ => cases r; cases y <;> first | (cases q; rfl) | (obtain ⟨rfl, _⟩ := q; rfl) | (simp [flatW] at g)
  | int _ => cases r; cases y <;> first | (cases q; rfl) | (obtain ⟨rfl, _⟩ := q; rfl) | (simp [flatW] at g)
  | str _ =>
    obtain ⟨rfl, _⟩ := r
    cases y with
    | str _ => obtain ⟨rfl, _⟩ := q; exact str_eq
    | non => cases q; rfl
    | bl _ => cases q; rfl
    | int _ => cases q; rfl
    | _ => simp [flatW] at g
  | _ => simp [flatW] at f
theorem all_flat : ∀ {ws : List W} {vs : List V}, reps Γ S H ws vs → ws.all flatW = true → vs.all flatV = true
  | [], _, h, _ => by cases h; rfl
  | w :: ws, _, ⟨v, r, rfl, q, t⟩, h => by
    simp only [List.all_cons, Bool.and_eq_true] at h ⊢
    exact ⟨flat_rep h.1 q, all_flat t h.2⟩
theorem in_rep {x : W} {v : V} (f : flatW x = true) (r : rep Γ S H x v) : ∀ {ws : List W} {vs : List V}, reps Γ S H ws vs → ws.all flatW = true → inV v vs = inW x ws
  | [], _, h, _ => by cases h; rfl
  | w :: ws, _, ⟨u, t, rfl, q, rr⟩, h => by
    simp only [List.all_cons, Bool.and_eq_true] at h
    have ih := in_rep f r rr h.2
    unfold inV inW at ih ⊢
    rw [List.any_cons, List.any_cons, ih, eqv_rep h.1 f q r]
theorem deref_flat {x : W} (f : flatW x = true) : deref S x = x := by cases x <;> first | rfl | (simp [flatW] at f)
theorem in_toDs {x : W} (hx : dataW x = true) : ∀ {ws : List W}, dataWs ws = true → ((toDs ws).any fun y => PyData.eqv y (toD x)) = inW x ws
  | [], _ => rfl
  | w :: ws, h => by
    simp only [dataWs, Bool.and_eq_true] at h
    have ih := in_toDs hx h.2
    unfold inW at ih ⊢
    show (PyData.eqv (toD w) (toD x) || (toDs ws).any fun y => PyData.eqv y (toD x)) = _
    rw [List.any_cons, ih, toD_eqv _ _ h.1 hx]
theorem inC (hK : X.K = Γ.K) (hu : X.A.units + 64 < cLine) {pins : List (Addr × Obj)} {s : Shared} {σ : L2.St} {x y : V} {v u : Value} (I : Inv X pins σ H s) (rx : RelV x v) (ry : RelV y u)
    {a b : W} (ra : rep Γ S H a x) (rb : rep Γ S H b y) (hs : SR Γ S H) (k : KQ Γ S H QW Q) :
    (wIn false a b S QW → wpAny (model X.prog X.w) X.A (compareOp .In v u) (EP X pins σ Q) X.xe s) ∧ (wIn true a b S QW → wpAny (model X.prog X.w) X.A (compareOp .NotIn v u) (EP X pins σ Q) X.xe s) := by
  have u1 : X.A.units + 1 < cLine := by omega
  cases hd : dicOf S b with
  | some p =>
    cases hk : kyOf a with
    | none => refine ⟨fun h => ?_, fun h => ?_⟩ <;> (unfold wIn at h; rw [hd, hk] at h; exact h.elim)
    | some kk =>
      obtain ⟨t, o, rfl, g, g1, g2⟩ := dic_get hd hk rb ra hs
      have eo : o.isSome = (lookD p.1 p.2 kk).isSome := by
        cases e : lookD p.1 p.2 kk with
        | none => rw [g2 e]; rfl
        | some w => obtain ⟨v, rfl, _⟩ := g1 w e; rfl
      refine ⟨fun h => ?_, fun h => ?_⟩
      · unfold wIn at h
        rw [hd, hk] at h
        exact op_dkIn u1 pins s σ H _ _ v u Q I rx ry ⟨t, o, rfl, g, by rw [eo]; exact k.here hs (w := .bl _) rfl h⟩
      · unfold wIn at h
        rw [hd, hk] at h
        exact op_dkNin u1 pins s σ H _ _ v u Q I rx ry ⟨t, o, rfl, g, by rw [eo]; exact k.here hs (w := .bl _) rfl h⟩
  | none =>
    refine ⟨fun h => ?_, fun h => ?_⟩
    all_goals
      unfold wIn at h
      rw [hd] at h
      simp only at h
      split at h
    · rename_i c z
      obtain ⟨rfl, _⟩ := ra
      obtain ⟨rfl, _⟩ := rb
      have q' := k.here hs (w := .bl _) rfl h
      refine op_in_sign pins s σ H _ _ v u Q I rx ry ⟨c, ⟨z.toArray⟩, rfl, rfl, ?_⟩
      simpa using q'
    · split at h
      · rename_i ws e
        obtain ⟨ok, q⟩ := h
        have q' := k.here hs (w := .bl _) rfl q
        unfold inOk at ok
        rw [Bool.or_eq_true] at ok
        rcases ok with ok | ok
        · rw [Bool.and_eq_true] at ok
          obtain ⟨f1, f2⟩ := ok
          obtain ⟨p, vs, rfl, hq, rr⟩ := seq_rep e rb hs
          rw [deref_flat f1] at q'
          refine op_in_seq pins s σ H _ _ v u Q I rx ry ⟨p, vs, rfl, hK ▸ hq, flat_rep f1 ra, all_flat rr f2, ?_⟩
          rw [in_rep f1 ra rr f2]
          simpa using q'
        · simp only [Bool.and_eq_true, decide_eq_true_eq] at ok
          obtain ⟨d1, d2, dp⟩ := ok
          obtain ⟨h1, c1⟩ := deref_dp d1 ra hs
          have room : X.A.units + 1 + min (PyData.depthAll (toDs ws)) (toD (deref S a)).depth < cLine := by rw [toD_dep, toDs_dep]; omega
          have go : ∀ z : W, deref S b = z → dataW z = true → (toD z = .list (toDs ws) ∨ toD z = .tuple (toDs ws)) → PyData.canLayAll0 (toDs ws) = (toD z).canLay0 → wpAny (model X.prog X.w) X.A (compareOp .In v u) (EP X pins σ Q) X.xe s := fun z ez dz tz cz => by
            obtain ⟨h2, c2⟩ := deref_dp (x := b) (by rw [ez]; exact dz) rb hs
            rw [ez] at h2 c2
            rw [← hK] at h1 h2
            obtain ⟨as, r1⟩ := Dp.reads I _ x v h1 rx
            obtain ⟨bs, r2⟩ := Dp.reads I _ y u h2 ry
            rcases tz with tz | tz
            · rw [tz] at r2
              refine SeqAt.in_list_reads r2 r1 (cz.trans c2) c1 room ?_
              rw [in_toDs d1 d2]
              exact ⟨.bl _, H, I, rfl, by simpa using q'⟩
            · rw [tz] at r2
              refine SeqAt.in_tuple_reads r2 r1 (cz.trans c2) c1 room ?_
              rw [in_toDs d1 d2]
              exact ⟨.bl _, H, I, rfl, by simpa using q'⟩
          unfold seqOf at e
          split at e
          · rename_i us ez; cases e; exact go _ ez d2 (.inr rfl) rfl
          · rename_i us ez; cases e; exact go _ ez d2 (.inl rfl) rfl
          · rename_i us ez; cases e; exact go _ ez d2 (.inl rfl) rfl
          · cases e
      · exact h.elim
    · rename_i c z
      obtain ⟨rfl, _⟩ := ra
      obtain ⟨rfl, _⟩ := rb
      have q' := k.here hs (w := .bl _) rfl h
      refine op_notIn_sign pins s σ H _ _ v u Q I rx ry ⟨c, ⟨z.toArray⟩, rfl, rfl, ?_⟩
      simpa using q'
    · split at h
      · rename_i ws e
        obtain ⟨ok, q⟩ := h
        have q' := k.here hs (w := .bl _) rfl q
        unfold inOk at ok
        rw [Bool.or_eq_true] at ok
        rcases ok with ok | ok
        · rw [Bool.and_eq_true] at ok
          obtain ⟨f1, f2⟩ := ok
          obtain ⟨p, vs, rfl, hq, rr⟩ := seq_rep e rb hs
          rw [deref_flat f1] at q'
          refine op_notIn_seq pins s σ H _ _ v u Q I rx ry ⟨p, vs, rfl, hK ▸ hq, flat_rep f1 ra, all_flat rr f2, ?_⟩
          rw [in_rep f1 ra rr f2]
          simpa using q'
        · simp only [Bool.and_eq_true, decide_eq_true_eq] at ok
          obtain ⟨d1, d2, dp⟩ := ok
          obtain ⟨h1, c1⟩ := deref_dp d1 ra hs
          have room : X.A.units + 1 + min (PyData.depthAll (toDs ws)) (toD (deref S a)).depth < cLine := by rw [toD_dep, toDs_dep]; omega
          have go : ∀ z : W, deref S b = z → dataW z = true → (toD z = .list (toDs ws) ∨ toD z = .tuple (toDs ws)) → PyData.canLayAll0 (toDs ws) = (toD z).canLay0 → wpAny (model X.prog X.w) X.A (compareOp .NotIn v u) (EP X pins σ Q) X.xe s := fun z ez dz tz cz => by
            obtain ⟨h2, c2⟩ := deref_dp (x := b) (by rw [ez]; exact dz) rb hs
            rw [ez] at h2 c2
            rw [← hK] at h1 h2
            obtain ⟨as, r1⟩ := Dp.reads I _ x v h1 rx
            obtain ⟨bs, r2⟩ := Dp.reads I _ y u h2 ry
            rcases tz with tz | tz
            · rw [tz] at r2
              refine SeqAt.notIn_list_reads r2 r1 (cz.trans c2) c1 room ?_
              rw [in_toDs d1 d2]
              exact ⟨.bl _, H, I, rfl, by simpa using q'⟩
            · rw [tz] at r2
              refine SeqAt.notIn_tuple_reads r2 r1 (cz.trans c2) c1 room ?_
              rw [in_toDs d1 d2]
              exact ⟨.bl _, H, I, rfl, by simpa using q'⟩
          unfold seqOf at e
          split at e
          · rename_i us ez; cases e; exact go _ ez d2 (.inr rfl) rfl
          · rename_i us ez; cases e; exact go _ ez d2 (.inl rfl) rfl
          · rename_i us ez; cases e; exact go _ ez d2 (.inl rfl) rfl
          · cases e
      · exact h.elim
theorem op_C (hK : X.K = Γ.K) (hu : X.A.units + 64 < cLine) (o : COp) : OpR X (compareOp (copOf o)) (rC Γ o) := by
  intro pins s σ H x y v u Q I rx ry h
  obtain ⟨a, b, S, QW, ra, rb, hs, h, k⟩ := h
  cases o with
  | eq => exact (eqC hK hu I rx ry ra rb hs k).1 h
  | ne => exact (eqC hK hu I rx ry ra rb hs k).2 h
  | lt => exact opI0_of op_lt I rx ry ra rb hs k (g' := fun i j => .bl (decide (i < j))) (fun _ _ => rfl) h
  | le => exact opI0_of op_le I rx ry ra rb hs k (g' := fun i j => .bl (decide (i ≤ j))) (fun _ _ => rfl) h
  | gt => exact opI0_of op_gt I rx ry ra rb hs k (g' := fun i j => .bl (decide (j < i))) (fun _ _ => rfl) h
  | ge => exact opI0_of op_ge I rx ry ra rb hs k (g' := fun i j => .bl (decide (j ≤ i))) (fun _ _ => rfl) h
  | isin => exact (inC hK hu I rx ry ra rb hs k).1 h
  | notin => exact (inC hK hu I rx ry ra rb hs k).2 h
end
end Bw

/-! Ev4: list(reversed(list)), max(list, default=d) at the library's level; then built-ins, subscripts, methods by HandS's rules. -/
namespace Bw
open PySem L2 PySem.Spec PyProof.Rows RT
section
variable {prog : Program} {w : World} {A : Around} {E : Value → Shared → Prop} {s : Shared}
theorem extend_rev {it l : Addr} {items : Array Value} {R : Result → Shared → Prop} (hh : A.handled = none) (hit : s.heap.IsRevIter it l ((items.size : Int) - 1)) (hl : s.heap.IsList l items) (hne : l ≠ it) (hn : items.size ≤ sizeLine)
    (S : Addr) (res : Value) (c₀ : Nat) (hSi : S ≠ it) (hSl : S ≠ l) (hS : s.heap.get? S = some { cls := .type "list", data := .seq #[] c₀ })
    (hR : ∀ h' tk acc' c', (∀ b o, b ≠ it → b ≠ S → s.heap.get? b = some o → h'.get? b = some o) → h'.get? S = some { cls := .type "list", dict := none, data := .seq acc' c', slots := #[] } →
      ItemsOf (fun i v => items[items.size - 1 - i]? = some v) acc' items.size → R (.ok (.ret res)) { s with heap := h', toks := tk }) :
    wpAny (model prog w) A.in1 (Builtin.List.listExtendWith (.ref S) (.ref it) res)
      (fun fin s' => match fin with | .done f => R (.ok f) s' | .again c' => c'.quiet = true ∧ codeAny (model prog w) A c' R s') (fun e s' => R (.error e) s') s := by
  have W := (Walks.listRev (prog := prog) (w := w) (A := A.in1) hh it l hne items).toS
  have hSf : S ∉ [it, l] := by simp only [List.mem_cons, List.not_mem_nil, or_false, not_or]; exact ⟨hSi, hSl⟩
  have hT : s.TypeIs (.ref it) "list_reverseiterator" := hit.typeIs
  have h1 : Builtin.List.listSameRef (.ref S) (.ref it) = false := by simp [Builtin.List.listSameRef, hSi]
  unfold Builtin.List.listExtendWith
  refine wpAny_bind (wpAny_typeOf hT ?_)
  rw [if_neg (by rw [h1]; decide)]
  refine wpAny_bind (wpAny_pyIter_revIter hit ?_)
  refine wpAny_bind (wpAny_holding ?_)
  unfold Builtin.List.listLengthHint
  refine wpAny_bind (wpAny_specialOf hT nolen_lri ?_)
  show wpAny _ A.in1 (specialOf (Value.ref it) (Str.ofString "__length_hint__") >>= _) _ _ _
  refine wpAny_bind (wpAny_specialOf hT hint_lri ?_)
  generalize hid : ("list_reverseiterator.__length_hint__" : String) = id0
  wp_delta
  rw [show splitId id0 = some ("list_reverseiterator", "__length_hint__") from by subst hid; decide +kernel]
  subst hid
  refine wpAny_bind (wpAny_isInstance (b := true) hT (by rw [isSubtype_type]; kernel_rfl) ?_)
  refine wpAny_pure ?_
  rw [if_neg (by decide)]
  have e0 : ((items.size : Nat) : Int) - 1 - ((0 : Nat) : Int) = (items.size : Int) - 1 := by omega
  refine wpAny_pure ⟨plainId_quiet F.plain_extend_loop _, codeAny_extend_loopS W hn _ hSf _ items.size 0 _ _ _ rfl (Nat.zero_le _) ⟨Nat.zero_le _, by rw [e0]; exact hit, hl⟩ hS (ItemsOf.nil _) fun s' acc' c' hm hS' hacc => ?_⟩
  rw [Moved.eq_with hm]
  refine hR s'.heap s'.toks acc' c' (fun b o hb hb2 e => hm.heap b o (fun hmem => ?_) e) hS' hacc
  rcases List.mem_cons.mp hmem with e' | hmem
  · exact hb2 e'
  · exact hb (List.mem_singleton.mp hmem)
theorem call_list_rev {it l : Addr} {items : Array Value} {Q : Value → Shared → Prop} (hh : A.handled = none) (hit : s.heap.IsRevIter it l ((items.size : Int) - 1)) (hl : s.heap.IsList l items) (hne : l ≠ it) (hn : items.size ≤ sizeLine)
    (hQ : ∀ (h' : Heap) (tk : Nat) (acc : Array Value) (c : Nat), (∀ b o, b ≠ it → s.heap.get? b = some o → h'.get? b = some o) → h'.get? s.heap.objs.size = some { cls := .type "list", dict := none, data := .seq acc c, slots := #[] } →
      ItemsOf (fun i v => items[items.size - 1 - i]? = some v) acc items.size → Q (.ref s.heap.objs.size) { s with heap := h', toks := tk }) :
    wpAny (model prog w) A (call (.type "list") [.ref it]) Q E s := by
  obtain ⟨oi, hoi, _⟩ := id hit
  obtain ⟨ol, hol, _⟩ := id hl
  have hSi : s.heap.objs.size ≠ it := Nat.ne_of_gt (Heap.lt_size hoi)
  have hSl : s.heap.objs.size ≠ l := Nat.ne_of_gt (Heap.lt_size hol)
  refine callType_codes (Q₁ := fun obj s₁ => obj = .ref s.heap.objs.size ∧ s₁ = { s with heap := s.heap.push { cls := .type "list", data := .seq #[] } }) F.called_list (F.typeCall_list_1 _) F.entry_list_init
    (code_list_new _ ⟨rfl, rfl⟩) fun obj s₁ h₁ => ?_
  obtain ⟨rfl, rfl⟩ := h₁
  have hS : (s.heap.push { cls := .type "list", data := .seq #[] }).get? s.heap.objs.size = some { cls := .type "list", data := .seq #[] } := Heap.get?_push_size _ rfl
  refine ⟨⟨_, hS, rfl⟩, F.args_list_init_2 _ _, ?_⟩
  show wpAny _ _ (do let old ← Builtin.List.listItems (.ref s.heap.objs.size); Builtin.List.listUpdate (.ref s.heap.objs.size) (fun _ => #[]); letGo old.toList.reverse; Builtin.List.listExtendWith (.ref s.heap.objs.size) (.ref it) .none) _ _ _
  refine wpAny_bind ?_
  unfold Builtin.List.listItems
  refine wpAny_bind (wpAny_seqItems hS rfl (wpAny_pure ?_))
  show wpAny _ _ (updateSeq s.heap.objs.size (fun _ => #[]) >>= fun _ => letGo (#[] : Array Value).toList.reverse >>= fun _ => Builtin.List.listExtendWith (.ref s.heap.objs.size) (.ref it) .none) _ _ _
  refine wpAny_bind (wpAny_updateSeq hS rfl ?_)
  have hS₂ := Heap.get?_update_self (Obj.mapSeq (fun _ => (#[] : Array Value))) hS rfl
  have oth : ∀ b o, b ≠ s.heap.objs.size → s.heap.get? b = some o → ((s.heap.push { cls := .type "list", data := .seq #[] }).update s.heap.objs.size (Obj.mapSeq (fun _ => (#[] : Array Value)))).get? b = some o :=
    fun b o hb e => (Heap.get?_update_other _ _ (Ne.symm hb)).trans (Heap.get?_push_of_some _ e)
  refine wpAny_bind (wpAny_letGo ?_)
  have hit2 : ((s.heap.push { cls := .type "list", data := .seq #[] }).update s.heap.objs.size (Obj.mapSeq (fun _ => (#[] : Array Value)))).IsRevIter it l ((items.size : Int) - 1) := hit.at fun o e => oth it o (Ne.symm hSi) e
  have hl2 : ((s.heap.push { cls := .type "list", data := .seq #[] }).update s.heap.objs.size (Obj.mapSeq (fun _ => (#[] : Array Value)))).IsList l items := by
    obtain ⟨o, ho, hc⟩ := hl
    exact ⟨o, oth l o (Ne.symm hSl) ho, hc⟩
  refine extend_rev (A := A.in1) (s := { s with heap := (s.heap.push { cls := .type "list", data := .seq #[] }).update s.heap.objs.size (Obj.mapSeq (fun _ => (#[] : Array Value))) }) hh hit2 hl2 hne hn s.heap.objs.size .none _ hSi hSl hS₂ fun h' tk acc' c' hk hS' hacc => ?_
  exact ⟨rfl, hQ h' tk acc' c' (fun b o hb e => hk b o hb (Nat.ne_of_lt (Heap.lt_size e)) (oth b o (Nat.ne_of_lt (Heap.lt_size e)) e)) hS' hacc⟩
end
section
variable {X : Cx}
/-- list(reversed(x)), x a list: a new list -/
def tLstRev (K : PySem.W.Frag) (te : TE) : TE := fun σ H Q => te σ H fun v H1 => ∃ (a : Addr) (xs : List V), v = .ref a ∧ SqL K H1 a xs ∧ ∀ q, H1 q = none → Q (.ref q) (upd H1 q (.lst xs.reverse))
theorem pe_lstRev {e : Expr} {te : TE} {p p2 pos pos2 : Pos} (hc : X.calm = true) (hg : Gl X "list") (hm : X.mg "list" = none) (hg2 : Gl X "reversed") (hm2 : X.mg "reversed" = none) (he : PE X e te)
    (hs : starEach [e] X.env = (false, eval e X.env) :: starEach [] X.env)
    (hs2 : starEach [.Call (.Name "reversed" p2) [e] [] pos2] X.env = (false, eval (.Call (.Name "reversed" p2) [e] [] pos2) X.env) :: starEach [] X.env := by rfl) :
    PE X (.Call (.Name "list" p) [.Call (.Name "reversed" p2) [e] [] pos2] [] pos) (tLstRev X.K te) := by
  refine ⟨fun pins s σ H Q I h => ?_⟩
  refine Call_ (ld_blt I hg hm boot_list (PyProof.Rows.callWith_type1 (args_cons (Call_ (ld_blt I hg2 hm2 PyProof.Rows.boot_reversed (PyProof.Rows.callWith_type1 (args_cons (thn (he.run pins s σ H _ I h) fun u s1 ⟨v, H1, I1, r1, q1⟩ => args_nil ?_) hs) hs rfl))) hs2) hs2 rfl))
  obtain ⟨a, xs, ev, hq, q⟩ := q1
  subst ev
  obtain rfl : u = Value.ref a := r1
  obtain ⟨its, rv, p', hz⟩ := I1.list hq
  refine call_reversed_list p'.isList (args_nil ?_)
  have k0 : ∀ b o, s1.heap.get? b = some o → (s1.heap.push (revObj a ((its.toArray.size : Int) - 1))).get? b = some o := fun b o e => Heap.get?_push_of_some _ e
  have I2 : Inv X pins σ H1 { s1 with heap := s1.heap.push (revObj a ((its.toArray.size : Int) - 1)) } := I1.kept (t' := s1.toks) k0
  obtain ⟨f0, f1, f2, f3, f4, f5⟩ := I1.fpOk (H' := H1) (b := s1.heap.objs.size) (Nat.le_refl _) (I1.hok.fresh (Nat.le_refl _))
  have hl := p'.isList
  obtain ⟨ol, hol, _⟩ := id hl
  have hne : a ≠ s1.heap.objs.size := Nat.ne_of_lt (Heap.lt_size hol)
  have hn : its.toArray.size ≤ sizeLine := by rw [List.size_toArray, ← rv.length]; exact hz
  refine call_list_rev (s := { s1 with heap := s1.heap.push (revObj a ((its.toArray.size : Int) - 1)) }) (I1.ok.hd hc) ⟨_, Heap.get?_push_size _ rfl, rfl, rfl⟩ (hl.push _) hne hn fun h' tk acc c hk hS hi => ?_
  generalize hD : (s1.heap.push (revObj a ((its.toArray.size : Int) - 1))).objs.size = D at hS ⊢
  have hfr : H1 D = none := by rw [← hD]; exact I2.hok.fresh (Nat.le_refl _)
  have I3 : Inv X pins σ H1 { s1 with heap := h', toks := tk } := I2.turned (t' := tk) (fun b o hb e => hk b o hb e) f0 f1 f3 f4 f5
  refine ⟨.ref D, upd H1 D (.lst xs.reverse), ?_, rfl, q _ hfr⟩
  have hx : ObjOk X.prog X.w (upd H1 D (.lst xs.reverse)) h' D (.lst xs.reverse) := ⟨by rw [List.length_reverse]; exact hz, acc.toList, c, vals_rev rv hi, by rw [Array.toArray_toList]; exact hS⟩
  have nD : D ≠ s1.heap.objs.size := by rw [← hD, Heap.size_push]; exact Nat.ne_of_gt (Nat.lt_succ_self _)
  have bD : ∀ b o, (s1.heap.push (revObj a ((its.toArray.size : Int) - 1))).get? b = some o → b ≠ D := fun b o e z => by subst z; rw [← hD] at e; exact absurd (Heap.lt_size e) (Nat.lt_irrefl _)
  refine I2.step (H' := upd H1 D (.lst xs.reverse)) (g' := s1.gens) (d' := s1.drawn) (t' := tk) (ch := [s1.heap.objs.size]) (fun b hb => ?_) (fun b o _ _ hc e _ => hk b o (fun z => hc (by simp [z])) e) (fun b o _ _ hc e _ => ⟨o.slots, hk b o (fun z => hc (by simp [z])) e⟩)
    (fun b o _ e n => by rw [upd_ne (bD b o e)]; exact n) (fun b o hc e => ⟨o, hk b o (fun z => hc (by simp [z])) e⟩) (fun b ys e => ?_) (fun b o u e => ?_) (fun b ps e => ⟨#[], ?_⟩) (fun m hm => ?_) (fun b u e => ?_) I2.bare
  · have e : b = s1.heap.objs.size := by simpa using hb
    subst e
    exact ⟨f3, f1, f4, f5⟩
  · rw [upd_ne (ne_of_none e hfr)]; exact e
  · rw [upd_ne (ne_of_none e hfr)]; exact e
  · rw [upd_ne (ne_of_none e hfr)]; rw [e]; simp
  · obtain ⟨o, es, ep, ho, r⟩ := hm
    exact ⟨o, es, ep, hk _ o (Ne.symm f1) ho, r⟩
  · by_cases hb : b = D
    · subst hb
      rw [upd_same] at e
      cases e
      exact hx
    · rw [upd_ne hb] at e
      have nit : ∀ c v, H1 c = some v → c ≠ s1.heap.objs.size := fun c v e z => by rw [z, f0] at e; cases e
      refine (I2.hok b u e).stay (fun c v hc q => hk c v ?_ q) (fun c q => by rw [upd_ne (ne_of_none q hfr)]; exact q) fun c ys q => by rw [upd_ne (ne_of_none q hfr)]; exact q
      rcases hc with z | z
      · rw [z]; exact nit b u e
      · exact nit c _ z
end
end Bw

/-! Ev5: built-ins, subscripts, methods by HandS's rules. -/
namespace Bw
open PySem L2 PySem.Spec PyProof.Rows
section
variable {X : Cx} {Γ : Gm} {S : Sto} {H : Hp} {QW : VQ} {Q : VK}

theorem reps.l1 {x : W} {vs : List V} (h : reps Γ S H [x] vs) : ∃ v, vs = [v] ∧ rep Γ S H x v := by
  obtain ⟨v, r, rfl, q, t⟩ := h
  cases t
  exact ⟨v, rfl, q⟩
theorem reps.l2 {x y : W} {vs : List V} (h : reps Γ S H [x, y] vs) : ∃ v u, vs = [v, u] ∧ rep Γ S H x v ∧ rep Γ S H y u := by
  obtain ⟨v, r, rfl, q, t⟩ := h
  obtain ⟨u, rfl, q2⟩ := reps.l1 t
  exact ⟨v, u, rfl, q, q2⟩
theorem ints_rep : ∀ {ws : List W} {vs : List V} {ns : List Int}, intsOf ws = some ns → reps Γ S H ws vs → vs = ns.map V.int
  | [], _, _, e, h => by cases e; cases h; rfl
  | w :: ws, _, ns, e, ⟨v, r, rfl, q, t⟩ => by
    cases w with
    | int i =>
      simp only [intsOf] at e
      cases hq : intsOf ws with
      | none => rw [hq] at e; cases e
      | some ms =>
        rw [hq] at e
        cases e
        cases q
        rw [ints_rep hq t]
        rfl
    | _ => simp [intsOf] at e
theorem bls_rep : ∀ {ws : List W} {vs : List V} {bs : List Bool}, blsOf ws = some bs → reps Γ S H ws vs → vs = bs.map V.bl
  | [], _, _, e, h => by cases e; cases h; rfl
  | w :: ws, _, bs, e, ⟨v, r, rfl, q, t⟩ => by
    cases w with
    | bl i =>
      simp only [blsOf] at e
      cases hq : blsOf ws with
      | none => rw [hq] at e; cases e
      | some ms =>
        rw [hq] at e
        cases e
        cases q
        rw [bls_rep hq t]
        rfl
    | _ => simp [blsOf] at e
theorem lstInts {x : W} {v : V} {ns : List Int} (h : (lstOf S x).bind intsOf = some ns) (r : rep Γ S H x v) (s : SR Γ S H) : ∃ p, v = .ref p ∧ H p = some (.lst (ns.map V.int)) := by
  cases q : lstOf S x with
  | none => rw [q] at h; cases h
  | some ws =>
    rw [q] at h
    obtain ⟨p, vs, rfl, h1, h2⟩ := lst_rep q r s
    rw [ints_rep h h2] at h1
    exact ⟨p, rfl, h1⟩
theorem lstBls {x : W} {v : V} {bs : List Bool} (h : (lstOf S x).bind blsOf = some bs) (r : rep Γ S H x v) (s : SR Γ S H) : ∃ p, v = .ref p ∧ H p = some (.lst (bs.map V.bl)) := by
  cases q : lstOf S x with
  | none => rw [q] at h; cases h
  | some ws =>
    rw [q] at h
    obtain ⟨p, vs, rfl, h1, h2⟩ := lst_rep q r s
    rw [bls_rep h h2] at h1
    exact ⟨p, rfl, h1⟩
theorem maxL_mem : ∀ (ns : List Int), 0 < ns.length → maxL ns ∈ ns ∧ ∀ y ∈ ns, y ≤ maxL ns
  | [], h => by simp at h
  | [i], _ => by simp [maxL]
  | i :: j :: r, _ => by
    obtain ⟨h1, h2⟩ := maxL_mem (j :: r) (by simp)
    have e : maxL (i :: j :: r) = max i (maxL (j :: r)) := rfl
    rw [e]
    refine ⟨?_, fun y hy => ?_⟩
    · by_cases hc : i ≤ maxL (j :: r)
      · rw [Int.max_eq_right hc]; exact List.mem_cons_of_mem _ h1
      · rw [Int.max_eq_left (by omega)]; exact List.mem_cons_self
    · rcases List.mem_cons.mp hy with rfl | hy
      · exact Int.le_max_left _ _
      · exact Int.le_trans (h2 y hy) (Int.le_max_right _ _)
theorem minL_mem : ∀ (ns : List Int), 0 < ns.length → minL ns ∈ ns ∧ ∀ y ∈ ns, minL ns ≤ y
  | [], h => by simp at h
  | [i], _ => by simp [minL]
  | i :: j :: r, _ => by
    obtain ⟨h1, h2⟩ := minL_mem (j :: r) (by simp)
    have e : minL (i :: j :: r) = min i (minL (j :: r)) := rfl
    rw [e]
    refine ⟨?_, fun y hy => ?_⟩
    · by_cases hc : i ≤ minL (j :: r)
      · rw [Int.min_eq_left hc]; exact List.mem_cons_self
      · rw [Int.min_eq_right (by omega)]; exact List.mem_cons_of_mem _ h1
    · rcases List.mem_cons.mp hy with rfl | hy
      · exact Int.min_le_left _ _
      · exact Int.le_trans (Int.min_le_right _ _) (h2 y hy)
theorem maxL_uniq {ns : List Int} {m : Int} (h1 : m ∈ ns) (h2 : ∀ y ∈ ns, y ≤ m) : m = maxL ns := by
  have hp : 0 < ns.length := List.length_pos_of_mem h1
  obtain ⟨q1, q2⟩ := maxL_mem ns hp
  have a := q2 m h1
  have b := h2 _ q1
  omega
theorem minL_uniq {ns : List Int} {m : Int} (h1 : m ∈ ns) (h2 : ∀ y ∈ ns, m ≤ y) : m = minL ns := by
  have hp : 0 < ns.length := List.length_pos_of_mem h1
  obtain ⟨q1, q2⟩ := minL_mem ns hp
  have a := q2 m h1
  have b := h2 _ q1
  omega

theorem w1_el {ws : List W} {P : W → Prop} (h : w1 ws P) : ∃ x, ws = [x] ∧ P x := by
  unfold w1 at h
  split at h
  · exact ⟨_, rfl, h⟩
  · exact h.elim
theorem wSome_el {α : Type} {o : Option α} {P : α → Prop} (h : wSome o P) : ∃ x, o = some x ∧ P x := by
  unfold wSome at h
  split at h
  · exact ⟨_, rfl, h⟩
  · exact h.elim
theorem wB_el {x : W} {t f : Prop} (h : wB x t f) : (x = .bl true ∧ t) ∨ (x = .bl false ∧ f) := by
  unfold wB at h
  split at h
  · exact .inl ⟨rfl, h⟩
  · exact .inr ⟨rfl, h⟩
  · exact h.elim
theorem wNot_el {x : W} {P : Bool → Prop} (h : wNot x P) : ∃ b, x = .bl b ∧ P (!b) := by
  unfold wNot at h
  split at h
  · exact ⟨_, rfl, h⟩
  · exact h.elim
theorem wWalk_el {o : Option (List W × Lk)} {P : List W → Lk → Prop} (h : wWalk o P) : ∃ p, o = some p ∧ P p.1 p.2 := by
  unfold wWalk at h
  split at h
  · exact ⟨_, rfl, h⟩
  · exact h.elim
theorem wVar_el {o : Option (Option W)} {P : W → Prop} (h : wVar o P) : ∃ w, o = some (some w) ∧ P w := by
  unfold wVar at h
  split at h
  · exact ⟨_, rfl, h⟩
  · exact h.elim
theorem wI1_el {x : W} {P : Int → Prop} (h : wI1 x P) : ∃ i, x = .int i ∧ P i := by
  unfold wI1 at h
  split at h
  · exact ⟨_, rfl, h⟩
  · exact h.elim
theorem wInts3_el {ws : List W} {P : Int → Int → Int → Prop} (h : wInts3 ws P) : ∃ i j k, ws = [.int i, .int j, .int k] ∧ P i j k := by
  unfold wInts3 at h
  split at h
  · exact ⟨_, _, _, rfl, h⟩
  · exact h.elim
theorem wInts2_el {ws : List W} {P : Int → Int → Prop} (h : wInts2 ws P) : ∃ i j, ws = [.int i, .int j] ∧ P i j := by
  unfold wInts2 at h
  split at h
  · exact ⟨_, _, rfl, h⟩
  · exact h.elim
/-- a list, or the tuple itself -/
theorem seq_rep2 {x : W} {v : V} {ws : List W} (h : seqOf S x = some ws) (r : rep Γ S H x v) (s : SR Γ S H) :
    (∃ p vs, v = .ref p ∧ SqL Γ.K H p vs ∧ reps Γ S H ws vs) ∨ (x = .tup ws ∧ ∃ p vs, v = .ref p ∧ SqT Γ.K H p vs ∧ reps Γ S H ws vs) := by
  unfold seqOf at h
  cases x with
  | tup ws' =>
    simp only [deref] at h
    cases h
    obtain ⟨a, vs, e, q, t⟩ := r
    exact .inr ⟨rfl, a, vs, e, q.sq, t⟩
  | sc ws' =>
    simp only [deref] at h
    cases h
    obtain ⟨a, vs, e, q, t⟩ := r
    exact .inl ⟨a, vs, e, q.sq, t⟩
  | rl ws' =>
    simp only [deref] at h
    cases h
    obtain ⟨a, vs, e, q, t⟩ := r
    exact .inl ⟨a, vs, e, q.sq, t⟩
  | ref a =>
    rw [deref_ref] at h
    cases q : S a with
    | none => rw [q] at h; simp at h
    | some o =>
      cases o with
      | lst us =>
        rw [q] at h
        simp at h
        subst h
        obtain ⟨vs, h1, h2⟩ := s a _ q
        exact .inl ⟨a, vs, r, .inl (.inl h1), h2⟩
      | dic _ _ => rw [q] at h; simp at h
      | ins _ _ _ => rw [q] at h; simp at h
      | hid => rw [q] at h; simp at h
  | _ => simp [deref] at h

/-! ### built-in functions -/
theorem str_of (s : String) : Str.ofString s = ⟨(s.toList.map Char.toNat).toArray⟩ := by
  unfold Str.ofString
  rw [cpsOfBytes_string]
theorem okStr_map (l : List Char) : okStr (l.map Char.toNat) = true := by
  unfold okStr
  rw [List.all_eq_true]
  intro n hn
  obtain ⟨c, _, rfl⟩ := List.mem_map.mp hn
  have h := c.valid
  simp only [UInt32.isValidChar, Nat.isValidChar] at h
  have : c.toNat = c.val.toNat := rfl
  simp
  omega
def fnB : Bi → Value
  | .len => .builtin "len"
  | .int1 => .type "int"
  | .str1 => .type "str"
  | .abs => .builtin "abs"
  | .max2 => .builtin "max"
  | .max3 => .builtin "max"
  | .min2 => .builtin "min"
  | .max1 => .builtin "max"
  | .min1 => .builtin "min"
  | .sum1 => .builtin "sum"
  | .all1 => .builtin "all"
  | .any1 => .builtin "any"
  | .tuple1 => .type "tuple"
  | .list1 _ => .type "list"
  | .maxd => .none
  | .listrev _ => .none
  | .lenset => .none
  | .dict1 => .type "dict"
  | .ord1 => .builtin "ord"
def rBi (Γ : Gm) (b : Bi) : List V → Hp → VK → Prop := fun vs H Q => ∃ ws S QW, reps Γ S H ws vs ∧ SR Γ S H ∧ wBi b ws S QW ∧ KQ Γ S H QW Q
theorem wLen_n {x : W} (n : ∀ z, x ≠ .str z) : wLen x S QW = (match dicOf S x with
    | some p => QW (.int p.1.length) S
    | none => wSome (seqOf S x) fun ws => QW (.int ws.length) S) := by
  cases x with
  | str z => exact absurd rfl (n z)
  | _ => rfl
/-- the length of a dict -/
theorem call_len_dic : CallR X (.builtin "len") (fun xs H Q => ∃ (p : Addr) (kvs : List (Key × V)), xs = [.ref p] ∧ H p = some (.dK kvs) ∧ Q (.int kvs.length) H) := by
  intro pins s σ H xs us Q I r h
  obtain ⟨p, kvs, rfl, hd, q⟩ := h
  obtain ⟨u, rfl, rx⟩ := vals1 r
  cases rx
  have hn := line63
  obtain ⟨z, ne, vs, kv, hm⟩ := dk_of I.hok hd
  have hlen := kv.length
  exact call_len_dict ne hm (by omega) ⟨.int kvs.length, H, I.tok _, ⟨s.toks + 1, by rw [hlen]⟩, q⟩
/-- what may be called while an exception is handled -/
def coolB : Bi → Bool
  | .str1 => true
  | .len => true
  | _ => false
theorem call_Bi (hK : X.K = Γ.K) (b : Bi) (hc : coolB b = false → X.calm = true) (hb : fnB b ≠ .none) : CallR X (fnB b) (rBi Γ b) := by
  intro pins s σ H vs us Q I r h
  obtain ⟨ws, S, QW, rr, hs, h, k⟩ := h
  cases b with
  | len =>
    obtain ⟨x, rfl, h⟩ := w1_el h
    obtain ⟨v, rfl, rv⟩ := rr.l1
    replace h : wLen x S QW := h
    have gen : (∀ z, x ≠ .str z) → wpAny (model X.prog X.w) X.A (call (.builtin "len") us) (EP X pins σ Q) X.xe s := fun n => by
      cases ed : dicOf S x with
      | some p =>
        rw [wLen_n n, ed] at h
        have h2 : QW (.int p.1.length) S := h
        obtain ⟨a, vs, rfl, ha, hl, rr⟩ := dic_rep ed rv hs
        refine call_len_dic pins s σ H _ us Q I r ⟨a, _, rfl, ha, ?_⟩
        rw [dkz_len (hl.trans rr.len)]
        exact k.here hs (w := .int _) rfl h2
      | none =>
      rw [wLen_n n, ed] at h
      have h2 : wSome (seqOf S x) fun ws => QW (.int ws.length) S := h
      obtain ⟨ws, e, h⟩ := wSome_el h2
      obtain ⟨p, vs, rfl, hq, rr⟩ := seq_rep e rv hs
      refine call_len_seq pins s σ H _ us Q I r ⟨p, vs, rfl, hK ▸ hq, ?_⟩
      rw [← rr.len]
      exact k.here hs (w := .int _) rfl h
    cases x with
    | str z =>
      obtain ⟨rfl, _⟩ := rv
      refine call_len_str pins s σ H _ us Q I r ⟨⟨z.toArray⟩, rfl, by rw [str_len]; exact h.1, ?_⟩
      rw [str_len]
      exact k.here hs (w := .int _) rfl h.2
    | _ => exact gen (fun z e => by cases e)
  | int1 =>
    obtain ⟨x, rfl, h⟩ := w1_el h
    obtain ⟨v, rfl, rv⟩ := rr.l1
    replace h : wIntOf x S QW := h
    unfold wIntOf at h
    split at h
    · cases rv
      exact call_int1 pins s σ H _ us Q I r (.inl ⟨_, rfl, k.here hs (w := .int _) rfl h⟩)
    · cases rv
      exact call_int1 pins s σ H _ us Q I r (.inr ⟨_, rfl, k.here hs (w := .int _) rfl h⟩)
    · exact h.elim
  | ord1 =>
    obtain ⟨x, rfl, h⟩ := w1_el h
    obtain ⟨v, rfl, rv⟩ := rr.l1
    replace h : wOrd x S QW := h
    cases x with
    | str z =>
      cases z with
      | nil => exact h.elim
      | cons c t =>
        cases t with
        | cons _ _ => exact h.elim
        | nil =>
          obtain ⟨rfl, _⟩ := rv
          exact call_ord pins s σ H _ us Q I r ⟨⟨[c].toArray⟩, rfl, rfl, k.here hs (w := .int _) rfl h⟩
    | _ => exact h.elim
  | str1 =>
    obtain ⟨x, rfl, h⟩ := w1_el h
    obtain ⟨v, rfl, rv⟩ := rr.l1
    obtain ⟨i, rfl, h⟩ := wI1_el h
    cases rv
    refine call_str_int pins s σ H _ us Q I r ⟨_, rfl, h.1, ?_⟩
    refine k.here hs (w := .str _) ⟨?_, okStr_map _⟩ h.2
    exact congrArg V.str (str_of _)
  | abs =>
    obtain ⟨x, rfl, h⟩ := w1_el h
    obtain ⟨v, rfl, rv⟩ := rr.l1
    obtain ⟨i, rfl, h⟩ := wI1_el h
    cases rv
    exact call_abs pins s σ H _ us Q I r ⟨_, rfl, k.here hs (w := .int _) rfl h⟩
  | max2 =>
    obtain ⟨i, j, rfl, h⟩ := wInts2_el h
    obtain ⟨v, u, rfl, rv, ru⟩ := rr.l2
    cases rv
    cases ru
    refine call_max2 (hc rfl) pins s σ H _ us Q I r ⟨_, _, rfl, ?_⟩
    have e : (if j > i then j else i) = max i j := by omega
    rw [e]
    exact k.here hs (w := .int _) rfl h
  | max3 =>
    obtain ⟨i, j, l, rfl, h⟩ := wInts3_el h
    obtain ⟨v, r1, rfl, rv, rr⟩ := rr
    obtain ⟨u, t, rfl, ru, rt⟩ := rr.l2
    cases rv
    cases ru
    cases rt
    refine call_max3Nu (hc rfl) pins s σ H _ us Q I r ⟨_, _, _, .int (max (max i j) l), rfl, ?_, k.here hs (w := .int _) rfl h⟩
    have m2 : ∀ a b : Int, nuMax2 (.int a) (.int b) = some (.int (max a b)) := fun a b => by
      show some (if decide (a < b) = true then V.int b else V.int a) = _
      by_cases e : a < b
      · rw [decide_eq_true e, if_pos rfl, Int.max_eq_right (by omega)]
      · rw [decide_eq_false e, if_neg (by simp), Int.max_eq_left (by omega)]
    show (nuMax2 (.int i) (.int j)).bind _ = _
    rw [m2]
    exact m2 _ _
  | min2 =>
    obtain ⟨i, j, rfl, h⟩ := wInts2_el h
    obtain ⟨v, u, rfl, rv, ru⟩ := rr.l2
    cases rv
    cases ru
    refine call_min2 (hc rfl) pins s σ H _ us Q I r ⟨_, _, rfl, ?_⟩
    have e : (if j < i then j else i) = min i j := by omega
    rw [e]
    exact k.here hs (w := .int _) rfl h
  | max1 =>
    obtain ⟨x, rfl, h⟩ := w1_el h
    obtain ⟨v, rfl, rv⟩ := rr.l1
    obtain ⟨ns, e, h⟩ := wSome_el h
    obtain ⟨p, rfl, h1⟩ := lstInts e rv hs
    refine cr_max (hc rfl) pins s σ H _ us Q I r ⟨p, ns, rfl, SqL.of h1, h.1, fun m m1 m2 => ?_⟩
    rw [maxL_uniq m1 m2]
    exact k.here hs (w := .int _) rfl h.2
  | min1 =>
    obtain ⟨x, rfl, h⟩ := w1_el h
    obtain ⟨v, rfl, rv⟩ := rr.l1
    obtain ⟨ns, e, h⟩ := wSome_el h
    obtain ⟨p, rfl, h1⟩ := lstInts e rv hs
    refine cr_min (hc rfl) pins s σ H _ us Q I r ⟨p, ns, rfl, SqL.of h1, h.1, fun m m1 m2 => ?_⟩
    rw [minL_uniq m1 m2]
    exact k.here hs (w := .int _) rfl h.2
  | sum1 =>
    obtain ⟨x, rfl, h⟩ := w1_el h
    obtain ⟨v, rfl, rv⟩ := rr.l1
    obtain ⟨ns, e, h⟩ := wSome_el h
    obtain ⟨p, rfl, h1⟩ := lstInts e rv hs
    exact cr_sum (hc rfl) pins s σ H _ us Q I r ⟨p, ns, rfl, SqL.of h1, k.here hs (w := .int _) rfl h⟩
  | all1 =>
    obtain ⟨x, rfl, h⟩ := w1_el h
    obtain ⟨v, rfl, rv⟩ := rr.l1
    obtain ⟨ns, e, h⟩ := wSome_el h
    obtain ⟨p, rfl, h1⟩ := lstBls e rv hs
    exact cr_all (hc rfl) pins s σ H _ us Q I r ⟨p, ns, rfl, SqL.of h1, k.here hs (w := .bl _) rfl h⟩
  | any1 =>
    obtain ⟨x, rfl, h⟩ := w1_el h
    obtain ⟨v, rfl, rv⟩ := rr.l1
    obtain ⟨ns, e, h⟩ := wSome_el h
    obtain ⟨p, rfl, h1⟩ := lstBls e rv hs
    exact cr_any (hc rfl) pins s σ H _ us Q I r ⟨p, ns, rfl, SqL.of h1, k.here hs (w := .bl _) rfl h⟩
  | tuple1 =>
    obtain ⟨x, rfl, h⟩ := w1_el h
    obtain ⟨v, rfl, rv⟩ := rr.l1
    obtain ⟨ws, e, h⟩ := wSome_el h
    rcases seq_rep2 e rv hs with ⟨p, vs, rfl, hq, rw1⟩ | ⟨rfl, p, vs, rfl, hq, rw1⟩
    · exact call_tuple_of pins s σ H _ us Q I r ⟨p, vs, rfl, .inl ⟨hK ▸ hq, tup_ok h rw1 hs k⟩⟩
    · exact call_tuple_of pins s σ H _ us Q I r ⟨p, vs, rfl, .inr ⟨hK ▸ hq, k.here hs (w := .tup _) rv h⟩⟩
  | list1 fz =>
    obtain ⟨x, rfl, h⟩ := w1_el h
    obtain ⟨v, rfl, rv⟩ := rr.l1
    obtain ⟨ws, e, h⟩ := wSome_el h
    obtain ⟨p, vs, rfl, hq, rw1⟩ := seq_rep e rv hs
    exact call_list_of pins s σ H _ us Q I r ⟨p, vs, rfl, hK ▸ hq, mkL_ok h rw1 hs k⟩
  | maxd => exact absurd rfl hb
  | listrev _ => exact absurd rfl hb
  | lenset => exact absurd rfl hb
  | dict1 =>
    obtain ⟨x, rfl, h⟩ := w1_el h
    obtain ⟨v, rfl, rv⟩ := rr.l1
    obtain ⟨p, e, h⟩ := wSome_el h
    obtain ⟨a, vs, rfl, hh, hl, rr2⟩ := dic_rep e rv hs
    refine call_dictD pins s σ H _ us Q I r ⟨a, _, rfl, .inl hh, fun q hq => ?_⟩
    exact k (.ref q) (S.set q (.dic p.1 p.2)) (.ref q) _ rfl (orep.new (u := .dic p.1 p.2) hs hq ⟨vs, upd_same, hl, reps.fr (Fr.newS hq) _ _ rr2⟩) (Fr.newS hq) (h q (hs.nil hq))

/-! ### isinstance -/
def tyN : Ty → String
  | .int => "int"
  | .bool => "bool"
  | .str => "str"
  | .tuple => "tuple"
  | .list => "list"
  | .dict => "dict"
theorem isi_ty {t : Ty} {x : W} {v : V} {b : Bool} (h : isiW t S x = some b) (r : rep Γ S H x v) (s : SR Γ S H) : ∃ T, TyX Γ.K H v T ∧ PySem.W.kitOne Γ.K T (.type (tyN t)) = some b := by
  unfold isiW at h
  have kl : ∀ (t : Ty), kitB "list" (tyN t) = some (t == .list) := fun t => by cases t <;> decide +kernel
  have kd : ∀ (t : Ty), kitB "dict" (tyN t) = some (t == .dict) := fun t => by cases t <;> decide +kernel
  have ki : ∀ {C : Addr} (_ : InsC Γ.K C) (t : Ty), PySem.W.kitOne Γ.K (.ref C) (.type (tyN t)) = some false := fun k t => k.kt _ (by cases t <;> simp [tyN, tyAll])
  have kt : ∀ (t : Ty), kitB "tuple" (tyN t) = some (t == .tuple) := fun t => by cases t <;> decide +kernel
  cases x with
  | non => cases r; cases h; exact ⟨_, .base .non, kit_ty (by cases t <;> decide +kernel)⟩
  | bl y => cases r; cases h; exact ⟨_, .base (.bl y), kit_ty (by cases t <;> decide +kernel)⟩
  | int y => cases r; cases h; exact ⟨_, .base (.int y), kit_ty (by cases t <;> decide +kernel)⟩
  | str y => obtain ⟨rfl, _⟩ := r; cases h; exact ⟨_, .base (.str _), kit_ty (by cases t <;> decide +kernel)⟩
  | tup ws =>
    obtain ⟨a, vs, rfl, q, _⟩ := r
    cases h
    rcases q with ⟨_, q | ⟨o, q⟩⟩ | ⟨o, its, n, q1, q2, _⟩
    · exact ⟨_, .base (.tup q), kit_ty (kt t)⟩
    · exact ⟨_, .fTuple q, kit_ty (kt t)⟩
    · exact ⟨_, .kTuple q1 q2, kit_ty (kt t)⟩
  | rl ws =>
    obtain ⟨a, vs, rfl, q, _⟩ := r
    cases h
    exact ⟨_, .base (.lst q.2), kit_ty (kl t)⟩
  | sc ws =>
    obtain ⟨a, vs, rfl, q, _⟩ := r
    cases h
    rcases q with ⟨_, q | ⟨o, q⟩⟩ | ⟨o, its, n, q1, q2, _⟩
    · exact ⟨_, .base (.lst q), kit_ty (kl t)⟩
    · exact ⟨_, .base (.frz q), kit_ty (kl t)⟩
    · exact ⟨_, .kList q1 q2, kit_ty (kl t)⟩
  | ref a =>
    cases r
    rw [deref_ref] at h
    cases q : S a with
    | none => simp only [q] at h; cases h
    | some o =>
      cases o with
      | lst us =>
        rw [q] at h
        cases h
        obtain ⟨vs, h1, _⟩ := s a _ q
        exact ⟨_, .base (.lst h1), kit_ty (kl t)⟩
      | dic _ _ =>
        simp only [q] at h
        cases h
        obtain ⟨vs, h1, _⟩ := s a _ q
        exact ⟨_, .base (.dK h1), kit_ty (kd t)⟩
      | ins _ _ _ =>
        simp only [q] at h
        cases h
        obtain ⟨dx, vs, h1, ⟨_, k, _⟩, _⟩ := s a _ q
        exact ⟨_, .base (.ins h1 k.cl k.ha k.hn k.ht k.hm), ki k t⟩
      | hid => simp only [q] at h; cases h
  | fn _ => cases h
  | dct _ _ =>
    obtain ⟨a, vs, rfl, q, _⟩ := r
    cases h
    exact ⟨_, .base (.dK q.2), kit_ty (kd t)⟩
  | obj _ _ _ =>
    obtain ⟨a, dx, vs, rfl, q, ⟨_, k, _⟩, _⟩ := r
    cases h
    exact ⟨_, .base (.ins q.2 k.cl k.ha k.hn k.ht k.hm), ki k t⟩
  | exn _ _ _ => cases h

/-! ### subscripts -/
theorem at_rep {ws : List W} {vs : List V} {i : Int} {w : W} (h : atW ws i = some w) (r : reps Γ S H ws vs) : ∃ v, atI vs i = some v ∧ rep Γ S H w v := by
  unfold atW at h
  have e : ixW ws.length i = ixN vs.length i := by rw [r.len]; rfl
  unfold atI
  rw [e] at h
  cases q : ixN vs.length i with
  | none => rw [q] at h; cases h
  | some j =>
    rw [q] at h
    obtain ⟨v, h1, h2⟩ := r.get (i := j) h
    exact ⟨v, h1, h2⟩
def rIxW (Γ : Gm) : R2 := fun v u H Q => ∃ x y S QW, rep Γ S H x v ∧ rep Γ S H y u ∧ SR Γ S H ∧ wIdx x y S QW ∧ KQ Γ S H QW Q
theorem ix_W (hK : X.K = Γ.K) (hu : X.A.units + 64 < cLine) : IxR X (rIxW Γ) := by
  intro value slice pins s σ H x y v u Q I rx ry h hsub
  obtain ⟨a, b, S, QW, ra, rb, hs, h, k⟩ := h
  unfold wIdx at h
  cases hd : dicOf S a with
  | some p =>
    rw [hd] at h
    simp only at h
    cases hk : kyOf b with
    | none => rw [hk] at h; exact h.elim
    | some kk =>
      rw [hk] at h
      simp only at h
      obtain ⟨t, o, rfl, g, g1, g2⟩ := dic_get hd hk ra rb hs
      cases e : lookD p.1 p.2 kk with
      | none => rw [e] at h; exact h.elim
      | some w =>
        rw [e] at h
        obtain ⟨z, rfl, rz⟩ := g1 w e
        exact ix_dk (by omega) value slice pins s σ H _ _ v u Q I rx ry ⟨t, z, rfl, g, k.here hs rz h⟩ hsub
  | none =>
  rw [hd] at h
  simp only at h
  split at h
  · rename_i i
    cases rb
    split at h
    · rename_i z
      obtain ⟨rfl, oz⟩ := ra
      obtain ⟨hl, h⟩ := h
      split at h
      · rename_i c e
        refine ix_str value slice pins s σ H _ _ v u Q I rx ry ⟨⟨z.toArray⟩, i, c, rfl, rfl, by rw [str_len]; exact hl, ?_, ?_⟩ hsub
        · exact (show atW z i = some c from e)
        · refine k.here hs (w := .str [c]) ⟨rfl, ?_⟩ h
          unfold okStr at oz ⊢
          have hm : c ∈ z := by
            unfold atW at e
            cases q : ixW z.length i with
            | none => rw [q] at e; cases e
            | some j => rw [q] at e; exact List.mem_of_getElem? e
          simpa using List.all_eq_true.mp oz c hm
      · exact h.elim
    · split at h
      · rename_i ws e
        obtain ⟨p, vs, rfl, hq, rr⟩ := seq_rep e ra hs
        split at h
        · rename_i w2 e2
          obtain ⟨v2, h1, h2⟩ := at_rep e2 rr
          have q := k.here hs h2 h
          refine ix_seq value slice pins s σ H _ _ v u Q I rx ry ?_ hsub
          rcases hq with hq | hq
          · exact .inl ⟨p, vs, i, v2, rfl, rfl, hK ▸ hq, h1, q⟩
          · exact .inr (.inl ⟨p, vs, i, v2, rfl, rfl, hK ▸ hq, h1, q⟩)
        · exact h.elim
      · exact h.elim
  · exact h.elim
def rSlW (Γ : Gm) (fz : Bool) : V → Option Int → Option Int → Hp → VK → Prop := fun v lo hi H Q => ∃ x S QW, rep Γ S H x v ∧ SR Γ S H ∧ (∃ l h : List W, optInt l = some lo ∧ optInt h = some hi ∧ wSl fz x l h S QW) ∧ KQ Γ S H QW Q
theorem sl_W (hK : X.K = Γ.K) (fz : Bool) : SlR X (rSlW Γ fz) := by
  intro pins s σ H x v vl vu lo hi sl Q I rx hsl pl pu h
  obtain ⟨a, S, QW, ra, hs, ⟨l, hh, el, eh, h⟩, k⟩ := h
  unfold wSl at h
  rw [el, eh] at h
  simp only at h
  cases a with
  | tup ws =>
    simp only [deref] at h
    obtain ⟨p, vs, rfl, hq, rr⟩ := ra
    have hc := rr.cut lo hi
    refine sl_tupA pins s σ H _ v vl vu lo hi sl Q I rx hsl pl pu ⟨p, vs, rfl, hK ▸ hq.sq, fun e => ?_, fun _ p e => tup_ok h hc hs k p e⟩
    refine k.here hs (w := .tup _) ⟨p, vs, rfl, hq, ?_⟩ h
    have e2 : cutV vs lo hi = vs := by unfold cutV; rw [e.1, e.2]; simp
    rw [e2] at hc
    exact hc
  | rl ws =>
    simp only [deref] at h
    obtain ⟨p, vs, rfl, hq, rr⟩ := ra
    exact sl_list pins s σ H _ v vl vu lo hi sl Q I rx hsl pl pu ⟨p, vs, rfl, hK ▸ hq.sq, mkL_ok h (rr.cut lo hi) hs k⟩
  | sc ws =>
    simp only [deref] at h
    obtain ⟨p, vs, rfl, hq, rr⟩ := ra
    exact sl_list pins s σ H _ v vl vu lo hi sl Q I rx hsl pl pu ⟨p, vs, rfl, hK ▸ hq.sq, mkL_ok h (rr.cut lo hi) hs k⟩
  | str z =>
    simp only [deref] at h
    obtain ⟨rfl, oz⟩ := ra
    refine sl_str pins s σ H _ v vl vu lo hi sl Q I rx hsl pl pu ⟨⟨z.toArray⟩, rfl, by rw [str_len]; exact h.1, ?_⟩
    refine k.here hs (w := .str _) ⟨?_, ?_⟩ h.2
    · unfold strV cutS cutW
      simp [Str.length]
    · unfold okStr at oz ⊢
      rw [List.all_eq_true] at oz ⊢
      intro c hc
      unfold cutW at hc
      exact oz c (List.mem_of_mem_drop (List.mem_of_mem_take hc))
  | ref p =>
    cases ra
    rw [deref_ref] at h
    cases q : S p with
    | none => rw [q] at h; exact h.elim
    | some o =>
      cases o with
      | lst us =>
        rw [q] at h
        obtain ⟨vs, h1, rr⟩ := hs p _ q
        exact sl_list pins s σ H _ v vl vu lo hi sl Q I rx hsl pl pu ⟨p, vs, rfl, SqL.of h1, mkL_ok h (rr.cut lo hi) hs k⟩
      | dic _ _ => rw [q] at h; exact h.elim
      | ins _ _ _ => rw [q] at h; exact h.elim
      | hid => rw [q] at h; exact h.elim
  | _ => exact h.elim
end
end Bw

/-! Ev6: what is walked. -/
namespace Bw
open PySem L2 PySem.Spec PyProof.Rows
/-- the turns J yield the items, where P stays and the lists lk stand -/
structure Wk (Γ : Gm) (J : It) (items : List W) (lk : Lk) (P : Sto → Hp → Prop) : Prop where
  st : ∀ S H S' H', Fr S H S' H' → P S H → P S' H'
  go : ∀ i S H, SR Γ S H → P S H → liveS lk S → i < items.length → J.go i H
  stop : ∀ i S H, SR Γ S H → P S H → liveS lk S → items.length ≤ i → J.stop i H
  yld : ∀ i S H x H', SR Γ S H → P S H → liveS lk S → i < items.length → J.yld i H x H' → ∃ w, items[i]? = some w ∧ SR Γ S H' ∧ Fr S H S H' ∧ rep Γ S H' w x
section
variable {Γ : Gm} {S : Sto} {H : Hp} {lk lk2 : Lk} {P P2 : Sto → Hp → Prop} {a b : Addr} {ws us : List W}
theorem liveS_app : ∀ {lk lk2 : Lk} {S : Sto}, liveS (lk ++ lk2) S ↔ liveS lk S ∧ liveS lk2 S
  | [], _, _ => by simp [liveS]
  | p :: r, lk2, S => by
    simp only [List.cons_append, liveS]
    rw [liveS_app (lk := r)]
    exact and_assoc.symm
theorem SR.tup2 {T : Addr} {vs : List V} (s : SR Γ S H) (e : H T = none) (r : reps Γ S H ws vs) : SR Γ S (upd H T (.tup vs)) ∧ Fr S H S (upd H T (.tup vs)) ∧ rep Γ S (upd H T (.tup vs)) (.tup ws) (.ref T) :=
  ⟨s.new e, Fr.new e, T, vs, rfl, .inl ⟨s.nil e, .inl upd_same⟩, reps.fr (Fr.new e) _ _ r⟩
/-- a list at a -/
def BaseL (Γ : Gm) (a : Addr) (ws : List W) (lk : Lk) (P : Sto → Hp → Prop) : Prop := ∀ S H, SR Γ S H → P S H → liveS lk S → ∃ vs, SqL Γ.K H a vs ∧ reps Γ S H ws vs
def BaseT (Γ : Gm) (a : Addr) (ws : List W) (lk : Lk) (P : Sto → Hp → Prop) : Prop := ∀ S H, SR Γ S H → P S H → liveS lk S → ∃ vs, SqT Γ.K H a vs ∧ reps Γ S H ws vs
def Stb (P : Sto → Hp → Prop) : Prop := ∀ S H S' H', Fr S H S' H' → P S H → P S' H'
theorem reps.getV {vs : List V} (r : reps Γ S H ws vs) {i : Nat} (h : i < ws.length) : ∃ w v, ws[i]? = some w ∧ vs[i]? = some v ∧ rep Γ S H w v := by
  have e : ws[i]? = some ws[i] := List.getElem?_eq_getElem h
  obtain ⟨v, h1, h2⟩ := r.get e
  exact ⟨_, v, e, h1, h2⟩
theorem wk_list (st : Stb P) (B : BaseL Γ a ws lk P) : Wk Γ (Itl Γ.K a) ws lk P where
  st := st
  go := fun i S H s p l h => by
    obtain ⟨vs, hq, r⟩ := B S H s p l
    obtain ⟨w, v, e1, e2, _⟩ := r.getV h
    exact ⟨vs, v, hq, e2⟩
  stop := fun i S H s p l h => by
    obtain ⟨vs, hq, r⟩ := B S H s p l
    exact ⟨vs, hq, by rw [← r.len]; exact h⟩
  yld := fun i S H x H' s p l h y => by
    obtain ⟨vs, hq, r⟩ := B S H s p l
    obtain ⟨w, v, e1, e2, e3⟩ := r.getV h
    obtain ⟨rfl, y⟩ := y
    have := y vs hq
    rw [e2] at this
    cases this
    exact ⟨w, e1, s, Fr.refl _ _, e3⟩
theorem wk_tup (st : Stb P) (B : BaseT Γ a ws lk P) : Wk Γ (Itt Γ.K a) ws lk P where
  st := st
  go := fun i S H s p l h => by
    obtain ⟨vs, hq, r⟩ := B S H s p l
    obtain ⟨w, v, e1, e2, _⟩ := r.getV h
    exact ⟨vs, v, hq, e2⟩
  stop := fun i S H s p l h => by
    obtain ⟨vs, hq, r⟩ := B S H s p l
    exact ⟨vs, hq, by rw [← r.len]; exact h⟩
  yld := fun i S H x H' s p l h y => by
    obtain ⟨vs, hq, r⟩ := B S H s p l
    obtain ⟨w, v, e1, e2, e3⟩ := r.getV h
    obtain ⟨rfl, y⟩ := y
    have := y vs hq
    rw [e2] at this
    cases this
    exact ⟨w, e1, s, Fr.refl _ _, e3⟩
theorem wk_rev (st : Stb P) (B : BaseL Γ a ws lk P) : Wk Γ (Itv Γ.K a ws.length) ws.reverse lk P where
  st := st
  go := fun i S H s p l h => by
    rw [List.length_reverse] at h
    obtain ⟨vs, hq, r⟩ := B S H s p l
    obtain ⟨w, v, e1, e2, _⟩ := r.getV (i := ws.length - 1 - i) (by omega)
    exact ⟨h, vs, v, hq, e2⟩
  stop := fun i S H s p l h => by rw [List.length_reverse] at h; exact h
  yld := fun i S H x H' s p l h y => by
    rw [List.length_reverse] at h
    obtain ⟨vs, hq, r⟩ := B S H s p l
    obtain ⟨w, v, e1, e2, e3⟩ := r.getV (i := ws.length - 1 - i) (by omega)
    obtain ⟨rfl, y⟩ := y
    have := y vs hq
    rw [e2] at this
    cases this
    exact ⟨w, by rw [List.getElem?_reverse h]; exact e1, s, Fr.refl _ _, e3⟩
theorem enumW_get : ∀ {ws : List W} {k i : Nat}, (enumW k ws)[i]? = (ws[i]?).map fun w => .tup [.int ((k + i : Nat) : Int), w]
  | [], k, i => by simp [enumW]
  | w :: ws, k, 0 => by simp [enumW]
  | w :: ws, k, i + 1 => by
    simp only [enumW, List.getElem?_cons_succ]
    rw [enumW_get]
    have e : k + 1 + i = k + (i + 1) := by omega
    rw [e]
theorem enumW_len : ∀ {ws : List W} {k : Nat}, (enumW k ws).length = ws.length
  | [], _ => rfl
  | w :: ws, k => by simp [enumW, enumW_len]
theorem wk_enum (st : Stb P) (B : BaseL Γ a ws lk P) : Wk Γ (Ite Γ.K a) (enumW 0 ws) lk P where
  st := st
  go := fun i S H s p l h => by
    rw [enumW_len] at h
    obtain ⟨vs, hq, r⟩ := B S H s p l
    obtain ⟨w, v, e1, e2, _⟩ := r.getV h
    exact ⟨vs, v, hq, e2⟩
  stop := fun i S H s p l h => by
    rw [enumW_len] at h
    obtain ⟨vs, hq, r⟩ := B S H s p l
    exact ⟨vs, hq, by rw [← r.len]; exact h⟩
  yld := fun i S H x H' s p l h y => by
    rw [enumW_len] at h
    obtain ⟨vs, hq, r⟩ := B S H s p l
    obtain ⟨w, v, e1, e2, e3⟩ := r.getV h
    obtain ⟨T, z, rfl, eT, rfl, y⟩ := y
    have := y vs hq
    rw [e2] at this
    cases this
    obtain ⟨q1, q2, q3⟩ := s.tup2 (ws := [.int (i : Nat), w]) (vs := [.int (i : Nat), v]) eT ⟨_, _, rfl, rfl, reps.one e3⟩
    refine ⟨_, ?_, q1, q2, q3⟩
    rw [enumW_get, e1]
    simp
theorem zipW_get : ∀ {ws us : List W} {i : Nat}, (zipW ws us)[i]? = (match ws[i]?, us[i]? with | some x, some y => some (.tup [x, y]) | _, _ => none)
  | [], us, i => by simp [zipW]
  | w :: ws, [], i => by simp only [zipW]; cases (w :: ws)[i]? <;> simp
  | w :: ws, u :: us, 0 => by simp [zipW]
  | w :: ws, u :: us, i + 1 => by
    simp only [zipW, List.getElem?_cons_succ]
    exact zipW_get
theorem zipW_len : ∀ {ws us : List W}, (zipW ws us).length = min ws.length us.length
  | [], us => by simp [zipW]
  | w :: ws, [] => by simp [zipW]
  | w :: ws, u :: us => by simp only [zipW, List.length_cons]; rw [zipW_len]; omega
theorem wk_zip (st : Stb P) (B : BaseL Γ a ws lk P) (B2 : BaseL Γ b us lk P) : Wk Γ (Itz Γ.K a b) (zipW ws us) lk P where
  st := st
  go := fun i S H s p l h => by
    rw [zipW_len] at h
    obtain ⟨vs, hq, r⟩ := B S H s p l
    obtain ⟨vs2, hq2, r2⟩ := B2 S H s p l
    obtain ⟨w, v, e1, e2, _⟩ := r.getV (i := i) (by omega)
    obtain ⟨w2, v2, e12, e22, _⟩ := r2.getV (i := i) (by omega)
    exact ⟨vs, vs2, v, v2, hq, hq2, e2, e22⟩
  stop := fun i S H s p l h => by
    rw [zipW_len] at h
    obtain ⟨vs, hq, r⟩ := B S H s p l
    obtain ⟨vs2, hq2, r2⟩ := B2 S H s p l
    have l1 := r.len
    have l2 := r2.len
    exact ⟨vs, vs2, hq, hq2, by omega⟩
  yld := fun i S H x H' s p l h y => by
    rw [zipW_len] at h
    obtain ⟨vs, hq, r⟩ := B S H s p l
    obtain ⟨vs2, hq2, r2⟩ := B2 S H s p l
    obtain ⟨w, v, e1, e2, e3⟩ := r.getV (i := i) (by omega)
    obtain ⟨w2, v2, e12, e22, e32⟩ := r2.getV (i := i) (by omega)
    obtain ⟨T, z, z2, rfl, eT, rfl, y, y2⟩ := y
    have t1 := y vs hq
    rw [e2] at t1
    cases t1
    have t2 := y2 vs2 hq2
    rw [e22] at t2
    cases t2
    obtain ⟨q1, q2, q3⟩ := s.tup2 (ws := [w, w2]) (vs := [v, v2]) eT ⟨_, _, rfl, e3, reps.one e32⟩
    refine ⟨_, ?_, q1, q2, q3⟩
    rw [zipW_get, e1, e12]
theorem wk_zipT (st : Stb P) (B : BaseT Γ a ws lk P) (B2 : BaseT Γ b us lk P) : Wk Γ (RZ.ItzT Γ.K a b) (zipW ws us) lk P where
  st := st
  go := fun i S H s p l h => by
    rw [zipW_len] at h
    obtain ⟨vs, hq, r⟩ := B S H s p l
    obtain ⟨vs2, hq2, r2⟩ := B2 S H s p l
    obtain ⟨w, v, e1, e2, _⟩ := r.getV (i := i) (by omega)
    obtain ⟨w2, v2, e12, e22, _⟩ := r2.getV (i := i) (by omega)
    exact ⟨vs, vs2, v, v2, hq, hq2, e2, e22⟩
  stop := fun i S H s p l h => by
    rw [zipW_len] at h
    obtain ⟨vs, hq, r⟩ := B S H s p l
    obtain ⟨vs2, hq2, r2⟩ := B2 S H s p l
    have l1 := r.len
    have l2 := r2.len
    exact ⟨vs, vs2, hq, hq2, by omega⟩
  yld := fun i S H x H' s p l h y => by
    rw [zipW_len] at h
    obtain ⟨vs, hq, r⟩ := B S H s p l
    obtain ⟨vs2, hq2, r2⟩ := B2 S H s p l
    obtain ⟨w, v, e1, e2, e3⟩ := r.getV (i := i) (by omega)
    obtain ⟨w2, v2, e12, e22, e32⟩ := r2.getV (i := i) (by omega)
    obtain ⟨T, z, z2, rfl, eT, rfl, y, y2⟩ := y
    have t1 := y vs hq
    rw [e2] at t1
    cases t1
    have t2 := y2 vs2 hq2
    rw [e22] at t2
    cases t2
    obtain ⟨q1, q2, q3⟩ := s.tup2 (ws := [w, w2]) (vs := [v, v2]) eT ⟨_, _, rfl, e3, reps.one e32⟩
    refine ⟨_, ?_, q1, q2, q3⟩
    rw [zipW_get, e1, e12]
theorem rngW_get {lo : Int} {n i : Nat} (h : i < n) : (rngW lo n)[i]? = some (.int (lo + (i : Int))) := by
  unfold rngW
  rw [List.getElem?_map, List.getElem?_range h]
  rfl
theorem rngW_len {lo : Int} {n : Nat} : (rngW lo n).length = n := by unfold rngW; simp
theorem wk_rng {lo : Int} {n : Nat} : Wk Γ (Itr lo n) (rngW lo n) [] (fun _ _ => True) where
  st := fun _ _ _ _ _ _ => trivial
  go := fun i S H s p l h => by rw [rngW_len] at h; exact h
  stop := fun i S H s p l h => by rw [rngW_len] at h; exact h
  yld := fun i S H x H' s p l h y => by
    rw [rngW_len] at h
    obtain ⟨rfl, rfl⟩ := y
    exact ⟨_, rngW_get h, s, Fr.refl _ _, rfl⟩
theorem wk_str {z : List Nat} (oz : okStr z = true) : Wk Γ (Its ⟨z.toArray⟩) (z.map fun c => W.str [c]) [] (fun _ _ => True) where
  st := fun _ _ _ _ _ _ => trivial
  go := fun i S H s p l h => by simpa [Its] using h
  stop := fun i S H s p l h => by simpa [Its] using h
  yld := fun i S H x H' s p l h y => by
    obtain ⟨rfl, c, hc, rfl⟩ := y
    have hc : z[i]? = some c := by simpa using hc
    refine ⟨.str [c], by rw [List.getElem?_map, hc]; rfl, s, Fr.refl _ _, rfl, ?_⟩
    unfold okStr at oz ⊢
    simpa using List.all_eq_true.mp oz c (List.mem_of_getElem? hc)

/-- a list's value as a base -/
theorem walkL_base {x : W} {v : V} (h : walkL S x = some (ws, lk)) (r : rep Γ S H x v) : ∃ a P, v = .ref a ∧ Stb P ∧ P S H ∧ BaseL Γ a ws lk P := by
  cases x with
  | rl ws' =>
    cases h
    obtain ⟨a, vs, rfl, q, t⟩ := r
    exact ⟨a, fun S H => ∃ vs, RlA S H a vs ∧ reps Γ S H ws vs, rfl, fun S H S' H' f ⟨vs, q, t⟩ => ⟨vs, q.fr f, reps.fr f _ _ t⟩, ⟨vs, q, t⟩, fun S H s ⟨vs, q, t⟩ _ => ⟨vs, q.sq, t⟩⟩
  | sc ws' =>
    cases h
    obtain ⟨a, vs, rfl, q, t⟩ := r
    exact ⟨a, fun S H => ∃ vs, ScA Γ S H a vs ∧ reps Γ S H ws vs, rfl, fun S H S' H' f ⟨vs, q, t⟩ => ⟨vs, q.fr f, reps.fr f _ _ t⟩, ⟨vs, q, t⟩, fun S H s ⟨vs, q, t⟩ _ => ⟨vs, q.sq, t⟩⟩
  | ref a =>
    cases r
    simp only [walkL] at h
    cases q : S a with
    | none => rw [q] at h; cases h
    | some o =>
      cases o with
      | lst us =>
        rw [q] at h
        cases h
        refine ⟨a, fun _ _ => True, rfl, fun _ _ _ _ _ _ => trivial, trivial, fun S H s _ l => ?_⟩
        obtain ⟨vs, h1, h2⟩ := s a _ l.1
        exact ⟨vs, .inl (.inl h1), h2⟩
      | dic _ _ => rw [q] at h; cases h
      | ins _ _ _ => rw [q] at h; cases h
      | hid => rw [q] at h; cases h
  | _ => cases h
theorem tup_base {v : V} (r : rep Γ S H (.tup ws) v) : ∃ a P, v = .ref a ∧ Stb P ∧ P S H ∧ BaseT Γ a ws lk P := by
  obtain ⟨a, vs, rfl, q, t⟩ := r
  exact ⟨a, fun S H => ∃ vs, TupA Γ S H a vs ∧ reps Γ S H ws vs, rfl, fun S H S' H' f ⟨vs, q, t⟩ => ⟨vs, q.fr f, reps.fr f _ _ t⟩, ⟨vs, q, t⟩, fun S H s ⟨vs, q, t⟩ _ => ⟨vs, q.sq, t⟩⟩
theorem walkOf_cases {x : W} (h : walkOf S x = some (ws, lk)) : (x = .tup ws ∧ lk = []) ∨ (∃ z, x = .str z ∧ ws = (z.map fun c => W.str [c]) ∧ lk = []) ∨ walkL S x = some (ws, lk) := by
  cases x with
  | tup _ => cases h; exact .inl ⟨rfl, rfl⟩
  | str z => cases h; exact .inr (.inl ⟨z, rfl, rfl, rfl⟩)
  | rl _ => exact .inr (.inr h)
  | sc _ => exact .inr (.inr h)
  | ref _ => exact .inr (.inr h)
  | _ => cases h
end

/-! ### iterables -/
section
variable {X : Cx} {tg : Expr}
/-- a value that is walked: a list, a tuple, a text -/
def iSeq (K : PySem.W.Frag) (tl : TE) : TI := fun σ H R => tl σ H fun x H1 => (∃ a, x = .ref a ∧ (∃ xs, SqL K H1 a xs) ∧ R (Itl K a) H1) ∨ (∃ a, x = .ref a ∧ (∃ xs, SqT K H1 a xs) ∧ R (Itt K a) H1) ∨ ∃ z, x = .str z ∧ R (Its z) H1
theorem pi_seq {l : Expr} {tl : TE} (hl : PE X l tl) : PI X tg l (iSeq X.K tl) := by
  refine ⟨fun pins s σ H R I h => ?_⟩
  refine thn (hl.run pins s σ H _ I h) fun v s1 ⟨x, H1, I1, r1, q1⟩ => ?_
  rcases q1 with ⟨a, e, ⟨xs, hq⟩, q⟩ | ⟨a, e, ⟨xs, hq⟩, q⟩ | ⟨z, e, q⟩
  · subst e
    cases r1
    obtain ⟨its, rv, p, hz⟩ := I1.list hq
    refine wpAny_pyIter_list p.isList ?_
    refine ⟨s1.heap.objs.size, [s1.heap.objs.size], _, _, H1, rfl, I1.kept (t' := s1.toks) fun b o e => Heap.get?_push_of_some _ e, turn_list a _, ⟨_, Heap.get?_push_size _ rfl, rfl, rfl⟩, fun b hb => ?_, q⟩
    have e : b = s1.heap.objs.size := by simpa using hb
    subst e
    exact I1.fpOk (Nat.le_refl _) (I1.hok.fresh (Nat.le_refl _))
  · subst e
    cases r1
    obtain ⟨its, rv, p, hz⟩ := I1.tuple hq
    refine wpAny_pyIter_tuple (show s1.heap.IsTuple a its.toArray from p) ?_
    refine ⟨s1.heap.objs.size, [s1.heap.objs.size], _, _, H1, rfl, I1.kept (t' := s1.toks) fun b o e => Heap.get?_push_of_some _ e, turn_tuple a _, ⟨_, Heap.get?_push_size _ rfl, rfl, rfl⟩, fun b hb => ?_, q⟩
    have e : b = s1.heap.objs.size := by simpa using hb
    subst e
    exact I1.fpOk (Nat.le_refl _) (I1.hok.fresh (Nat.le_refl _))
  · subst e
    obtain ⟨t, rfl⟩ := r1
    cases ha : z.cps.all (· < 128)
    · exact wpAny_pyIter_wide ha (pi_one (tk := s1.toks) I1 _ (turn_str _ z t "str_iterator" (.inr rfl)) ⟨_, Heap.get?_push_size _ rfl, rfl, rfl⟩ q)
    · exact wpAny_pyIter_ascii ha (pi_one (tk := s1.toks) I1 _ (turn_str _ z t "str_ascii_iterator" (.inl rfl)) ⟨_, Heap.get?_push_size _ rfl, rfl, rfl⟩ q)
end
end Bw

/-! Ev7: which expressions of the text an expression of the evaluator stands for (checked by computation). -/
namespace Bw
open PySem L2 PySem.Spec PyProof.Rows

mutual
def eqB : W → W → Bool
  | .non, .non => true
  | .bl a, .bl b => a == b
  | .int a, .int b => a == b
  | .str a, .str b => a == b
  | .tup a, .tup b => eqBs a b
  | .fn a, .fn b => a == b
  | _, _ => false
def eqBs : List W → List W → Bool
  | [], [] => true
  | a :: r, b :: t => eqB a b && eqBs r t
  | _, _ => false
end
mutual
theorem eqB_eq : ∀ {a b : W}, eqB a b = true → a = b
  | .non, b, h => by cases b <;> first | rfl | simp [eqB] at h
  | .bl x, b, h => by cases b <;> simp [eqB] at h; rw [h]
  | .int x, b, h => by cases b <;> simp [eqB] at h; rw [h]
  | .str x, b, h => by cases b <;> simp [eqB] at h; rw [h]
  | .fn x, b, h => by cases b <;> simp [eqB] at h; rw [h]
  | .tup x, b, h => by
    cases b with
    | tup y => rw [eqBs_eq (show eqBs x y = true from h)]
    | _ => simp [eqB] at h
  | .rl x, b, h => by cases b <;> simp [eqB] at h
  | .sc x, b, h => by cases b <;> simp [eqB] at h
  | .ref x, b, h => by cases b <;> simp [eqB] at h
  | .dct _ _, b, h => by cases b <;> simp [eqB] at h
  | .obj _ _ _, b, h => by cases b <;> simp [eqB] at h
  | .exn _ _ _, b, h => by cases b <;> simp [eqB] at h
theorem eqBs_eq : ∀ {a b : List W}, eqBs a b = true → a = b
  | [], b, h => by cases b <;> first | rfl | simp [eqBs] at h
  | x :: r, b, h => by
    cases b with
    | nil => simp [eqBs] at h
    | cons y t =>
      have h : (eqB x y && eqBs r t) = true := h
      rw [Bool.and_eq_true] at h
      rw [eqB_eq h.1, eqBs_eq h.2]
end

/-- the names of the module that a text may use -/
structure GT where
  fns : List (Str × Nat × Nat)
  cons : List (Str × W)
  tabs : List (Str × List (List Nat × W))
  bis : List Str
  /-- within an except suite -/
  hot : Bool := false
  /-- own classes: their names, indices, __init__ -/
  cls : List (Str × Nat × Nat) := []
  /-- own exception classes: their names, indices, fields ([]: made with a text) -/
  xcl : List (Str × Nat × List (List Nat)) := []
  mth : List (List Nat × List (Nat × Nat)) := []
  /-- the fields that a class's instances may have -/
  fld : List (Nat × List (List Nat)) := []
  isC : List (Str × List Nat × List Nat) := []
  exm : List (Str × List Nat × List Nat) := []
  /-- the defaults of a def, the last parameters' -/
  dfl : List (Str × List W) := []
def visB (sc : Scope) (x : Str) : Bool :=
  match sc.names.lookup x with
  | some .local => true
  | some .cell => true
  | some .free => true
  | _ => false
def locB (sc : Scope) (x : Str) : Bool :=
  match sc.names.lookup x with
  | some .local => true
  | some .cell => true
  | _ => false
def gloB (sc : Scope) (x : Str) : Bool :=
  match sc.names.lookup x with
  | some .globalImplicit => true
  | _ => false
def nodbg (x : Str) : Bool := !(x == ("__debug__" : Str)) && !(x == ("__classdict__" : Str)) && !(x == ("__name__" : Str))
def nameB : Bi → Str
  | .len => "len"
  | .int1 => "int"
  | .str1 => "str"
  | .abs => "abs"
  | .max2 => "max"
  | .max3 => "max"
  | .min2 => "min"
  | .max1 => "max"
  | .maxd => "max"
  | .min1 => "min"
  | .sum1 => "sum"
  | .all1 => "all"
  | .any1 => "any"
  | .tuple1 => "tuple"
  | .list1 _ => "list"
  | .listrev _ => "list"
  | .lenset => "len"
  | .dict1 => "dict"
  | .ord1 => "ord"
def tyS : Ty → Str
  | .int => "int"
  | .bool => "bool"
  | .str => "str"
  | .tuple => "tuple"
  | .list => "list"
  | .dict => "dict"
def biB (G : GT) (sc : Scope) (nm x : Str) : Bool := x == nm && gloB sc x && nodbg x && G.bis.contains x
def chL {α β : Type} (f : α → β → Bool) : List α → List β → Bool
  | [], [] => true
  | a :: r, b :: t => f a b && chL f r t
  | _, _ => false
def chO (f : Expr → E → Bool) : Option Expr → List E → Bool
  | none, [] => true
  | some a, [b] => f a b
  | _, _ => false
def ownOf (N : List Str) (own : List Nat) : List (Str × Nat) := own.filterMap fun i => (N[i]?).map fun x => (x, i)
def chNm (N : List Str) (sc : Scope) : Expr → Nat → Bool
  | .Name x _, i => decide (N[i]? = some x) && locB sc x
  | _, _ => false
def chTg (N : List Str) (sc : Scope) (e : Expr) (tg : Tg) : Bool :=
  match tg with
  | .nm i => chNm N sc e i
  | .pr is => match e with
    | .Tuple es _ _ => chL (chNm N sc) es is
    | _ => false
def tgIs : Tg → List Nat
  | .nm i => [i]
  | .pr is => is
def chV (N : List Str) (sc : Scope) : Expr → Nat → Bool
  | .Name x _, i => decide (N[i]? = some x) && visB sc x && nodbg x
  | _, _ => false
/-- a call, a name, a display: no test of its own kind -/
def fzE : Expr → Bool
  | .Call _ _ _ _ => true
  | .Name _ _ => true
  | .Dict _ _ _ => true
  | .List _ _ => true
  | .BinOp _ _ _ _ => true
  | .Subscript _ _ _ => true
  | _ => false
def nameM : MB → Str
  | .count => "count"
  | .index => "index"
  | .dget1 => "get"
  | .dget2 => "get"
  | .dcopy => "copy"
  | .join => "join"
def arM : MB → Nat
  | .dget2 => 2
  | .dcopy => 0
  | _ => 1
def sZ (f : List Nat) : Str := ⟨f.toArray⟩
def okE : Expr → Bool
  | .Starred _ _ => false
  | .Slice _ _ _ _ => false
  | .Set _ _ _ => false
  | _ => true
def okT : Expr → Bool
  | .IfExp _ _ _ _ => false
  | _ => true
def isTup : Expr → Bool
  | .Tuple _ _ _ => true
  | _ => false
section
variable (G : GT) (N : List Str)
def chI (ch : Expr → E → Bool) (sc : Scope) (tg : Expr) (iter : Expr) (ik : IK) (its : List E) : Bool :=
  match ik with
  | .seq => (match its with
    | [x'] => ch iter x'
    | _ => false)
  | .rng1 => (match iter with
    | .Call (.Name f _) [x] [] _ => biB G sc "range" f && chL ch [x] its
    | _ => false)
  | .rng2 => (match iter with
    | .Call (.Name f _) [x, y] [] _ => biB G sc "range" f && chL ch [x, y] its
    | _ => false)
  | .enum => (match iter with
    | .Call (.Name f _) [x] [] _ => isTup tg && biB G sc "enumerate" f && chL ch [x] its
    | _ => false)
  | .zip => (match iter with
    | .Call (.Name f _) [x, y] [] _ => isTup tg && biB G sc "zip" f && chL ch [x, y] its
    | _ => false)
  | .rev => (match iter with
    | .Call (.Name f _) [x] [] _ => biB G sc "reversed" f && chL ch [x] its
    | _ => false)
/-- keys and values by turns -/
def chA (ch : Expr → E → Bool) : List (Option Expr) → List Expr → List E → Bool
  | [], [], [] => true
  | some k :: ks, v :: vs, a :: b :: r => ch k a && ch v b && chA ch ks vs r
  | _, _, _ => false
def chK1 : Option Expr → List Nat → Bool
  | some (.Constant (.str x) _ _), k => decide (x.cps.toList = k)
  | _, _ => false
def chK (keys : List (Option Expr)) (ks : List (List Nat)) : Bool := chL chK1 keys ks
def chE : Nat → Scope → Expr → E → Bool
  | 0, _, _, _ => false
  | n + 1, sc, e, e' => okE e &&
    match e' with
    | .var i => (match e with
      | .Name x _ => decide (N[i]? = some x) && visB sc x && nodbg x
      | _ => false)
    | .cst w => (match e with
      | .Constant (.int j) _ _ => eqB w (.int j)
      | .Constant (.bool j) _ _ => eqB w (.bl j)
      | .Constant .none _ _ => eqB w .non
      | .Constant (.str x) _ _ => eqB w (.str x.cps.toList) && okStr x.cps.toList
      | .Name x _ => gloB sc x && nodbg x && (match G.cons.lookup x with
        | some u => eqB w u
        | none => match G.fns.lookup x with
          | some p => eqB w (.fn p.1)
          | none => false)
      | _ => false)
    | .tup es' => (match e with
      | .Tuple es _ _ => chL (chE n sc) es es'
      | _ => false)
    | .lst _ es' => (match e with
      | .List es _ => chL (chE n sc) es es'
      | _ => false)
    | .bin o a b => (match e with
      | .BinOp x op y _ => decide (op = bopOf o) && chE n sc x a && chE n sc y b
      | _ => false)
    | .cmp o a b => (match e with
      | .Compare x [op] [y] _ => decide (op = copOf o) && chE n sc x a && chE n sc y b
      | _ => false)
    | .chain o o' a b c => (match e with
      | .Compare x [op, op'] [y, z] _ => decide (op = copOf o) && decide (op' = copOf o') && chE n sc x a && chE n sc y b && chE n sc z c
      | _ => false)
    | .isN neg a => (match e with
      | .Compare x [op] [.Constant .none _ _] _ => decide (op = if neg = true then .IsNot else .Is) && chE n sc x a
      | _ => false)
    | .and es' => (match e with
      | .BoolOp .And es _ => !es'.isEmpty && es.all okT && chL (chE n sc) es es'
      | _ => false)
    | .or es' => (match e with
      | .BoolOp .Or es _ => !es'.isEmpty && es.all okT && chL (chE n sc) es es'
      | _ => false)
    | .not a => (match e with
      | .UnaryOp .Not x _ => okT x && chE n sc x a
      | _ => false)
    | .neg a => (match e with
      | .UnaryOp .USub x _ => chE n sc x a
      | _ => false)
    | .ite c a b => (match e with
      | .IfExp z x y _ => okT z && chE n sc z c && chE n sc x a && chE n sc y b
      | _ => false)
    | .idx a i => (match e with
      | .Subscript x y _ => chE n sc x a && chE n sc y i
      | _ => false)
    | .sl _ a lo hi => (match e with
      | .Subscript x (.Slice l h none _) _ => chE n sc x a && chO (chE n sc) l lo && chO (chE n sc) h hi
      | _ => false)
    | .call f es' => !G.hot && (match e with
      | .Call (.Name x _) es [] _ => gloB sc x && nodbg x && G.fns.contains (x, f, es.length) && !es.isEmpty && chL (chE n sc) es es'
      | _ => false)
    | .callD f es' ds => !G.hot && (match e with
      | .Call (.Name x _) es [] _ => gloB sc x && nodbg x && G.fns.contains (x, f, es.length + ds.length) && !es.isEmpty && (match G.dfl.lookup x with
        | none => false
        | some ws => decide (ds.length ≤ ws.length) && eqBs (ws.drop (ws.length - ds.length)) ds) && chL (chE n sc) es es'
      | _ => false)
    | .dnew => (match e with
      | .Dict [] [] _ => true
      | _ => false)
    | .fzv a => fzE e && chE n sc e a
    | .meb m a es' => (match e with
      | .Call (.Attribute o nm apos) es [] cpos => decide (m ≠ .join) && decide (nm = nameM m) && plainO o && (apos.endLine == cpos.line) && decide (es.length = arM m) && chE n sc o a && chL (chE n sc) es es'
      | _ => false)
    | .fld _ a f => (match e with
      | .Attribute x nm _ => decide (nm = sZ f) && plainO x && chE n sc x a
      | _ => false)
    | .meth tb m a es' => !G.hot && (match e with
      | .Call (.Attribute o nm apos) es [] cpos => decide (nm = sZ m) && plainO o && (apos.endLine == cpos.line) && decide (es.length < 20) && decide (G.mth.lookup m = some tb) && chE n sc o a && chL (chE n sc) es es'
      | _ => false)
    | .mk c fi es' => !G.hot && (match e with
      | .Call (.Name x _) es [] _ => gloB sc x && nodbg x && decide (G.cls.lookup x = some (c, fi)) && chL (chE n sc) es es'
      | _ => false)
    | .mkx c z => !G.hot && (match e with
      | .Call (.Name x _) [.Constant (.str y) _ _] [] _ => gloB sc x && nodbg x && decide (G.xcl.lookup x = some (c, [])) && decide (y.cps.toList = z)
      | _ => false)
    | .isC yes no a => (match e with
      | .Call (.Name f _) [x, .Name y _] [] _ => biB G sc "isinstance" f && gloB sc y && nodbg y && decide (G.isC.lookup y = some (yes, no)) && chE n sc x a
      | _ => false)
    | .callV i fs es' => !G.hot && (match e with
      | .Call (.Name x _) es [] _ => decide (N[i]? = some x) && visB sc x && nodbg x && fs.all (fun f => G.fns.any fun p => p.2.1 == f && p.2.2 == es.length) && !es.isEmpty && chL (chE n sc) es es'
      | _ => false)
    | .bi b es' => (!G.hot || coolB b) && (match b with
      | .maxd => (match e with
        | .Call (.Name x _) [a] [⟨some k, d, _⟩] _ => biB G sc "max" x && k == ("default" : Str) && chL (chE n sc) [a, d] es'
        | _ => false)
      | .listrev _ => (match e with
        | .Call (.Name x _) [.Call (.Name y _) [a] [] _] [] _ => biB G sc "list" x && biB G sc "reversed" y && chL (chE n sc) [a] es'
        | _ => false)
      | .lenset => (match e with
        | .Call (.Name x _) [.Call (.Name y _) [a] [] _] [] _ => biB G sc "len" x && biB G sc "set" y && chL (chE n sc) [a] es'
        | _ => false)
      | b => (match e with
        | .Call (.Name x _) es [] _ => biB G sc (nameB b) x && !es.isEmpty && chL (chE n sc) es es'
        | _ => false))
    | .isi t a => (match e with
      | .Call (.Name f _) [x, .Name y _] [] _ => biB G sc "isinstance" f && biB G sc (tyS t) y && chE n sc x a
      | _ => false)
    | .comp _ tg ik its cond elt own => !G.hot && (match e with
      | .ListComp elt0 [⟨tg0, iter0, ifs0, 0⟩] scope _ =>
        decide ((ownOf N own).map (·.2) = own) && blkC N sc scope (ownOf N own) && chTg N scope tg0 tg && (tgIs tg).all (fun i => own.contains i) &&
          chI G (chE n sc) sc tg0 iter0 ik its && decide (ifs0.length ≤ 1) && ifs0.all okT && chL (chE n (relS scope sc)) ifs0 cond && chE n (relS scope sc) elt0 elt
      | _ => false)
    | .fits i j k => !G.hot && (match e with
      | .ListComp elt0 [⟨tg0, iter0, [.Compare (.Subscript d0 x0 _) [.Eq] [y0] _], 0⟩] scope _ =>
        decide ((ownOf N [k]).map (·.2) = [k]) && blkC N sc scope (ownOf N [k]) && chNm N scope tg0 k && decide (i ≠ k) && decide (j ≠ k) &&
          chV N sc iter0 i && chV N (relS scope sc) d0 i && chV N (relS scope sc) x0 k && chV N (relS scope sc) y0 j && chV N (relS scope sc) elt0 k
      | _ => false)
    | .keysOf i k => !G.hot && (match e with
      | .ListComp elt0 [⟨tg0, iter0, [], 0⟩] scope _ =>
        decide ((ownOf N [k]).map (·.2) = [k]) && blkC N sc scope (ownOf N [k]) && chNm N scope tg0 k && decide (i ≠ k) && chV N sc iter0 i && chV N (relS scope sc) elt0 k
      | _ => false)
    | .tab kvs i => (match e with
      | .Subscript (.Name x _) y _ => gloB sc x && nodbg x && (match G.tabs.lookup x with
        | some t => chL (fun p q => p.1 == q.1 && eqB p.2 q.2) t kvs
        | none => false) && chE n sc y i
      | _ => false)
    | .app a e1 => (match e with
      | .Call (.Attribute o nm apos) [x] [] cpos => nm == ("append" : Str) && plainO o && (apos.endLine == cpos.line) && chE n sc o a && chE n sc x e1
      | _ => false)
    | .dic ks es' => (match e with
      | .Dict keys vals _ => chK keys ks && decide (ks.Nodup) && !ks.isEmpty && decide (ks.length ≤ 15) && decide (vals.length = ks.length) && chL (chE n sc) vals es'
      | _ => false)
    | .dicV kvs => (match e with
      | .Dict keys vals _ => !keys.isEmpty && decide (keys.length ≤ 15) && chA (chE n sc) keys vals kvs
      | _ => false)
    | .dEq a b => (match e with
      | .Compare x [.Eq] [y] _ => chE n sc x a && chE n sc y b
      | _ => false)
    | .dNe a b => (match e with
      | .Compare x [.NotEq] [y] _ => chE n sc x a && chE n sc y b
      | _ => false)
    | .ext a b => (match e with
      | .Call (.Attribute o nm apos) [x] [] cpos => nm == ("extend" : Str) && plainO o && (apos.endLine == cpos.line) && chE n sc o a && chE n sc x b
      | _ => false)
    | .pop a => (match e with
      | .Call (.Attribute o nm apos) [] [] cpos => nm == ("pop" : Str) && plainO o && (apos.endLine == cpos.line) && chE n sc o a
      | _ => false)
end
end Bw

/-! Ev8: an expression that the checker takes is walked as the evaluator says. -/
namespace Bw
open PySem L2 PySem.Spec PyProof.Rows

def spF (Γ : Gm) (C : CT) (f : Nat) : Sp := fun vs H Q E => ∃ ws S QW XW, reps Γ S H ws vs ∧ SR Γ S H ∧ C f ws S QW XW ∧ KQ Γ S H QW Q ∧ KX Γ S H XW E
/-- a def by its name; its last defaults -/
def FnR (Γ : Gm) (G : GT) (C : CT) (X : Cx) (x : Str) (f : Nat) : Prop :=
  ∃ k fd ps, FnOk X.prog X.w X.K X.mg X.base (L2.CX X.prog X.w) k (Γ.fa f) fd ps (spF Γ C f) ∧ Room k X.A ∧ PySem.W.keepIn X.K (.ref (Γ.fa f)) = true ∧ Binds X.K fd ps [] ∧
    ∀ ws, G.dfl.lookup x = some ws → ∀ m, m ≤ ws.length → ∃ dvs ds, Binds X.K fd ps ds ∧ Vals dvs ds ∧ ∀ S H, reps Γ S H (ws.drop (ws.length - m)) dvs
/-- a written dict of the module, its keys texts -/
def TabR (Γ : Gm) (X : Cx) (x : Str) (kvs : List (List Nat × W)) : Prop :=
  ∃ p, X.mg x = some (.ref p) ∧ ∀ k w, kvs.lookup k = some w → ∃ v, KDct X.K X.w p ⟨k.toArray⟩ v ∧ ∀ S H, rep Γ S H w v
def ClR (Γ : Gm) (C : CT) (X : Cx) (x : Str) (c fi : Nat) : Prop :=
  ∃ k fd ps, FnOk X.prog X.w X.K X.mg X.base (L2.CX X.prog X.w) k (Γ.fa fi) fd ps (spF Γ C fi) ∧ Binds X.K fd ps [] ∧ Room (k + 1) X.A ∧ Mk X.K (Γ.ca c) (Γ.fa fi) ∧ X.mg x = some (.ref (Γ.ca c)) ∧ InsC X.K (Γ.ca c)
def MtH (Γ : Gm) (C : CT) (X : Cx) (m : List Nat) (c f : Nat) : Prop := ∃ k, Fk X (L2.CX X.prog X.w) k (Γ.fa f) (spF Γ C f) ∧ Room k X.A ∧ Meth X.K (Γ.ca c) (sZ m) (Γ.fa f)
/-- an exception class that is made with a text -/
def XmR (Γ : Gm) (X : Cx) (x : Str) (c : Nat) : Prop :=
  PySem.W.excIn X.K (Γ.ca c) [.type "ValueError", .type "Exception", .type "BaseException", .type "object"] "ValueError.__new__" = true ∧ X.mg x = some (.ref (Γ.ca c)) ∧ PySem.W.keepIn X.K (.ref (Γ.ca c)) = true ∧
    PySem.W.subIn X.K (.ref (Γ.ca c)) (.type "BaseException") = some true ∧ PySem.W.typeIn X.K (.ref (Γ.ca c)) = some (.type "type") ∧ XkC X.K (Γ.ca c)
/-- a class's value, by its name -/
def NmC (X : Cx) (y : Str) (D : Value) : Prop := X.mg y = some D ∧ (∃ a, D = .ref a) ∨ X.mg y = none ∧ ∃ n, D = .type n ∧ bootBuiltins y = some D ∧ y ≠ ("__name__" : Str)
def IsR (Γ : Gm) (X : Cx) (y : Str) (yes no : List Nat) : Prop :=
  ∃ D, NmC X y D ∧ (∀ c ∈ yes, PySem.W.kitOne X.K (.ref (Γ.ca c)) D = some true) ∧ (∀ c ∈ no, PySem.W.kitOne X.K (.ref (Γ.ca c)) D = some false) ∧ ∀ n ∈ ["NoneType", "bool", "int"], PySem.W.kitOne X.K (.type n) D = some false
structure XO (Γ : Gm) (G : GT) (C : CT) (N : List Str) (sc : Scope) (Wx : WX) (X : Cx) : Prop where
  hN : X.N = N
  nd : N.Nodup
  hsc : X.env.scope = sc
  calm : G.hot = false → X.calm = true
  hK : X.K = Γ.K
  tk : Takes X Wx
  un : X.A.units + 64 < cLine
  bi : ∀ x, G.bis.contains x = true → X.mg x = none
  con : ∀ x w, G.cons.lookup x = some w → ∃ v u, X.mg x = some u ∧ RelV v u ∧ ∀ S H, rep Γ S H w v
  fn : ∀ x f ar, G.hot = false → (x, f, ar) ∈ G.fns → FnR Γ G C X x f
  fnv : ∀ x f ar, (x, f, ar) ∈ G.fns → X.mg x = some (.ref (Γ.fa f))
  cls : ∀ x c fi, G.hot = false → G.cls.lookup x = some (c, fi) → ClR Γ C X x c fi
  xcl : ∀ x c, G.hot = false → G.xcl.lookup x = some (c, []) → XmR Γ X x c
  mth : ∀ m tb c f, G.hot = false → G.mth.lookup m = some tb → tb.lookup c = some f → MtH Γ C X m c f
  fld : ∀ c fs f, G.fld.lookup c = some fs → f ∈ fs → NoAttr X.K (Γ.ca c) (sZ f)
  isC : ∀ y yes no, G.isC.lookup y = some (yes, no) → IsR Γ X y yes no
  tab : ∀ x kvs, G.tabs.lookup x = some kvs → TabR Γ X x kvs

def tE (Γ : Gm) (C : CT) (Wx : WX) (e : E) : TE := fun σ H Q => ∃ env S QW XW, envR Γ S H env σ ∧ SR Γ S H ∧ wE C e env S QW XW ∧ KQ Γ S H QW Q ∧ KX Γ S H XW (fun cls d H' => Wx cls d σ H')
def KL (Γ : Gm) (S : Sto) (H : Hp) (QW : List W → Sto → Prop) (Q : List V → Hp → Prop) : Prop := ∀ ws S' vs H', reps Γ S' H' ws vs → SR Γ S' H' → Fr S H S' H' → QW ws S' → Q vs H'
def tEs (Γ : Gm) (C : CT) (Wx : WX) (es : List E) : TA := fun σ H Q => ∃ env S QW XW, envR Γ S H env σ ∧ SR Γ S H ∧ wEs C es env S QW XW ∧ KL Γ S H QW Q ∧ KX Γ S H XW (fun cls d H' => Wx cls d σ H')
def KB (Γ : Gm) (S : Sto) (H : Hp) (QW : VQ) (Q : Bool → Hp → Prop) : Prop := ∀ w S' H', SR Γ S' H' → Fr S H S' H' → QW w S' → ∃ b, w = .bl b ∧ Q b H'
def tT (Γ : Gm) (C : CT) (Wx : WX) (e : E) : TT := fun σ H Q => ∃ env S QW XW, envR Γ S H env σ ∧ SR Γ S H ∧ wE C e env S QW XW ∧ KB Γ S H QW Q ∧ KX Γ S H XW (fun cls d H' => Wx cls d σ H')

section
variable {X : Cx} {e : Expr} {es : List Expr}
theorem PEimp {t t' : TE} (h : PE X e t) (k : ∀ σ H Q, t' σ H Q → t σ H Q) : PE X e t' := ⟨fun pins s σ H Q I q => h.run pins s σ H Q I (k σ H Q q)⟩
theorem PTimp {t t' : TT} (h : PT X e t) (k : ∀ σ H Q, t' σ H Q → t σ H Q) : PT X e t' := ⟨fun pins s σ H Q I q => h.run pins s σ H Q I (k σ H Q q)⟩
theorem PWimp {t t' : TT} (h : PW X e t) (k : ∀ σ H Q, t' σ H Q → t σ H Q) : PW X e t' := ⟨fun wh pins s σ H Q I q => h.run wh pins s σ H Q I (k σ H Q q)⟩
theorem PAimp {t t' : TA} (h : PA X es t) (k : ∀ σ H Q, t' σ H Q → t σ H Q) : PA X es t' := ⟨fun pos pins s σ H Q I q => h.run pos pins s σ H Q I (k σ H Q q)⟩
theorem POimp {o : Option Expr} {t t' : TO} (h : PO X o t) (k : ∀ σ H Q, t' σ H Q → t σ H Q) : PO X o t' := ⟨fun pins s σ H Q I q => h.run pins s σ H Q I (k σ H Q q)⟩
theorem PIimp {tg : Expr} {t t' : TI} (h : PI X tg e t) (k : ∀ σ H Q, t' σ H Q → t σ H Q) : PI X tg e t' := ⟨fun pins s σ H Q I q => h.run pins s σ H Q I (k σ H Q q)⟩
theorem PGimp {t t' : TG} (h : PG X e t) (k : ∀ v σ H Q, t' v σ H Q → t v σ H Q) : PG X e t' := ⟨fun pins s σ H v u Q I r q => h.run pins s σ H v u Q I r (k v σ H Q q)⟩
theorem PSimp {st : Stmt} {t t' : TS} (h : PS X st t) (k : ∀ D σ H, t' D σ H → t D σ H) : PS X st t' := ⟨fun pins s σ H D I q => h.run pins s σ H D I (k D σ H q)⟩
theorem PSsimp {st : List Stmt} {t t' : TS} (h : PSs X st t) (k : ∀ D σ H, t' D σ H → t D σ H) : PSs X st t' := ⟨fun pins s σ H D I q => h.run pins s σ H D I (k D σ H q)⟩
end

/-! ### no star, no set -/
def noStar : Expr → Bool
  | .Starred _ _ => false
  | _ => true
theorem star_cons {e : Expr} {es : List Expr} {env : PySem.Env} (h : noStar e = true) : starEach (e :: es) env = (false, eval e env) :: starEach es env := by
  cases e <;> first | rfl | (simp [noStar] at h)
theorem star_any {env : PySem.Env} {pos : Pos} : ∀ {es : List Expr}, es.all noStar = true → (backTo pos (starEach es env)).any (·.1) = false
  | [], _ => rfl
  | e :: es, h => by
    rw [List.all_cons, Bool.and_eq_true] at h
    rw [star_cons h.1]
    show (false || (backTo pos (starEach es env)).any (·.1)) = false
    rw [star_any h.2]; rfl
theorem chE_ok {G : GT} {N : List Str} : ∀ {n : Nat} {sc : Scope} {e : Expr} {e' : E}, chE G N n sc e e' = true → okE e = true
  | 0, _, _, _, h => by simp [chE] at h
  | n + 1, sc, e, e', h => by
    unfold chE at h
    rw [Bool.and_eq_true] at h
    exact h.1
theorem chE_ns {G : GT} {N : List Str} {n : Nat} {sc : Scope} {e : Expr} {e' : E} (h : chE G N n sc e e' = true) : noStar e = true ∧ (∀ l u st p, e ≠ .Slice l u st p) ∧ (∀ es k p, e ≠ .Set es k p) := by
  have h := chE_ok h
  refine ⟨?_, fun _ _ _ _ z => ?_, fun _ _ _ z => ?_⟩
  · cases e <;> first | rfl | (simp [okE] at h)
  · subst z; simp [okE] at h
  · subst z; simp [okE] at h
theorem chL_ns {G : GT} {N : List Str} {n : Nat} {sc : Scope} : ∀ {es : List Expr} {es' : List E}, chL (chE G N n sc) es es' = true → es.all noStar = true
  | [], [], _ => rfl
  | [], _ :: _, _ => rfl
  | _ :: _, [], h => by simp [chL] at h
  | e :: es, e' :: es', h => by
    rw [chL, Bool.and_eq_true] at h
    rw [List.all_cons, (chE_ns h.1).1, chL_ns h.2]; rfl
theorem chL_len {α β : Type} {f : α → β → Bool} : ∀ {es : List α} {es' : List β}, chL f es es' = true → es.length = es'.length
  | [], [], _ => rfl
  | [], _ :: _, h => by simp [chL] at h
  | _ :: _, [], h => by simp [chL] at h
  | e :: es, e' :: es', h => by
    rw [chL, Bool.and_eq_true] at h
    rw [List.length_cons, List.length_cons, chL_len h.2]

section
variable {Γ : Gm} {G : GT} {C : CT} {N : List Str} {sc : Scope} {Wx : WX} {X : Cx}
theorem XO.vis (xo : XO Γ G C N sc Wx X) {x : Str} (h : visB sc x = true) : Vis X.env.scope x := by
  rw [xo.hsc]
  unfold visB at h
  split at h <;> first | exact .inl (by assumption) | exact .inr (.inl (by assumption)) | exact .inr (.inr (by assumption)) | cases h
theorem XO.loc (xo : XO Γ G C N sc Wx X) {x : Str} (h : locB sc x = true) : Loc X.env.scope x := by
  rw [xo.hsc]
  unfold locB at h
  split at h <;> first | exact .inl (by assumption) | exact .inr (by assumption) | cases h
theorem XO.glo (xo : XO Γ G C N sc Wx X) {x : Str} (h : gloB sc x = true) : Gl X x := by
  show X.env.scope.names.lookup x = some .globalImplicit
  rw [xo.hsc]
  unfold gloB at h
  split at h <;> first | assumption | cases h
theorem dbg_of {x : Str} (h : nodbg x = true) : (x == ("__debug__" : Str)) = false ∧ (x == ("__classdict__" : Str)) = false ∧ x ≠ ("__name__" : Str) := by
  unfold nodbg at h
  simp only [Bool.and_eq_true, Bool.not_eq_true'] at h
  exact ⟨h.1.1, h.1.2, fun z => by rw [z] at h; simp at h⟩
theorem bi_of {nm x : Str} (h : biB G sc nm x = true) : x = nm ∧ gloB sc x = true ∧ nodbg x = true ∧ G.bis.contains x = true := by
  unfold biB at h
  simp only [Bool.and_eq_true, beq_iff_eq] at h
  exact ⟨h.1.1.1, h.1.1.2, h.1.2, h.2⟩

/-! ### the parts -/
theorem pa_of (xo : XO Γ G C N sc Wx X) {f : Expr → E → Bool} (hf : ∀ e e', f e e' = true → noStar e = true ∧ PE X e (tE Γ C Wx e')) : ∀ {es : List Expr} {es' : List E}, chL f es es' = true → PA X es (tEs Γ C Wx es')
  | [], [], _ => PAimp pa_nil fun σ H Q ⟨env, S, QW, XW, he, hs, h, k, kx⟩ => by
    have h : QW [] S := by simpa only [wEs] using h
    exact k [] S [] H rfl hs (Fr.refl _ _) h
  | [], _ :: _, h => by simp [chL] at h
  | _ :: _, [], h => by simp [chL] at h
  | e :: es, e' :: es', h => by
    rw [chL, Bool.and_eq_true] at h
    obtain ⟨n1, p1⟩ := hf e e' h.1
    refine PAimp (pa_cons p1 (pa_of xo hf h.2) (star_cons n1)) fun σ H Q ⟨env, S, QW, XW, he, hs, h, k, kx⟩ => ?_
    have h : wE C e' env S (fun w S1 => wEs C es' env S1 (fun ws S2 => QW (w :: ws) S2) XW) XW := by simpa only [wEs] using h
    refine ⟨env, S, _, XW, he, hs, h, fun w S1 v H1 r1 s1 f1 q1 => ?_, kx⟩
    refine ⟨env, S1, _, XW, he.fr f1, s1, q1, fun ws S2 vs H2 r2 s2 f2 q2 => ?_, kx.fr f1⟩
    exact k (w :: ws) S2 (v :: vs) H2 ⟨v, vs, rfl, rep.fr f2 _ _ r1, r2⟩ s2 (f1.trans f2) q2
theorem s_var (xo : XO Γ G C N sc Wx X) {i : Nat} {x : Str} {pos : Pos} (h1 : N[i]? = some x) (h2 : visB sc x = true) (h3 : nodbg x = true) : PE X (.Name x pos) (tE Γ C Wx (.var i)) := by
  obtain ⟨d1, d2, _⟩ := dbg_of h3
  refine PEimp (pe_var (by rw [xo.hN]; exact h1) (xo.vis h2) d1 d2) fun σ H Q ⟨env, S, QW, XW, he, hs, h, k, kx⟩ => ?_
  simp only [wE] at h
  obtain ⟨w, q, h⟩ := wVar_el h
  obtain ⟨v, e1, r⟩ := he.2 i w q
  exact ⟨v, e1, k.here hs r h⟩
theorem s_cst {w : W} {v : V} {e : Expr} (p : PE X e (tC v)) (r : ∀ S H, rep Γ S H w v) : PE X e (tE Γ C Wx (.cst w)) :=
  PEimp p fun σ H Q ⟨env, S, QW, XW, he, hs, h, k, kx⟩ => k.here hs (r S H) (by simpa only [wE] using h)
theorem s_tup {es : List Expr} {es' : List E} {k0 : Nat} {pos : Pos} (p : PA X es (tEs Γ C Wx es')) : PE X (.Tuple es k0 pos) (tE Γ C Wx (.tup es')) := by
  refine PEimp (pe_tup p) fun σ H Q ⟨env, S, QW, XW, he, hs, h, k, kx⟩ => ?_
  simp only [wE] at h
  refine ⟨env, S, _, XW, he, hs, h, fun ws S1 vs H1 r1 s1 f1 q1 => ⟨by rw [← r1.len]; exact q1.1, tup_ok q1.2 r1 s1 (k.fr f1)⟩, kx⟩
theorem s_lst {es : List Expr} {es' : List E} {fz : Bool} {pos : Pos} (p : PA X es (tEs Γ C Wx es')) : PE X (.List es pos) (tE Γ C Wx (.lst fz es')) := by
  refine PEimp (pe_lst p) fun σ H Q ⟨env, S, QW, XW, he, hs, h, k, kx⟩ => ?_
  simp only [wE] at h
  refine ⟨env, S, _, XW, he, hs, h, fun ws S1 vs H1 r1 s1 f1 q1 => ⟨by rw [← r1.len]; exact q1.1, mkL_ok q1.2 r1 s1 (k.fr f1)⟩, kx⟩
/-- two parts, then what is made of their values -/
theorem two_of {a b : E} {σ : L2.St} {H : Hp} {env : Env} {S : Sto} {XW : XQ} {R : W → W → Sto → Prop} {Q : V → V → Hp → Prop} (he : envR Γ S H env σ) (hs : SR Γ S H)
    (h : wE C a env S (fun x S1 => wE C b env S1 (fun y S2 => R x y S2) XW) XW) (kx : KX Γ S H XW (fun cls d H' => Wx cls d σ H'))
    (k : ∀ x y S2 v u H2, rep Γ S2 H2 x v → rep Γ S2 H2 y u → SR Γ S2 H2 → Fr S H S2 H2 → R x y S2 → Q v u H2) :
    tE Γ C Wx a σ H fun v H1 => tE Γ C Wx b σ H1 fun u H2 => Q v u H2 :=
  ⟨env, S, _, XW, he, hs, h, fun x S1 v H1 r1 s1 f1 q1 => ⟨env, S1, _, XW, he.fr f1, s1, q1, fun y S2 u H2 r2 s2 f2 q2 => k x y S2 v u H2 (rep.fr f2 _ _ r1) r2 s2 (f1.trans f2) q2, kx.fr f1⟩, kx⟩
theorem s_bin (xo : XO Γ G C N sc Wx X) {o : BOp} {x y : Expr} {a b : E} {pos : Pos} (pa : PE X x (tE Γ C Wx a)) (pb : PE X y (tE Γ C Wx b)) : PE X (.BinOp x (bopOf o) y pos) (tE Γ C Wx (.bin o a b)) := by
  refine PEimp (pe_op (op_B xo.hK o) pa pb) fun σ H Q ⟨env, S, QW, XW, he, hs, h, k, kx⟩ => ?_
  simp only [wE] at h
  exact two_of he hs h kx fun x y S2 v u H2 r1 r2 s2 f2 q => ⟨x, y, S2, QW, r1, r2, s2, q, k.fr f2⟩
theorem nomark' {o : COp} {e : Expr} (h : ∀ es k p, e ≠ .Set es k p) : behindInMarks (copOf o) e = false := by
  cases e <;> first | rfl | exact absurd rfl (h _ _ _)
theorem s_cmp (xo : XO Γ G C N sc Wx X) {o : COp} {x y : Expr} {a b : E} {pos : Pos} (pa : PE X x (tE Γ C Wx a)) (pb : PE X y (tE Γ C Wx b)) (ny : ∀ es k p, y ≠ .Set es k p) : PE X (.Compare x [copOf o] [y] pos) (tE Γ C Wx (.cmp o a b)) := by
  refine PEimp (pe_cmpR (op_C xo.hK xo.un o) pa pb (nomark' ny)) fun σ H Q ⟨env, S, QW, XW, he, hs, h, k, kx⟩ => ?_
  simp only [wE] at h
  exact two_of he hs h kx fun x y S2 v u H2 r1 r2 s2 f2 q => ⟨x, y, S2, QW, r1, r2, s2, q, k.fr f2⟩
theorem KB.q {S : Sto} {H : Hp} {QW : VQ} {Q : Bool → Hp → Prop} (k : KB Γ S H QW Q) : KQ Γ S H QW fun x H1 => ∃ c, x = .bl c ∧ Q c H1 := fun w S' v H' r s f q => by
  obtain ⟨b, rfl, q2⟩ := k w S' H' s f q
  exact ⟨b, r, q2⟩
theorem KB.fr {S S' : Sto} {H H' : Hp} {QW : VQ} {Q : Bool → Hp → Prop} (f : Fr S H S' H') (k : KB Γ S H QW Q) : KB Γ S' H' QW Q := fun w S2 H2 s f2 q => k w S2 H2 s (f.trans f2) q
theorem t_cmp (xo : XO Γ G C N sc Wx X) {o : COp} {x y : Expr} {a b : E} {pos : Pos} (pa : PE X x (tE Γ C Wx a)) (pb : PE X y (tE Γ C Wx b)) (ny : ∀ es k p, y ≠ .Set es k p) : PT X (.Compare x [copOf o] [y] pos) (tT Γ C Wx (.cmp o a b)) := by
  refine PTimp (pt_cmpR (op_C xo.hK xo.un o) pa pb (nomark' ny)) fun σ H Q ⟨env, S, QW, XW, he, hs, h, k, kx⟩ => ?_
  simp only [wE] at h
  exact two_of he hs h kx fun x y S2 v u H2 r1 r2 s2 f2 q => ⟨x, y, S2, QW, r1, r2, s2, q, (KB.q k).fr f2⟩
/-- a plain test -/
def plainT : Expr → Bool
  | .UnaryOp .Not _ _ => false
  | .BoolOp _ _ _ => false
  | .IfExp _ _ _ _ => false
  | .Compare _ _ _ _ => false
  | _ => true
theorem t_plain {e : Expr} {e' : E} (p : PE X e (tE Γ C Wx e')) (h : plainT e = true) : PT X e (tT Γ C Wx e') := by
  refine PTimp (pt_val p ?_) fun σ H Q ⟨env, S, QW, XW, he, hs, h, k, kx⟩ => ⟨env, S, QW, XW, he, hs, h, k.q, kx⟩
  intro whole
  cases e with
  | UnaryOp op x pos => cases op <;> first | rfl | (simp [plainT] at h)
  | _ => first | rfl | (simp [plainT] at h)
theorem tE_bl {e : E} {σ : L2.St} {H : Hp} {Q : Bool → Hp → Prop} (h : tT Γ C Wx e σ H Q) : tE Γ C Wx e σ H fun x H1 => ∃ c, x = .bl c ∧ Q c H1 := by
  obtain ⟨env, S, QW, XW, he, hs, h, k, kx⟩ := h
  exact ⟨env, S, QW, XW, he, hs, h, k.q, kx⟩
end
end Bw

/-! Ev9: the other expressions. -/
namespace Bw
open PySem L2 PySem.Spec PyProof.Rows
section
variable {Γ : Gm} {G : GT} {C : CT} {N : List Str} {sc : Scope} {Wx : WX} {X : Cx}

theorem chain_of (xo : XO Γ G C N sc Wx X) {o o' : COp} {a b c : E} {σ : L2.St} {H : Hp} {Q : V → Hp → Prop} (hq : tE Γ C Wx (.chain o o' a b c) σ H Q) :
    tChain (rC Γ o) (rC Γ o') (tE Γ C Wx a) (tE Γ C Wx b) (tE Γ C Wx c) σ H Q := by
  obtain ⟨env, S, QW, XW, he, hs, h, k, kx⟩ := hq
  simp only [wE] at h
  refine ⟨env, S, _, XW, he, hs, h, fun x S1 v H1 r1 s1 f1 q1 => ?_, kx⟩
  refine ⟨env, S1, _, XW, he.fr f1, s1, q1, fun y S2 u H2 r2 s2 f2 q2 => ?_, kx.fr f1⟩
  refine ⟨x, y, S2, _, rep.fr f2 _ _ r1, r2, s2, q2, fun z S3 t H3 r3 s3 f3 q3 => ?_⟩
  rcases wB_el q3 with ⟨rfl, q3⟩ | ⟨rfl, q3⟩
  · cases r3
    refine ⟨true, rfl, ?_⟩
    refine iteT ?_
    refine ⟨env, S3, _, XW, he.fr (f1.trans (f2.trans f3)), s3, q3, fun z S4 t H4 r4 s4 f4 q4 => ?_, kx.fr (f1.trans (f2.trans f3))⟩
    exact ⟨y, z, S4, QW, rep.fr (f3.trans f4) _ _ r2, r4, s4, q4, k.fr (f1.trans (f2.trans (f3.trans f4)))⟩
  · cases r3
    refine ⟨false, rfl, ?_⟩
    refine iteF ?_
    exact k (.bl false) S3 (.bl false) H3 rfl s3 (f1.trans (f2.trans f3)) q3
theorem s_chain (xo : XO Γ G C N sc Wx X) {o o' : COp} {x y z : Expr} {a b c : E} {pos : Pos} (pa : PE X x (tE Γ C Wx a)) (pb : PE X y (tE Γ C Wx b)) (pc : PE X z (tE Γ C Wx c)) (ny : ∀ es k p, y ≠ .Set es k p) (nz : ∀ es k p, z ≠ .Set es k p) :
    PE X (.Compare x [copOf o, copOf o'] [y, z] pos) (tE Γ C Wx (.chain o o' a b c)) :=
  PEimp (pe_chain (op_C xo.hK xo.un o) (op_C xo.hK xo.un o') pa pb pc (nomark' nz)) fun σ H Q hq => chain_of xo hq
theorem t_chain (xo : XO Γ G C N sc Wx X) {o o' : COp} {x y z : Expr} {a b c : E} {pos : Pos} (pa : PE X x (tE Γ C Wx a)) (pb : PE X y (tE Γ C Wx b)) (pc : PE X z (tE Γ C Wx c)) (ny : ∀ es k p, y ≠ .Set es k p) (nz : ∀ es k p, z ≠ .Set es k p) :
    PT X (.Compare x [copOf o, copOf o'] [y, z] pos) (tT Γ C Wx (.chain o o' a b c)) :=
  PTimp (pt_chain (op_C xo.hK xo.un o) (op_C xo.hK xo.un o') pa pb pc (nomark' nz)) fun σ H Q hq => chain_of xo (tE_bl hq)
def isNon : W → Bool
  | .non => true
  | _ => false
theorem isN_rep {S : Sto} {H : Hp} {x : W} {v : V} (r : rep Γ S H x v) : decide (v = .non) = isNon x := by
  cases x with
  | non => cases r; rfl
  | bl _ => cases r; rfl
  | int _ => cases r; rfl
  | str _ => obtain ⟨rfl, _⟩ := r; rfl
  | tup _ => obtain ⟨a, vs, rfl, _⟩ := r; rfl
  | rl _ => obtain ⟨a, vs, rfl, _⟩ := r; rfl
  | sc _ => obtain ⟨a, vs, rfl, _⟩ := r; rfl
  | ref _ => cases r; rfl
  | fn _ => cases r; rfl
  | dct _ _ => obtain ⟨a, vs, rfl, _⟩ := r; rfl
  | obj _ _ _ => obtain ⟨a, dx, vs, rfl, _⟩ := r; rfl
  | exn _ _ _ => obtain ⟨a, d, vs, rfl, _⟩ := r; rfl
theorem isN_of {neg : Bool} {a : E} {σ : L2.St} {H : Hp} {Q : V → Hp → Prop} (hq : tE Γ C Wx (.isN neg a) σ H Q) :
    tE Γ C Wx a σ H fun x H1 => Q (.bl (if neg = true then !decide (x = .non) else decide (x = .non))) H1 := by
  obtain ⟨env, S, QW, XW, he, hs, h, k, kx⟩ := hq
  simp only [wE] at h
  refine ⟨env, S, _, XW, he, hs, h, fun x S1 v H1 r1 s1 f1 q1 => ?_, kx⟩
  dsimp only at q1 ⊢
  rw [isN_rep r1]
  have q2 : QW (.bl (if neg = true then !isNon x else isNon x)) S1 := by
    cases x <;> cases neg <;> exact q1
  exact k (.bl (if neg = true then !isNon x else isNon x)) S1 _ H1 rfl s1 f1 q2
theorem s_isN (xo : XO Γ G C N sc Wx X) {neg : Bool} {x : Expr} {a : E} {pos : Pos} {j p} (pa : PE X x (tE Γ C Wx a)) : PE X (.Compare x [if neg = true then .IsNot else .Is] [.Constant .none j p] pos) (tE Γ C Wx (.isN neg a)) := by
  cases neg
  · exact PEimp (pe_cmp (pc_isN pa) rfl) fun σ H Q hq => isN_of hq
  · exact PEimp (pe_cmp (pc_notN pa) rfl) fun σ H Q hq => isN_of hq
theorem t_isN (xo : XO Γ G C N sc Wx X) {neg : Bool} {x : Expr} {a : E} {pos : Pos} {j p} (pa : PE X x (tE Γ C Wx a)) : PT X (.Compare x [if neg = true then .IsNot else .Is] [.Constant .none j p] pos) (tT Γ C Wx (.isN neg a)) := by
  cases neg
  · exact PTimp (pt_cmp (pc_isN pa) rfl) fun σ H Q hq => isN_of (tE_bl hq)
  · exact PTimp (pt_cmp (pc_notN pa) rfl) fun σ H Q hq => isN_of (tE_bl hq)

/-! ### and, or, not -/
theorem s_and {f : Expr → E → Bool} (hf : ∀ e e', f e e' = true → PE X e (tE Γ C Wx e')) {pos : Pos} : ∀ {es : List Expr} {es' : List E}, chL f es es' = true → es' ≠ [] → PE X (.BoolOp .And es pos) (tE Γ C Wx (.and es'))
  | [], es', h, n => by cases es' with | nil => exact absurd rfl n | cons _ _ => simp [chL] at h
  | _ :: _, [], h, n => absurd rfl n
  | [e], [e'], h, _ => by
    rw [chL, Bool.and_eq_true] at h
    refine PEimp (pe_one (hf _ _ h.1)) fun σ H Q ⟨env, S, QW, XW, he, hs, h, k, kx⟩ => ⟨env, S, QW, XW, he, hs, by simpa only [wE, wAnd] using h, k, kx⟩
  | e :: e2 :: es, [e'], h, _ => by simp [chL] at h
  | [e], e' :: e2' :: es', h, _ => by simp [chL] at h
  | e :: e2 :: es, e' :: e2' :: es', h, _ => by
    rw [chL, Bool.and_eq_true] at h
    refine PEimp (pe_and (hf _ _ h.1) (s_and hf h.2 (by simp))) fun σ H Q ⟨env, S, QW, XW, he, hs, h, k, kx⟩ => ?_
    simp only [wE, wAnd] at h
    refine ⟨env, S, _, XW, he, hs, h, fun x S1 v H1 r1 s1 f1 q1 => ?_, kx⟩
    rcases wB_el q1 with ⟨rfl, q1⟩ | ⟨rfl, q1⟩
    · cases r1
      refine ⟨true, rfl, ?_⟩
      refine iteT ?_
      exact ⟨env, S1, QW, XW, he.fr f1, s1, by simpa only [wE, wB] using q1, k.fr f1, kx.fr f1⟩
    · cases r1
      refine ⟨false, rfl, ?_⟩
      refine iteF ?_
      exact k (.bl false) S1 (.bl false) H1 rfl s1 f1 q1
theorem s_or {f : Expr → E → Bool} (hf : ∀ e e', f e e' = true → PE X e (tE Γ C Wx e')) {pos : Pos} : ∀ {es : List Expr} {es' : List E}, chL f es es' = true → es' ≠ [] → PE X (.BoolOp .Or es pos) (tE Γ C Wx (.or es'))
  | [], es', h, n => by cases es' with | nil => exact absurd rfl n | cons _ _ => simp [chL] at h
  | _ :: _, [], h, n => absurd rfl n
  | [e], [e'], h, _ => by
    rw [chL, Bool.and_eq_true] at h
    refine PEimp (pe_one (hf _ _ h.1)) fun σ H Q ⟨env, S, QW, XW, he, hs, h, k, kx⟩ => ⟨env, S, QW, XW, he, hs, by simpa only [wE, wOr] using h, k, kx⟩
  | e :: e2 :: es, [e'], h, _ => by simp [chL] at h
  | [e], e' :: e2' :: es', h, _ => by simp [chL] at h
  | e :: e2 :: es, e' :: e2' :: es', h, _ => by
    rw [chL, Bool.and_eq_true] at h
    refine PEimp (pe_or (hf _ _ h.1) (s_or hf h.2 (by simp))) fun σ H Q ⟨env, S, QW, XW, he, hs, h, k, kx⟩ => ?_
    simp only [wE, wOr] at h
    refine ⟨env, S, _, XW, he, hs, h, fun x S1 v H1 r1 s1 f1 q1 => ?_, kx⟩
    rcases wB_el q1 with ⟨rfl, q1⟩ | ⟨rfl, q1⟩
    · cases r1
      refine ⟨true, rfl, ?_⟩
      refine iteT ?_
      exact k (.bl true) S1 (.bl true) H1 rfl s1 f1 q1
    · cases r1
      refine ⟨false, rfl, ?_⟩
      refine iteF ?_
      exact ⟨env, S1, QW, XW, he.fr f1, s1, by simpa only [wE, wB] using q1, k.fr f1, kx.fr f1⟩
theorem w_and {f : Expr → E → Bool} (hf : ∀ e e', f e e' = true → PT X e (tT Γ C Wx e')) {pos : Pos} : ∀ {es : List Expr} {es' : List E}, chL f es es' = true → es' ≠ [] → PW X (.BoolOp .And es pos) (tT Γ C Wx (.and es'))
  | [], es', h, n => by cases es' with | nil => exact absurd rfl n | cons _ _ => simp [chL] at h
  | _ :: _, [], h, n => absurd rfl n
  | [e], [e'], h, _ => by
    rw [chL, Bool.and_eq_true] at h
    refine PWimp (pw_and1 (hf _ _ h.1)) fun σ H Q ⟨env, S, QW, XW, he, hs, h, k, kx⟩ => ⟨env, S, QW, XW, he, hs, by simpa only [wE, wAnd] using h, k, kx⟩
  | e :: e2 :: es, [e'], h, _ => by simp [chL] at h
  | [e], e' :: e2' :: es', h, _ => by simp [chL] at h
  | e :: e2 :: es, e' :: e2' :: es', h, _ => by
    rw [chL, Bool.and_eq_true] at h
    refine PWimp (pw_and (hf _ _ h.1) (w_and hf h.2 (by simp))) fun σ H Q ⟨env, S, QW, XW, he, hs, h, k, kx⟩ => ?_
    simp only [wE, wAnd] at h
    refine ⟨env, S, _, XW, he, hs, h, fun x S1 H1 s1 f1 q1 => ?_, kx⟩
    rcases wB_el q1 with ⟨rfl, q1⟩ | ⟨rfl, q1⟩
    · refine ⟨true, rfl, ?_⟩
      refine iteT ?_
      exact ⟨env, S1, QW, XW, he.fr f1, s1, by simpa only [wE, wB] using q1, k.fr f1, kx.fr f1⟩
    · refine ⟨false, rfl, ?_⟩
      refine iteF ?_
      obtain ⟨b, e, q⟩ := k (.bl false) S1 H1 s1 f1 q1
      cases e
      exact q
theorem w_or {f : Expr → E → Bool} (hf : ∀ e e', f e e' = true → PT X e (tT Γ C Wx e')) {pos : Pos} : ∀ {es : List Expr} {es' : List E}, chL f es es' = true → es' ≠ [] → PW X (.BoolOp .Or es pos) (tT Γ C Wx (.or es'))
  | [], es', h, n => by cases es' with | nil => exact absurd rfl n | cons _ _ => simp [chL] at h
  | _ :: _, [], h, n => absurd rfl n
  | [e], [e'], h, _ => by
    rw [chL, Bool.and_eq_true] at h
    refine PWimp (pw_or1 (hf _ _ h.1)) fun σ H Q ⟨env, S, QW, XW, he, hs, h, k, kx⟩ => ⟨env, S, QW, XW, he, hs, by simpa only [wE, wOr] using h, k, kx⟩
  | e :: e2 :: es, [e'], h, _ => by simp [chL] at h
  | [e], e' :: e2' :: es', h, _ => by simp [chL] at h
  | e :: e2 :: es, e' :: e2' :: es', h, _ => by
    rw [chL, Bool.and_eq_true] at h
    refine PWimp (pw_or (hf _ _ h.1) (w_or hf h.2 (by simp))) fun σ H Q ⟨env, S, QW, XW, he, hs, h, k, kx⟩ => ?_
    simp only [wE, wOr] at h
    refine ⟨env, S, _, XW, he, hs, h, fun x S1 H1 s1 f1 q1 => ?_, kx⟩
    rcases wB_el q1 with ⟨rfl, q1⟩ | ⟨rfl, q1⟩
    · refine ⟨true, rfl, ?_⟩
      refine iteT ?_
      obtain ⟨b, e, q⟩ := k (.bl true) S1 H1 s1 f1 q1
      cases e
      exact q
    · refine ⟨false, rfl, ?_⟩
      refine iteF ?_
      exact ⟨env, S1, QW, XW, he.fr f1, s1, by simpa only [wE, wB] using q1, k.fr f1, kx.fr f1⟩
theorem s_not {x : Expr} {a : E} {pos : Pos} (pa : PE X x (tE Γ C Wx a)) : PE X (.UnaryOp .Not x pos) (tE Γ C Wx (.not a)) := by
  refine PEimp (pe_not pa) fun σ H Q ⟨env, S, QW, XW, he, hs, h, k, kx⟩ => ?_
  simp only [wE] at h
  refine ⟨env, S, _, XW, he, hs, h, fun x S1 v H1 r1 s1 f1 q1 => ?_, kx⟩
  obtain ⟨b, rfl, q1⟩ := wNot_el q1
  cases r1
  exact ⟨_, rfl, k (.bl _) S1 (.bl _) H1 rfl s1 f1 q1⟩
theorem t_not {x : Expr} {a : E} {pos : Pos} (pa : PT X x (tT Γ C Wx a)) : PT X (.UnaryOp .Not x pos) (tT Γ C Wx (.not a)) := by
  refine PTimp (pt_not pa) fun σ H Q ⟨env, S, QW, XW, he, hs, h, k, kx⟩ => ?_
  simp only [wE] at h
  refine ⟨env, S, _, XW, he, hs, h, fun x S1 H1 s1 f1 q1 => ?_, kx⟩
  obtain ⟨b, rfl, q1⟩ := wNot_el q1
  obtain ⟨b, e, q⟩ := k (.bl _) S1 H1 s1 f1 q1
  cases e
  exact ⟨_, rfl, q⟩
theorem s_neg {x : Expr} {a : E} {pos : Pos} (pa : PE X x (tE Γ C Wx a)) : PE X (.UnaryOp .USub x pos) (tE Γ C Wx (.neg a)) := by
  refine PEimp (pe_un un_neg pa) fun σ H Q ⟨env, S, QW, XW, he, hs, h, k, kx⟩ => ?_
  simp only [wE] at h
  refine ⟨env, S, _, XW, he, hs, h, fun x S1 v H1 r1 s1 f1 q1 => ?_, kx⟩
  obtain ⟨i, rfl, q1⟩ := wI1_el q1
  cases r1
  exact ⟨_, rfl, k (.int _) S1 (.int _) H1 rfl s1 f1 q1⟩
theorem s_ite {z x y : Expr} {c a b : E} {pos : Pos} (pz : PT X z (tT Γ C Wx c)) (pa : PE X x (tE Γ C Wx a)) (pb : PE X y (tE Γ C Wx b)) : PE X (.IfExp z x y pos) (tE Γ C Wx (.ite c a b)) := by
  refine PEimp (pe_ifExp pz pa pb) fun σ H Q ⟨env, S, QW, XW, he, hs, h, k, kx⟩ => ?_
  simp only [wE] at h
  refine ⟨env, S, _, XW, he, hs, h, fun x S1 H1 s1 f1 q1 => ?_, kx⟩
  rcases wB_el q1 with ⟨rfl, q1⟩ | ⟨rfl, q1⟩
  · refine ⟨true, rfl, ?_⟩
    refine iteT ?_
    exact ⟨env, S1, QW, XW, he.fr f1, s1, q1, k.fr f1, kx.fr f1⟩
  · refine ⟨false, rfl, ?_⟩
    refine iteF ?_
    exact ⟨env, S1, QW, XW, he.fr f1, s1, q1, k.fr f1, kx.fr f1⟩

/-! ### subscripts -/
theorem plainIx_of {b : Expr} (h : ∀ l u st p, b ≠ .Slice l u st p) : PlainIx b := by
  intro o i
  cases b <;> first | rfl | exact absurd rfl (h _ _ _ _)
theorem s_idx (xo : XO Γ G C N sc Wx X) {x y : Expr} {a i : E} {pos : Pos} (pa : PE X x (tE Γ C Wx a)) (pb : PE X y (tE Γ C Wx i)) (ny : ∀ l u st p, y ≠ .Slice l u st p) : PE X (.Subscript x y pos) (tE Γ C Wx (.idx a i)) := by
  refine PEimp (pe_ix (ix_W xo.hK xo.un) pa pb (plainIx_of ny)) fun σ H Q ⟨env, S, QW, XW, he, hs, h, k, kx⟩ => ?_
  simp only [wE] at h
  exact two_of he hs h kx fun x y S2 v u H2 r1 r2 s2 f2 q => ⟨x, y, S2, QW, r1, r2, s2, q, k.fr f2⟩
def tO (Γ : Gm) (C : CT) (Wx : WX) (es : List E) : TO := fun σ H Q => ∃ env S QW XW, envR Γ S H env σ ∧ SR Γ S H ∧ wEs C es env S QW XW ∧ (∀ ws S' H', SR Γ S' H' → Fr S H S' H' → QW ws S' → ∃ o, optInt ws = some o ∧ Q o H') ∧ KX Γ S H XW (fun cls d H' => Wx cls d σ H')
theorem po_of {f : Expr → E → Bool} (hf : ∀ e e', f e e' = true → PE X e (tE Γ C Wx e')) : ∀ {o : Option Expr} {es : List E}, chO f o es = true → PO X o (tO Γ C Wx es)
  | none, [], _ => POimp po_none fun σ H Q ⟨env, S, QW, XW, he, hs, h, k, kx⟩ => by
    simp only [wEs] at h
    obtain ⟨o, e, q⟩ := k [] S H hs (Fr.refl _ _) h
    cases e
    exact q
  | none, _ :: _, h => by simp [chO] at h
  | some e, [], h => by simp [chO] at h
  | some e, [e'], h => POimp (po_some (hf e e' h)) fun σ H Q ⟨env, S, QW, XW, he, hs, h, k, kx⟩ => by
    simp only [wEs] at h
    refine ⟨env, S, _, XW, he, hs, h, fun x S1 v H1 r1 s1 f1 q1 => ?_, kx⟩
    obtain ⟨o, e, q⟩ := k [x] S1 H1 s1 f1 q1
    cases x with
    | int i =>
      cases r1
      cases e
      exact ⟨i, rfl, q⟩
    | _ => simp [optInt] at e
  | some e, _ :: _ :: _, h => by simp [chO] at h
theorem wSl_opt {fz : Bool} {x : W} {l h : List W} {S : Sto} {Q : VQ} (q : wSl fz x l h S Q) : ∃ lo hi, optInt l = some lo ∧ optInt h = some hi := by
  unfold wSl at q
  split at q
  · exact ⟨_, _, by assumption, by assumption⟩
  · exact q.elim
theorem s_sl (xo : XO Γ G C N sc Wx X) {f : Expr → E → Bool} (hf : ∀ e e', f e e' = true → PE X e (tE Γ C Wx e')) {x : Expr} {l h : Option Expr} {a : E} {lo hi : List E} {fz : Bool} {p pos : Pos} (pa : PE X x (tE Γ C Wx a)) (pl : chO f l lo = true) (ph : chO f h hi = true) :
    PE X (.Subscript x (.Slice l h none p) pos) (tE Γ C Wx (.sl fz a lo hi)) := by
  refine PEimp (pe_slice (sl_W xo.hK fz) pa (po_of hf pl) (po_of hf ph)) fun σ H Q ⟨env, S, QW, XW, he, hs, h, k, kx⟩ => ?_
  simp only [wE] at h
  refine ⟨env, S, _, XW, he, hs, h, fun x S1 v H1 r1 s1 f1 q1 => ?_, kx⟩
  dsimp only at q1
  refine ⟨env, S1, _, XW, he.fr f1, s1, q1, fun l S2 H2 s2 f2 q2 => ?_, kx.fr f1⟩
  cases e1 : optInt l with
  | none => rw [e1] at q2; exact absurd q2.1 (by simp)
  | some o1 =>
    refine ⟨o1, rfl, env, S2, _, XW, he.fr (f1.trans f2), s2, q2.2, fun h S3 H3 s3 f3 q3 => ?_, kx.fr (f1.trans f2)⟩
    obtain ⟨o2, o3, e2, e3⟩ := wSl_opt q3
    exact ⟨o3, e3, x, S3, QW, rep.fr (f2.trans f3) _ _ r1, s3, ⟨l, h, e1, e3, q3⟩, k.fr (f1.trans (f2.trans f3))⟩
end
end Bw

/-! Ev10: calls, built-ins, comprehensions; every expression that the checker takes. -/
namespace Bw
open PySem L2 PySem.Spec PyProof.Rows
theorem vals_ints_hold {h : Heap} : ∀ {ns : List Int} {us : List Value}, Vals (ns.map V.int) us → PySem.W.HoldAll h us ns
  | [], _, r => by cases r; exact PySem.W.HoldAll.nil
  | n :: ns, _, r => by
    cases r with
    | cons q t =>
      obtain ⟨tk, rfl⟩ := q
      exact .cons (PySem.W.holds_int n tk) (vals_ints_hold t)
theorem maxOf_L : ∀ (ys : List Int) (y : Int), PySem.W.maxOf y ys = maxL (y :: ys)
  | [], y => rfl
  | z :: ys, y => by
    show PySem.W.maxOf (if decide (y < z) = true then z else y) ys = max y (maxL (z :: ys))
    rw [maxOf_L ys]
    cases ys with
    | nil => show (if decide (y < z) = true then z else y) = max y z; simp only [decide_eq_true_eq]; omega
    | cons u us =>
      show max (if decide (y < z) = true then z else y) (maxL (u :: us)) = max y (max z (maxL (u :: us)))
      simp only [decide_eq_true_eq]
      omega
section
variable {Γ : Gm} {G : GT} {C : CT} {N : List Str} {sc : Scope} {Wx : WX} {X : Cx}
theorem s_call (xo : XO Γ G C N sc Wx X) (nh : G.hot = false) {x : Str} {f n : Nat} {es : List Expr} {es' : List E} {p pos : Pos} (h1 : gloB sc x = true) (h2 : nodbg x = true) (h3 : (x, f, n) ∈ G.fns) (h4 : es ≠ []) (hn : es.all noStar = true) (pa : PA X es (tEs Γ C Wx es')) :
    PE X (.Call (.Name x p) es [] pos) (tE Γ C Wx (.call f es')) := by
  obtain ⟨k, fd, ps, F, hr, hk, hb, _⟩ := xo.fn x f _ nh h3
  have hm := xo.fnv x f _ h3
  cases es with
  | nil => exact absurd rfl h4
  | cons e es =>
    rw [List.all_cons, Bool.and_eq_true] at hn
    refine PEimp (pe_callS (E := WE Wx) F hr (xo.glo h1) hm hk hb (passAt xo.tk) pa (dbg_of h2).1 (star_cons hn.1) (star_any hn.2)) fun σ H Q ⟨env, S, QW, XW, he, hs, h, k, kx⟩ => ?_
    simp only [wE] at h
    exact ⟨env, S, _, XW, he, hs, h, fun ws S1 vs H1 r1 s1 f1 q1 => ⟨ws, S1, QW, XW, r1, s1, q1, k.fr f1, kx.fr f1⟩, kx⟩
theorem s_callD (xo : XO Γ G C N sc Wx X) (nh : G.hot = false) {x : Str} {f n : Nat} {es : List Expr} {es' : List E} {ds ws : List W} {p pos : Pos} (h1 : gloB sc x = true) (h2 : nodbg x = true) (h3 : (x, f, n) ∈ G.fns) (h4 : es ≠ []) (hd : G.dfl.lookup x = some ws) (hl : ds.length ≤ ws.length)
    (he : ws.drop (ws.length - ds.length) = ds) (hn : es.all noStar = true) (pa : PA X es (tEs Γ C Wx es')) : PE X (.Call (.Name x p) es [] pos) (tE Γ C Wx (.callD f es' ds)) := by
  obtain ⟨k, fd, ps, F, hr, hk, _, hb⟩ := xo.fn x f _ nh h3
  obtain ⟨dvs, dv, hb, hdv, hrep⟩ := hb ws hd ds.length hl
  rw [he] at hrep
  have hm := xo.fnv x f _ h3
  cases es with
  | nil => exact absurd rfl h4
  | cons e es =>
    rw [List.all_cons, Bool.and_eq_true] at hn
    refine PEimp (pe_callD (E := WE Wx) F hr (xo.glo h1) hm hk hb hdv (passAt xo.tk) pa (dbg_of h2).1 (star_cons hn.1) (star_any hn.2)) fun σ H Q ⟨env, S, QW, XW, he, hs, h, k, kx⟩ => ?_
    simp only [wE] at h
    exact ⟨env, S, _, XW, he, hs, h, fun ws S1 vs H1 r1 s1 f1 q1 => ⟨ws ++ ds, S1, QW, XW, r1.app (hrep S1 H1), s1, q1, k.fr f1, kx.fr f1⟩, kx⟩
theorem bi_imp {b : Bi} {es' : List E} {σ : L2.St} {H : Hp} {Q : VK} (hq : tE Γ C Wx (.bi b es') σ H Q) : tCB (rBi Γ b) (tEs Γ C Wx es') σ H Q := by
  obtain ⟨env, S, QW, XW, he, hs, h, k, kx⟩ := hq
  simp only [wE] at h
  exact ⟨env, S, _, XW, he, hs, h, fun ws S1 vs H1 r1 s1 f1 q1 => ⟨ws, S1, QW, r1, s1, q1, k.fr f1⟩, kx⟩
theorem s_bi (xo : XO Γ G C N sc Wx X) {b : Bi} {x : Str} {es : List Expr} {es' : List E} {p pos : Pos} (h1 : biB G sc (nameB b) x = true) (hh : (!G.hot || coolB b) = true) (h4 : es ≠ []) (hb : fnB b ≠ .none) (hn : es.all noStar = true) (pa : PA X es (tEs Γ C Wx es')) :
    PE X (.Call (.Name x p) es [] pos) (tE Γ C Wx (.bi b es')) := by
  obtain ⟨e1, g, d, m⟩ := bi_of h1
  subst e1
  have hm := xo.bi _ m
  obtain ⟨d1, d2, d3⟩ := dbg_of d
  cases es with
  | nil => exact absurd rfl h4
  | cons e es =>
    rw [List.all_cons, Bool.and_eq_true] at hn
    have cr := call_Bi (X := X) xo.hK b (fun z => xo.calm (by rw [z, Bool.or_false] at hh; simpa using hh)) hb
    have n1 := star_cons (env := X.env) (es := es) hn.1
    have n2 := star_any (env := X.env) (pos := pos) hn.2
    cases b with
    | len => exact PEimp (pe_callB cr (xo.glo g) hm PySem.boot_len pa d3 d1 n1 n2) fun σ H Q hq => bi_imp hq
    | int1 => exact PEimp (pe_callTy cr (xo.glo g) hm boot_int pa d3 d1 n1 n2) fun σ H Q hq => bi_imp hq
    | str1 => exact PEimp (pe_callTy cr (xo.glo g) hm (by decide +kernel) pa d3 d1 n1 n2) fun σ H Q hq => bi_imp hq
    | abs => exact PEimp (pe_callB cr (xo.glo g) hm boot_abs pa d3 d1 n1 n2) fun σ H Q hq => bi_imp hq
    | max2 => exact PEimp (pe_callB cr (xo.glo g) hm boot_max pa d3 d1 n1 n2) fun σ H Q hq => bi_imp hq
    | max3 => exact PEimp (pe_callB cr (xo.glo g) hm boot_max pa d3 d1 n1 n2) fun σ H Q hq => bi_imp hq
    | min2 => exact PEimp (pe_callB cr (xo.glo g) hm boot_min pa d3 d1 n1 n2) fun σ H Q hq => bi_imp hq
    | max1 => exact PEimp (pe_callB cr (xo.glo g) hm boot_max pa d3 d1 n1 n2) fun σ H Q hq => bi_imp hq
    | min1 => exact PEimp (pe_callB cr (xo.glo g) hm boot_min pa d3 d1 n1 n2) fun σ H Q hq => bi_imp hq
    | sum1 => exact PEimp (pe_callB cr (xo.glo g) hm boot_sum pa d3 d1 n1 n2) fun σ H Q hq => bi_imp hq
    | all1 => exact PEimp (pe_callB cr (xo.glo g) hm boot_all pa d3 d1 n1 n2) fun σ H Q hq => bi_imp hq
    | any1 => exact PEimp (pe_callB cr (xo.glo g) hm boot_any pa d3 d1 n1 n2) fun σ H Q hq => bi_imp hq
    | tuple1 => exact PEimp (pe_callTy cr (xo.glo g) hm boot_tuple pa d3 d1 n1 n2) fun σ H Q hq => bi_imp hq
    | list1 fz => exact PEimp (pe_callTy cr (xo.glo g) hm boot_list pa d3 d1 n1 n2) fun σ H Q hq => bi_imp hq
    | maxd => exact absurd rfl hb
    | listrev _ => exact absurd rfl hb
    | lenset => exact absurd rfl hb
    | ord1 => exact PEimp (pe_callB cr (xo.glo g) hm (by decide +kernel) pa d3 d1 n1 n2) fun σ H Q hq => bi_imp hq
    | dict1 => exact PEimp (pe_callTy cr (xo.glo g) hm boot_dict pa d3 d1 n1 n2) fun σ H Q hq => bi_imp hq
theorem s_listrev (xo : XO Γ G C N sc Wx X) (nh : G.hot = false) {x y : Str} {e : Expr} {e' : E} {fz : Bool} {p p2 pos pos2 : Pos} (h1 : biB G sc "list" x = true) (h2 : biB G sc "reversed" y = true) (hn : noStar e = true) (pe : PE X e (tE Γ C Wx e')) :
    PE X (.Call (.Name x p) [.Call (.Name y p2) [e] [] pos2] [] pos) (tE Γ C Wx (.bi (.listrev fz) [e'])) := by
  obtain ⟨e1, g, d, m⟩ := bi_of h1
  subst e1
  obtain ⟨e2, g2, d2, m2⟩ := bi_of h2
  subst e2
  refine PEimp (pe_lstRev (xo.calm nh) (xo.glo g) (xo.bi _ m) (xo.glo g2) (xo.bi _ m2) pe (star_cons hn)) fun σ H Q ⟨env, S, QW, XW, he, hs, h, k, kx⟩ => ?_
  simp only [wE, wEs] at h
  refine ⟨env, S, _, XW, he, hs, h, fun x S1 v H1 r1 s1 f1 q1 => ?_, kx⟩
  obtain ⟨pr, e3, q3⟩ := wSome_el (show wSome (walkL S1 x) fun p => mkL fz p.1.reverse S1 QW from q1)
  obtain ⟨a, P, rfl, st, p0, B⟩ := walkL_base e3 r1
  have lv : liveS pr.2 S1 := by
    cases x with
    | rl _ => cases e3; trivial
    | sc _ => cases e3; trivial
    | ref b =>
      simp only [walkL] at e3
      cases q : S1 b with
      | none => rw [q] at e3; cases e3
      | some o =>
        cases o with
        | lst us => rw [q] at e3; cases e3; exact ⟨q, trivial⟩
        | dic _ _ => rw [q] at e3; cases e3
        | ins _ _ _ => rw [q] at e3; cases e3
        | hid => rw [q] at e3; cases e3
    | _ => cases e3
  obtain ⟨vs, hq, rr⟩ := B S1 H1 s1 p0 lv
  exact ⟨a, vs, rfl, xo.hK ▸ hq, mkL_ok q3 rr.rev s1 (k.fr f1)⟩
theorem s_lenset (xo : XO Γ G C N sc Wx X) (nh : G.hot = false) {x y : Str} {e : Expr} {e' : E} {p p2 pos pos2 : Pos} (h1 : biB G sc "len" x = true) (h2 : biB G sc "set" y = true) (hn : noStar e = true) (pe : PE X e (tE Γ C Wx e')) :
    PE X (.Call (.Name x p) [.Call (.Name y p2) [e] [] pos2] [] pos) (tE Γ C Wx (.bi .lenset [e'])) := by
  obtain ⟨e1, g, d, m⟩ := bi_of h1
  subst e1
  obtain ⟨e2, g2, d2, m2⟩ := bi_of h2
  subst e2
  refine PEimp (RZ.pe_lenSetI (xo.glo g) (xo.bi _ m) (xo.glo g2) (xo.bi _ m2) pe (xo.calm nh) (star_cons hn)) fun σ H Q ⟨env, S, QW, XW, he, hs, h, k, kx⟩ => ?_
  simp only [wE, wEs] at h
  refine ⟨env, S, _, XW, he, hs, h, fun x S1 v H1 r1 s1 f1 q1 => ?_, kx⟩
  obtain ⟨ns, e3, n1, n2, q3⟩ := wSome_el (show wSome ((lstOf S1 x).bind intsOf) fun ns => ns.Nodup ∧ ns.length ≤ 4000 ∧ QW (.int (ns.length : Nat)) S1 from q1)
  obtain ⟨a, rfl, h1⟩ := lstInts e3 r1 s1
  exact ⟨a, ns, rfl, SqL.of h1, n1, n2, (k.fr f1).here s1 (w := .int _) rfl q3⟩
theorem s_maxd (xo : XO Γ G C N sc Wx X) (nh : G.hot = false) {x : Str} {a d : Expr} {a' d' : E} {p pos kp : Pos} (h1 : biB G sc "max" x = true) (ha : noStar a = true) (pa : PE X a (tE Γ C Wx a')) (pd : PE X d (tE Γ C Wx d')) :
    PE X (.Call (.Name x p) [a] [⟨some "default", d, kp⟩] pos) (tE Γ C Wx (.bi .maxd [a', d'])) := by
  obtain ⟨e1, g, dd, m⟩ := bi_of h1
  subst e1
  obtain ⟨d1, d2, d3⟩ := dbg_of dd
  have hm := xo.bi _ m
  refine ⟨fun pins s σ H Q I ⟨env, S, QW, XW, he, hs, h, k, kx⟩ => ?_⟩
  simp only [wE, wEs] at h
  refine wpAny_Call_Name_kw (ld_blt I (xo.glo g) hm boot_max ?_ d3 d1)
  have sc1 : starEach [a] X.env = (false, eval a X.env) :: starEach [] X.env := star_cons ha
  refine callWith_kw (e := a) (rest := []) (kws := [⟨some "default", d, kp⟩]) ?_ (by rw [sc1]; rfl) (by rw [sc1]; rfl) rfl rfl
  refine thn ((pa_cons pa pa_nil sc1).run pos pins s σ H (fun vs H1 => ∃ v S1 w, vs = [v] ∧ rep Γ S1 H1 w v ∧ SR Γ S1 H1 ∧ Fr S H S1 H1 ∧ wE C d' env S1 (fun w1 S2 => wBi .maxd [w, w1] S2 QW) XW) I ⟨env, S, _, XW, he, hs, h, fun w S1 v H1 r1 s1 f1 q1 => ⟨v, S1, w, rfl, r1, s1, f1, q1⟩, kx⟩) fun us s1 ⟨vs, H1, I1, rv, v, S1, w, e, r1, sr1, f1, q1⟩ => ?_
  subst e
  refine thn ((pk_cons (nm := some "default") (kpos := kp) pd pk_nil).run pos pins s1 σ H1 (fun vs H2 => ∃ u S2 w1, vs = [u] ∧ rep Γ S2 H2 w1 u ∧ SR Γ S2 H2 ∧ Fr S1 H1 S2 H2 ∧ wBi .maxd [w, w1] S2 QW) I1 ⟨env, S1, _, XW, he.fr f1, sr1, q1, fun w1 S2 u H2 r2 s2 f2 q2 => ⟨u, S2, w1, rfl, r2, s2, f2, q2⟩, kx.fr f1⟩) fun kvs s2 ⟨zs, H2, I2, rz, u, S2, w1, e, r2, sr2, f2, q2⟩ => ?_
  subst e
  obtain ⟨uv, rfl, ruv⟩ := vals1 rv
  obtain ⟨kv, rfl, rkv⟩ := vals1 rz
  have q2 : wMaxd [w, w1] S2 QW := q2
  unfold wMaxd at q2
  split at q2
  · rename_i w' dflt e
    cases e
    obtain ⟨ns, e3, q3⟩ := wSome_el q2
    have r1' := rep.fr f2 _ _ r1
    obtain ⟨pp, rfl, hp⟩ := lstInts e3 r1' sr2
    cases r2
    cases ruv
    obtain ⟨tk, rfl⟩ := rkv
    obtain ⟨its, rvs, pl, hz⟩ := I2.list (SqL.of hp)
    have kk := k.fr (f1.trans f2)
    show wpAny (model X.prog X.w) X.A (call (.builtin "max") [.ref pp] [(Str.ofString "default", .int dflt tk)]) _ _ _
    refine PySem.W.max_list_datum_default (α := Int) (I2.ok.hd (xo.calm nh)) pl.isList (by simpa using vals_ints_hold rvs) (by show X.A.units + 1 + 0 < cLine; have := xo.un; omega) (fun e0 h' tk' hk => ?_) (fun y ys i v h' tk' e0 hi hd hk => ?_)
    · subst e0
      refine ⟨.int dflt, H2, I2.kept hk, ⟨tk, rfl⟩, ?_⟩
      exact kk.here sr2 (w := .int _) rfl (by simpa using q3)
    · subst e0
      obtain ⟨as, rd⟩ := hd
      rw [maxOf_L] at rd
      have e5 : ∃ t, v = .int (maxL (y :: ys)) t := by cases rd; exact ⟨_, rfl⟩
      obtain ⟨t, rfl⟩ := e5
      refine ⟨.int (maxL (y :: ys)), H2, I2.kept hk, ⟨t, rfl⟩, ?_⟩
      exact kk.here sr2 (w := .int _) rfl (by simpa using q3)
  · exact q2.elim
theorem s_isi (xo : XO Γ G C N sc Wx X) {f y : Str} {t : Ty} {x : Expr} {a : E} {p p2 pos : Pos} (h1 : biB G sc "isinstance" f = true) (h2 : biB G sc (tyS t) y = true) (hn : noStar x = true) (pa : PE X x (tE Γ C Wx a)) :
    PE X (.Call (.Name f p) [x, .Name y p2] [] pos) (tE Γ C Wx (.isi t a)) := by
  obtain ⟨e1, g, d, m⟩ := bi_of h1
  subst e1
  obtain ⟨e2, g2, dd2, m2⟩ := bi_of h2
  subst e2
  obtain ⟨d1, d2, d3⟩ := dbg_of d
  obtain ⟨k1, k2, k3⟩ := dbg_of dd2
  have bt : bootBuiltins (tyS t) = some (.type (tyN t)) := by cases t <;> decide +kernel
  have pt : PE X (.Name (tyS t) p2) (tC (.ty (tyN t))) := pe_bltn (xo.glo g2) (xo.bi _ m2) bt rfl k3 k1
  refine PEimp (pe_callB call_isi (xo.glo g) (xo.bi _ m) boot_isinstance (pa_cons pa (pa_cons pt pa_nil rfl) (star_cons hn)) d3 d1 (star_cons hn) rfl) fun σ H Q ⟨env, S, QW, XW, he, hs, h, k, kx⟩ => ?_
  simp only [wE] at h
  refine ⟨env, S, _, XW, he, hs, h, fun x S1 v H1 r1 s1 f1 q1 => ?_, kx⟩
  obtain ⟨b, e, q1⟩ := wSome_el q1
  obtain ⟨T, ty, kb⟩ := isi_ty e r1 s1
  exact ⟨v, _, _, _, b, rfl, .ty _, xo.hK ▸ ty, xo.hK ▸ kb, k (.bl b) S1 (.bl b) H1 rfl s1 f1 q1⟩
theorem s_tab (xo : XO Γ G C N sc Wx X) {x : Str} {y : Expr} {kvs : List (List Nat × W)} {i : E} {p pos : Pos} (h1 : gloB sc x = true) (h2 : nodbg x = true) (h3 : G.tabs.lookup x = some kvs) (ny : ∀ l u st p, y ≠ .Slice l u st p) (pi : PE X y (tE Γ C Wx i)) :
    PE X (.Subscript (.Name x p) y pos) (tE Γ C Wx (.tab kvs i)) := by
  obtain ⟨a, hm, hk⟩ := xo.tab x kvs h3
  refine PEimp (pe_ix ix_kdict (pe_glob (v := .ref a) (xo.glo h1) hm rfl (dbg_of h2).1) pi (plainIx_of ny)) fun σ H Q ⟨env, S, QW, XW, he, hs, h, k, kx⟩ => ?_
  simp only [wE] at h
  refine ⟨env, S, _, XW, he, hs, h, fun x S1 v H1 r1 s1 f1 q1 => ?_, kx⟩
  dsimp only at q1
  unfold wTab at q1
  split at q1
  · rename_i z
    split at q1
    · rename_i w e
      obtain ⟨rfl, _⟩ := r1
      obtain ⟨v0, kd, rv⟩ := hk z w e
      exact ⟨a, ⟨z.toArray⟩, v0, rfl, rfl, kd, k w S1 v0 H1 (rv S1 H1) s1 f1 q1⟩
    · exact q1.elim
  · exact q1.elim
theorem s_app (xo : XO Γ G C N sc Wx X) {o x : Expr} {a e : E} {apos cpos : Pos} (h1 : plainO o = true) (h2 : (apos.endLine == cpos.line) = true) (hn : noStar x = true) (pa : PE X o (tE Γ C Wx a)) (px : PE X x (tE Γ C Wx e)) :
    PE X (.Call (.Attribute o "append" apos) [x] [] cpos) (tE Γ C Wx (.app a e)) := by
  have sc1 : starEach [x] X.env = (false, eval x X.env) :: starEach [] X.env := star_cons hn
  refine PEimp (pe_bm PySem.F.plainAttrs_list PySem.F.slot_list_append PySem.F.type_list_append mt_append pa (pa_cons px pa_nil sc1) (base_of h1) (by rw [sc1]; rfl) h2 sc1 rfl) fun σ H Q ⟨env, S, QW, XW, he, hs, h, k, kx⟩ => ?_
  simp only [wE] at h
  refine ⟨env, S, _, XW, he, hs, h, fun y S1 v H1 r1 s1 f1 q1 => ?_, kx⟩
  dsimp only at q1
  cases e1 : lstOf S1 y with
  | none => rw [e1] at q1; exact absurd q1.1 (by simp)
  | some ws =>
    obtain ⟨pp, vs, rfl, hp, rr⟩ := lst_rep e1 r1 s1
    refine ⟨.inl ⟨rfl, _, SqL.of hp⟩, env, S1, _, XW, he.fr f1, s1, q1.2, fun w S2 u H2 r2 s2 f2 q2 => ?_, kx.fr f1⟩
    cases y with
    | ref b =>
      have q2 : (match S2 b with
        | some (.lst ws) => ws.length < PySem.sizeLine ∧ QW .non (S2.set b (.lst (ws ++ [w])))
        | _ => False) := q2
      cases r1
      split at q2
      · rename_i us e2
        obtain ⟨vs2, h3, rr2⟩ := s2 pp _ e2
        refine ⟨pp, vs2, u, rfl, rfl, h3, by rw [← rr2.len]; exact q2.1, ?_⟩
        exact k .non _ .non _ rfl (s2.wrL e2 (rr2.app (reps.one r2))) (f1.trans (f2.trans (Fr.wr e2))) q2.2
      · exact q2.elim
    | _ => exact (show False from q2).elim
theorem s_pop (xo : XO Γ G C N sc Wx X) {o : Expr} {a : E} {apos cpos : Pos} (h1 : plainO o = true) (h2 : (apos.endLine == cpos.line) = true) (pa : PE X o (tE Γ C Wx a)) :
    PE X (.Call (.Attribute o "pop" apos) [] [] cpos) (tE Γ C Wx (.pop a)) := by
  refine PEimp (pe_bm0 PySem.F.plainAttrs_list PySem.F.slot_list_pop PySem.F.type_list_pop mt_pop pa (base_of h1) h2) fun σ H Q ⟨env, S, QW, XW, he, hs, h, k, kx⟩ => ?_
  simp only [wE] at h
  refine ⟨env, S, _, XW, he, hs, h, fun y S1 v H1 r1 s1 f1 q1 => ?_, kx⟩
  dsimp only at q1
  unfold wPop at q1
  split at q1
  · rename_i b
    cases r1
    split at q1
    · rename_i us e2
      split at q1
      · rename_i w e3
        obtain ⟨vs, h3, rr⟩ := s1 b _ e2
        have e4 : us[us.length - 1]? = some w := by rw [← List.getLast?_eq_getElem?]; exact e3
        obtain ⟨u, e5, r5⟩ := rr.get e4
        refine ⟨.inl ⟨rfl, _, SqL.of h3⟩, b, vs, u, rfl, rfl, h3, by rw [← rr.len]; exact e5, ?_⟩
        have f2 : Fr S1 H1 (S1.set b (.lst us.dropLast)) (upd H1 b (.lst vs.dropLast)) := Fr.wr e2
        exact k w _ u _ (rep.fr f2 _ _ r5) (s1.wrL e2 rr.dropLast) (f1.trans f2) q1
      · exact q1.elim
    · exact q1.elim
  · exact q1.elim
end
end Bw

/-! Ev11: what is walked, and targets, as the checker takes them. -/
namespace Bw
open PySem L2 PySem.Spec PyProof.Rows
section
variable {Γ : Gm} {G : GT} {C : CT} {N : List Str} {sc : Scope} {Wx : WX} {X : Cx}
def iW (Γ : Gm) (C : CT) (Wx : WX) (ik : IK) (its : List E) : TI := fun σ H R => ∃ (env : Env) (S : Sto) (QW : List W → Lk → Sto → Prop) (XW : XQ), envR Γ S H env σ ∧ SR Γ S H ∧ wEs C its env S (fun args S1 => wWalk (itemsOf ik args S1) fun items lk => QW items lk S1) XW ∧
  (∀ items lk S1 H1 J P, Wk Γ J items lk P → P S1 H1 → SR Γ S1 H1 → Fr S H S1 H1 → liveS lk S1 → QW items lk S1 → R J H1) ∧ KX Γ S H XW (fun cls d H' => Wx cls d σ H')
theorem walkL_live {S : Sto} {x : W} {ws : List W} {lk : Lk} (h : walkL S x = some (ws, lk)) : liveS lk S := by
  cases x with
  | rl _ => cases h; trivial
  | sc _ => cases h; trivial
  | ref b =>
    simp only [walkL] at h
    cases q : S b with
    | none => rw [q] at h; cases h
    | some o =>
      cases o with
      | lst us => rw [q] at h; cases h; exact ⟨q, trivial⟩
      | dic _ _ => rw [q] at h; cases h
      | ins _ _ _ => rw [q] at h; cases h
      | hid => rw [q] at h; cases h
  | _ => cases h
theorem o1_el {α : Type} {ws : List W} {f : W → Option α} {y : α} (h : o1 ws f = some y) : ∃ x, ws = [x] ∧ f x = some y := by
  unfold o1 at h
  split at h
  · exact ⟨_, rfl, h⟩
  · cases h
theorem oI_el {α : Type} {x : W} {f : Int → Option α} {y : α} (h : oI x f = some y) : ∃ i, x = .int i ∧ f i = some y := by
  unfold oI at h
  split at h
  · exact ⟨_, rfl, h⟩
  · cases h
theorem fits_el {i : Int} (h : fits i = true) : -(2 ^ 62) ≤ i ∧ i < 2 ^ 62 := of_decide_eq_true h
theorem oRng2_el {ws : List W} {y : List W × Lk} (h : oRng2 ws = some y) : ∃ a b, ws = [.int a, .int b] ∧ fits a = true ∧ fits b = true ∧ y = (rngW a (b - a).toNat, []) := by
  unfold oRng2 at h
  split at h
  · split at h
    · rename_i q
      rw [Bool.and_eq_true] at q
      cases h
      exact ⟨_, _, rfl, q.1, q.2, rfl⟩
    · cases h
  · cases h
theorem oZip_el {ws : List W} {S : Sto} {y : List W × Lk} (h : oZip ws S = some y) : (∃ xs ys, ws = [.tup xs, .tup ys] ∧ y = (zipW xs ys, [])) ∨ ∃ a b p q, ws = [a, b] ∧ walkL S a = some p ∧ walkL S b = some q ∧ y = (zipW p.1 q.1, p.2 ++ q.2) := by
  unfold oZip at h
  split at h
  · cases h; exact .inl ⟨_, _, rfl, rfl⟩
  · rename_i x z _
    cases e1 : walkL S x with
    | none => rw [e1] at h; cases h
    | some p =>
      cases e2 : walkL S z with
      | none => rw [e1, e2] at h; cases h
      | some q =>
        rw [e1, e2] at h
        cases h
        exact .inr ⟨_, _, p, q, rfl, e1, e2, rfl⟩
  · cases h
theorem i_seq (xo : XO Γ G C N sc Wx X) {tg e : Expr} {e' : E} (pe : PE X e (tE Γ C Wx e')) : PI X tg e (iW Γ C Wx .seq [e']) := by
  refine PIimp (pi_seq pe) fun σ H R ⟨env, S, QW, XW, he, hs, h, k, kx⟩ => ?_
  simp only [wEs] at h
  refine ⟨env, S, _, XW, he, hs, h, fun x S1 v H1 r1 s1 f1 q1 => ?_, kx⟩
  rw [xo.hK]
  obtain ⟨⟨ws, lk⟩, e1, q⟩ := wWalk_el q1
  have e1 : walkOf S1 x = some (ws, lk) := e1
  rcases walkOf_cases e1 with ⟨rfl, rfl⟩ | ⟨z, rfl, rfl, rfl⟩ | e2
  · obtain ⟨a, P, rfl, st, p0, B⟩ := tup_base (lk := []) r1
    obtain ⟨vs, hq, _⟩ := B S1 H1 s1 p0 trivial
    exact .inr (.inl ⟨a, rfl, ⟨vs, hq⟩, k _ [] S1 H1 _ P (wk_tup st B) p0 s1 f1 trivial q⟩)
  · obtain ⟨rfl, oz⟩ := r1
    exact .inr (.inr ⟨_, rfl, k _ [] S1 H1 _ _ (wk_str oz) trivial s1 f1 trivial q⟩)
  · obtain ⟨a, P, rfl, st, p0, B⟩ := walkL_base e2 r1
    obtain ⟨vs, hq, _⟩ := B S1 H1 s1 p0 (walkL_live e2)
    exact .inl ⟨a, rfl, ⟨vs, hq⟩, k _ lk S1 H1 _ P (wk_list st B) p0 s1 f1 (walkL_live e2) q⟩
theorem i_rng1 (xo : XO Γ G C N sc Wx X) {tg e : Expr} {es' : List E} {f : Str} {p pos : Pos} (h1 : biB G sc "range" f = true) (hn : noStar e = true) (pa : PA X [e] (tEs Γ C Wx es')) : PI X tg (.Call (.Name f p) [e] [] pos) (iW Γ C Wx .rng1 es') := by
  obtain ⟨e1, g, d, m⟩ := bi_of h1
  subst e1
  refine PIimp (pi_range1 (xo.glo g) (xo.bi _ m) pa (star_cons hn)) fun σ H R ⟨env, S, QW, XW, he, hs, h, k, kx⟩ => ?_
  refine ⟨env, S, _, XW, he, hs, h, fun ws S1 vs H1 r1 s1 f1 q1 => ?_, kx⟩
  obtain ⟨y, e1, q⟩ := wWalk_el q1
  obtain ⟨x, rfl, e2⟩ := o1_el (show o1 ws _ = some y from e1)
  obtain ⟨n, rfl, e3⟩ := oI_el e2
  obtain ⟨v, rfl, rv⟩ := r1.l1
  cases rv
  split at e3
  · rename_i hf
    cases e3
    obtain ⟨b1, b2⟩ := fits_el hf
    exact ⟨n, rfl, b1, b2, k _ [] S1 H1 _ _ wk_rng trivial s1 f1 trivial q⟩
  · cases e3
theorem i_rng2 (xo : XO Γ G C N sc Wx X) {tg e e2 : Expr} {es' : List E} {f : Str} {p pos : Pos} (h1 : biB G sc "range" f = true) (hn : noStar e = true) (hn2 : noStar e2 = true) (pa : PA X [e, e2] (tEs Γ C Wx es')) : PI X tg (.Call (.Name f p) [e, e2] [] pos) (iW Γ C Wx .rng2 es') := by
  obtain ⟨e1, g, d, m⟩ := bi_of h1
  subst e1
  refine PIimp (pi_range2 (xo.glo g) (xo.bi _ m) pa (by rw [star_cons hn, star_cons hn2]; rfl) (star_cons hn2)) fun σ H R ⟨env, S, QW, XW, he, hs, h, k, kx⟩ => ?_
  refine ⟨env, S, _, XW, he, hs, h, fun ws S1 vs H1 r1 s1 f1 q1 => ?_, kx⟩
  obtain ⟨y, e1, q⟩ := wWalk_el q1
  obtain ⟨a, b, rfl, ha, hb, rfl⟩ := oRng2_el (show oRng2 ws = some y from e1)
  obtain ⟨v, u, rfl, rv, ru⟩ := r1.l2
  cases rv
  cases ru
  obtain ⟨a1, a2⟩ := fits_el ha
  obtain ⟨b1, b2⟩ := fits_el hb
  exact ⟨a, b, rfl, ⟨a1, a2, b1, b2⟩, k _ [] S1 H1 _ _ wk_rng trivial s1 f1 trivial q⟩
theorem i_enum (xo : XO Γ G C N sc Wx X) {es : List Expr} {kk : Nat} {tp : Pos} {e : Expr} {es' : List E} {f : Str} {p pos : Pos} (h1 : biB G sc "enumerate" f = true) (hn : noStar e = true) (pa : PA X [e] (tEs Γ C Wx es')) : PI X (.Tuple es kk tp) (.Call (.Name f p) [e] [] pos) (iW Γ C Wx .enum es') := by
  obtain ⟨e1, g, d, m⟩ := bi_of h1
  subst e1
  refine PIimp (pi_enum (xo.glo g) (xo.bi _ m) pa (star_cons hn)) fun σ H R ⟨env, S, QW, XW, he, hs, h, k, kx⟩ => ?_
  refine ⟨env, S, _, XW, he, hs, h, fun ws S1 vs H1 r1 s1 f1 q1 => ?_, kx⟩
  obtain ⟨y, e1, q⟩ := wWalk_el q1
  obtain ⟨x, rfl, e2⟩ := o1_el (show o1 ws _ = some y from e1)
  obtain ⟨v, rfl, rv⟩ := r1.l1
  cases e3 : walkL S1 x with
  | none => rw [e3] at e2; cases e2
  | some p =>
    rw [e3] at e2
    cases e2
    obtain ⟨a, P, rfl, st, p0, B⟩ := walkL_base (lk := p.2) e3 rv
    obtain ⟨vs, hq, _⟩ := B S1 H1 s1 p0 (walkL_live (lk := p.2) e3)
    rw [xo.hK]
    exact ⟨a, vs, rfl, hq, k _ p.2 S1 H1 _ P (wk_enum st B) p0 s1 f1 (walkL_live (lk := p.2) e3) q⟩
theorem i_rev (xo : XO Γ G C N sc Wx X) {tg e : Expr} {es' : List E} {f : Str} {p pos : Pos} (h1 : biB G sc "reversed" f = true) (hn : noStar e = true) (pa : PA X [e] (tEs Γ C Wx es')) : PI X tg (.Call (.Name f p) [e] [] pos) (iW Γ C Wx .rev es') := by
  obtain ⟨e1, g, d, m⟩ := bi_of h1
  subst e1
  refine PIimp (pi_reversed (xo.glo g) (xo.bi _ m) pa (star_cons hn)) fun σ H R ⟨env, S, QW, XW, he, hs, h, k, kx⟩ => ?_
  refine ⟨env, S, _, XW, he, hs, h, fun ws S1 vs H1 r1 s1 f1 q1 => ?_, kx⟩
  obtain ⟨y, e1, q⟩ := wWalk_el q1
  obtain ⟨x, rfl, e2⟩ := o1_el (show o1 ws _ = some y from e1)
  obtain ⟨v, rfl, rv⟩ := r1.l1
  cases e3 : walkL S1 x with
  | none => rw [e3] at e2; cases e2
  | some p =>
    rw [e3] at e2
    cases e2
    obtain ⟨a, P, rfl, st, p0, B⟩ := walkL_base (lk := p.2) e3 rv
    obtain ⟨vs, hq, rr⟩ := B S1 H1 s1 p0 (walkL_live (lk := p.2) e3)
    rw [xo.hK]
    refine ⟨a, vs, rfl, hq, ?_⟩
    rw [← rr.len]
    exact k _ p.2 S1 H1 _ P (wk_rev st B) p0 s1 f1 (walkL_live (lk := p.2) e3) q
theorem i_zip (xo : XO Γ G C N sc Wx X) {es : List Expr} {kk : Nat} {tp : Pos} {e e2 : Expr} {es' : List E} {f : Str} {p pos : Pos} (h1 : biB G sc "zip" f = true) (hn : noStar e = true) (hn2 : noStar e2 = true) (pa : PA X [e, e2] (tEs Γ C Wx es')) : PI X (.Tuple es kk tp) (.Call (.Name f p) [e, e2] [] pos) (iW Γ C Wx .zip es') := by
  obtain ⟨e1, g, d, m⟩ := bi_of h1
  subst e1
  refine PIimp (RZ.pi_zipA (xo.glo g) (xo.bi _ m) pa (star_cons hn) (by rw [star_cons hn2]; rfl)) fun σ H R ⟨env, S, QW, XW, he, hs, h, k, kx⟩ => ?_
  refine ⟨env, S, _, XW, he, hs, h, fun ws S1 vs H1 r1 s1 f1 q1 => ?_, kx⟩
  obtain ⟨y, e1, q⟩ := wWalk_el q1
  rw [xo.hK]
  rcases oZip_el (show oZip ws S1 = some y from e1) with ⟨xs, ys, rfl, rfl⟩ | ⟨xa, xb, ⟨p1, l1⟩, ⟨p2, l2⟩, rfl, e3, e4, rfl⟩
  · obtain ⟨v, u, rfl, rv, ru⟩ := r1.l2
    obtain ⟨a, P, rfl, st, p0, B⟩ := tup_base (lk := []) rv
    obtain ⟨b, P2, rfl, st2, p02, B2⟩ := tup_base (lk := []) ru
    obtain ⟨vs, hq, _⟩ := B S1 H1 s1 p0 trivial
    obtain ⟨vs2, hq2, _⟩ := B2 S1 H1 s1 p02 trivial
    exact ⟨a, b, vs, vs2, rfl, .inr ⟨hq, hq2, k _ [] S1 H1 _ (fun S H => P S H ∧ P2 S H) (wk_zipT (fun S H S' H' f q => ⟨st S H S' H' f q.1, st2 S H S' H' f q.2⟩) (fun S H s q l => B S H s q.1 l) (fun S H s q l => B2 S H s q.2 l)) ⟨p0, p02⟩ s1 f1 trivial q⟩⟩
  · obtain ⟨v, u, rfl, rv, ru⟩ := r1.l2
    obtain ⟨a, P, rfl, st, p0, B⟩ := walkL_base e3 rv
    obtain ⟨b, P2, rfl, st2, p02, B2⟩ := walkL_base e4 ru
    obtain ⟨vs, hq, _⟩ := B S1 H1 s1 p0 (walkL_live e3)
    obtain ⟨vs2, hq2, _⟩ := B2 S1 H1 s1 p02 (walkL_live e4)
    exact ⟨a, b, vs, vs2, rfl, .inl ⟨hq, hq2, k _ (l1 ++ l2) S1 H1 _ (fun S H => P S H ∧ P2 S H) (wk_zip (fun S H S' H' f q => ⟨st S H S' H' f q.1, st2 S H S' H' f q.2⟩) (fun S H s q l => B S H s q.1 (liveS_app.mp l).1) (fun S H s q l => B2 S H s q.2 (liveS_app.mp l).2)) ⟨p0, p02⟩ s1 f1 (liveS_app.mpr ⟨walkL_live e3, walkL_live e4⟩) q⟩⟩
theorem isTup_el {e : Expr} (h : isTup e = true) : ∃ es k p, e = .Tuple es k p := by
  cases e <;> first | exact ⟨_, _, _, rfl⟩ | (simp [isTup] at h)
theorem chL1 {f : Expr → E → Bool} {x : Expr} {es' : List E} (h : chL f [x] es' = true) : ∃ x', f x x' = true := by
  cases es' with
  | nil => simp [chL] at h
  | cons a r => rw [chL, Bool.and_eq_true] at h; exact ⟨a, h.1⟩
theorem chL2 {f : Expr → E → Bool} {x y : Expr} {es' : List E} (h : chL f [x, y] es' = true) : (∃ x', f x x' = true) ∧ ∃ y', f y y' = true := by
  cases es' with
  | nil => simp [chL] at h
  | cons a r => rw [chL, Bool.and_eq_true] at h; exact ⟨⟨a, h.1⟩, chL1 h.2⟩
theorem i_of (xo : XO Γ G C N sc Wx X) {ch : Expr → E → Bool} (hf : ∀ e e', ch e e' = true → noStar e = true ∧ PE X e (tE Γ C Wx e')) {tg iter : Expr} {ik : IK} {its : List E} (h : chI G ch sc tg iter ik its = true) : PI X tg iter (iW Γ C Wx ik its) := by
  cases ik with
  | seq =>
    simp only [chI] at h
    split at h
    · exact i_seq xo (hf _ _ h).2
    · cases h
  | rng1 =>
    simp only [chI] at h
    split at h
    · rw [Bool.and_eq_true] at h
      obtain ⟨x', hx⟩ := chL1 h.2
      exact i_rng1 xo h.1 (hf _ _ hx).1 (pa_of xo hf h.2)
    · cases h
  | rng2 =>
    simp only [chI] at h
    split at h
    · rw [Bool.and_eq_true] at h
      obtain ⟨⟨x', hx⟩, y', hy⟩ := chL2 h.2
      exact i_rng2 xo h.1 (hf _ _ hx).1 (hf _ _ hy).1 (pa_of xo hf h.2)
    · cases h
  | enum =>
    simp only [chI] at h
    split at h
    · rw [Bool.and_eq_true, Bool.and_eq_true] at h
      obtain ⟨x', hx⟩ := chL1 h.2
      obtain ⟨es, k, p, rfl⟩ := isTup_el h.1.1
      exact i_enum xo h.1.2 (hf _ _ hx).1 (pa_of xo hf h.2)
    · cases h
  | zip =>
    simp only [chI] at h
    split at h
    · rw [Bool.and_eq_true, Bool.and_eq_true] at h
      obtain ⟨⟨x', hx⟩, y', hy⟩ := chL2 h.2
      obtain ⟨es, k, p, rfl⟩ := isTup_el h.1.1
      exact i_zip xo h.1.2 (hf _ _ hx).1 (hf _ _ hy).1 (pa_of xo hf h.2)
    · cases h
  | rev =>
    simp only [chI] at h
    split at h
    · rw [Bool.and_eq_true] at h
      obtain ⟨x', hx⟩ := chL1 h.2
      exact i_rev xo h.1 (hf _ _ hx).1 (pa_of xo hf h.2)
    · cases h

/-! ### targets -/
def setIs (σ : L2.St) (l : List (Nat × V)) : L2.St := l.foldl (fun s p => s.set p.1 (some p.2)) σ
def gW (Γ : Gm) (tg : Tg) : TG := fun v σ H Q => ∃ env S w env', envR Γ S H env σ ∧ rep Γ S H w v ∧ bindTg tg w env = some env' ∧ ∀ σ', (∃ l : List (Nat × V), l.map (·.1) = tgIs tg ∧ σ' = setIs σ l) → envR Γ S H env' σ' → Q σ' H
def NmOk (X : Cx) (e : Expr) (i : Nat) : Prop := ∃ x p, e = .Name x p ∧ X.N[i]? = some x ∧ Loc X.env.scope x ∧ (X.fn x = true ∨ X.env.scope.names.lookup x = some .local)
def TgOk (X : Cx) (e : Expr) (tg : Tg) : Prop :=
  match tg with
  | .nm i => NmOk X e i
  | .pr is => ∃ es k p, e = .Tuple es k p ∧ Paired (NmOk X) es is
def gIs : List Nat → TGs
  | [] => gNil
  | i :: is => gCons (gName i) (gIs is)
theorem nm_each {e : Expr} {i : Nat} (h : NmOk X e i) {es : List Expr} {env : PySem.Env} : assignEach (e :: es) env = (false, assign e env) :: assignEach es env := by
  obtain ⟨x, p, rfl, _⟩ := h
  rfl
theorem pgs_of (hN : X.N.Nodup) : ∀ {es : List Expr} {is : List Nat}, Paired (NmOk X) es is → PGs X es (gIs is)
  | _, _, .nil => pgs_nil
  | _, _, .cons h r => by
    have he := h
    obtain ⟨x, p, rfl, h1, h2, h3⟩ := h
    exact pgs_cons (pg_name hN h1 h2 h3) (pgs_of hN r) (by rw [nm_each he]; rfl)
theorem gIs_of : ∀ {is : List Nat} {ws : List W} {vs : List V} {env env' : Env} {S : Sto} {σ : L2.St} {H : Hp} {Q : L2.St → Hp → Prop}, bindIs is ws env = some env' → reps Γ S H ws vs → envR Γ S H env σ →
    (∀ σ', (∃ l : List (Nat × V), l.map (·.1) = is ∧ σ' = setIs σ l) → envR Γ S H env' σ' → Q σ' H) → gIs is vs σ H Q
  | [], [], _, env, env', S, σ, H, Q, e, r, he, k => by
    cases e
    cases r
    exact ⟨rfl, k σ ⟨[], rfl, rfl⟩ he⟩
  | [], _ :: _, _, _, _, _, _, _, _, e, _, _, _ => by cases e
  | _ :: _, [], _, _, _, _, _, _, _, e, _, _, _ => by cases e
  | i :: is, w :: ws, _, env, env', S, σ, H, Q, e, ⟨v, r, rfl, q, t⟩, he, k => by
    refine ⟨v, r, rfl, ?_⟩
    refine gIs_of (is := is) e t (he.set i q) fun σ' ⟨l, h1, h2⟩ he' => k σ' ⟨(i, v) :: l, ?_, ?_⟩ he'
    · simp [h1]
    · rw [h2]; rfl
theorem bindIs_len : ∀ {is : List Nat} {ws : List W} {env env' : Env}, bindIs is ws env = some env' → is.length = ws.length
  | [], [], _, _, _ => rfl
  | [], _ :: _, _, _, e => by cases e
  | _ :: _, [], _, _, e => by cases e
  | i :: is, w :: ws, env, env', e => by
    rw [List.length_cons, List.length_cons, bindIs_len (is := is) (ws := ws) e]
theorem names_len : ∀ {es : List Expr} {is : List Nat}, Paired (NmOk X) es is → (assignEach es X.env).length = is.length ∧ (assignEach es X.env).findIdx? (·.1) = none
  | _, _, .nil => ⟨rfl, rfl⟩
  | _, _, .cons h r => by
    obtain ⟨q1, q2⟩ := names_len r
    rw [nm_each h]
    refine ⟨by rw [List.length_cons, List.length_cons, q1], ?_⟩
    rw [List.findIdx?_cons]
    simp [q2]
theorem pg_of (hN : X.N.Nodup) (hc : X.calm = true) (hK : X.K = Γ.K) {e : Expr} {tg : Tg} (h : TgOk X e tg) : PG X e (gW Γ tg) := by
  cases tg with
  | nm i =>
    obtain ⟨x, p, rfl, h1, h2, h3⟩ := h
    refine PGimp (pg_name hN h1 h2 h3) fun v σ H Q ⟨env, S, w, env', he, r, b, k⟩ => ?_
    cases b
    exact k _ ⟨[(i, v)], rfl, rfl⟩ (he.set i r)
  | pr is =>
    obtain ⟨es, k0, p, rfl, ps⟩ := h
    obtain ⟨l1, l2⟩ := names_len ps
    have p1 := pg_tup (pos := p) (k := k0) hc (pgs_of hN ps) l1 l2
    have p2 := pg_unl (pos := p) (k := k0) hc (pgs_of hN ps) l1 l2
    refine ⟨fun pins s σ H v u Q I r0 ⟨env, S, w, env', he, r, b, k⟩ => ?_⟩
    cases w with
    | tup ws =>
      obtain ⟨a, vs, rfl, q, t⟩ := r
      refine p1.run pins s σ H _ u Q I r0 ?_
      rw [hK]
      exact ⟨a, vs, rfl, q.sq, by rw [← t.len, ← bindIs_len (show bindIs is ws env = some env' from b)], gIs_of (show bindIs is ws env = some env' from b) t he k⟩
    | rl ws =>
      obtain ⟨a, vs, rfl, q, t⟩ := r
      refine p2.run pins s σ H _ u Q I r0 ?_
      rw [hK]
      exact ⟨a, vs, rfl, q.sq, by rw [← t.len, ← bindIs_len (show bindIs is ws env = some env' from b)], gIs_of (show bindIs is ws env = some env' from b) t he k⟩
    | _ => cases b
end
end Bw

/-! Ev12: comprehensions; every expression that the checker takes. -/
namespace Bw
open PySem L2 PySem.Spec PyProof.Rows
abbrev W0 : WX := fun _ _ _ _ => False
theorem takes00 {X : Cx} : Takes X W0 := fun _ _ x => by
  obtain ⟨_, _, _, _, _, _, _, _, _, _, _, _, _, _, _, _, z⟩ := x
  exact z.elim
/-! ### slots forgotten -/
theorem wipe_get {σ : L2.St} {j : Nat} : ∀ {vs : List Nat}, (wipe σ vs)[j]? = if j ∈ vs then (σ[j]?).map (fun _ => none) else σ[j]?
  | [] => by simp [wipe]
  | v :: vs => by
    unfold wipe
    rw [List.getElem?_set, wipe_get (vs := vs), wipe_length]
    by_cases h : v = j
    · subst h
      rw [if_pos rfl, if_pos List.mem_cons_self]
      by_cases hl : v < σ.length
      · rw [if_pos hl, List.getElem?_eq_getElem hl]; rfl
      · rw [if_neg hl, List.getElem?_eq_none (by omega)]; rfl
    · rw [if_neg h]
      have e : (j ∈ v :: vs) ↔ j ∈ vs := by
        rw [List.mem_cons]
        exact ⟨fun q => q.elim (fun z => absurd z.symm h) id, .inr⟩
      by_cases hm : j ∈ vs
      · rw [if_pos hm, if_pos (e.mpr hm)]
      · rw [if_neg hm, if_neg fun z => hm (e.mp z)]
theorem wipe_set {σ : L2.St} {i : Nat} {x : Option V} {vs : List Nat} (h : i ∈ vs) : wipe (σ.set i x) vs = wipe σ vs := by
  refine List.ext_getElem? fun j => ?_
  rw [wipe_get, wipe_get]
  by_cases hj : j ∈ vs
  · rw [if_pos hj, if_pos hj, List.getElem?_set]
    by_cases e : i = j
    · subst e
      rw [if_pos rfl]
      by_cases hl : i < σ.length
      · rw [if_pos hl, List.getElem?_eq_getElem hl]; rfl
      · rw [if_neg hl, List.getElem?_eq_none (by omega)]
    · rw [if_neg e]
  · rw [if_neg hj, if_neg hj, List.getElem?_set_ne (show i ≠ j from fun e => hj (by rw [← e]; exact h))]
theorem wipe_setIs {vs : List Nat} : ∀ {l : List (Nat × V)} {σ : L2.St}, (∀ i ∈ l.map (·.1), i ∈ vs) → wipe (setIs σ l) vs = wipe σ vs
  | [], _, _ => rfl
  | p :: l, σ, h => by
    show wipe (setIs (σ.set p.1 (some p.2)) l) vs = _
    rw [wipe_setIs fun q hq => h q (List.mem_cons_of_mem _ hq), wipe_set (h p.1 List.mem_cons_self)]
/-! ### the list that is made -/
section
variable {Γ : Gm} {S S1 S' S4 : Sto} {H H1 H' H4 : Hp} {D : Addr}
theorem frU {o : HO} (hD : H1 D = none) (f : Fr S1 H1 S4 H4) : Fr S1 H1 S4 (upd H4 D o) := by
  refine ⟨fun a x h1 h2 => ?_, fun a x h1 h2 => ?_⟩
  · have n := ne_of_none h2 hD
    obtain ⟨q1, q2⟩ := f.1 a x h1 h2
    exact ⟨q1, by rw [upd_ne n]; exact q2⟩
  · have n := ne_of_none h2 hD
    obtain ⟨q1, q2⟩ := f.2 a x h1 h2
    exact ⟨q1, by rw [upd_ne n]; exact q2⟩
theorem del_ne {a : Addr} (n : a ≠ D) : S.del D a = S a := by unfold Sto.del; rw [if_neg n]
theorem frDel (hD : H1 D = none) (f : Fr S1 H1 S4 H4) : Fr S1 H1 (S4.del D) H4 := by
  refine ⟨fun a x h1 h2 => ?_, fun a x h1 h2 => ?_⟩
  · have n := ne_of_none h2 hD
    obtain ⟨q1, q2⟩ := f.1 a x h1 h2
    exact ⟨by rw [del_ne n]; exact q1, q2⟩
  · have n := ne_of_none h2 hD
    obtain ⟨q1, q2⟩ := f.2 a x h1 h2
    exact ⟨by rw [del_ne n]; exact q1, q2⟩
theorem frSet {u : O} (hD : H1 D = none) (f : Fr S1 H1 S4 H4) : Fr S1 H1 (S4.set D u) H4 := by
  refine ⟨fun a x h1 h2 => ?_, fun a x h1 h2 => ?_⟩
  · have n := ne_of_none h2 hD
    obtain ⟨q1, q2⟩ := f.1 a x h1 h2
    exact ⟨by rw [Sto.set_ne n]; exact q1, q2⟩
  · have n := ne_of_none h2 hD
    obtain ⟨q1, q2⟩ := f.2 a x h1 h2
    exact ⟨by rw [Sto.set_ne n]; exact q1, q2⟩
theorem fr0Del : Fr0 S H (S.del D) H := fun a x h1 h2 => by
  refine ⟨?_, h2⟩
  unfold Sto.del
  split
  · rfl
  · exact h1
theorem SR.del (s : SR Γ S H) : SR Γ (S.del D) H := s.step0 fr0Del fun a o q => by
  unfold Sto.del at q
  split at q
  · cases q
  · exact .inl ⟨q, rfl⟩
theorem del_set {u : O} : (S.del D).set D u = S.set D u := by
  funext b
  unfold Sto.set Sto.del
  split <;> rfl
theorem upd_self {o : HO} (h : H D = some o) : upd H D o = H := by
  funext b
  unfold upd
  split
  · rename_i e; subst e; exact h.symm
  · rfl
end
section
variable {Γ : Gm} {G : GT} {C : CT} {N : List Str} {sc : Scope} {Wx : WX} {X : Cx}
def cF (C : CT) (tg : Tg) (cond : List E) (elt : E) (own : List Nat) (env : Env) : W → Sto → (List W → Sto → Prop) → Prop := fun w S2 R => wSome (bindTg tg w (wipeE env own)) fun env' =>
  wAnd C cond env' S2 (fun b S3 => wB b (wE C elt env' S3 (fun y S4 => R [y] S4) (fun _ _ => False)) (R [] S3)) (fun _ _ => False)
def tTs (Γ : Gm) (C : CT) (es : List E) : TT := fun σ H Q => ∃ env S QW XW, envR Γ S H env σ ∧ SR Γ S H ∧ wAnd C es env S QW XW ∧ KB Γ S H QW Q ∧ KX Γ S H XW (fun cls d H' => W0 cls d σ H')
theorem comp_of (hK : X.K = Γ.K) {fz : Bool} {tg : Tg} {ik : IK} {its cond : List E} {elt : E} {own : List Nat} {σ : L2.St} {H : Hp} {Q : VK} (ht : (tgIs tg).all (fun i => own.contains i) = true) (hq : tE Γ C Wx (.comp fz tg ik its cond elt own) σ H Q) :
    tLc (iW Γ C Wx ik its) (gW Γ tg) (tTs Γ C cond) (tE Γ C W0 elt) own σ H Q := by
  obtain ⟨env, S, QW, XW, he, hs, h, k, kx⟩ := hq
  simp only [wE] at h
  refine ⟨env, S, (fun items lk S1 => items.length ≤ sizeLine ∧ ∀ D, S1 D = none → wMap lk (cF C tg cond elt own env) items (S1.set D .hid) (fun ys S2 => mkL fz ys (S2.del D) QW)), XW, he, hs, h, fun items lk S1 H1 J P wk p0 s1 f1 lv ⟨hz, q1⟩ D hD => ?_, kx⟩
  have q1 := q1 D (s1.nil hD)
  refine ⟨fun i m H' => m = items.length - i ∧ ∃ S' acc ys, i ≤ items.length ∧ ys.length ≤ i ∧ H' D = some (.lst acc) ∧ S' D = some .hid ∧ SR Γ S' H' ∧ Fr S1 H1 S' H' ∧ reps Γ S' H' ys acc ∧ wMap lk (cF C tg cond elt own env) (items.drop i) S' (fun zs S2 => mkL fz (ys ++ zs) (S2.del D) QW),
    ⟨items.length, by simp, S1.set D .hid, [], [], Nat.zero_le _, Nat.le_refl _, upd_same, Sto.set_same, s1.hide hD, Fr.newS hD, rfl, q1⟩, ?_⟩
  rintro i m H' ⟨rfl, S', acc, ys, hi, hl, hH, hS, s', f', r', q'⟩
  have p' : P S' H' := wk.st _ _ _ _ f' p0
  by_cases hlt : i < items.length
  · right
    rw [List.drop_eq_getElem_cons hlt] at q'
    obtain ⟨lv', q'⟩ := q'
    refine ⟨wk.go i S' H' s' p' lv' hlt, fun H' => ∃ S' acc ys, i + 1 ≤ items.length ∧ ys.length ≤ i + 1 ∧ H' D = some (.lst acc) ∧ S' D = some .hid ∧ SR Γ S' H' ∧ Fr S1 H1 S' H' ∧ reps Γ S' H' ys acc ∧ wMap lk (cF C tg cond elt own env) (items.drop (i + 1)) S' (fun zs S2 => mkL fz (ys ++ zs) (S2.del D) QW), fun H2 hn => ⟨items.length - (i + 1), by omega, rfl, hn⟩, fun x H2 y => ?_⟩
    obtain ⟨w, e1, s2, f2, r2⟩ := wk.yld i S' H' x H2 s' p' lv' hlt y
    have e2 : items[i] = w := by rw [List.getElem?_eq_getElem hlt] at e1; exact Option.some.inj e1
    rw [e2] at q'
    obtain ⟨env', e3, q'⟩ := wSome_el (show wSome (bindTg tg w (wipeE env own)) _ from q')
    have he' : envR Γ S' H2 (wipeE env own) (wipe σ own) := (he.fr (f1.trans (f'.trans f2))).wipe own
    refine ⟨wipeE env own, S', w, env', he', r2, e3, fun σ' ⟨l, l1, l2⟩ he2 => ⟨?_, ?_⟩⟩
    · rw [l2, wipe_setIs fun p hp => ?_]
      · have : wipe (wipe σ own) own = wipe σ own := by
          refine List.ext_getElem? fun j => ?_
          rw [wipe_get, wipe_get]
          by_cases hj : j ∈ own
          · rw [if_pos hj, if_pos hj]
            cases σ[j]? <;> rfl
          · rw [if_neg hj, if_neg hj]
        exact this
      · rw [l1] at hp
        have := List.all_eq_true.mp ht p hp
        simpa using this
    · refine ⟨env', S', _, fun _ _ => False, he2, s2, q', ?_, fun _ _ _ _ _ _ _ _ q => q.elim⟩
      intro b S3 H3 s3 f3 q3
      rcases wB_el q3 with ⟨rfl, q3⟩ | ⟨rfl, q3⟩
      · refine ⟨true, rfl, ?_⟩
        refine iteT ?_
        refine ⟨env', S3, _, fun _ _ => False, he2.fr f3, s3, q3, fun y S4 v H4 r4 s4 f4 q4 => ?_, fun _ _ _ _ _ _ _ _ q => q.elim⟩
        have ff : Fr S' H' S4 H4 := f2.trans (f3.trans f4)
        obtain ⟨hS4, hH4⟩ := ff.2 D _ hS hH
        have ln := r'.len
        refine ⟨acc, hH4, by omega, S4, acc ++ [v], ys ++ [y], hlt, by simp; omega, upd_same, hS4, s4.hid hS4, frU hD (f'.trans ff), ?_, ?_⟩
        · exact (reps.fr0 (Fr0.hid hS4) _ _ (reps.fr ff _ _ r')).app (reps.one (rep.fr0 (Fr0.hid hS4) _ _ r4))
        · have q4 : wMap lk (cF C tg cond elt own env) (items.drop (i + 1)) S4 (fun zs S2 => mkL fz (ys ++ ([y] ++ zs)) (S2.del D) QW) := q4
          simp only [← List.append_assoc] at q4
          exact q4
      · refine ⟨false, rfl, ?_⟩
        refine iteF ?_
        have ff : Fr S' H' S3 H3 := f2.trans f3
        obtain ⟨hS3, hH3⟩ := ff.2 D _ hS hH
        exact ⟨S3, acc, ys, hlt, by omega, hH3, hS3, s3, f'.trans ff, reps.fr ff _ _ r', q3⟩
  · left
    have e : i = items.length := by omega
    subst e
    rw [List.drop_of_length_le (Nat.le_refl _)] at q'
    obtain ⟨lv', q'⟩ := q'
    rw [List.append_nil] at q'
    refine ⟨wk.stop _ S' H' s' p' lv' (Nat.le_refl _), ?_⟩
    unfold mkL at q'
    split at q'
    · exact k (.rl ys) (S'.del D) (.ref D) H' ⟨D, acc, rfl, ⟨Sto.del_same, hH⟩, reps.fr0 fr0Del _ _ r'⟩ s'.del (f1.trans (frDel hD f')) q'
    · have q2 := q' D Sto.del_same
      rw [del_set] at q2
      have s2 := s'.wrL hS r'
      rw [upd_self hH] at s2
      exact k (.ref D) (S'.set D (.lst ys)) (.ref D) H' rfl s2 (f1.trans (frSet hD f')) q2
theorem XO.blk (xo : XO Γ G C N sc Wx X) (s : Shared) (H : Hp) (scope : Scope) (cl : List (Str × Addr)) (Ca : Addr) (fp : List Addr) : XO Γ G C N (relS scope sc) W0 (X.blk s H scope (compEnvC scope cl Ca X.env) fp) where
  hN := xo.hN
  nd := xo.nd
  hsc := by show relS scope X.env.scope = relS scope sc; rw [xo.hsc]
  calm := xo.calm
  hK := xo.hK
  tk := takes00
  un := xo.un
  bi := xo.bi
  con := xo.con
  fn := xo.fn
  fnv := xo.fnv
  cls := xo.cls
  xcl := xo.xcl
  mth := xo.mth
  fld := xo.fld
  isC := xo.isC
  tab := xo.tab
/-! ### targets, as checked -/
theorem nm_of (hN : X.N = N) {scope : Scope} (hl : ∀ x, locB scope x = true → Loc X.env.scope x ∧ (X.fn x = true ∨ X.env.scope.names.lookup x = some .local)) {e : Expr} {i : Nat} (h : chNm N scope e i = true) : NmOk X e i := by
  unfold chNm at h
  split at h
  · rw [Bool.and_eq_true] at h
    obtain ⟨h1, h2⟩ := hl _ h.2
    exact ⟨_, _, rfl, by rw [hN]; exact of_decide_eq_true h.1, h1, h2⟩
  · cases h
theorem nms_of (hN : X.N = N) {scope : Scope} (hl : ∀ x, locB scope x = true → Loc X.env.scope x ∧ (X.fn x = true ∨ X.env.scope.names.lookup x = some .local)) : ∀ {es : List Expr} {is : List Nat}, chL (chNm N scope) es is = true → Paired (NmOk X) es is
  | [], [], _ => .nil
  | [], _ :: _, h => by simp [chL] at h
  | _ :: _, [], h => by simp [chL] at h
  | e :: es, i :: is, h => by
    rw [chL, Bool.and_eq_true] at h
    exact .cons (nm_of hN hl h.1) (nms_of hN hl h.2)
theorem tup_el {scope : Scope} {e : Expr} {is : List Nat} (h : chTg N scope e (.pr is) = true) : ∃ es k p, e = .Tuple es k p ∧ chL (chNm N scope) es is = true := by
  cases e with
  | Tuple es k p => exact ⟨es, k, p, rfl, h⟩
  | _ => cases h
theorem tg_of (hN : X.N = N) {scope : Scope} (hl : ∀ x, locB scope x = true → Loc X.env.scope x ∧ (X.fn x = true ∨ X.env.scope.names.lookup x = some .local)) {e : Expr} {tg : Tg} (h : chTg N scope e tg = true) : TgOk X e tg := by
  cases tg with
  | nm i => exact nm_of hN hl h
  | pr is =>
    obtain ⟨es, k, p, e1, h⟩ := tup_el h
    exact ⟨es, k, p, e1, nms_of hN hl h⟩
theorem blk_loc {s : Shared} {H : Hp} {scope : Scope} {cl : List (Str × Addr)} {Ca : Addr} {fp : List Addr} : ∀ x, locB scope x = true → Loc (X.blk s H scope (compEnvC scope cl Ca X.env) fp).env.scope x ∧ ((X.blk s H scope (compEnvC scope cl Ca X.env) fp).fn x = true ∨ (X.blk s H scope (compEnvC scope cl Ca X.env) fp).env.scope.names.lookup x = some .local) := by
  intro x h
  unfold locB at h
  split at h
  · rename_i e
    have e2 : (relS scope X.env.scope).names.lookup x = some .local := lookup_relS_keep (by intro z; cases z) e
    exact ⟨.inl e2, .inr e2⟩
  · rename_i e
    have e2 : (relS scope X.env.scope).names.lookup x = some .cell := lookup_relS_keep (by intro z; cases z) e
    refine ⟨.inr e2, .inl ?_⟩
    show (scope.names.lookup x == some .cell) = true
    rw [e]
    rfl
  · cases h
theorem PTsimp {es : List Expr} {t t' : TT} (h : PTs X es t) (k : ∀ σ H Q, t' σ H Q → t σ H Q) : PTs X es t' := ⟨fun pins s σ H Q I q => h.run pins s σ H Q I (k σ H Q q)⟩
theorem pts_of {f : Expr → E → Bool} (hf : ∀ e e', f e e' = true → okT e = true → PT X e (tT Γ C W0 e')) : ∀ {es : List Expr} {es' : List E}, chL f es es' = true → es.length ≤ 1 → es.all okT = true → PTs X es (tTs Γ C es')
  | [], [], _, _, _ => PTsimp pts_nil fun σ H Q ⟨env, S, QW, XW, he, hs, h, k, kx⟩ => by
    obtain ⟨b, e, q⟩ := k (.bl true) S H hs (Fr.refl _ _) h
    cases e
    exact q
  | [], _ :: _, h, _, _ => by simp [chL] at h
  | _ :: _, [], h, _, _ => by simp [chL] at h
  | [e], [e'], h, _, o => by
    rw [chL, Bool.and_eq_true] at h
    rw [List.all_cons, Bool.and_eq_true] at o
    exact PTsimp (pts_one (hf _ _ h.1 o.1)) fun σ H Q ⟨env, S, QW, XW, he, hs, h, k, kx⟩ => ⟨env, S, QW, XW, he, hs, by simpa only [wAnd] using h, k, kx⟩
  | [e], _ :: _ :: _, h, _, _ => by simp [chL] at h
  | _ :: _ :: _, _, _, l, _ => by simp at l
theorem fold_ok {iter : Expr} (h : okE iter = true) {env : PySem.Env} : ∀ x, foldedSetIterable iter env x = pure x := by
  intro x
  cases iter <;> first | rfl | (simp [okE] at h)
theorem chI_ok {n : Nat} {tg iter : Expr} {ik : IK} {its : List E} (h : chI G (chE G N n sc) sc tg iter ik its = true) : okE iter = true := by
  cases ik with
  | seq =>
    simp only [chI] at h
    split at h
    · exact chE_ok h
    · cases h
  | _ =>
    simp only [chI] at h
    split at h
    · rfl
    · cases h
theorem chL_and {f : Expr → E → Bool} {g : Expr → Bool} : ∀ {es : List Expr} {es' : List E}, chL f es es' = true → es.all g = true → chL (fun e e' => f e e' && g e) es es' = true
  | [], [], _, _ => rfl
  | [], _ :: _, h, _ => by simp [chL] at h
  | _ :: _, [], h, _ => by simp [chL] at h
  | e :: es, e' :: es', h, o => by
    rw [chL, Bool.and_eq_true] at h
    rw [List.all_cons, Bool.and_eq_true] at o
    rw [chL, h.1, o.1, chL_and h.2 o.2]
    rfl
theorem ne_nil {α : Type} {l : List α} (h : (!l.isEmpty) = true) : l ≠ [] := by
  intro e
  subst e
  simp at h
/-- what the comprehension's parts need -/
structure LcOk (G : GT) (C : CT) (Γ : Gm) (N : List Str) (sc : Scope) (Wx : WX) (X : Cx) (scope : Scope) (tg0 iter0 : Expr) (ifs0 : List Expr) (elt0 : Expr) (tg : Tg) (ik : IK) (its cond : List E) (elt : E) (own : List Nat) : Prop where
  e1 : (ownOf N own).map (·.2) = own
  e2 : (tgIs tg).all (fun i => own.contains i) = true
  i : PI X tg0 iter0 (iW Γ C Wx ik its)
  b : BlkOk X.N X.env.scope scope (ownOf N own)
  g : ∀ (s : Shared) (H : Hp) (Ca : Addr) (cl : List (Str × Addr)) (fp : List Addr), PG (X.blk s H scope (compEnvC scope cl Ca X.env) fp) tg0 (gW Γ tg)
  t : ∀ (s : Shared) (H : Hp) (Ca : Addr) (cl : List (Str × Addr)) (fp : List Addr), PTs (X.blk s H scope (compEnvC scope cl Ca X.env) fp) ifs0 (tTs Γ C cond)
  e : ∀ (s : Shared) (H : Hp) (Ca : Addr) (cl : List (Str × Addr)) (fp : List Addr), PE (X.blk s H scope (compEnvC scope cl Ca X.env) fp) elt0 (tE Γ C W0 elt)
  s : ∀ x, foldedSetIterable iter0 X.env x = pure x
/-- a comprehension, as checked -/
def chLc (G : GT) (N : List Str) (n : Nat) (sc scope : Scope) (tg0 iter0 : Expr) (ifs0 : List Expr) (elt0 : Expr) (tg : Tg) (ik : IK) (its cond : List E) (elt : E) (own : List Nat) : Bool :=
  decide ((ownOf N own).map (·.2) = own) && blkC N sc scope (ownOf N own) && chTg N scope tg0 tg && (tgIs tg).all (fun i => own.contains i) &&
    chI G (chE G N n sc) sc tg0 iter0 ik its && decide (ifs0.length ≤ 1) && ifs0.all okT && chL (chE G N n (relS scope sc)) ifs0 cond && chE G N n (relS scope sc) elt0 elt
theorem lc_of {n : Nat} (ih : ∀ {sc : Scope} {Wx : WX} {X : Cx} {e : Expr} {e' : E}, XO Γ G C N sc Wx X → chE G N n sc e e' = true → PE X e (tE Γ C Wx e') ∧ (okT e = true → PT X e (tT Γ C Wx e')))
    (xo : XO Γ G C N sc Wx X) (nh : G.hot = false) {scope : Scope} {tg0 iter0 : Expr} {ifs0 : List Expr} {elt0 : Expr} {tg : Tg} {ik : IK} {its cond : List E} {elt : E} {own : List Nat} (h : chLc G N n sc scope tg0 iter0 ifs0 elt0 tg ik its cond elt own = true) : LcOk G C Γ N sc Wx X scope tg0 iter0 ifs0 elt0 tg ik its cond elt own := by
  unfold chLc at h
  simp only [Bool.and_eq_true] at h
  obtain ⟨⟨⟨⟨⟨⟨⟨⟨h1, h2⟩, h3⟩, h4⟩, h5⟩, h6⟩, h7⟩, h8⟩, h9⟩ := h
  exact {
    e1 := of_decide_eq_true h1
    e2 := h4
    i := i_of xo (fun e e' q => ⟨(chE_ns q).1, (ih xo q).1⟩) h5
    b := by rw [xo.hN, xo.hsc]; exact blkOk_by h2
    g := fun s H Ca cl fp => pg_of (X := X.blk s H scope (compEnvC scope cl Ca X.env) fp) (by show X.N.Nodup; rw [xo.hN]; exact xo.nd) (xo.calm nh) xo.hK (tg_of (X := X.blk s H scope (compEnvC scope cl Ca X.env) fp) xo.hN blk_loc h3)
    t := fun s H Ca cl fp => pts_of (fun e e' q o => (ih (xo.blk s H scope cl Ca fp) q).2 o) h8 (of_decide_eq_true h6) h7
    e := fun s H Ca cl fp => (ih (xo.blk s H scope cl Ca fp) h9).1
    s := fold_ok (chI_ok h5) }
theorem s_lc (xo : XO Γ G C N sc Wx X) (nh : G.hot = false) {scope : Scope} {tg0 iter0 : Expr} {ifs0 : List Expr} {elt0 : Expr} {tg : Tg} {ik : IK} {its cond : List E} {elt : E} {own : List Nat} {fz : Bool} {pos : Pos} (l : LcOk G C Γ N sc Wx X scope tg0 iter0 ifs0 elt0 tg ik its cond elt own) :
    PE X (.ListComp elt0 [⟨tg0, iter0, ifs0, 0⟩] scope pos) (tE Γ C Wx (.comp fz tg ik its cond elt own)) := by
  refine PEimp (pe_lc (xo.calm nh) (by rw [xo.hN]; exact xo.nd) l.i l.b l.g l.t l.e l.s) fun σ H Q hq => ?_
  rw [l.e1]
  exact comp_of xo.hK l.e2 hq
end
end Bw

/-! Ev12b: dicts known by content, tuples told several times, extend. -/
namespace Bw
open PySem L2 PySem.Spec PyProof.Rows
section
variable {Γ : Gm} {G : GT} {C : CT} {N : List Str} {sc : Scope} {Wx : WX} {X : Cx}
def dkz0 (ks : List (List Nat)) (vs : List V) : List (Key × V) := (ks.zip vs).map fun p => (Sum.inr ⟨p.1.toArray⟩, p.2)
theorem dkz0_eq : ∀ {ks : List (List Nat)} {vs : List V}, dkz (ks.map Sum.inr) vs = dkz0 ks vs
  | [], _ => rfl
  | _ :: _, [] => rfl
  | k :: ks, v :: vs => by
    show (keyV (Sum.inr k), v) :: dkz (ks.map Sum.inr) vs = _
    rw [dkz0_eq]; rfl
theorem merge_nodup : ∀ (more acc : List (Key × V)), (more.map (·.1)).Nodup → (∀ k ∈ more.map (·.1), k ∉ acc.map (·.1)) → mergeK acc more = acc ++ more
  | [], acc, _, _ => by simp [mergeK]
  | p :: more, acc, nd, h => by
    rw [List.map_cons, List.nodup_cons] at nd
    have hp : p.1 ∉ acc.map (·.1) := h p.1 (by simp)
    have e : putK acc p.1 p.2 = acc ++ [(p.1, p.2)] := by
      unfold putK
      rw [if_neg]
      intro z
      obtain ⟨q, hq, hd⟩ := List.any_eq_true.mp z
      exact hp (List.mem_map.mpr ⟨q, hq, of_decide_eq_true hd⟩)
    show mergeK (putK acc p.1 p.2) more = _
    rw [e, merge_nodup more _ nd.2]
    · simp
    · intro k hk hk2
      rw [List.map_append, List.mem_append] at hk2
      rcases hk2 with hk2 | hk2
      · exact h k (by simp [List.mem_map.mp hk]) hk2
      · simp only [List.map_cons, List.map_nil, List.mem_singleton] at hk2
        subst hk2
        exact nd.1 hk
theorem nd_map {α β : Type} (g : α → β) (hg : ∀ a b, g a = g b → a = b) : ∀ {l : List α}, l.Nodup → (l.map g).Nodup
  | [], _ => by simp
  | a :: l, h => by
    rw [List.nodup_cons] at h
    rw [List.map_cons, List.nodup_cons]
    refine ⟨fun z => ?_, nd_map g hg h.2⟩
    obtain ⟨b, hb, e⟩ := List.mem_map.mp z
    exact h.1 (hg _ _ e ▸ hb)
theorem tC_key {x : Str} {σ : L2.St} {H : Hp} {Q : VK} (h : Q (.str x) H) : tC (.str x) σ H Q := h
theorem chK1_el {e : Option Expr} {k : List Nat} (h : chK1 e k = true) : ∃ x j p, e = some (.Constant (.str x) j p) ∧ x.cps.toList = k := by
  unfold chK1 at h
  split at h
  · exact ⟨_, _, _, rfl, of_decide_eq_true h⟩
  · cases h
theorem chK_el {e : Option Expr} {keys : List (Option Expr)} {ks : List (List Nat)} (h : chK (e :: keys) ks = true) : ∃ x j p k r, e = some (.Constant (.str x) j p) ∧ ks = k :: r ∧ x.cps.toList = k ∧ chK keys r = true := by
  cases ks with
  | nil => simp [chK, chL] at h
  | cons k r =>
    unfold chK at h
    rw [chL, Bool.and_eq_true] at h
    obtain ⟨x, j, p, e1, e2⟩ := chK1_el h.1
    exact ⟨x, j, p, k, r, e1, rfl, e2, h.2⟩
theorem chL_el {f : Expr → E → Bool} {e : Expr} {es : List Expr} {es' : List E} (h : chL f (e :: es) es' = true) : ∃ a r, es' = a :: r ∧ f e a = true ∧ chL f es r = true := by
  cases es' with
  | nil => simp [chL] at h
  | cons a r => rw [chL, Bool.and_eq_true] at h; exact ⟨a, r, rfl, h.1, h.2⟩
/-- the pairs of a display -/
theorem pps_of (xo : XO Γ G C N sc Wx X) {pos : Pos} {f : Expr → E → Bool} (hf : ∀ e e', f e e' = true → PE X e (tE Γ C Wx e')) : ∀ {keys : List (Option Expr)} {vals : List Expr} {ks : List (List Nat)} {es : List E}, chK keys ks = true → chL f vals es = true → vals.length = ks.length →
    ∃ trs, PPs X pos keys vals trs ∧ ∀ σ H (Q : List (V × V) → Hp → Prop), tEs Γ C Wx es σ H (fun vs H' => Q ((ks.zip vs).map fun p => (.str ⟨p.1.toArray⟩, p.2)) H') → tPairs trs σ H Q := by
  intro keys
  induction keys with
  | nil =>
    intro vals ks es hk hv hl
    cases ks with
    | cons _ _ => simp [chK, chL] at hk
    | nil =>
      cases vals with
      | cons _ _ => simp at hl
      | nil =>
        cases es with
        | cons _ _ => simp [chL] at hv
        | nil =>
          refine ⟨[], pps_nil, fun σ H Q ⟨env, S, QW, XW, he, hs, h, k, kx⟩ => ?_⟩
          simp only [wEs] at h
          exact k [] S [] H rfl hs (Fr.refl _ _) h
  | cons e keys ih =>
    intro vals ks es hk hv hl
    obtain ⟨x, j, p, k, r, rfl, rfl, ek, hk⟩ := chK_el hk
    cases vals with
    | nil => simp at hl
    | cons v vals =>
      obtain ⟨e', es, rfl, hv1, hv2⟩ := chL_el hv
      obtain ⟨trs, hp, ht⟩ := ih hk hv2 (by simpa using hl)
      refine ⟨_, pps_cons pe_str (hf _ _ hv1) hp, fun σ H Q ⟨env, S, QW, XW, he, hs, h, kq, kx⟩ => ?_⟩
      simp only [wEs] at h
      have ex : (.str x : V) = .str ⟨k.toArray⟩ := by rw [← ek]
      show tC (.str x) σ H _
      refine tC_key ?_
      refine ⟨env, S, _, XW, he, hs, h, fun w S1 u H1 r1 s1 f1 q1 => ?_, kx⟩
      refine ht σ H1 _ ⟨env, S1, _, XW, he.fr f1, s1, q1, fun ws S2 vs H2 r2 s2 f2 q2 => ?_, kx.fr f1⟩
      have := kq (w :: ws) S2 (u :: vs) H2 ⟨u, vs, rfl, rep.fr f2 _ _ r1, r2⟩ s2 (f1.trans f2) q2
      rw [ex]
      exact this
theorem chK_len : ∀ {keys : List (Option Expr)} {ks : List (List Nat)}, chK keys ks = true → keys.length = ks.length ∧ keys.all (·.isSome) = true := by
  intro keys
  induction keys with
  | nil => intro ks h; cases ks with | nil => exact ⟨rfl, rfl⟩ | cons _ _ => simp [chK, chL] at h
  | cons e keys ih =>
    intro ks h
    obtain ⟨x, j, p, k, r, rfl, rfl, ek, hk⟩ := chK_el h
    obtain ⟨h1, h2⟩ := ih hk
    exact ⟨by simp [h1], by simp [h2]⟩
theorem s_dic (xo : XO Γ G C N sc Wx X) {f : Expr → E → Bool} (hf : ∀ e e', f e e' = true → PE X e (tE Γ C Wx e')) {keys : List (Option Expr)} {vals : List Expr} {ks : List (List Nat)} {es : List E} {pos : Pos} (hk : chK keys ks = true) (nd : ks.Nodup) (ne : ks ≠ []) (h15 : ks.length ≤ 15) (hl : vals.length = ks.length) (hv : chL f vals es = true) :
    PE X (.Dict keys vals pos) (tE Γ C Wx (.dic ks es)) := by
  obtain ⟨trs, hp, ht⟩ := pps_of xo hf (pos := pos) hk hv hl
  obtain ⟨l1, l2⟩ := chK_len hk
  refine PEimp (pe_disp hp l2 (by rw [l1, hl]) (fun e => ne (by rw [e] at l1; exact List.eq_nil_of_length_eq_zero l1.symm)) (by rw [l1]; exact h15)) fun σ H Q ⟨env, S, QW, XW, he, hs, h, k, kx⟩ => ?_
  simp only [wE] at h
  intro p hpn
  have h := h p (hs.nil hpn)
  refine ht σ _ _ ⟨env, S.set p .hid, _, fun _ _ => False, he.fr (Fr.newS hpn), hs.hide hpn, h, fun ws S1 vs H1 r1 s1 f1 q1 => ?_, fun _ _ _ _ _ _ _ _ q => q.elim⟩
  obtain ⟨hS1, hH1⟩ := f1.2 p _ Sto.set_same upd_same
  obtain ⟨lw, q1⟩ := q1
  have lv := r1.len
  refine ⟨hH1, dkz0 ks vs, ?_, ?_, ?_⟩
  · unfold dkz0
    rw [List.map_map]
    rfl
  · unfold dkz0
    rw [List.length_map, List.length_zip]
    omega
  · have mg : mergeK [] (dkz0 ks vs) = dkz0 ks vs := by
      rw [merge_nodup _ [] ?_ (by simp)]
      · rfl
      · unfold dkz0
        rw [List.map_map]
        have : (Prod.fst ∘ fun p : List Nat × V => ((Sum.inr ⟨p.1.toArray⟩ : Key), p.2)) = (fun k : List Nat => (Sum.inr ⟨k.toArray⟩ : Key)) ∘ Prod.fst := rfl
        rw [this, ← List.map_map, List.map_fst_zip (by omega)]
        exact nd_map _ (fun a b e => by injection e with e; injection e with e; simpa using e) nd
    rw [mg]
    have fr : Fr S H (S1.del p) (upd H1 p (.dK (dkz0 ks vs))) := frU hpn (frDel hpn (Fr.trans (Fr.newS hpn) f1))
    refine k (.dct (ks.map Sum.inr) ws) (S1.del p) (.ref p) _ ⟨p, vs, rfl, ⟨Sto.del_same, by rw [dkz0_eq]; exact upd_same⟩, by rw [List.length_map]; exact lw, ?_⟩ ?_ fr q1
    · exact reps.fr0 fr0Del _ _ (reps.fr0 (Fr0.hid hS1) _ _ r1)
    · exact (s1.hid hS1).del
theorem s_ext (xo : XO Γ G C N sc Wx X) {o x : Expr} {a e : E} {apos cpos : Pos} (h1 : plainO o = true) (h2 : (apos.endLine == cpos.line) = true) (hn : noStar x = true) (pa : PE X o (tE Γ C Wx a)) (px : PE X x (tE Γ C Wx e)) :
    PE X (.Call (.Attribute o "extend" apos) [x] [] cpos) (tE Γ C Wx (.ext a e)) := by
  have sc1 : starEach [x] X.env = (false, eval x X.env) :: starEach [] X.env := star_cons hn
  refine PEimp (pe_bm PySem.F.plainAttrs_list PySem.F.slot_list_extend PySem.F.type_list_extend mt_extend pa (pa_cons px pa_nil sc1) (base_of h1) (by rw [sc1]; rfl) h2 sc1 rfl) fun σ H Q ⟨env, S, QW, XW, he, hs, h, k, kx⟩ => ?_
  simp only [wE] at h
  refine ⟨env, S, _, XW, he, hs, h, fun y S1 v H1 r1 s1 f1 q1 => ?_, kx⟩
  dsimp only at q1
  cases e1 : lstOf S1 y with
  | none => rw [e1] at q1; exact absurd q1.1 (by simp)
  | some ws =>
    obtain ⟨pp, vs, rfl, hp, rr⟩ := lst_rep e1 r1 s1
    refine ⟨.inl ⟨rfl, _, SqL.of hp⟩, env, S1, _, XW, he.fr f1, s1, q1.2, fun w S2 u H2 r2 s2 f2 q2 => ?_, kx.fr f1⟩
    cases y with
    | ref b =>
      have q2 : (match S2 b with
        | some (.lst ws) => match lstOf S2 w with
          | some us => ws.length + us.length ≤ PySem.sizeLine ∧ QW .non (S2.set b (.lst (ws ++ us)))
          | none => False
        | _ => False) := q2
      cases r1
      split at q2
      · rename_i us e2
        split at q2
        · rename_i us2 e3
          obtain ⟨vs2, h3, rr2⟩ := s2 pp _ e2
          obtain ⟨p4, vs4, rfl, h4, rr4⟩ := lst_rep e3 r2 s2
          refine ⟨pp, p4, vs2, vs4, rfl, rfl, h3, h4, by rw [← rr2.len, ← rr4.len]; exact q2.1, ?_⟩
          exact k .non _ .non _ rfl (s2.wrL e2 (rr2.app rr4)) (f1.trans (f2.trans (Fr.wr e2))) q2.2
        · exact q2.elim
      · exact q2.elim
    | _ => exact (show False from q2).elim
end
end Bw

/-! Ev12c: methods of built-in types, dicts, own classes' instances, caught exceptions, defs as values. -/
namespace Bw
open PySem L2 PySem.Spec PyProof.Rows
theorem MtRimp {X : Cx} {id : String} {r r' : V → List V → Hp → VK → Prop} (h : MtR X id r) (k : ∀ x xs H Q, r' x xs H Q → r x xs H Q) : MtR X id r' := fun pins s σ H x xs v us Q I rx rxs q => h pins s σ H x xs v us Q I rx rxs (k _ _ _ _ q)
section
variable {Γ : Gm} {S : Sto} {H : Hp}
theorem strs_vals : ∀ {ws : List W} {vs : List V} {zs : List (List Nat)}, strsOf ws = some zs → reps Γ S H ws vs → vs = zs.map strV
  | [], vs, zs, h, r => by
    cases h
    cases r
    rfl
  | w :: ws, vs, zs, h, r => by
    obtain ⟨v, vs', rfl, r1, r2⟩ := r
    cases w with
    | str x =>
      simp only [strsOf] at h
      cases e : strsOf ws with
      | none => rw [e] at h; cases h
      | some zs' =>
        rw [e] at h
        cases h
        rw [strs_vals e r2, r1.1]
        rfl
    | _ => cases h
theorem eqV_str {x z : List Nat} : eqV (strV x) (strV z) = (x == z) := by
  show ((⟨x.toArray⟩ : Str) == (⟨z.toArray⟩ : Str)) = _
  exact str_eq
theorem ix_get {z : List Nat} : ∀ {zs : List (List Nat)} {i : Nat}, ixOf z zs = some i → zs[i]? = some z ∧ ∀ m y, m < i → zs[m]? = some y → y ≠ z
  | [], i, h => by cases h
  | y :: ys, i, h => by
    unfold ixOf at h
    split at h
    · rename_i e
      cases h
      exact ⟨by simp [e], fun m y hm => absurd hm (Nat.not_lt_zero _)⟩
    · rename_i e
      cases q : ixOf z ys with
      | none => rw [q] at h; cases h
      | some j =>
        rw [q] at h
        cases h
        obtain ⟨h1, h2⟩ := ix_get q
        refine ⟨by simpa using h1, fun m y' hm hy => ?_⟩
        cases m with
        | zero =>
          simp at hy
          rw [← hy]
          exact e
        | succ m => exact h2 m y' (Nat.lt_of_succ_lt_succ hm) (by simpa using hy)
theorem lstStrs {x : W} {v : V} {zs : List (List Nat)} (h : (lstOf S x).bind strsOf = some zs) (r : rep Γ S H x v) (s : SR Γ S H) : ∃ p, v = .ref p ∧ H p = some (.lst (zs.map strV)) := by
  cases e : lstOf S x with
  | none => rw [e] at h; cases h
  | some ws =>
    rw [e] at h
    obtain ⟨p, vs, rfl, hp, rr⟩ := lst_rep e r s
    rw [strs_vals (show strsOf ws = some zs from h) rr] at hp
    exact ⟨p, rfl, hp⟩
theorem wStr_el {x : W} {P : List Nat → Prop} (h : wStr x P) : ∃ z, x = .str z ∧ P z := by
  unfold wStr at h
  split at h
  · exact ⟨_, rfl, h⟩
  · exact h.elim
theorem w2_el {ws : List W} {P : W → W → Prop} (h : w2 ws P) : ∃ x y, ws = [x, y] ∧ P x y := by
  unfold w2 at h
  split at h
  · exact ⟨_, _, rfl, h⟩
  · exact h.elim
theorem flat_strs {zs : List (List Nat)} : (zs.map strV).all flatV = true := by
  rw [List.all_map]
  exact List.all_eq_true.mpr fun z _ => rfl
def rMeb (Γ : Gm) (m : MB) : V → List V → Hp → VK → Prop := fun v us H Q => ∃ x ws S QW, rep Γ S H x v ∧ reps Γ S H ws us ∧ SR Γ S H ∧ wMeb m x ws S QW ∧ KQ Γ S H QW Q
def idM : MB → String
  | .count => "list.count"
  | .index => "list.index"
  | .dget1 => "dict.get"
  | .dget2 => "dict.get"
  | .dcopy => "dict.copy"
  | .join => "str.join"
theorem mt_meb {X : Cx} (hK : X.K = Γ.K) (hu : X.A.units + 64 < cLine) (m : MB) (hm : m ≠ .join) : MtR X (idM m) (rMeb Γ m) := by
  have hu1 : X.A.units + 1 < cLine := by omega
  cases m with
  | join => exact absurd rfl hm
  | count =>
    refine MtRimp mt_lcntF fun v us H Q ⟨x, ws, S, QW, r1, r2, s, h, k⟩ => ?_
    obtain ⟨y, rfl, h⟩ := w1_el h
    obtain ⟨z, rfl, h⟩ := wStr_el h
    obtain ⟨zs, e, h⟩ := wSome_el h
    obtain ⟨u, rfl, ru⟩ := r2.l1
    obtain ⟨p, rfl, hp⟩ := lstStrs e r1 s
    obtain ⟨rfl, _⟩ := ru
    refine ⟨p, zs.map strV, strV z, rfl, rfl, SqL.of hp, rfl, flat_strs, ?_⟩
    have ec : ((zs.map strV).countP fun y => eqV y (strV z)) = zs.countP (· == z) := by
      rw [List.countP_map]
      congr 1
      funext y
      exact eqV_str
    rw [ec]
    exact k.here s (w := .int _) rfl h
  | index =>
    refine MtRimp mt_index fun v us H Q ⟨x, ws, S, QW, r1, r2, s, h, k⟩ => ?_
    obtain ⟨y, rfl, h⟩ := w1_el h
    obtain ⟨z, rfl, h⟩ := wStr_el h
    obtain ⟨zs, e, h⟩ := wSome_el h
    obtain ⟨i, e2, h⟩ := wSome_el h
    obtain ⟨u, rfl, ru⟩ := r2.l1
    obtain ⟨p, rfl, hp⟩ := lstStrs e r1 s
    obtain ⟨rfl, _⟩ := ru
    obtain ⟨g1, g2⟩ := ix_get e2
    refine ⟨p, zs.map strV, strV z, i, strV z, rfl, rfl, SqL.of hp, rfl, flat_strs, by rw [List.getElem?_map, g1]; rfl, by rw [eqV_str]; simp, fun m z' hm hz => ?_, k.here s (w := .int _) rfl h⟩
    rw [List.getElem?_map] at hz
    cases q : zs[m]? with
    | none => rw [q] at hz; cases hz
    | some y =>
      rw [q] at hz
      cases hz
      rw [eqV_str]
      simpa using g2 m y hm q
  | dget1 =>
    refine MtRimp (mt_dget1 hu1) fun v us H Q ⟨x, ws, S, QW, r1, r2, s, h, k⟩ => ?_
    obtain ⟨y, rfl, h⟩ := w1_el h
    obtain ⟨p, e, h⟩ := wSome_el h
    obtain ⟨ky, e2, h⟩ := wSome_el h
    obtain ⟨u, rfl, ru⟩ := r2.l1
    obtain ⟨a, o, rfl, g, go⟩ := dic_get e e2 r1 ru s
    refine ⟨a, u, o, rfl, rfl, g, ?_⟩
    cases q : lookD p.1 p.2 ky with
    | none =>
      rw [q] at h
      rw [go.2 q]
      exact k.here s (w := .non) rfl h
    | some w =>
      rw [q] at h
      obtain ⟨t, e3, rt⟩ := go.1 w q
      rw [e3]
      exact k.here s rt h
  | dget2 =>
    refine MtRimp (mt_dget2 hu1) fun v us H Q ⟨x, ws, S, QW, r1, r2, s, h, k⟩ => ?_
    obtain ⟨y, d, rfl, h⟩ := w2_el h
    obtain ⟨p, e, h⟩ := wSome_el h
    obtain ⟨ky, e2, h⟩ := wSome_el h
    obtain ⟨u, u2, rfl, ru, ru2⟩ := r2.l2
    obtain ⟨a, o, rfl, g, go⟩ := dic_get e e2 r1 ru s
    refine ⟨a, u, u2, o, rfl, rfl, g, ?_⟩
    cases q : lookD p.1 p.2 ky with
    | none =>
      rw [q] at h
      rw [go.2 q]
      exact k.here s ru2 h
    | some w =>
      rw [q] at h
      obtain ⟨t, e3, rt⟩ := go.1 w q
      rw [e3]
      exact k.here s rt h
  | dcopy =>
    refine MtRimp mt_dcopy fun v us H Q ⟨x, ws, S, QW, r1, r2, s, h, k⟩ => ?_
    obtain ⟨rfl, h⟩ := h
    obtain ⟨p, e, h⟩ := wSome_el h
    cases r2
    obtain ⟨a, vs, rfl, ha, hl, rr⟩ := dic_rep e r1 s
    refine ⟨a, _, rfl, rfl, .inl ha, fun b hb => ?_⟩
    exact k (.ref b) (S.set b (.dic p.1 p.2)) (.ref b) _ rfl (orep.new s hb ⟨vs, upd_same, hl, reps.fr (Fr.newS hb) _ _ rr⟩) (Fr.newS hb) (h b (s.nil hb))
theorem recv_ty {X : Cx} (hK : X.K = Γ.K) {m : MB} {x : W} {v : V} (hm : m ≠ .join) (h : recvOf m S x = true) (r : rep Γ S H x v) (s : SR Γ S H) : tyV X.K (match m with | .count => "list" | .index => "list" | _ => "dict") v H := by
  have L : (lstOf S x).isSome = true → tyV X.K "list" v H := fun h => by
    cases e : lstOf S x with
    | none => rw [e] at h; cases h
    | some ws =>
      obtain ⟨p, vs, rfl, hp, rr⟩ := lst_rep e r s
      exact .inl ⟨rfl, vs, SqL.of hp⟩
  have D : (dicOf S x).isSome = true → tyV X.K "dict" v H := fun h => by
    cases e : dicOf S x with
    | none => rw [e] at h; cases h
    | some p =>
      obtain ⟨a, vs, rfl, ha, hl, rr⟩ := dic_rep e r s
      exact .inr (.inr (.inl ⟨rfl, .inl ⟨_, ha⟩⟩))
  cases m with
  | join => exact absurd rfl hm
  | count => exact L h
  | index => exact L h
  | dget1 => exact D h
  | dget2 => exact D h
  | dcopy => exact D h
theorem all_of_any {α : Type} {l : List (Bool × α)} (h : l.any (·.1) = false) : l.all (fun x => !x.1) = true := by
  rw [List.any_eq_false] at h
  exact List.all_eq_true.mpr fun x hx => by simpa using h x hx
/-! ### instances' fields -/
theorem sZ_inj {a b : List Nat} (h : sZ a = sZ b) : a = b := by
  unfold sZ at h
  injection h with h
  simpa using h
theorem lk_cons_ne {k f : List Nat} {v : V} {r : List (Str × V)} (e : k ≠ f) : List.lookup (sZ f) ((sZ k, v) :: r) = List.lookup (sZ f) r := by
  rw [List.lookup_cons]
  have : (sZ f == sZ k) = false := by
    rw [beq_eq_false_iff_ne]
    intro z
    exact e (sZ_inj z).symm
  rw [this]
theorem lk_cons_eq {f : List Nat} {v : V} {r : List (Str × V)} : List.lookup (sZ f) ((sZ f, v) :: r) = some v := by
  rw [List.lookup_cons]
  simp
theorem ins_some {f : List Nat} {w : W} : ∀ {ks : List (List Nat)} {ws : List W} {vs : List V}, reps Γ S H ws vs → lookF ks ws f = some w → ∃ v, (insz ks vs).lookup (sZ f) = some v ∧ rep Γ S H w v ∧ f ∈ ks
  | [], ws, vs, r, h => by cases ws <;> cases h
  | k :: ks, [], vs, r, h => by cases h
  | k :: ks, w' :: ws, vs, ⟨v, vs', e, r1, r2⟩, h => by
    subst e
    unfold lookF at h
    show ∃ u, List.lookup (sZ f) ((sZ k, v) :: insz ks vs') = some u ∧ _
    split at h
    · rename_i e
      cases h
      subst e
      exact ⟨v, lk_cons_eq, r1, by simp⟩
    · rename_i e
      obtain ⟨u, h1, h2, h3⟩ := ins_some r2 h
      exact ⟨u, by rw [lk_cons_ne e]; exact h1, h2, List.mem_cons_of_mem _ h3⟩
theorem ins_none {f : List Nat} : ∀ {ks : List (List Nat)} {ws : List W} {vs : List V}, ks.length = ws.length → reps Γ S H ws vs → lookF ks ws f = none → (insz ks vs).lookup (sZ f) = none
  | [], ws, vs, l, r, h => by
    cases ws with
    | nil => cases r; rfl
    | cons _ _ => cases l
  | k :: ks, [], vs, l, r, h => by cases l
  | k :: ks, w' :: ws, vs, l, ⟨v, vs', e, r1, r2⟩, h => by
    subst e
    unfold lookF at h
    show List.lookup (sZ f) ((sZ k, v) :: insz ks vs') = none
    split at h
    · cases h
    · rename_i e
      rw [lk_cons_ne e]
      exact ins_none (Nat.succ.inj l) r2 h
/-- an instance, in the heap -/
theorem obj_rep {x : W} {v : V} {p : Nat × List (List Nat) × List W} (h : objOf S x = some p) (r : rep Γ S H x v) (s : SR Γ S H) : ∃ a dx vs, v = .ref a ∧ H a = some (.ins (Γ.ca p.1) dx (insz p.2.1 vs)) ∧ (p.2.1.length = p.2.2.length ∧ IC Γ p.1 p.2.1) ∧ reps Γ S H p.2.2 vs := by
  cases x with
  | obj c ks ws =>
    cases h
    obtain ⟨a, dx, vs, e, q, l, rr⟩ := r
    exact ⟨a, dx, vs, e, q.2, l, rr⟩
  | ref a =>
    unfold objOf at h
    simp only at h
    split at h
    · rename_i c ks ws e
      cases h
      obtain ⟨dx, vs, h1, l, rr⟩ := s a _ e
      exact ⟨a, dx, vs, r, h1, l, rr⟩
    · cases h
  | _ => cases h
end
section
variable {Γ : Gm} {G : GT} {C : CT} {N : List Str} {sc : Scope} {Wx : WX} {X : Cx}
theorem s_meb (xo : XO Γ G C N sc Wx X) {m : MB} (hm : m ≠ .join) {o : Expr} {es : List Expr} {a : E} {es' : List E} {apos cpos : Pos} (h1 : plainO o = true) (h2 : (apos.endLine == cpos.line) = true) (hl : es.length = arM m) (hle : es.length = es'.length) (hn : es.all noStar = true) (pa : PE X o (tE Γ C Wx a)) (px : PA X es (tEs Γ C Wx es')) :
    PE X (.Call (.Attribute o (nameM m) apos) es [] cpos) (tE Γ C Wx (.meb m a es')) := by
  have hr := mt_meb xo.hK xo.un m hm
  have go : ∀ (T : String), (∀ S H x v, recvOf m S x = true → rep Γ S H x v → SR Γ S H → tyV X.K T v H) → ∀ σ H Q, tE Γ C Wx (.meb m a es') σ H Q → tBM X.K T (rMeb Γ m) (tE Γ C Wx a) (tEs Γ C Wx es') σ H Q := fun T hT σ H Q ⟨env, S, QW, XW, he, hs, h, k, kx⟩ => by
    simp only [wE] at h
    refine ⟨env, S, _, XW, he, hs, h, fun x S1 v H1 r1 s1 f1 q1 => ⟨hT S1 H1 x v q1.1 r1 s1, ?_⟩, kx⟩
    exact ⟨env, S1, _, XW, he.fr f1, s1, q1.2, fun ws S2 us H2 r2 s2 f2 q2 => ⟨x, ws, S2, QW, rep.fr f2 _ _ r1, r2, s2, q2, k.fr (f1.trans f2)⟩, kx.fr f1⟩
  have rt := fun (S : Sto) (H : Hp) (x : W) (v : V) (q : recvOf m S x = true) (r : rep Γ S H x v) (s : SR Γ S H) => recv_ty (X := X) xo.hK hm q r s
  cases m with
  | join => exact absurd rfl hm
  | dcopy =>
    cases es with
    | cons _ _ => cases hl
    | nil =>
      refine PEimp (pe_bm0 PySem.F.plainAttrs_dict PySem.F.slot_dict_copy PySem.F.type_dict_copy hr pa (base_of h1) h2) fun σ H Q ⟨env, S, QW, XW, he, hs, h, k, kx⟩ => ?_
      simp only [wE] at h
      refine ⟨env, S, _, XW, he, hs, h, fun x S1 v H1 r1 s1 f1 q1 => ⟨rt S1 H1 x v q1.1 r1 s1, ?_⟩, kx⟩
      have q2 := q1.2
      cases es' with
      | nil =>
        simp only [wEs] at q2
        exact ⟨x, [], S1, QW, r1, rfl, s1, q2, k.fr f1⟩
      | cons e' es' => cases hle
  | count =>
    obtain ⟨e, rfl⟩ := List.length_eq_one_iff.mp hl
    have n1 : noStar e = true := by simpa using hn
    have sc1 : starEach [e] X.env = (false, eval e X.env) :: starEach [] X.env := star_cons n1
    exact PEimp (pe_bm PySem.F.plainAttrs_list PySem.F.slot_list_count PySem.F.type_list_count hr pa px (base_of h1) (by rw [sc1]; rfl) h2 sc1 rfl) (go "list" rt)
  | index =>
    obtain ⟨e, rfl⟩ := List.length_eq_one_iff.mp hl
    have n1 : noStar e = true := by simpa using hn
    have sc1 : starEach [e] X.env = (false, eval e X.env) :: starEach [] X.env := star_cons n1
    exact PEimp (pe_bm PySem.F.plainAttrs_list PySem.F.slot_list_index PySem.F.type_list_index hr pa px (base_of h1) (by rw [sc1]; rfl) h2 sc1 rfl) (go "list" rt)
  | dget1 =>
    obtain ⟨e, rfl⟩ := List.length_eq_one_iff.mp hl
    have n1 : noStar e = true := by simpa using hn
    have sc1 : starEach [e] X.env = (false, eval e X.env) :: starEach [] X.env := star_cons n1
    exact PEimp (pe_bm PySem.F.plainAttrs_dict PySem.F.slot_dict_get PySem.F.type_dict_get hr pa px (base_of h1) (by rw [sc1]; rfl) h2 sc1 rfl) (go "dict" rt)
  | dget2 =>
    obtain ⟨e, e2, rfl⟩ : ∃ e e2, es = [e, e2] := by
      match es, hl with
      | [e, e2], _ => exact ⟨e, e2, rfl⟩
    have n1 : noStar e = true ∧ noStar e2 = true := by simpa using hn
    have sc1 : starEach [e, e2] X.env = (false, eval e X.env) :: starEach [e2] X.env := star_cons n1.1
    have sc2 : starEach [e2] X.env = (false, eval e2 X.env) :: starEach [] X.env := star_cons n1.2
    exact PEimp (pe_bm PySem.F.plainAttrs_dict PySem.F.slot_dict_get PySem.F.type_dict_get hr pa px (base_of h1) (by rw [sc1, sc2]; rfl) h2 sc1 (by rw [sc2]; rfl)) (go "dict" rt)
theorem s_dnew {pos : Pos} : PE X (.Dict [] [] pos) (tE Γ C Wx .dnew) := by
  refine PEimp pe_dnewK fun σ H Q ⟨env, S, QW, XW, he, hs, h, k, kx⟩ => ?_
  simp only [wE] at h
  intro p hp
  exact k (.ref p) (S.set p (.dic [] [])) (.ref p) _ rfl (orep.new hs hp ⟨[], upd_same, rfl, rfl⟩) (Fr.newS hp) (h p (hs.nil hp))
theorem wFz_el {x : W} {S : Sto} {Q : VQ} (h : wFz x S Q) : ∃ w' S', Fz S x w' S' ∧ Q w' S' := by
  have sub : ∀ {a : Addr} {o : O}, S a = some o → o ≠ .hid → Sub (S.del a) S := fun {a o} e ne => by
    refine ⟨fun b u q => ?_, fun b q => ?_⟩
    · unfold Sto.del at q
      split at q
      · cases q
      · exact q
    · unfold Sto.del
      split
      · rename_i e2
        subst e2
        rw [e] at q
        cases q
        exact absurd rfl ne
      · exact q
  have same : Sub S S := ⟨fun _ _ q => q, fun _ q => q⟩
  unfold wFz at h
  split at h
  · rename_i a
    split at h
    · rename_i ws e
      exact ⟨_, _, ⟨sub e (fun z => nomatch z), .inr ⟨a, rfl, Sto.del_same, .inl ⟨ws, e, rfl⟩⟩⟩, h⟩
    · rename_i ks ws e
      exact ⟨_, _, ⟨sub e (fun z => nomatch z), .inr ⟨a, rfl, Sto.del_same, .inr (.inl ⟨ks, ws, e, rfl⟩)⟩⟩, h⟩
    · rename_i c ks ws e
      exact ⟨_, _, ⟨sub e (fun z => nomatch z), .inr ⟨a, rfl, Sto.del_same, .inr (.inr ⟨c, ks, ws, e, rfl⟩)⟩⟩, h⟩
    · exact ⟨_, _, ⟨same, .inl rfl⟩, h⟩
  · exact ⟨_, _, ⟨same, .inl rfl⟩, h⟩
theorem s_fzv {e : Expr} {a : E} (pa : PE X e (tE Γ C Wx a)) : PE X e (tE Γ C Wx (.fzv a)) := by
  refine PEimp pa fun σ H Q ⟨env, S, QW, XW, he, hs, h, k, kx⟩ => ?_
  simp only [wE] at h
  refine ⟨env, S, _, XW, he, hs, h, fun x S1 v H1 r1 s1 f1 q1 => ?_, kx⟩
  obtain ⟨w', S', z, q⟩ := wFz_el q1
  obtain ⟨r2, s2, f2⟩ := z.rep s1 r1
  exact k w' S' v H1 r2 s2 (f1.trans f2) q
theorem s_fld (xo : XO Γ G C N sc Wx X) {cs : List Nat} {x : Expr} {a : E} {f : List Nat} {pos : Pos} (h1 : plainO x = true) (pa : PE X x (tE Γ C Wx a)) : PE X (.Attribute x (sZ f) pos) (tE Γ C Wx (.fld cs a f)) := by
  refine PEimp (pe_fldX pa (base_of h1)) fun σ H Q ⟨env, S, QW, XW, he, hs, h, k, kx⟩ => ?_
  simp only [wE] at h
  refine ⟨env, S, _, XW, he, hs, h, fun x S1 v H1 r1 s1 f1 q1 => ?_, kx⟩
  obtain ⟨p, e, q1⟩ := wSome_el (show wSome (fldOf S1 x) _ from q1)
  obtain ⟨w, e2, q9⟩ := wSome_el q1
  have O : objOf S1 x = some p → rFldX X.K (sZ f) v H1 Q := fun e => by
    obtain ⟨b, dx, vs, rfl, hb, ⟨hl, ic⟩, rr⟩ := obj_rep e r1 s1
    obtain ⟨u, l, ru, hf⟩ := ins_some rr e2
    exact .inl ⟨b, _, dx, _, u, rfl, hb, by rw [xo.hK]; exact ic.1.cl, by rw [xo.hK]; exact ic.2 f hf, l, (k.fr f1).here s1 ru q9⟩
  cases x with
  | exn c ks ws =>
    cases e
    obtain ⟨b, d, vs, rfl, q, xd, ⟨hl, xc⟩, rr⟩ := r1
    obtain ⟨u, l, ru, hf⟩ := ins_some rr e2
    rcases xd with ⟨rfl, _⟩ | ⟨dd, rfl, _, hd⟩
    · cases hf
    · exact .inr ⟨b, _, dd, _, u, rfl, q.2, by rw [xo.hK]; exact xc.1.xf, by rw [xo.hK]; exact xc.2 f hf, hd, l, (k.fr f1).here s1 ru q9⟩
  | _ => exact O e
theorem s_meth (xo : XO Γ G C N sc Wx X) (nh : G.hot = false) {tb : List (Nat × Nat)} {m : List Nat} {o : Expr} {es : List Expr} {a : E} {es' : List E} {apos cpos : Pos} (h1 : plainO o = true) (h2 : (apos.endLine == cpos.line) = true) (hl : es.length < 20) (hle : es.length = es'.length) (ht : G.mth.lookup m = some tb) (hn : es.all noStar = true) (pa : PE X o (tE Γ C Wx a)) (px : PA X es (tEs Γ C Wx es')) :
    PE X (.Call (.Attribute o (sZ m) apos) es [] cpos) (tE Γ C Wx (.meth tb m a es')) := by
  have key : ∀ {env : Env} {S : Sto} {QW : VQ} {XW : XQ} {σ : L2.St} {H : Hp} {Q : VK} {x : W} {v : V} (hr : rep Γ S H x v) (he : envR Γ S H env σ) (hs : SR Γ S H) (q : wSome (objOf S x) fun p => lookF p.2.1 p.2.2 m = none ∧ wSome (tb.lookup p.1) fun f => wEs C es' env S (fun ws S2 => C f (x :: ws) S2 QW XW) XW) (k : KQ Γ S H QW Q) (kx : KX Γ S H XW (fun cls d H' => Wx cls d σ H')) (t : TA)
      (ht : ∀ (Q' : List V → Hp → Prop), (∃ QL, wEs C es' env S QL XW ∧ KL Γ S H QL Q') → t σ H Q'),
      ∃ (a Cc dx : Addr) (fs : List (Str × V)) (g : Addr) (kk : Nat) (sp : Sp), v = .ref a ∧ H a = some (.ins Cc dx fs) ∧ Cls X.K Cc ∧ Meth X.K Cc (sZ m) g ∧ fs.lookup (sZ m) = none ∧ Fk X (L2.CX X.prog X.w) kk g sp ∧ Room kk X.A ∧ t σ H fun vs H2 => sp (v :: vs) H2 Q (WE Wx σ) := by
    intro env S QW XW σ H Q x v hr he hs q k kx t htt
    obtain ⟨p, e, q1, q2⟩ := wSome_el q
    obtain ⟨f, e2, q2⟩ := wSome_el q2
    obtain ⟨b, dx, vs, rfl, hb, ⟨hlen, ic⟩, rr⟩ := obj_rep e hr hs
    obtain ⟨kk, fk, rm, me⟩ := xo.mth m tb p.1 f nh ht e2
    refine ⟨b, _, dx, _, _, kk, _, rfl, hb, by rw [xo.hK]; exact ic.1.cl, me, ins_none hlen rr q1, fk, rm, htt _ ⟨_, q2, fun ws S2 us H2 r2 s2 f2 q3 => ?_⟩⟩
    exact ⟨x :: ws, S2, QW, XW, ⟨_, us, rfl, rep.fr f2 _ _ hr, r2⟩, s2, q3, k.fr f2, kx.fr f2⟩
  cases es with
  | nil =>
    refine PEimp (pe_methD0 (CX := L2.CX X.prog X.w) (E := WE Wx) pa h1 h2 (passAt xo.tk)) fun σ H Q ⟨env, S, QW, XW, he, hs, h, k, kx⟩ => ?_
    simp only [wE] at h
    refine ⟨env, S, _, XW, he, hs, h, fun x S1 v H1 r1 s1 f1 q1 => ?_, kx⟩
    refine key r1 (he.fr f1) s1 q1 (k.fr f1) (kx.fr f1) tNil fun Q' ⟨QL, q, kl⟩ => ?_
    cases es' with
    | nil => exact kl [] S1 [] H1 rfl s1 (Fr.refl _ _) (by simpa only [wEs] using q)
    | cons e' es' => cases hle
  | cons e es =>
    have hn2 := hn
    rw [List.all_cons, Bool.and_eq_true] at hn
    refine PEimp (pe_methD (CX := L2.CX X.prog X.w) (E := WE Wx) pa h1 h2 (passAt xo.tk) px (by omega) (star_cons hn.1) (star_any hn.2) (all_of_any (star_any hn2))) fun σ H Q ⟨env, S, QW, XW, he, hs, h, k, kx⟩ => ?_
    simp only [wE] at h
    refine ⟨env, S, _, XW, he, hs, h, fun x S1 v H1 r1 s1 f1 q1 => ?_, kx⟩
    exact key r1 (he.fr f1) s1 q1 (k.fr f1) (kx.fr f1) _ fun Q' ⟨QL, q, kl⟩ => ⟨env, S1, QL, XW, he.fr f1, s1, q, kl, kx.fr f1⟩
theorem s_mk (xo : XO Γ G C N sc Wx X) (nh : G.hot = false) {x : Str} {c fi : Nat} {es : List Expr} {es' : List E} {p pos : Pos} (h1 : gloB sc x = true) (h2 : nodbg x = true) (h3 : G.cls.lookup x = some (c, fi)) (hle : es.length = es'.length) (hn : es.all noStar = true) (px : PA X es (tEs Γ C Wx es')) :
    PE X (.Call (.Name x p) es [] pos) (tE Γ C Wx (.mk c fi es')) := by
  obtain ⟨k0, fd, ps, F, hb, hr, M, hm, ic⟩ := xo.cls x c fi nh h3
  have key : ∀ {S : Sto} {QW : VQ} {XW : XQ} {σ : L2.St} {H : Hp} {Q : VK} {ws : List W} {us : List V} (r : reps Γ S H ws us) (hs : SR Γ S H) (q : ∀ a, S a = none → C fi (.ref a :: ws) (S.set a (.ins c [] [])) (fun w S2 => w = .non ∧ QW (.ref a) S2) XW) (k : KQ Γ S H QW Q) (kx : KX Γ S H XW (fun cls d H' => Wx cls d σ H')),
      ∀ a dx, H a = none → H dx = none → dx ≠ a → spF Γ C fi (.ref a :: us) (upd (upd H dx (.own a)) a (.ins (Γ.ca c) dx [])) (fun v H2 => v = .non ∧ Q (.ref a) H2) (WE Wx σ) := by
    intro S QW XW σ H Q ws us r hs q k kx a dx ha hdx ne
    have ha2 : (upd H dx (.own a)) a = none := by rw [upd_ne (Ne.symm ne)]; exact ha
    have f1 : Fr S H S (upd H dx (.own a)) := Fr.new hdx
    have f2 : Fr S H (S.set a (.ins c [] [])) (upd (upd H dx (.own a)) a (.ins (Γ.ca c) dx [])) := f1.trans (Fr.newS ha2)
    have s2 : SR Γ (S.set a (.ins c [] [])) (upd (upd H dx (.own a)) a (.ins (Γ.ca c) dx [])) :=
      orep.new (hs.new hdx) ha2 ⟨dx, [], upd_same, ⟨rfl, by rw [← xo.hK]; exact ic, fun k hk => by cases hk⟩, rfl⟩
    refine ⟨.ref a :: ws, _, _, XW, ⟨_, us, rfl, rfl, reps.fr f2 _ _ r⟩, s2, q a (hs.nil ha), fun w S3 v H3 r3 s3 f3 ⟨e, q3⟩ => ?_, kx.fr f2⟩
    subst e
    exact ⟨r3, k (.ref a) S3 (.ref a) H3 rfl s3 (f2.trans f3) q3⟩
  cases es with
  | nil =>
    cases es' with
    | cons _ _ => cases hle
    | nil =>
      refine PEimp (pe_makeD0 (E := WE Wx) M F hr (xo.glo h1) hm hb (passAt xo.tk) (dbg_of h2).1) fun σ H Q ⟨env, S, QW, XW, he, hs, h, k, kx⟩ => ?_
      simp only [wE, wEs] at h
      exact key (ws := []) (us := []) rfl hs h k kx
  | cons e es =>
    rw [List.all_cons, Bool.and_eq_true] at hn
    refine PEimp (pe_makeD (E := WE Wx) M F hr (xo.glo h1) hm hb (passAt xo.tk) px (dbg_of h2).1 (star_cons hn.1) (star_any hn.2)) fun σ H Q ⟨env, S, QW, XW, he, hs, h, k, kx⟩ => ?_
    simp only [wE] at h
    exact ⟨env, S, _, XW, he, hs, h, fun ws S1 us H1 r1 s1 f1 q1 => key r1 s1 q1 (k.fr f1) (kx.fr f1), kx⟩
theorem s_mkx (xo : XO Γ G C N sc Wx X) (nh : G.hot = false) {x y : Str} {c : Nat} {z : List Nat} {j : Nat} {p p2 pos : Pos} (h1 : gloB sc x = true) (h2 : nodbg x = true) (h3 : G.xcl.lookup x = some (c, [])) :
    PE X (.Call (.Name x p) [.Constant (.str y) j p2] [] pos) (tE Γ C Wx (.mkx c z)) := by
  obtain ⟨q, hm, hk, _, _, xk⟩ := xo.xcl x c nh h3
  refine PEimp (pe_mkT F.excBase_ValueError q hm hk (xo.glo h1) (dbg_of h2).1) fun σ H Q ⟨env, S, QW, XW, he, hs, h, k, kx⟩ => ?_
  simp only [wE] at h
  intro a ha
  refine k (.exn c [] []) S (.ref a) _ ⟨a, none, [], rfl, ⟨hs.nil ha, upd_same⟩, .inl ⟨rfl, rfl⟩, ⟨rfl, by rw [← xo.hK]; exact xk, fun k hk => by cases hk⟩, rfl⟩ (hs.new ha) (Fr.new ha) h
theorem isC_ty {yes no : List Nat} {x : W} {v : V} {b : Bool} {S : Sto} {H : Hp} {D : Value} (hK : X.K = Γ.K) (h : isCW yes no S x = some b) (r : rep Γ S H x v) (s : SR Γ S H)
    (hy : ∀ c ∈ yes, PySem.W.kitOne X.K (.ref (Γ.ca c)) D = some true) (hno : ∀ c ∈ no, PySem.W.kitOne X.K (.ref (Γ.ca c)) D = some false) (ht : ∀ n ∈ ["NoneType", "bool", "int"], PySem.W.kitOne X.K (.type n) D = some false) :
    (∃ t, TyX X.K H v t ∧ PySem.W.kitOne X.K t D = some b) ∨ ∃ (a C : Addr) (d : Option Addr), v = .ref a ∧ H a = some (ExT (.ref C) d a) ∧ (∀ dd, d = some dd → ∃ fs, H dd = some (.xd fs)) ∧ XisC X.K C ∧ PySem.W.kitOne X.K (.ref C) D = some b := by
  have kc : ∀ {c : Nat}, (if c ∈ yes then some true else if c ∈ no then some false else none) = some b → PySem.W.kitOne X.K (.ref (Γ.ca c)) D = some b := fun {c} q => by
    split at q
    · rename_i m
      cases q
      exact hy c m
    · split at q
      · rename_i m
        cases q
        exact hno c m
      · cases q
  have O : ∀ {x : W}, rep Γ S H x v → ((objOf S x).map (·.1)).bind (fun c => if c ∈ yes then some true else if c ∈ no then some false else none) = some b → ∃ t, TyX X.K H v t ∧ PySem.W.kitOne X.K t D = some b := fun {x} r q => by
    cases e : objOf S x with
    | none => rw [e] at q; cases q
    | some p =>
      rw [e] at q
      obtain ⟨a, dx, vs, rfl, ha, ⟨_, ic⟩, _⟩ := obj_rep e r s
      exact ⟨.ref (Γ.ca p.1), by rw [hK]; exact .base (.ins ha ic.1.cl ic.1.ha ic.1.hn ic.1.ht ic.1.hm), kc q⟩
  cases x with
  | non => cases h; cases r; exact .inl ⟨_, .base .non, ht _ (by simp)⟩
  | bl _ => cases h; cases r; exact .inl ⟨_, .base (.bl _), ht _ (by simp)⟩
  | int _ => cases h; cases r; exact .inl ⟨_, .base (.int _), ht _ (by simp)⟩
  | exn c ks ws =>
    obtain ⟨a, d, vs, rfl, q, xd, ⟨_, xc⟩, _⟩ := r
    refine .inr ⟨a, Γ.ca c, d, rfl, q.2, fun dd e => ?_, by rw [hK]; exact xc.1, kc h⟩
    rcases xd with ⟨_, e2⟩ | ⟨dd', e2, _, hd⟩
    · rw [e] at e2; cases e2
    · rw [e] at e2; cases e2; exact ⟨_, hd⟩
  | _ => exact .inl (O r h)
theorem s_isC (xo : XO Γ G C N sc Wx X) {f y : Str} {yes no : List Nat} {x : Expr} {a : E} {p p2 pos : Pos} (h1 : biB G sc "isinstance" f = true) (h2 : gloB sc y = true) (h3 : nodbg y = true) (h4 : G.isC.lookup y = some (yes, no)) (hn : noStar x = true) (pa : PE X x (tE Γ C Wx a)) :
    PE X (.Call (.Name f p) [x, .Name y p2] [] pos) (tE Γ C Wx (.isC yes no a)) := by
  obtain ⟨e1, g, d, m⟩ := bi_of h1
  subst e1
  obtain ⟨d1, d2, d3⟩ := dbg_of d
  obtain ⟨k1, k2, k3⟩ := dbg_of h3
  obtain ⟨D, nm, hy, hno, ht⟩ := xo.isC y yes no h4
  have ⟨c, cv, pt⟩ : ∃ c, ClsV c D ∧ PE X (.Name y p2) (tC c) := by
    rcases nm with ⟨hm, b, rfl⟩ | ⟨hm, n, rfl, bt, _⟩
    · exact ⟨.ref b, .own b, pe_glob (v := .ref b) (xo.glo h2) hm rfl k1⟩
    · exact ⟨.ty n, .ty n, pe_bltn (xo.glo h2) hm bt rfl k3 k1⟩
  refine PEimp (pe_callB call_isX (xo.glo g) (xo.bi _ m) boot_isinstance (pa_cons pa (pa_cons pt pa_nil rfl) (star_cons hn)) d3 d1 (star_cons hn) rfl) fun σ H Q ⟨env, S, QW, XW, he, hs, h, k, kx⟩ => ?_
  simp only [wE] at h
  refine ⟨env, S, _, XW, he, hs, h, fun x S1 v H1 r1 s1 f1 q1 => ?_, kx⟩
  obtain ⟨b, e, q1⟩ := wSome_el q1
  exact ⟨v, _, _, b, rfl, cv, k (.bl b) S1 (.bl b) H1 rfl s1 f1 q1, isC_ty xo.hK e r1 s1 hy hno ht⟩
theorem s_callV (xo : XO Γ G C N sc Wx X) (nh : G.hot = false) {i : Nat} {x : Str} {fs : List Nat} {es : List Expr} {es' : List E} {p pos : Pos} (h1 : N[i]? = some x) (h2 : visB sc x = true) (h3 : nodbg x = true) (hf : fs.all (fun f => G.fns.any fun p => p.2.1 == f && p.2.2 == es.length) = true) (h4 : es ≠ []) (hn : es.all noStar = true) (pa : PA X es (tEs Γ C Wx es')) :
    PE X (.Call (.Name x p) es [] pos) (tE Γ C Wx (.callV i fs es')) := by
  obtain ⟨d1, d2, _⟩ := dbg_of h3
  cases es with
  | nil => exact absurd rfl h4
  | cons e es =>
    rw [List.all_cons, Bool.and_eq_true] at hn
    refine PEimp (pe_callV (CX := L2.CX X.prog X.w) (E := WE Wx) (by rw [xo.hN]; exact h1) (xo.vis h2) (passAt xo.tk) pa d1 d2 (star_cons hn.1) (star_any hn.2)) fun σ H Q ⟨env, S, QW, XW, he, hs, h, k, kx⟩ => ?_
    simp only [wE] at h
    obtain ⟨w, q, h⟩ := wVar_el h
    cases w with
    | fn f =>
      obtain ⟨hm, h⟩ := h
      obtain ⟨v, e1, r⟩ := he.2 i _ q
      obtain rfl : v = .ref (Γ.fa f) := r
      have hp := List.all_eq_true.mp hf f hm
      obtain ⟨⟨y, f', ar⟩, hy, hq⟩ := List.any_eq_true.mp hp
      simp only [Bool.and_eq_true, beq_iff_eq] at hq
      obtain ⟨rfl, _⟩ := hq
      obtain ⟨kk, fd, ps, F, hr, hk, hb, _⟩ := xo.fn y f' ar nh hy
      exact ⟨kk, _, _, e1, ⟨fd, ps, F, hb⟩, hr, hk, env, S, _, XW, he, hs, h, fun ws S1 vs H1 r1 s1 f1 q1 => ⟨ws, S1, QW, XW, r1, s1, q1, k.fr f1, kx.fr f1⟩, kx⟩
    | _ => exact h.elim
end
end Bw

/-! Ev12d: dicts with any keys; two dicts compared. -/
namespace Bw
open PySem L2 PySem.Spec PyProof.Rows
section
variable {Γ : Gm} {G : GT} {C : CT} {N : List Str} {sc : Scope} {Wx : WX} {X : Cx}
def unP : List V → Option (List (V × V))
  | [] => some []
  | k :: v :: r => (unP r).map ((k, v) :: ·)
  | _ => none
theorem chA_len {ch : Expr → E → Bool} : ∀ {keys : List (Option Expr)} {vals : List Expr} {kvs : List E}, chA ch keys vals kvs = true → keys.length = vals.length ∧ keys.all (·.isSome) = true := by
  intro keys
  induction keys with
  | nil => intro vals kvs h; cases vals with | nil => exact ⟨rfl, rfl⟩ | cons _ _ => simp [chA] at h
  | cons k keys ih =>
    intro vals kvs h
    cases k with
    | none => simp [chA] at h
    | some k =>
      cases vals with
      | nil => simp [chA] at h
      | cons v vals =>
        match kvs, h with
        | a :: b :: r, h =>
          simp only [chA, Bool.and_eq_true] at h
          obtain ⟨h1, h2⟩ := ih h.2
          exact ⟨by simp [h1], by simp [h2]⟩
theorem ppsV_of (xo : XO Γ G C N sc Wx X) {pos : Pos} {f : Expr → E → Bool} (hf : ∀ e e', f e e' = true → PE X e (tE Γ C Wx e')) : ∀ {keys : List (Option Expr)} {vals : List Expr} {kvs : List E}, chA f keys vals kvs = true →
    ∃ trs, PPs X pos keys vals trs ∧ ∀ σ H (Q : List (V × V) → Hp → Prop), tEs Γ C Wx kvs σ H (fun vs H' => ∀ ps, unP vs = some ps → Q ps H') → tPairs trs σ H Q := by
  intro keys
  induction keys with
  | nil =>
    intro vals kvs h
    cases vals with
    | cons _ _ => simp [chA] at h
    | nil =>
      cases kvs with
      | cons _ _ => simp [chA] at h
      | nil =>
        refine ⟨[], pps_nil, fun σ H Q ⟨env, S, QW, XW, he, hs, h, k, kx⟩ => ?_⟩
        simp only [wEs] at h
        exact k [] S [] H rfl hs (Fr.refl _ _) h [] rfl
  | cons k keys ih =>
    intro vals kvs h
    cases k with
    | none => simp [chA] at h
    | some k =>
      cases vals with
      | nil => simp [chA] at h
      | cons v vals =>
        match kvs, h with
        | a :: b :: r, h =>
          simp only [chA, Bool.and_eq_true] at h
          obtain ⟨trs, hp, ht⟩ := ih h.2
          refine ⟨_, pps_cons (hf _ _ h.1.1) (hf _ _ h.1.2) hp, fun σ H Q ⟨env, S, QW, XW, he, hs, h, kq, kx⟩ => ?_⟩
          simp only [wEs] at h
          refine ⟨env, S, _, XW, he, hs, h, fun w S1 u H1 r1 s1 f1 q1 => ?_, kx⟩
          refine ⟨env, S1, _, XW, he.fr f1, s1, q1, fun w2 S2 u2 H2 r2 s2 f2 q2 => ?_, kx.fr f1⟩
          refine ht σ H2 _ ⟨env, S2, _, XW, he.fr (f1.trans f2), s2, q2, fun ws S3 vs H3 r3 s3 f3 q3 => ?_, kx.fr (f1.trans f2)⟩
          have f12 := f1.trans f2
          intro ps hps
          exact kq (w :: w2 :: ws) S3 (u :: u2 :: vs) H3 ⟨u, _, rfl, rep.fr (f2.trans f3) _ _ r1, u2, _, rfl, rep.fr f3 _ _ r2, r3⟩ s3 (f12.trans f3) q3 ((u, u2) :: ps) (by show (unP vs).map _ = _; rw [hps]; rfl)
theorem pair_rep {S : Sto} {H : Hp} : ∀ {ws : List W} {vs : List V} {p : List Ky × List W}, pairUp ws = some p → reps Γ S H ws vs → p.1.length = p.2.length ∧ ∃ us ps, unP vs = some ps ∧ reps Γ S H p.2 us ∧ ps = (dkz p.1 us).map fun kv => (kV kv.1, kv.2)
  | [], vs, p, h, r => by
    cases h
    cases r
    exact ⟨rfl, [], [], rfl, rfl, rfl⟩
  | [_], _, _, h, _ => by cases h
  | k :: v :: ws, vs, p, h, r => by
    obtain ⟨u, vs1, rfl, r1, u2, vs2, rfl, r2, r3⟩ := r
    unfold pairUp at h
    cases hk : kyOf k with
    | none => rw [hk] at h; cases h
    | some ky =>
      rw [hk] at h
      cases hp : pairUp ws with
      | none => rw [hp] at h; cases h
      | some q =>
        rw [hp] at h
        cases h
        obtain ⟨hl, us, ps, e1, e2, e3⟩ := pair_rep hp r3
        refine ⟨by simp [hl], u2 :: us, (u, u2) :: ps, by show (unP vs2).map _ = _; rw [e1]; rfl, ⟨u2, us, rfl, r2, e2⟩, ?_⟩
        rw [e3, key_rep hk r1]
        rfl
theorem dkz_nodup {ks : List Ky} {vs : List V} (hl : ks.length = vs.length) (nd : ks.Nodup) : ((dkz ks vs).map (·.1)).Nodup := by
  rw [dkz_keys hl]
  exact nd_map _ (fun a b e => keyV_inj e) nd
theorem s_dicV (xo : XO Γ G C N sc Wx X) {f : Expr → E → Bool} (hf : ∀ e e', f e e' = true → PE X e (tE Γ C Wx e')) {keys : List (Option Expr)} {vals : List Expr} {kvs : List E} {pos : Pos} (ne : keys ≠ []) (h15 : keys.length ≤ 15) (hv : chA f keys vals kvs = true) :
    PE X (.Dict keys vals pos) (tE Γ C Wx (.dicV kvs)) := by
  obtain ⟨trs, hp, ht⟩ := ppsV_of xo hf (pos := pos) hv
  obtain ⟨l1, l2⟩ := chA_len hv
  refine PEimp (pe_disp hp l2 l1 ne h15) fun σ H Q ⟨env, S, QW, XW, he, hs, h, k, kx⟩ => ?_
  simp only [wE] at h
  intro p hpn
  have h := h p (hs.nil hpn)
  refine ht σ _ _ ⟨env, S.set p .hid, _, fun _ _ => False, he.fr (Fr.newS hpn), hs.hide hpn, h, fun ws S1 vs H1 r1 s1 f1 q1 => ?_, fun _ _ _ _ _ _ _ _ q => q.elim⟩
  obtain ⟨hS1, hH1⟩ := f1.2 p _ Sto.set_same upd_same
  obtain ⟨d, e, nd, l15, q1⟩ := wSome_el q1
  obtain ⟨hl, us, ps, e1, ru, eps⟩ := pair_rep e r1
  intro ps' hps
  rw [e1] at hps
  cases hps
  have lu := ru.len
  refine ⟨hH1, dkz d.1 us, eps, ?_, ?_⟩
  · rw [dkz_len (hl.trans lu)]; exact l15
  · have mg : mergeK [] (dkz d.1 us) = dkz d.1 us := by
      rw [merge_nodup _ [] (dkz_nodup (hl.trans lu) nd) (by simp)]
      rfl
    rw [mg]
    have fr : Fr S H (S1.del p) (upd H1 p (.dK (dkz d.1 us))) := frU hpn (frDel hpn (Fr.trans (Fr.newS hpn) f1))
    refine k (.dct d.1 d.2) (S1.del p) (.ref p) _ ⟨p, us, rfl, ⟨Sto.del_same, upd_same⟩, hl, ?_⟩ (s1.hid hS1).del fr q1
    exact reps.fr0 fr0Del _ _ (reps.fr0 (Fr0.hid hS1) _ _ ru)
def rDEq (Γ : Gm) : R2 := fun v u H Q => ∃ x y S QW, rep Γ S H x v ∧ rep Γ S H y u ∧ SR Γ S H ∧ wDEq x y S QW ∧ KQ Γ S H QW Q
theorem kvp {kvs : List (Key × V)} {vs : List (Key × Value)} (r : KV kvs vs) : ∀ {k : Key} {v : Value}, (k, v) ∈ vs → ∃ x, (k, x) ∈ kvs ∧ RelV x v := by
  unfold KV at r
  induction r with
  | nil => intro k v h; cases h
  | @cons p q ps qs h t ih =>
    intro k v hm
    rcases List.mem_cons.mp hm with e | hm
    · subst e
      exact ⟨p.2, by rw [show (k, p.2) = p by rw [← show p.1 = k from h.1]]; exact List.mem_cons_self, h.2⟩
    · obtain ⟨x, h1, h2⟩ := ih hm
      exact ⟨x, List.mem_cons_of_mem _ h1, h2⟩
theorem kvl {kvs : List (Key × V)} {vs : List (Key × Value)} (r : KV kvs vs) : vs.map (·.1) = kvs.map (·.1) := by
  unfold KV at r
  induction r with
  | nil => rfl
  | @cons p q ps qs h t ih => rw [List.map_cons, List.map_cons, ih, show q.1 = p.1 from h.1.symm]
theorem dkz_mem {S : Sto} {H : Hp} : ∀ {ks : List Ky} {ws : List W} {vs : List V} {k : Key} {x : V}, ks.length = ws.length → reps Γ S H ws vs → (k, x) ∈ dkz ks vs → ∃ z w, keyV z = k ∧ (z, w) ∈ ks.zip ws ∧ rep Γ S H w x
  | [], _, _, _, _, _, _, h => by cases h
  | z :: ks, [], _, _, _, h, _, _ => by simp at h
  | z :: ks, w :: ws, _, k, x, hl, ⟨v, vr, e, q, t⟩, h => by
    subst e
    have h : (k, x) ∈ (keyV z, v) :: dkz ks vr := h
    rcases List.mem_cons.mp h with e | h
    · cases e
      exact ⟨z, w, rfl, List.mem_cons_self, q⟩
    · obtain ⟨z', w', h1, h2, h3⟩ := dkz_mem (by simpa using hl) t h
      exact ⟨z', w', h1, List.mem_cons_of_mem _ h2, h3⟩
theorem zip_data {ks : List Ky} : ∀ {ws : List W}, dataWs ws = true → ∀ z w, (z, w) ∈ ks.zip ws → dataW w = true ∧ depW w ≤ depWs ws := by
  induction ks with
  | nil => intro ws _ z w h; simp at h
  | cons k ks ih =>
    intro ws hd z w h
    cases ws with
    | nil => simp at h
    | cons x ws =>
      have hd : (dataW x && dataWs ws) = true := hd
      rw [Bool.and_eq_true] at hd
      rw [List.zip_cons_cons] at h
      rcases List.mem_cons.mp h with e | h
      · cases e
        exact ⟨hd.1, Nat.le_max_left _ _⟩
      · obtain ⟨h1, h2⟩ := ih hd.2 z w h
        exact ⟨h1, Nat.le_trans h2 (Nat.le_max_right _ _)⟩
theorem look_mem {z : Ky} {w : W} : ∀ {ks : List Ky} {ws : List W}, lookD ks ws z = some w → (z, w) ∈ ks.zip ws
  | [], ws, h => by cases ws <;> cases h
  | k :: ks, [], h => by cases h
  | k :: ks, x :: ws, h => by
    unfold lookD at h
    rw [List.zip_cons_cons]
    split at h
    · rename_i e
      cases h
      rw [e]; exact List.mem_cons_self
    · exact List.mem_cons_of_mem _ (look_mem h)
end
section
variable {Γ : Gm} {G : GT} {C : CT} {N : List Str} {sc : Scope} {Wx : WX} {X : Cx}
theorem all_congr {α : Type} {f g : α → Bool} : ∀ {l : List α}, (∀ x ∈ l, f x = g x) → l.all f = l.all g
  | [], _ => rfl
  | x :: l, h => by rw [List.all_cons, List.all_cons, h x List.mem_cons_self, all_congr fun y hy => h y (List.mem_cons_of_mem _ hy)]
theorem find_nodup {α β : Type} [DecidableEq β] {g : α → β} {k : β} : ∀ {l : List α} {a : α}, (l.map g).Nodup → a ∈ l → g a = k → l.find? (fun x => decide (g x = k)) = some a
  | x :: l, a, nd, hm, e => by
    rw [List.map_cons, List.nodup_cons] at nd
    rw [List.find?_cons]
    rcases List.mem_cons.mp hm with e2 | hm
    · subst e2
      rw [decide_eq_true e]
    · have : ¬ g x = k := fun z => nd.1 (by rw [z, ← e]; exact List.mem_map_of_mem hm)
      rw [decide_eq_false this]
      exact find_nodup nd.2 hm e
/-- what is found at a key of the text -/
def eqK (p q : List Ky × List W) (k : Key) : Bool := match (p.1.zip p.2).find? fun kw => decide (keyV kw.1 = k) with
  | some kw => (match lookD q.1 q.2 kw.1 with
    | some w => eqv kw.2 w
    | none => false)
  | none => false
theorem dTree (hK : X.K = Γ.K) (hu : X.A.units + 64 < cLine) {pins : List (Addr × Obj)} {s : Shared} {σ : L2.St} (I : Inv X pins σ H s) {x y : W} {v v' : V} {u u' : Value} {p q : List Ky × List W} (ep : dicOf S x = some p) (eq : dicOf S y = some q) (r1 : rep Γ S H x v) (r2 : rep Γ S H y v') (sr : SR Γ S H) (rx : RelV v u) (ry : RelV v' u')
    (d1 : dataWs p.2 = true) (d2 : dataWs q.2 = true) (dd : depWs p.2 ≤ 40) (ht : dEqv p q = true) : PySem.W.EqTree X.prog X.w s 42 u u' true := by
  obtain ⟨a, vs, rfl, ha, hl, rr⟩ := dic_rep ep r1 sr
  obtain ⟨b, us, rfl, hb, hl2, rr2⟩ := dic_rep eq r2 sr
  cases rx
  cases ry
  obtain ⟨_, ma, vs1, kv1, da⟩ := dk_rd I.hok (.inl ha)
  obtain ⟨_, mb, vs2, kv2, db⟩ := dk_rd I.hok (.inl hb)
  obtain ⟨_, _, _, _, _, _, _, _, nd1⟩ := id da
  obtain ⟨_, _, _, _, _, _, _, _, nd2⟩ := id db
  have t : ∀ k v y, (k, v) ∈ vs1 → PySem.valueAt vs2 k = some y → PySem.W.EqTree X.prog X.w s 41 v y (eqK p q k) := by
    intro k v y hm hv
    obtain ⟨x1, m1, rx1⟩ := kvp kv1 hm
    obtain ⟨z, w1, ez, mz, rw1⟩ := dkz_mem hl rr m1
    have hy := kv2.val k
    rw [hv] at hy
    cases hx2 : valV (dkz q.1 us) k with
    | none => rw [hx2] at hy; exact hy.elim
    | some x2 =>
      rw [hx2] at hy
      have hy : RelV x2 y := hy
      obtain ⟨g1, g2⟩ := dkz_val (Γ := Γ) z hl2 rr2
      cases hq : lookD q.1 q.2 z with
      | none => have := g2 hq; rw [ez, hx2] at this; cases this
      | some w2 =>
        obtain ⟨x2', h1, rw2⟩ := g1 w2 hq
        rw [ez, hx2] at h1
        cases h1
        obtain ⟨p1, p2⟩ := zip_data d1 z w1 mz
        obtain ⟨q1, q2⟩ := zip_data d2 z w2 (look_mem hq)
        have ek : eqK p q k = eqv w1 w2 := by
          unfold eqK
          have ef : (p.1.zip p.2).find? (fun kw => decide (keyV kw.1 = k)) = some (z, w1) := by
            refine find_nodup (g := fun kw => keyV kw.1) ?_ mz ez
            have e1 := kvl kv1
            rw [e1, dkz_keys (hl.trans rr.len)] at nd1
            have : (p.1.zip p.2).map (fun kw => keyV kw.1) = p.1.map keyV := by
              rw [show (fun kw : Ky × W => keyV kw.1) = keyV ∘ Prod.fst from rfl, ← List.map_map, List.map_fst_zip (by omega)]
            rw [this]; exact nd1
          rw [ef]
          show (match lookD q.1 q.2 z with | some w => eqv w1 w | none => false) = _
          rw [hq]
        rw [ek]
        obtain ⟨t1, c1⟩ := toD_dp (Γ := Γ) w1 x1 p1 rw1
        obtain ⟨t2, c2⟩ := toD_dp (Γ := Γ) w2 x2 q1 rw2
        rw [← hK] at t1 t2
        obtain ⟨as, e1⟩ := Dp.reads I _ x1 v t1 rx1
        obtain ⟨bs, e2⟩ := Dp.reads I _ x2 y t2 hy
        refine .leaf fun A hA => ?_
        rw [← toD_eqv w1 w2 p1 q1]
        refine SeqAt.eqAt_reads (toD w1) (toD w2) A s v y as bs e1 e2 c1 c2 ?_
        have : min (toD w1).depth (toD w2).depth ≤ 40 := by
          rw [toD_dep]
          exact Nat.le_trans (Nat.min_le_left _ _) (by omega)
        omega
  have er : (vs1.length == vs2.length && vs1.all fun p' => (PySem.valueAt vs2 p'.1).isSome && eqK p q p'.1) = dEqv p q := by
    have l1 : vs1.length = p.1.length := by
      have := congrArg List.length (kvl kv1)
      rw [List.length_map, dkz_keys (hl.trans rr.len), List.length_map] at this
      exact this
    have l2 : vs2.length = q.1.length := by
      have := congrArg List.length (kvl kv2)
      rw [List.length_map, dkz_keys (hl2.trans rr2.len), List.length_map] at this
      exact this
    have k1 : vs1.map (·.1) = (p.1.zip p.2).map fun kw => keyV kw.1 := by
      rw [kvl kv1, dkz_keys (hl.trans rr.len), show (fun kw : Ky × W => keyV kw.1) = keyV ∘ Prod.fst from rfl, ← List.map_map, List.map_fst_zip (by omega)]
    unfold dEqv
    rw [l1, l2]
    congr 1
    have e1 : (vs1.all fun p' => (PySem.valueAt vs2 p'.1).isSome && eqK p q p'.1) = (vs1.map (·.1)).all fun k => (PySem.valueAt vs2 k).isSome && eqK p q k := by rw [List.all_map]; rfl
    rw [e1, k1, List.all_map]
    have nd : ((p.1.zip p.2).map fun kw => keyV kw.1).Nodup := by rw [← k1]; exact nd1
    refine all_congr fun kw hm => ?_
    show ((PySem.valueAt vs2 (keyV kw.1)).isSome && eqK p q (keyV kw.1)) = _
    have ef : (p.1.zip p.2).find? (fun x => decide (keyV x.1 = keyV kw.1)) = some kw := find_nodup (g := fun kw => keyV kw.1) nd hm rfl
    have ek : eqK p q (keyV kw.1) = (match lookD q.1 q.2 kw.1 with | some w => eqv kw.2 w | none => false) := by
      unfold eqK
      rw [ef]
    rw [ek]
    obtain ⟨g1, g2⟩ := dkz_val (Γ := Γ) kw.1 hl2 rr2
    have hy := kv2.val (keyV kw.1)
    cases hq : lookD q.1 q.2 kw.1 with
    | none => simp
    | some w2 =>
      obtain ⟨x2, h1, _⟩ := g1 w2 hq
      rw [h1] at hy
      cases hv : PySem.valueAt vs2 (keyV kw.1) with
      | none => rw [hv] at hy; exact hy.elim
      | some _ => simp
  by_cases hab : a = b
  · subst hab; exact .same
  · have r := PySem.W.EqTree.dicts (prog := X.prog) (w := X.w) (s := s) (n := 41) hab ma mb da db (e := eqK p q) t
    rw [er, ht] at r
    exact r
def rDNe (Γ : Gm) : R2 := fun v u H Q => ∃ x y S QW, rep Γ S H x v ∧ rep Γ S H y u ∧ SR Γ S H ∧ wDNe x y S QW ∧ KQ Γ S H QW Q
theorem hitsOf {K : Type} [DecidableEq K] {A : Around} {s : Shared} {kb : List (K × Value)} {e : K → Bool} : ∀ (r : List (K × Value)), (∀ k v y, (k, v) ∈ r → PySem.valueAt kb k = some y → SeqAt.EqAt A s v y (e k)) → PySem.W.KeqHits A s kb r (r.all fun p => (PySem.valueAt kb p.1).isSome && e p.1) := by
  intro r
  induction r with
  | nil => intro _; exact .nil
  | cons f r ih =>
    intro h
    obtain ⟨k, v⟩ := f
    have step := ih fun k' v' y' a b => h k' v' y' (List.mem_cons_of_mem _ a) b
    rw [List.all_cons]
    cases hv : PySem.valueAt kb k with
    | none => exact .miss hv
    | some y => exact .hit hv (h k v y List.mem_cons_self hv) step
theorem op_dEq (hK : X.K = Γ.K) (hu : X.A.units + 64 < cLine) : OpR X (compareOp .Eq) (rDEq Γ) := by
  intro pins s σ H v u v' u' Q I rx ry h
  obtain ⟨x, y, S, QW, r1, r2, sr, h, k⟩ := h
  unfold wDEq at h
  split at h
  · rename_i p ep
    split at h
    · rename_i q eq
      obtain ⟨d1, d2, dd, h⟩ := h
      obtain ⟨a, vs, rfl, ha, hl, rr⟩ := dic_rep ep r1 sr
      obtain ⟨b, us, rfl, hb, hl2, rr2⟩ := dic_rep eq r2 sr
      cases rx
      cases ry
      obtain ⟨_, ma, vs1, kv1, da⟩ := dk_rd I.hok (.inl ha)
      obtain ⟨_, mb, vs2, kv2, db⟩ := dk_rd I.hok (.inl hb)
      obtain ⟨_, _, _, _, _, _, _, _, nd1⟩ := id da
      obtain ⟨_, _, _, _, _, _, _, _, nd2⟩ := id db
      refine PySem.W.eq_dictsT (n := 41) ma mb da db (e := eqK p q) ?_ (by omega) ?_
      · intro k v y hm hv
        obtain ⟨x1, m1, rx1⟩ := kvp kv1 hm
        obtain ⟨z, w1, ez, mz, rw1⟩ := dkz_mem hl rr m1
        have hy := kv2.val k
        rw [hv] at hy
        cases hx2 : valV (dkz q.1 us) k with
        | none => rw [hx2] at hy; exact hy.elim
        | some x2 =>
          rw [hx2] at hy
          have hy : RelV x2 y := hy
          obtain ⟨g1, g2⟩ := dkz_val (Γ := Γ) z hl2 rr2
          cases hq : lookD q.1 q.2 z with
          | none => have := g2 hq; rw [ez, hx2] at this; cases this
          | some w2 =>
            obtain ⟨x2', h1, rw2⟩ := g1 w2 hq
            rw [ez, hx2] at h1
            cases h1
            obtain ⟨p1, p2⟩ := zip_data d1 z w1 mz
            obtain ⟨q1, q2⟩ := zip_data d2 z w2 (look_mem hq)
            have ek : eqK p q k = eqv w1 w2 := by
              unfold eqK
              have ef : (p.1.zip p.2).find? (fun kw => decide (keyV kw.1 = k)) = some (z, w1) := by
                refine find_nodup (g := fun kw => keyV kw.1) ?_ mz ez
                have e1 := kvl kv1
                rw [e1, dkz_keys (hl.trans rr.len)] at nd1
                have : (p.1.zip p.2).map (fun kw => keyV kw.1) = p.1.map keyV := by
                  rw [show (fun kw : Ky × W => keyV kw.1) = keyV ∘ Prod.fst from rfl, ← List.map_map, List.map_fst_zip (by omega)]
                rw [this]; exact nd1
              rw [ef]
              show (match lookD q.1 q.2 z with | some w => eqv w1 w | none => false) = _
              rw [hq]
            rw [ek]
            obtain ⟨t1, c1⟩ := toD_dp (Γ := Γ) w1 x1 p1 rw1
            obtain ⟨t2, c2⟩ := toD_dp (Γ := Γ) w2 x2 q1 rw2
            rw [← hK] at t1 t2
            obtain ⟨as, e1⟩ := Dp.reads I _ x1 v t1 rx1
            obtain ⟨bs, e2⟩ := Dp.reads I _ x2 y t2 hy
            refine .leaf fun A hA => ?_
            rw [← toD_eqv w1 w2 p1 q1]
            refine SeqAt.eqAt_reads (toD w1) (toD w2) A s v y as bs e1 e2 c1 c2 ?_
            have : min (toD w1).depth (toD w2).depth ≤ 40 := by
              rw [toD_dep]
              exact Nat.le_trans (Nat.min_le_left _ _) (by omega)
            omega
      · have er : (vs1.length == vs2.length && vs1.all fun p' => (PySem.valueAt vs2 p'.1).isSome && eqK p q p'.1) = dEqv p q := by
          have l1 : vs1.length = p.1.length := by
            have := congrArg List.length (kvl kv1)
            rw [List.length_map, dkz_keys (hl.trans rr.len), List.length_map] at this
            exact this
          have l2 : vs2.length = q.1.length := by
            have := congrArg List.length (kvl kv2)
            rw [List.length_map, dkz_keys (hl2.trans rr2.len), List.length_map] at this
            exact this
          have k1 : vs1.map (·.1) = (p.1.zip p.2).map fun kw => keyV kw.1 := by
            rw [kvl kv1, dkz_keys (hl.trans rr.len), show (fun kw : Ky × W => keyV kw.1) = keyV ∘ Prod.fst from rfl, ← List.map_map, List.map_fst_zip (by omega)]
          unfold dEqv
          rw [l1, l2]
          congr 1
          have e1 : (vs1.all fun p' => (PySem.valueAt vs2 p'.1).isSome && eqK p q p'.1) = (vs1.map (·.1)).all fun k => (PySem.valueAt vs2 k).isSome && eqK p q k := by rw [List.all_map]; rfl
          rw [e1, k1, List.all_map]
          have nd : ((p.1.zip p.2).map fun kw => keyV kw.1).Nodup := by rw [← k1]; exact nd1
          refine all_congr fun kw hm => ?_
          show ((PySem.valueAt vs2 (keyV kw.1)).isSome && eqK p q (keyV kw.1)) = _
          have ef : (p.1.zip p.2).find? (fun x => decide (keyV x.1 = keyV kw.1)) = some kw := find_nodup (g := fun kw => keyV kw.1) nd hm rfl
          have ek : eqK p q (keyV kw.1) = (match lookD q.1 q.2 kw.1 with | some w => eqv kw.2 w | none => false) := by
            unfold eqK
            rw [ef]
          rw [ek]
          obtain ⟨g1, g2⟩ := dkz_val (Γ := Γ) kw.1 hl2 rr2
          have hy := kv2.val (keyV kw.1)
          cases hq : lookD q.1 q.2 kw.1 with
          | none => simp
          | some w2 =>
            obtain ⟨x2, h1, _⟩ := g1 w2 hq
            rw [h1] at hy
            cases hv : PySem.valueAt vs2 (keyV kw.1) with
            | none => rw [hv] at hy; exact hy.elim
            | some _ => simp
        rw [er]
        exact ⟨.bl _, H, I, rfl, k.here sr (w := .bl _) rfl h⟩
    · exact h.elim
  · split at h
    · rename_i x1 x2 y1 y2 _
      obtain ⟨h1, h2, q⟩ := h
      obtain ⟨a, vs, rfl, ha, v1, vr1, rfl, ra1, v2, vr2, rfl, ra2, rfl⟩ := r1
      obtain ⟨b, us, rfl, hb, u1, ur1, rfl, rb1, u2, ur2, rfl, rb2, rfl⟩ := r2
      cases rx
      cases ry
      have sa := ha.sq
      have sb := hb.sq
      rw [← hK] at sa sb
      obtain ⟨its, rv, pl, _⟩ := I.tuple sa
      obtain ⟨its2, rv2, pl2, _⟩ := I.tuple sb
      cases rv with
      | cons g1 rv => cases rv with
        | cons g2 rv => cases rv with
          | nil => cases rv2 with
            | cons f1 rv2 => cases rv2 with
              | cons f2 rv2 => cases rv2 with
                | nil =>
                  have mk : ∀ {x y : W} {v v' : V} {u u' : Value}, wDPr S x y → rep Γ S H x v → rep Γ S H y v' → RelV v u → RelV v' u' → PySem.W.EqTree X.prog X.w s 42 u u' true := fun {x y v v' u u'} h r1 r2 rx ry => by
                    unfold wDPr at h
                    split at h
                    · rename_i p ep
                      split at h
                      · rename_i q eq
                        exact dTree hK hu I ep eq r1 r2 sr rx ry h.1 h.2.1 h.2.2.1 h.2.2.2
                      · exact h.elim
                    · exact h.elim
                  refine PySem.W.eq_tuplesT (n := 42) (e := fun _ => true) pl pl2 (fun j h3 h4 => ?_) (by omega) ?_
                  · match j, h3, h4 with
                    | 0, _, _ => exact mk h1 ra1 rb1 g1 f1
                    | 1, _, _ => exact mk h2 ra2 rb2 g2 f2
                    | j + 2, h3, _ => simp at h3; omega
                  · exact ⟨.bl _, H, I, rfl, k.here sr (w := .bl _) rfl q⟩
    · exact h.elim
theorem s_dEq (xo : XO Γ G C N sc Wx X) {x y : Expr} {a b : E} {pos : Pos} (pa : PE X x (tE Γ C Wx a)) (pb : PE X y (tE Γ C Wx b)) (ny : ∀ es k p, y ≠ .Set es k p) : PE X (.Compare x [.Eq] [y] pos) (tE Γ C Wx (.dEq a b)) := by
  refine PEimp (pe_cmpR (op_dEq xo.hK xo.un) pa pb (nomark' (o := .eq) ny)) fun σ H Q ⟨env, S, QW, XW, he, hs, h, k, kx⟩ => ?_
  simp only [wE] at h
  exact two_of he hs h kx fun x y S2 v u H2 r1 r2 s2 f2 q => ⟨x, y, S2, QW, r1, r2, s2, q, k.fr f2⟩
theorem t_dEq (xo : XO Γ G C N sc Wx X) {x y : Expr} {a b : E} {pos : Pos} (pa : PE X x (tE Γ C Wx a)) (pb : PE X y (tE Γ C Wx b)) (ny : ∀ es k p, y ≠ .Set es k p) : PT X (.Compare x [.Eq] [y] pos) (tT Γ C Wx (.dEq a b)) := by
  refine PTimp (pt_cmpR (op_dEq xo.hK xo.un) pa pb (nomark' (o := .eq) ny)) fun σ H Q ⟨env, S, QW, XW, he, hs, h, k, kx⟩ => ?_
  simp only [wE] at h
  exact two_of he hs h kx fun x y S2 v u H2 r1 r2 s2 f2 q => ⟨x, y, S2, QW, r1, r2, s2, q, (KB.q k).fr f2⟩
theorem op_dNe (hK : X.K = Γ.K) (hu : X.A.units + 64 < cLine) : OpR X (compareOp .NotEq) (rDNe Γ) := by
  intro pins s σ H v u v' u' Q I rx ry h
  obtain ⟨x, y, S, QW, r1, r2, sr, h, k⟩ := h
  unfold wDNe at h
  split at h
  · rename_i p ep
    split at h
    · rename_i q eq
      obtain ⟨d1, d2, dd, h⟩ := h
      obtain ⟨a, vs, rfl, ha, hl, rr⟩ := dic_rep ep r1 sr
      obtain ⟨b, us, rfl, hb, hl2, rr2⟩ := dic_rep eq r2 sr
      cases rx
      cases ry
      obtain ⟨_, ma, vs1, kv1, da⟩ := dk_rd I.hok (.inl ha)
      obtain ⟨_, mb, vs2, kv2, db⟩ := dk_rd I.hok (.inl hb)
      obtain ⟨_, _, _, _, _, _, _, _, nd1⟩ := id da
      obtain ⟨_, _, _, _, _, _, _, _, nd2⟩ := id db
      refine PySem.W.keq_ne ma mb da db (by omega) (r := vs1.all fun p' => (PySem.valueAt vs2 p'.1).isSome && eqK p q p'.1) (fun _ => hitsOf (e := eqK p q) _ ?_) ?_
      · intro k v y hm hv
        obtain ⟨x1, m1, rx1⟩ := kvp kv1 hm
        obtain ⟨z, w1, ez, mz, rw1⟩ := dkz_mem hl rr m1
        have hy := kv2.val k
        rw [hv] at hy
        cases hx2 : valV (dkz q.1 us) k with
        | none => rw [hx2] at hy; exact hy.elim
        | some x2 =>
          rw [hx2] at hy
          have hy : RelV x2 y := hy
          obtain ⟨g1, g2⟩ := dkz_val (Γ := Γ) z hl2 rr2
          cases hq : lookD q.1 q.2 z with
          | none => have := g2 hq; rw [ez, hx2] at this; cases this
          | some w2 =>
            obtain ⟨x2', h1, rw2⟩ := g1 w2 hq
            rw [ez, hx2] at h1
            cases h1
            obtain ⟨p1, p2⟩ := zip_data d1 z w1 mz
            obtain ⟨q1, q2⟩ := zip_data d2 z w2 (look_mem hq)
            have ek : eqK p q k = eqv w1 w2 := by
              unfold eqK
              have ef : (p.1.zip p.2).find? (fun kw => decide (keyV kw.1 = k)) = some (z, w1) := by
                refine find_nodup (g := fun kw => keyV kw.1) ?_ mz ez
                have e1 := kvl kv1
                rw [e1, dkz_keys (hl.trans rr.len)] at nd1
                have : (p.1.zip p.2).map (fun kw => keyV kw.1) = p.1.map keyV := by
                  rw [show (fun kw : Ky × W => keyV kw.1) = keyV ∘ Prod.fst from rfl, ← List.map_map, List.map_fst_zip (by omega)]
                rw [this]; exact nd1
              rw [ef]
              show (match lookD q.1 q.2 z with | some w => eqv w1 w | none => false) = _
              rw [hq]
            rw [ek]
            obtain ⟨t1, c1⟩ := toD_dp (Γ := Γ) w1 x1 p1 rw1
            obtain ⟨t2, c2⟩ := toD_dp (Γ := Γ) w2 x2 q1 rw2
            rw [← hK] at t1 t2
            obtain ⟨as, e1⟩ := Dp.reads I _ x1 v t1 rx1
            obtain ⟨bs, e2⟩ := Dp.reads I _ x2 y t2 hy
            have hA : X.A.in1.units + 41 < cLine := by show X.A.units + 1 + 41 < cLine; omega
            rw [← toD_eqv w1 w2 p1 q1]
            refine SeqAt.eqAt_reads (toD w1) (toD w2) X.A.in1 s v y as bs e1 e2 c1 c2 ?_
            have : min (toD w1).depth (toD w2).depth ≤ 40 := by
              rw [toD_dep]
              exact Nat.le_trans (Nat.min_le_left _ _) (by omega)
            omega
      · have er : (vs1.length == vs2.length && vs1.all fun p' => (PySem.valueAt vs2 p'.1).isSome && eqK p q p'.1) = dEqv p q := by
          have l1 : vs1.length = p.1.length := by
            have := congrArg List.length (kvl kv1)
            rw [List.length_map, dkz_keys (hl.trans rr.len), List.length_map] at this
            exact this
          have l2 : vs2.length = q.1.length := by
            have := congrArg List.length (kvl kv2)
            rw [List.length_map, dkz_keys (hl2.trans rr2.len), List.length_map] at this
            exact this
          have k1 : vs1.map (·.1) = (p.1.zip p.2).map fun kw => keyV kw.1 := by
            rw [kvl kv1, dkz_keys (hl.trans rr.len), show (fun kw : Ky × W => keyV kw.1) = keyV ∘ Prod.fst from rfl, ← List.map_map, List.map_fst_zip (by omega)]
          unfold dEqv
          rw [l1, l2]
          congr 1
          have e1 : (vs1.all fun p' => (PySem.valueAt vs2 p'.1).isSome && eqK p q p'.1) = (vs1.map (·.1)).all fun k => (PySem.valueAt vs2 k).isSome && eqK p q k := by rw [List.all_map]; rfl
          rw [e1, k1, List.all_map]
          have nd : ((p.1.zip p.2).map fun kw => keyV kw.1).Nodup := by rw [← k1]; exact nd1
          refine all_congr fun kw hm => ?_
          show ((PySem.valueAt vs2 (keyV kw.1)).isSome && eqK p q (keyV kw.1)) = _
          have ef : (p.1.zip p.2).find? (fun x => decide (keyV x.1 = keyV kw.1)) = some kw := find_nodup (g := fun kw => keyV kw.1) nd hm rfl
          have ek : eqK p q (keyV kw.1) = (match lookD q.1 q.2 kw.1 with | some w => eqv kw.2 w | none => false) := by
            unfold eqK
            rw [ef]
          rw [ek]
          obtain ⟨g1, g2⟩ := dkz_val (Γ := Γ) kw.1 hl2 rr2
          have hy := kv2.val (keyV kw.1)
          cases hq : lookD q.1 q.2 kw.1 with
          | none => simp
          | some w2 =>
            obtain ⟨x2, h1, _⟩ := g1 w2 hq
            rw [h1] at hy
            cases hv : PySem.valueAt vs2 (keyV kw.1) with
            | none => rw [hv] at hy; exact hy.elim
            | some _ => simp
        rw [er]
        exact ⟨.bl _, H, I, rfl, k.here sr (w := .bl _) rfl h⟩
    · exact h.elim
  · exact h.elim
theorem s_dNe (xo : XO Γ G C N sc Wx X) {x y : Expr} {a b : E} {pos : Pos} (pa : PE X x (tE Γ C Wx a)) (pb : PE X y (tE Γ C Wx b)) (ny : ∀ es k p, y ≠ .Set es k p) : PE X (.Compare x [.NotEq] [y] pos) (tE Γ C Wx (.dNe a b)) := by
  refine PEimp (pe_cmpR (op_dNe xo.hK xo.un) pa pb (nomark' (o := .ne) ny)) fun σ H Q ⟨env, S, QW, XW, he, hs, h, k, kx⟩ => ?_
  simp only [wE] at h
  exact two_of he hs h kx fun x y S2 v u H2 r1 r2 s2 f2 q => ⟨x, y, S2, QW, r1, r2, s2, q, k.fr f2⟩
theorem t_dNe (xo : XO Γ G C N sc Wx X) {x y : Expr} {a b : E} {pos : Pos} (pa : PE X x (tE Γ C Wx a)) (pb : PE X y (tE Γ C Wx b)) (ny : ∀ es k p, y ≠ .Set es k p) : PT X (.Compare x [.NotEq] [y] pos) (tT Γ C Wx (.dNe a b)) := by
  refine PTimp (pt_cmpR (op_dNe xo.hK xo.un) pa pb (nomark' (o := .ne) ny)) fun σ H Q ⟨env, S, QW, XW, he, hs, h, k, kx⟩ => ?_
  simp only [wE] at h
  exact two_of he hs h kx fun x y S2 v u H2 r1 r2 s2 f2 q => ⟨x, y, S2, QW, r1, r2, s2, q, (KB.q k).fr f2⟩
end
end Bw

/-! Ev12e: a dict's keys, those alone whose value is a given one: the dict is locked meanwhile. -/
namespace Bw
open PySem L2 PySem.Spec PyProof.Rows
abbrev S0 : Sto := fun _ => none
section
variable {Γ : Gm} {S : Sto} {H H' : Hp} {d : Addr} {kvs : List (Key × V)}
theorem rd_mv (hd : H d = some (.dK kvs)) (f : ∀ b o, S b = none → H b = some o → b ≠ d → H' b = some o) {a : Addr} {u : HO} (hu : ∀ kvs, u ≠ .dK kvs) (h : S a = none ∧ Rd H a u) : S0 a = none ∧ Rd H' a u := by
  obtain ⟨h0, h | ⟨o, h⟩⟩ := h
  · have n : a ≠ d := fun z => by rw [z, hd] at h; cases h; exact hu _ rfl
    exact ⟨rfl, .inl (f a _ h0 h n)⟩
  · have n : a ≠ d := fun z => by rw [z, hd] at h; cases h
    exact ⟨rfl, .inr ⟨o, f a _ h0 h n⟩⟩
mutual
theorem data_mv (hd : H d = some (.dK kvs)) (f : ∀ b o, S b = none → H b = some o → b ≠ d → H' b = some o) : ∀ (w : W) (v : V), dataW w = true → rep Γ S H w v → rep Γ S0 H' w v
  | .non, _, _, h => h
  | .bl _, _, _, h => h
  | .int _, _, _, h => h
  | .str _, _, _, h => h
  | .tup ws, v, t, ⟨a, vs, e, q, r⟩ => ⟨a, vs, e, q.imp (rd_mv hd f (fun _ z => by cases z)) id, datas_mv hd f ws vs t r⟩
  | .rl ws, v, t, ⟨a, vs, e, q, r⟩ => ⟨a, vs, e, ⟨rfl, f a _ q.1 q.2 (fun z => by have := q.2; rw [z, hd] at this; cases this)⟩, datas_mv hd f ws vs t r⟩
  | .sc ws, v, t, ⟨a, vs, e, q, r⟩ => ⟨a, vs, e, q.imp (rd_mv hd f (fun _ z => by cases z)) id, datas_mv hd f ws vs t r⟩
  | .ref _, _, t, _ => by simp [dataW] at t
  | .fn _, _, t, _ => by simp [dataW] at t
  | .dct _ _, _, t, _ => by simp [dataW] at t
  | .obj _ _ _, _, t, _ => by simp [dataW] at t
  | .exn _ _ _, _, t, _ => by simp [dataW] at t
theorem datas_mv (hd : H d = some (.dK kvs)) (f : ∀ b o, S b = none → H b = some o → b ≠ d → H' b = some o) : ∀ (ws : List W) (vs : List V), dataWs ws = true → reps Γ S H ws vs → reps Γ S0 H' ws vs
  | [], _, _, h => h
  | w :: ws, vs, t, ⟨v, r, e, q, q2⟩ => by
    simp only [dataWs, Bool.and_eq_true] at t
    exact ⟨v, r, e, data_mv hd f w v t.1 q, datas_mv hd f ws r t.2 q2⟩
end
end
section
variable {Γ : Gm} {G : GT} {C : CT} {N : List Str} {sc : Scope} {Wx : WX} {X : Cx}
theorem chV_of (xo : XO Γ G C N sc Wx X) {e : Expr} {i : Nat} (h : chV N sc e i = true) : PE X e (tVar i) ∧ (∃ x p, e = .Name x p) := by
  unfold chV at h
  split at h
  · simp only [Bool.and_eq_true] at h
    obtain ⟨d1, d2, _⟩ := dbg_of h.2
    exact ⟨pe_var (by rw [xo.hN]; exact of_decide_eq_true h.1.1) (xo.vis h.1.2) d1 d2, _, _, rfl⟩
  · cases h
theorem kV_ky : ∀ {k : Ky}, okKy k = true → ∀ {S : Sto} {H : Hp}, rep Γ S H (kyW k) (kV (keyV k))
  | .inl i, _, _, _ => rfl
  | .inr z, h, _, _ => ⟨rfl, h⟩
theorem ks_get {ks : List Ky} {vs : List V} {i : Nat} {k : Key} {v : V} (h : (dkz ks vs)[i]? = some (k, v)) : ∃ y, ks[i]? = some y ∧ k = keyV y := by
  unfold dkz at h
  rw [List.getElem?_map] at h
  cases e : (ks.zip vs)[i]? with
  | none => rw [e] at h; cases h
  | some p =>
    rw [e] at h
    cases h
    exact ⟨p.1, (List.getElem?_zip_eq_some.mp (show (ks.zip vs)[i]? = some (p.1, p.2) from e)).1, rfl⟩
/-- the reading: keys that a test lets through; b: what the test says of the key at a place -/
theorem keys_of {own : List Nat} {kk : Nat} {σ : L2.St} {H : Hp} {Q : VK} {d : Addr} {ks : List Ky} {vs : List V} {od : Obj} {φ : Ky → Bool} {td : TE} {tt : TT} {te : TE} (hown : own = [kk])
    (hlen : ks.length = vs.length) (hz : ks.length ≤ sizeLine)
    (hd : H d = some (.frz od (.dK (dkz ks vs)))) (htd : ∀ R : VK, R (.ref d) H → td σ H R)
    (ht : ∀ (k : Ky) (j : Nat) (σ2 : L2.St) (H2 : Hp) (P : Bool → Hp → Prop), ks[j]? = some k → σ2 = (wipe σ own).set kk (some (kV (keyV k))) → (∀ b o, H b = some o → H2 b = some o) → (∀ H3, (∀ b o, H2 b = some o → H3 b = some o) → P (φ k) H3) → tt σ2 H2 P)
    (he : ∀ (k : Ky) (σ2 : L2.St) (H2 : Hp) (P : VK), σ2 = (wipe σ own).set kk (some (kV (keyV k))) → kk < σ.length → P (kV (keyV k)) H2 → te σ2 H2 P) (hkk : kk < σ.length)
    (q : ∀ D H', H D = none → (∀ b o, H b = some o → H' b = some o) → H' D = some (.lst ((ks.filter φ).map fun k => kV (keyV k))) → Q (.ref D) H') : tLc (iKeys td) (gName kk) tt te own σ H Q := by
  subst hown
  refine htd _ ⟨d, od, rfl, .inl ⟨_, hd, fun D hD => ?_⟩⟩
  have nd : d ≠ D := fun z => by rw [z, hD] at hd; cases hd
  have ln : (dkz ks vs).length = ks.length := dkz_len hlen
  refine ⟨fun i m H' => m = ks.length - i ∧ i ≤ ks.length ∧ (∀ b o, H b = some o → H' b = some o) ∧ H' D = some (.lst (((ks.take i).filter φ).map fun k => kV (keyV k))), ⟨ks.length, rfl, Nat.zero_le _, fun b o h => by rw [upd_ne (ne_of_none h hD)]; exact h, by rw [upd_same]; rfl⟩, ?_⟩
  rintro i m H' ⟨rfl, hi, hk, hl⟩
  by_cases hlt : i < ks.length
  · right
    refine ⟨⟨hk d _ hd, by rw [ln]; exact hlt⟩, fun H' => i + 1 ≤ ks.length ∧ (∀ b o, H b = some o → H' b = some o) ∧ H' D = some (.lst (((ks.take (i + 1)).filter φ).map fun k => kV (keyV k))), fun H2 hn => ⟨ks.length - (i + 1), by omega, rfl, hn.1, hn.2.1, hn.2.2⟩, ?_⟩
    rintro x H2 ⟨rfl, k0, v, e0, rfl⟩
    obtain ⟨k, ek, rfl⟩ := ks_get e0
    show (_ ∧ _)
    have et : ks.take (i + 1) = ks.take i ++ [k] := by rw [List.take_succ, ek]; rfl
    have fe : ((ks.take (i + 1)).filter φ) = (ks.take i).filter φ ++ (if φ k = true then [k] else []) := by
      rw [et, List.filter_append]
      congr 1
      simp only [List.filter_cons, List.filter_nil]
    refine ⟨?_, ht k i _ _ _ ek rfl hk fun H3 h3 => ?_⟩
    · refine List.ext_getElem? fun j => ?_
      rw [wipe_get, List.getElem?_set]
      by_cases hj : j = kk
      · subst hj
        rw [if_pos (by simp), if_pos rfl, wipe_length]
        by_cases hl : j < σ.length
        · rw [if_pos hl, wipe_get, if_pos (by simp), List.getElem?_eq_getElem hl]; rfl
        · rw [if_neg hl, wipe_get, if_pos (by simp), List.getElem?_eq_none (by omega)]
      · rw [if_neg (by simp [hj]), if_neg (fun z => hj z.symm)]
    · by_cases hp : φ k = true
      · rw [if_pos hp]
        refine he k _ _ _ rfl hkk ?_
        have h3l := h3 D _ hl
        refine ⟨_, h3l, ?_, hlt, fun b o h => ?_, ?_⟩
        · rw [List.length_map]
          have := List.length_filter_le φ (ks.take i)
          rw [List.length_take] at this
          omega
        · rw [upd_ne (ne_of_none h hD)]; exact h3 b o (hk b o h)
        · rw [upd_same, fe, if_pos hp, List.map_append]; rfl
      · rw [if_neg hp]
        refine ⟨hlt, fun b o h => h3 b o (hk b o h), ?_⟩
        rw [fe, if_neg hp, List.append_nil]
        exact h3 D _ hl
  · left
    have e : i = ks.length := by omega
    subst e
    rw [List.take_of_length_le (Nat.le_refl _)] at hl
    exact ⟨⟨hk d _ hd, by rw [ln]; exact Nat.le_refl _⟩, q D H' hD hk hl⟩
/-- behind the lock -/
theorem unlock {S : Sto} {H H' : Hp} {d D : Addr} {kvs : List (Key × V)} {od : Obj} {QW : VQ} {Q : VK} {ws : List W} {vs : List V} (hS : S d = none) (hd : H d = some (.dK kvs)) (hs : SR Γ S H) (k : KQ Γ S H QW Q) (hD : (upd H d (.frz od (.dK kvs))) D = none)
    (hk : ∀ b o, (upd H d (.frz od (.dK kvs))) b = some o → H' b = some o) (hl : H' D = some (.lst vs)) (hr : ∀ S H, reps Γ S H ws vs) (q : QW (.rl ws) S) : H' d = some (.frz od (.dK kvs)) ∧ Q (.ref D) (upd H' d (.dK kvs)) := by
  have e1 : H' d = some (.frz od (.dK kvs)) := hk d _ upd_same
  have hDn : D ≠ d := fun z => by rw [z, upd_same] at hD; cases hD
  rw [upd_ne hDn] at hD
  have keep : ∀ a o, H a = some o → (upd H' d (.dK kvs)) a = some o := fun a o h => by
    by_cases n : a = d
    · subst n; rw [hd] at h; cases h; exact upd_same
    · rw [upd_ne n]; exact hk a o (by rw [upd_ne n]; exact h)
  have fr : Fr S H S (upd H' d (.dK kvs)) := ⟨fun a o h1 h2 => ⟨h1, keep a o h2⟩, fun a o h1 h2 => ⟨h1, keep a o h2⟩⟩
  have s2 : SR Γ S (upd H' d (.dK kvs)) := hs.step fr fun a o e => by
    have := (hs a o e).there
    cases h : H a with
    | none => exact absurd h this
    | some u => exact .inl ⟨e, by rw [keep a u h]⟩
  exact ⟨e1, k (.rl ws) S (.ref D) _ ⟨D, vs, rfl, ⟨hs.nil hD, by rw [upd_ne hDn]; exact hl⟩, hr _ _⟩ s2 fr q⟩
theorem reps_ky {φ : Ky → Bool} : ∀ {ks : List Ky}, ks.all okKy = true → ∀ S H, reps Γ S H ((ks.filter φ).map kyW) ((ks.filter φ).map fun k => kV (keyV k))
  | [], _, _, _ => rfl
  | k :: ks, h, S, H => by
    rw [List.all_cons, Bool.and_eq_true] at h
    have ih := reps_ky (φ := φ) h.2 S H
    rw [List.filter_cons]
    split
    · exact ⟨_, _, rfl, kV_ky h.1, ih⟩
    · exact ih
/-- what a comprehension's rule asks, held under a lock on the dict walked -/
structure LkOk (Γ : Gm) (C : CT) (N : List Str) (Wx : WX) (X : Cx) (scope : Scope) (tg0 iter0 : Expr) (ifs0 : List Expr) (elt0 : Expr) (k : Nat) (ee : E) (wi : TI) (gg : TG) (tt : TT) (te : TE) : Prop where
  i : PI X tg0 iter0 wi
  b : BlkOk X.N X.env.scope scope (ownOf N [k])
  g : ∀ (s : Shared) (H : Hp) (Ca : Addr) (cl : List (Str × Addr)) (fp : List Addr), PG (X.blk s H scope (compEnvC scope cl Ca X.env) fp) tg0 gg
  t : ∀ (s : Shared) (H : Hp) (Ca : Addr) (cl : List (Str × Addr)) (fp : List Addr), PTs (X.blk s H scope (compEnvC scope cl Ca X.env) fp) ifs0 tt
  e : ∀ (s : Shared) (H : Hp) (Ca : Addr) (cl : List (Str × Addr)) (fp : List Addr), PE (X.blk s H scope (compEnvC scope cl Ca X.env) fp) elt0 te
  s : ∀ x, foldedSetIterable iter0 X.env x = pure x
  m : ∀ σ H Q, tE Γ C Wx ee σ H Q → tLockE (tLc wi gg tt te ((ownOf N [k]).map (·.2))) σ H Q
theorem keys_all (xo : XO Γ G C N sc Wx X) {scope : Scope} {tg0 iter0 elt0 : Expr} {i k : Nat} (h1 : (ownOf N [k]).map (·.2) = [k]) (h2 : blkC N sc scope (ownOf N [k]) = true) (h3 : chNm N scope tg0 k = true) (hik : i ≠ k) (h4 : chV N sc iter0 i = true) (h5 : chV N (relS scope sc) elt0 k = true) :
    ∃ wi g tt te, LkOk Γ C N Wx X scope tg0 iter0 [] elt0 k (.keysOf i k) wi g tt te := by
  obtain ⟨pi, xi, p1, ei⟩ := chV_of xo h4
  have hb : BlkOk X.N X.env.scope scope (ownOf N [k]) := by rw [xo.hN, xo.hsc]; exact blkOk_by h2
  refine ⟨_, gName k, fun σ H Q => Q true H, tVar k, pi_keys pi, hb, fun s H Ca cl fp => ?_, fun s H Ca cl fp => pts_nil, fun s H Ca cl fp => (chV_of (xo.blk s H scope cl Ca fp) h5).1, fold_ok (by rw [ei]; rfl), fun σ H Q ⟨env, S, QW, XW, he, hs, h, k', kx⟩ => ?_⟩
  · obtain ⟨x, p, rfl, q1, q2, q3⟩ := nm_of (X := X.blk s H scope (compEnvC scope cl Ca X.env) fp) xo.hN blk_loc h3
    exact pg_name (by show X.N.Nodup; rw [xo.hN]; exact xo.nd) q1 q2 q3
  simp only [wE] at h
  obtain ⟨hlt, h⟩ := h
  obtain ⟨w, e1, h⟩ := wVar_el h
  obtain ⟨v, e2, r⟩ := he.2 i w e1
  cases w with
  | dct ks ws =>
    obtain ⟨hok, hz, q⟩ := h
    obtain ⟨a, vs, rfl, ⟨hS, hd⟩, hl, rr⟩ := r
    refine ⟨a, _, hd, trivial, fun od => ?_⟩
    rw [h1]
    have hσ : k < σ.length := by rw [← he.1]; exact hlt
    refine keys_of (φ := fun _ => true) (kk := k) rfl (hl.trans rr.len) hz upd_same (fun R r => ⟨_, e2, r⟩) (fun ky j σ2 H2 P _ _ _ hp => hp H2 fun b o h => h) (fun ky σ2 H2 P e hlt2 hp => ?_) hσ fun D H' hD hk' hl' => ?_
    · subst e
      refine ⟨_, ?_, hp⟩
      rw [List.getElem?_set_self (by rw [wipe_length]; exact hlt2)]
    · have hr := reps_ky (Γ := Γ) (φ := fun _ => true) hok
      exact unlock hS hd hs k' hD hk' hl' hr (by rw [List.filter_eq_self.mpr (fun _ _ => rfl)]; exact q)
  | _ => exact h.elim
/-- a dict's value at a key, held against another value -/
theorem fits_all (xo : XO Γ G C N sc Wx X) {scope : Scope} {tg0 iter0 elt0 d0 x0 y0 : Expr} {i j k : Nat} {p1 p2 : Pos} (h1 : (ownOf N [k]).map (·.2) = [k]) (h2 : blkC N sc scope (ownOf N [k]) = true) (h3 : chNm N scope tg0 k = true) (hik : i ≠ k) (hjk : j ≠ k)
    (h4 : chV N sc iter0 i = true) (h5 : chV N (relS scope sc) d0 i = true) (h6 : chV N (relS scope sc) x0 k = true) (h7 : chV N (relS scope sc) y0 j = true) (h8 : chV N (relS scope sc) elt0 k = true) :
    ∃ wi g tt te, LkOk Γ C N Wx X scope tg0 iter0 [.Compare (.Subscript d0 x0 p1) [.Eq] [y0] p2] elt0 k (.fits i j k) wi g tt te := by
  obtain ⟨pi, xi, q1, ei⟩ := chV_of xo h4
  have hb : BlkOk X.N X.env.scope scope (ownOf N [k]) := by rw [xo.hN, xo.hsc]; exact blkOk_by h2
  have hx0 : ∃ x p, x0 = .Name x p := by
    unfold chV at h6
    split at h6
    · exact ⟨_, _, rfl⟩
    · cases h6
  have hy0 : ∃ x p, y0 = .Name x p := by
    unfold chV at h7
    split at h7
    · exact ⟨_, _, rfl⟩
    · cases h7
  obtain ⟨xx, px, rfl⟩ := hx0
  obtain ⟨yy, py, rfl⟩ := hy0
  refine ⟨_, gName k, tTest (tOp (rC Γ .eq) (tDGet (tVar i) (tVar k)) (tVar j)), tVar k, pi_keys pi, hb, fun s H Ca cl fp => ?_, fun s H Ca cl fp => pts_one ?_, fun s H Ca cl fp => (chV_of (xo.blk s H scope cl Ca fp) h8).1, fold_ok (by rw [ei]; rfl), fun σ H Q ⟨env, S, QW, XW, he, hs, h, k', kx⟩ => ?_⟩
  · obtain ⟨x, p, rfl, q1, q2, q3⟩ := nm_of (X := X.blk s H scope (compEnvC scope cl Ca X.env) fp) xo.hN blk_loc h3
    exact pg_name (by show X.N.Nodup; rw [xo.hN]; exact xo.nd) q1 q2 q3
  · have xb := xo.blk s H scope cl Ca fp
    refine pt_cmpR (op_C xb.hK xb.un .eq) (pe_dget (by have := xb.un; omega) (chV_of xb h5).1 (chV_of xb h6).1 (fun _ _ => rfl)) (chV_of xb h7).1 (nomark' (o := .eq) (fun _ _ _ z => by cases z))
  simp only [wE] at h
  obtain ⟨hlt, h⟩ := h
  obtain ⟨w, e1, h⟩ := wVar_el h
  obtain ⟨y, f1, h⟩ := wVar_el h
  obtain ⟨v, e2, r⟩ := he.2 i w e1
  obtain ⟨u, f2, ry⟩ := he.2 j y f1
  cases w with
  | dct ks ws =>
    obtain ⟨dw, dy, dep, hok, hz, q⟩ := h
    obtain ⟨a, vs, rfl, ⟨hS, hd⟩, hl, rr⟩ := r
    refine ⟨a, _, hd, trivial, fun od => ?_⟩
    rw [h1]
    have hσ : k < σ.length := by rw [← he.1]; exact hlt
    refine keys_of (φ := fitB ks ws y) (kk := k) rfl (hl.trans rr.len) hz upd_same (fun R r => ⟨_, e2, r⟩) (fun ky jj σ2 H2 P ek e hk' hp => ?_) (fun ky σ2 H2 P e hlt2 hp => ?_) hσ fun D H' hD hk' hl' => ?_
    · subst e
      have gi : ((wipe σ [k]).set k (some (kV (keyV ky))))[i]? = some (some (.ref a)) := by
        rw [List.getElem?_set_ne (fun z => hik z.symm), wipe_get, if_neg (by simp [hik]), e2]
      have gj : ((wipe σ [k]).set k (some (kV (keyV ky))))[j]? = some (some u) := by
        rw [List.getElem?_set_ne (fun z => hjk z.symm), wipe_get, if_neg (by simp [hjk]), f2]
      have gk : ((wipe σ [k]).set k (some (kV (keyV ky))))[k]? = some (some (kV (keyV ky))) := by
        rw [List.getElem?_set_self (by rw [wipe_length]; exact hσ)]
      have mv : ∀ b o, S b = none → H b = some o → b ≠ a → H2 b = some o := fun b o h1 h2 n => hk' b o (by rw [upd_ne n]; exact h2)
      have hd2 : H2 a = some (.frz od (.dK (dkz ks vs))) := hk' a _ upd_same
      obtain ⟨g1, g2⟩ := dkz_val (Γ := Γ) ky hl rr
      have hkm : ky ∈ ks := List.mem_of_getElem? ek
      cases hq : lookD ks ws ky with
      | none =>
        exfalso
        have : ∀ (ks : List Ky) (ws : List W), ks.length = ws.length → ky ∈ ks → lookD ks ws ky ≠ none := fun ks => by
          induction ks with
          | nil => intro ws _ hm; cases hm
          | cons z r ih =>
            intro ws hl hm
            cases ws with
            | nil => simp at hl
            | cons w ws =>
              unfold lookD
              split
              · intro z; cases z
              · rename_i hne
                rcases List.mem_cons.mp hm with e | hm
                · exact absurd e.symm hne
                · exact ih ws (by simpa using hl) hm
        exact this ks ws hl hkm hq
      | some w =>
        obtain ⟨x, hx, rw1⟩ := g1 w hq
        obtain ⟨z1, z2⟩ := zip_data dw ky w (look_mem hq)
        have r1 := data_mv (H' := H2) hd mv w x z1 rw1
        have r2 := data_mv (H' := H2) hd mv y u dy ry
        refine ⟨_, gi, _, gk, a, x, rfl, .inl ⟨_, _, .inr ⟨od, hd2⟩, rfl, hx.symm⟩, _, gj, w, y, S0, fun b S' => b = .bl (fitB ks ws y ky), r1, r2, (fun b o z => by cases z), ?_, fun b S' v H3 rb s3 f3 e => ?_⟩
        · have e0 : ∀ w : W, dataW w = true → deref S0 w = w := fun w h => by
            cases w with
            | ref b => simp [dataW] at h
            | _ => rfl
          simp only [wCmp]
          unfold wEq
          rw [e0 w z1, e0 y dy]
          refine ⟨z1, dy, by omega, ?_⟩
          unfold fitB
          rw [hq]
          simp
        · subst e
          cases rb
          exact ⟨_, rfl, hp H3 fun b o h => (f3.1 b o rfl h).2⟩
    · subst e
      refine ⟨_, ?_, hp⟩
      rw [List.getElem?_set_self (by rw [wipe_length]; exact hlt2)]
    · have hr := reps_ky (Γ := Γ) (φ := fitB ks ws y) hok
      exact unlock hS hd hs k' hD hk' hl' hr q
  | _ => exact h.elim
theorem s_lk (xo : XO Γ G C N sc Wx X) (nh : G.hot = false) {scope : Scope} {tg0 iter0 elt0 : Expr} {ifs0 : List Expr} {k : Nat} {pos : Pos} {e : E} (h : ∃ wi g tt te, LkOk Γ C N Wx X scope tg0 iter0 ifs0 elt0 k e wi g tt te) :
    PE X (.ListComp elt0 [⟨tg0, iter0, ifs0, 0⟩] scope pos) (tE Γ C Wx e) := by
  obtain ⟨wi, g, tt, te, l⟩ := h
  exact PEimp (pe_lock (pe_lc (own := ownOf N [k]) (xo.calm nh) (by rw [xo.hN]; exact xo.nd) l.i l.b l.g l.t l.e l.s)) l.m
end
end Bw

/-! Ev13: every expression that the checker takes. -/
namespace Bw
open PySem L2 PySem.Spec PyProof.Rows
section
variable {Γ : Gm} {G : GT} {C : CT} {N : List Str}
theorem chL_1 {f : Expr → E → Bool} {x : Expr} {es' : List E} (h : chL f [x] es' = true) : ∃ x', es' = [x'] ∧ f x x' = true := by
  cases es' with
  | nil => simp [chL] at h
  | cons a r =>
    rw [chL, Bool.and_eq_true] at h
    cases r with
    | nil => exact ⟨a, rfl, h.1⟩
    | cons _ _ => have := h.2; simp [chL] at this
theorem chL_2 {f : Expr → E → Bool} {x y : Expr} {es' : List E} (h : chL f [x, y] es' = true) : ∃ x' y', es' = [x', y'] ∧ f x x' = true ∧ f y y' = true := by
  cases es' with
  | nil => simp [chL] at h
  | cons a r =>
    rw [chL, Bool.and_eq_true] at h
    obtain ⟨b, rfl, hb⟩ := chL_1 h.2
    exact ⟨a, b, rfl, h.1, hb⟩
theorem tabs_eq : ∀ {t kvs : List (List Nat × W)}, chL (fun p q => p.1 == q.1 && eqB p.2 q.2) t kvs = true → t = kvs
  | [], [], _ => rfl
  | [], _ :: _, h => by simp [chL] at h
  | _ :: _, [], h => by simp [chL] at h
  | (a, b) :: t, (c, d) :: kvs, h => by
    rw [chL, Bool.and_eq_true, Bool.and_eq_true, beq_iff_eq] at h
    have e1 : a = c := h.1.1
    have e2 : b = d := eqB_eq h.1.2
    rw [e1, e2, tabs_eq h.2]
theorem sndE : ∀ (n : Nat) {sc : Scope} {Wx : WX} {X : Cx} {e : Expr} {e' : E}, XO Γ G C N sc Wx X → chE G N n sc e e' = true → PE X e (tE Γ C Wx e') ∧ (okT e = true → PT X e (tT Γ C Wx e'))
  | 0, _, _, _, _, _, _, h => by simp [chE] at h
  | n + 1, sc, Wx, X, e, e', xo, h => by
    have ih : ∀ {sc : Scope} {Wx : WX} {X : Cx} {e : Expr} {e' : E}, XO Γ G C N sc Wx X → chE G N n sc e e' = true → PE X e (tE Γ C Wx e') ∧ (okT e = true → PT X e (tT Γ C Wx e')) := fun xo q => sndE n xo q
    have ihP : ∀ e e', chE G N n sc e e' = true → PE X e (tE Γ C Wx e') := fun e e' q => (ih xo q).1
    have ihT : ∀ e e', (chE G N n sc e e' && okT e) = true → PT X e (tT Γ C Wx e') := fun e e' q => by
      rw [Bool.and_eq_true] at q
      exact (ih xo q.1).2 q.2
    have ihN : ∀ e e', chE G N n sc e e' = true → noStar e = true ∧ PE X e (tE Γ C Wx e') := fun e e' q => ⟨(chE_ns q).1, (ih xo q).1⟩
    have ihA : ∀ {es : List Expr} {es' : List E}, chL (chE G N n sc) es es' = true → PA X es (tEs Γ C Wx es') := fun q => pa_of xo ihN q
    unfold chE at h
    rw [Bool.and_eq_true] at h
    obtain ⟨ok, h⟩ := h
    have pl : ∀ {e'' : E}, plainT e = true → PE X e (tE Γ C Wx e'') → PE X e (tE Γ C Wx e'') ∧ (okT e = true → PT X e (tT Γ C Wx e'')) := fun q p => ⟨p, fun _ => t_plain p q⟩
    cases e' with
    | var i =>
      simp only at h
      split at h
      · simp only [Bool.and_eq_true] at h
        exact pl rfl (s_var xo (of_decide_eq_true h.1.1) h.1.2 h.2)
      · cases h
    | cst w =>
      simp only at h
      split at h
      · have e := eqB_eq h
        subst e
        exact pl rfl (s_cst pe_int fun S H => rfl)
      · have e := eqB_eq h
        subst e
        exact pl rfl (s_cst pe_bl fun S H => rfl)
      · have e := eqB_eq h
        subst e
        exact pl rfl (s_cst pe_non fun S H => rfl)
      · rw [Bool.and_eq_true] at h
        have e := eqB_eq h.1
        subst e
        refine pl rfl (s_cst pe_str fun S H => ⟨?_, h.2⟩)
        unfold strV
        congr 1
      · simp only [Bool.and_eq_true] at h
        obtain ⟨⟨g, d⟩, h⟩ := h
        split at h
        · rename_i u q
          have e := eqB_eq h
          subst e
          obtain ⟨v, u', hm, rv, rp⟩ := xo.con _ _ q
          exact pl rfl (s_cst (pe_glob (xo.glo g) hm rv (dbg_of d).1) rp)
        · split at h
          · rename_i p q
            have e := eqB_eq h
            subst e
            have hm := xo.fnv _ p.1 p.2 (mem_of_lookup q)
            exact pl rfl (s_cst (pe_glob (v := .ref _) (xo.glo g) hm rfl (dbg_of d).1) fun S H => rfl)
          · cases h
      · cases h
    | tup es' =>
      simp only at h
      split at h
      · exact pl rfl (s_tup (ihA h))
      · cases h
    | lst fz es' =>
      simp only at h
      split at h
      · exact pl rfl (s_lst (ihA h))
      · cases h
    | bin o a b =>
      simp only at h
      split at h
      · simp only [Bool.and_eq_true] at h
        have e := of_decide_eq_true h.1.1
        subst e
        exact pl rfl (s_bin xo (ihP _ _ h.1.2) (ihP _ _ h.2))
      · cases h
    | cmp o a b =>
      simp only at h
      split at h
      · simp only [Bool.and_eq_true] at h
        have e := of_decide_eq_true h.1.1
        subst e
        exact ⟨s_cmp xo (ihP _ _ h.1.2) (ihP _ _ h.2) (chE_ns h.2).2.2, fun _ => t_cmp xo (ihP _ _ h.1.2) (ihP _ _ h.2) (chE_ns h.2).2.2⟩
      · cases h
    | chain o o' a b c =>
      simp only at h
      split at h
      · simp only [Bool.and_eq_true] at h
        obtain ⟨⟨⟨⟨e1, e2⟩, ha⟩, hb⟩, hc⟩ := h
        have e1 := of_decide_eq_true e1
        have e2 := of_decide_eq_true e2
        subst e1
        subst e2
        exact ⟨s_chain xo (ihP _ _ ha) (ihP _ _ hb) (ihP _ _ hc) (chE_ns hb).2.2 (chE_ns hc).2.2, fun _ => t_chain xo (ihP _ _ ha) (ihP _ _ hb) (ihP _ _ hc) (chE_ns hb).2.2 (chE_ns hc).2.2⟩
      · cases h
    | isN neg a =>
      simp only at h
      split at h
      · simp only [Bool.and_eq_true] at h
        have e := of_decide_eq_true h.1
        subst e
        exact ⟨s_isN xo (ihP _ _ h.2), fun _ => t_isN xo (ihP _ _ h.2)⟩
      · cases h
    | and es' =>
      simp only at h
      split at h
      · simp only [Bool.and_eq_true] at h
        exact ⟨s_and ihP h.2 (ne_nil h.1.1), fun _ => (w_and ihT (chL_and h.2 h.1.2) (ne_nil h.1.1)).pt⟩
      · cases h
    | or es' =>
      simp only at h
      split at h
      · simp only [Bool.and_eq_true] at h
        exact ⟨s_or ihP h.2 (ne_nil h.1.1), fun _ => (w_or ihT (chL_and h.2 h.1.2) (ne_nil h.1.1)).pt⟩
      · cases h
    | not a =>
      simp only at h
      split at h
      · rw [Bool.and_eq_true] at h
        exact ⟨s_not (ihP _ _ h.2), fun _ => t_not ((ih xo h.2).2 h.1)⟩
      · cases h
    | neg a =>
      simp only at h
      split at h
      · exact pl rfl (s_neg (ihP _ _ h))
      · cases h
    | ite c a b =>
      simp only at h
      split at h
      · simp only [Bool.and_eq_true] at h
        exact ⟨s_ite ((ih xo h.1.1.2).2 h.1.1.1) (ihP _ _ h.1.2) (ihP _ _ h.2), fun o => by cases o⟩
      · cases h
    | idx a i =>
      simp only at h
      split at h
      · simp only [Bool.and_eq_true] at h
        exact pl rfl (s_idx xo (ihP _ _ h.1) (ihP _ _ h.2) (chE_ns h.2).2.1)
      · cases h
    | sl fz a lo hi =>
      simp only at h
      split at h
      · simp only [Bool.and_eq_true] at h
        exact pl rfl (s_sl xo ihP (ihP _ _ h.1.1) h.1.2 h.2)
      · cases h
    | call f es' =>
      simp only [Bool.and_eq_true, Bool.not_eq_true'] at h
      obtain ⟨nh, h⟩ := h
      split at h
      · simp only [Bool.and_eq_true] at h
        obtain ⟨⟨⟨⟨h1, h2⟩, h3⟩, h4⟩, h5⟩ := h
        exact pl rfl (s_call xo nh h1 h2 (List.contains_iff_mem.mp h3) (ne_nil h4) (chL_ns h5) (ihA h5))
      · cases h
    | callD f es' ds =>
      simp only [Bool.and_eq_true, Bool.not_eq_true'] at h
      obtain ⟨nh, h⟩ := h
      split at h
      · simp only [Bool.and_eq_true] at h
        obtain ⟨⟨⟨⟨⟨h1, h2⟩, h3⟩, h4⟩, h6⟩, h5⟩ := h
        split at h6
        · cases h6
        · rename_i ws q
          rw [Bool.and_eq_true] at h6
          exact pl rfl (s_callD xo nh h1 h2 (List.contains_iff_mem.mp h3) (ne_nil h4) q (of_decide_eq_true h6.1) (eqBs_eq h6.2) (chL_ns h5) (ihA h5))
      · cases h
    | dnew =>
      simp only at h
      split at h
      · exact pl rfl s_dnew
      · cases h
    | fzv a =>
      simp only [Bool.and_eq_true] at h
      have pt : plainT e = true := by
        have h1 := h.1
        cases e <;> first | rfl | (simp [fzE] at h1)
      exact pl pt (s_fzv (ihP _ _ h.2))
    | meb m a es' =>
      simp only at h
      split at h
      · simp only [Bool.and_eq_true] at h
        obtain ⟨⟨⟨⟨⟨⟨h0, h1⟩, h2⟩, h3⟩, h4⟩, h5⟩, h6⟩ := h
        have e1 := of_decide_eq_true h1
        subst e1
        exact pl rfl (s_meb xo (of_decide_eq_true h0) h2 h3 (of_decide_eq_true h4) (chL_len h6) (chL_ns h6) (ihP _ _ h5) (ihA h6))
      · cases h
    | fld cs a f =>
      simp only at h
      split at h
      · simp only [Bool.and_eq_true] at h
        obtain ⟨⟨h1, h2⟩, h3⟩ := h
        have e1 := of_decide_eq_true h1
        subst e1
        exact pl rfl (s_fld xo h2 (ihP _ _ h3))
      · cases h
    | meth tb m a es' =>
      simp only [Bool.and_eq_true, Bool.not_eq_true'] at h
      obtain ⟨nh, h⟩ := h
      split at h
      · simp only [Bool.and_eq_true] at h
        obtain ⟨⟨⟨⟨⟨⟨h1, h2⟩, h3⟩, h4⟩, h5⟩, h6⟩, h7⟩ := h
        have e1 := of_decide_eq_true h1
        subst e1
        exact pl rfl (s_meth xo nh h2 h3 (of_decide_eq_true h4) (chL_len h7) (of_decide_eq_true h5) (chL_ns h7) (ihP _ _ h6) (ihA h7))
      · cases h
    | mk c fi es' =>
      simp only [Bool.and_eq_true, Bool.not_eq_true'] at h
      obtain ⟨nh, h⟩ := h
      split at h
      · simp only [Bool.and_eq_true] at h
        obtain ⟨⟨⟨h1, h2⟩, h3⟩, h4⟩ := h
        exact pl rfl (s_mk xo nh h1 h2 (of_decide_eq_true h3) (chL_len h4) (chL_ns h4) (ihA h4))
      · cases h
    | mkx c z =>
      simp only [Bool.and_eq_true, Bool.not_eq_true'] at h
      obtain ⟨nh, h⟩ := h
      split at h
      · simp only [Bool.and_eq_true] at h
        obtain ⟨⟨⟨h1, h2⟩, h3⟩, h4⟩ := h
        exact pl rfl (s_mkx xo nh h1 h2 (of_decide_eq_true h3))
      · cases h
    | isC yes no a =>
      simp only at h
      split at h
      · simp only [Bool.and_eq_true] at h
        obtain ⟨⟨⟨⟨h1, h2⟩, h3⟩, h4⟩, h5⟩ := h
        exact pl rfl (s_isC xo h1 h2 h3 (of_decide_eq_true h4) (chE_ns h5).1 (ihP _ _ h5))
      · cases h
    | callV i fs es' =>
      simp only [Bool.and_eq_true, Bool.not_eq_true'] at h
      obtain ⟨nh, h⟩ := h
      split at h
      · simp only [Bool.and_eq_true] at h
        obtain ⟨⟨⟨⟨⟨h1, h2⟩, h3⟩, h4⟩, h5⟩, h6⟩ := h
        exact pl rfl (s_callV xo nh (of_decide_eq_true h1) h2 h3 h4 (ne_nil h5) (chL_ns h6) (ihA h6))
      · cases h
    | bi b es' =>
      rw [Bool.and_eq_true] at h
      obtain ⟨hh, h⟩ := h
      have nh : coolB b = false → G.hot = false := fun z => by rw [z, Bool.or_false] at hh; simpa using hh
      cases b with
      | maxd =>
        simp only at h
        split at h
        · simp only [Bool.and_eq_true, beq_iff_eq] at h
          obtain ⟨⟨h1, h2⟩, h3⟩ := h
          subst h2
          obtain ⟨a', d', rfl, ha, hd⟩ := chL_2 h3
          exact pl rfl (s_maxd xo (nh rfl) h1 (chE_ns ha).1 (ihP _ _ ha) (ihP _ _ hd))
        · cases h
      | listrev fz =>
        simp only at h
        split at h
        · simp only [Bool.and_eq_true] at h
          obtain ⟨⟨h1, h2⟩, h3⟩ := h
          obtain ⟨a', rfl, ha⟩ := chL_1 h3
          exact pl rfl (s_listrev xo (nh rfl) h1 h2 (chE_ns ha).1 (ihP _ _ ha))
        · cases h
      | lenset =>
        simp only at h
        split at h
        · simp only [Bool.and_eq_true] at h
          obtain ⟨⟨h1, h2⟩, h3⟩ := h
          obtain ⟨a', rfl, ha⟩ := chL_1 h3
          exact pl rfl (s_lenset xo (nh rfl) h1 h2 (chE_ns ha).1 (ihP _ _ ha))
        · cases h
      | _ =>
        simp only at h
        split at h
        · simp only [Bool.and_eq_true] at h
          obtain ⟨⟨h1, h2⟩, h3⟩ := h
          exact pl rfl (s_bi xo h1 hh (ne_nil h2) (by intro z; cases z) (chL_ns h3) (ihA h3))
        · cases h
    | isi t a =>
      simp only at h
      split at h
      · simp only [Bool.and_eq_true] at h
        exact pl rfl (s_isi xo h.1.1 h.1.2 (chE_ns h.2).1 (ihP _ _ h.2))
      · cases h
    | comp fz tg ik its cond elt own =>
      simp only [Bool.and_eq_true, Bool.not_eq_true'] at h
      obtain ⟨nh, h⟩ := h
      split at h
      · exact pl rfl (s_lc xo nh (lc_of ih xo nh (by unfold chLc; simpa only [Bool.and_eq_true] using h)))
      · cases h
    | fits i j k =>
      simp only [Bool.and_eq_true, Bool.not_eq_true'] at h
      obtain ⟨nh, h⟩ := h
      split at h
      · simp only [Bool.and_eq_true] at h
        obtain ⟨⟨⟨⟨⟨⟨⟨⟨⟨h1, h2⟩, h3⟩, hik⟩, hjk⟩, h4⟩, h5⟩, h6⟩, h7⟩, h8⟩ := h
        exact pl rfl (s_lk xo nh (fits_all xo (of_decide_eq_true h1) h2 h3 (of_decide_eq_true hik) (of_decide_eq_true hjk) h4 h5 h6 h7 h8))
      · cases h
    | keysOf i k =>
      simp only [Bool.and_eq_true, Bool.not_eq_true'] at h
      obtain ⟨nh, h⟩ := h
      split at h
      · simp only [Bool.and_eq_true] at h
        obtain ⟨⟨⟨⟨⟨h1, h2⟩, h3⟩, hik⟩, h4⟩, h5⟩ := h
        exact pl rfl (s_lk xo nh (keys_all xo (of_decide_eq_true h1) h2 h3 (of_decide_eq_true hik) h4 h5))
      · cases h
    | tab kvs i =>
      simp only at h
      split at h
      · simp only [Bool.and_eq_true] at h
        obtain ⟨⟨⟨h1, h2⟩, h3⟩, h4⟩ := h
        split at h3
        · rename_i t q
          have e := tabs_eq h3
          subst e
          exact pl rfl (s_tab xo h1 h2 q (chE_ns h4).2.1 (ihP _ _ h4))
        · cases h3
      · cases h
    | app a e1 =>
      simp only at h
      split at h
      · simp only [Bool.and_eq_true, beq_iff_eq] at h
        obtain ⟨⟨⟨⟨h1, h2⟩, h3⟩, h4⟩, h5⟩ := h
        subst h1
        exact pl rfl (s_app xo h2 (by simpa using h3) (chE_ns h5).1 (ihP _ _ h4) (ihP _ _ h5))
      · cases h
    | dic ks es' =>
      simp only at h
      split at h
      · simp only [Bool.and_eq_true] at h
        obtain ⟨⟨⟨⟨⟨h1, h2⟩, h3⟩, h4⟩, h5⟩, h6⟩ := h
        exact pl rfl (s_dic xo ihP h1 (of_decide_eq_true h2) (ne_nil h3) (of_decide_eq_true h4) (of_decide_eq_true h5) h6)
      · cases h
    | dicV kvs =>
      simp only at h
      split at h
      · simp only [Bool.and_eq_true] at h
        exact pl rfl (s_dicV xo ihP (ne_nil h.1.1) (of_decide_eq_true h.1.2) h.2)
      · cases h
    | dEq a b =>
      simp only at h
      split at h
      · simp only [Bool.and_eq_true] at h
        exact ⟨s_dEq xo (ihP _ _ h.1) (ihP _ _ h.2) (chE_ns h.2).2.2, fun _ => t_dEq xo (ihP _ _ h.1) (ihP _ _ h.2) (chE_ns h.2).2.2⟩
      · cases h
    | dNe a b =>
      simp only at h
      split at h
      · simp only [Bool.and_eq_true] at h
        exact ⟨s_dNe xo (ihP _ _ h.1) (ihP _ _ h.2) (chE_ns h.2).2.2, fun _ => t_dNe xo (ihP _ _ h.1) (ihP _ _ h.2) (chE_ns h.2).2.2⟩
      · cases h
    | ext a b =>
      simp only at h
      split at h
      · simp only [Bool.and_eq_true, beq_iff_eq] at h
        obtain ⟨⟨⟨⟨h1, h2⟩, h3⟩, h4⟩, h5⟩ := h
        subst h1
        exact pl rfl (s_ext xo h2 (by simpa using h3) (chE_ns h5).1 (ihP _ _ h4) (ihP _ _ h5))
      · cases h
    | pop a =>
      simp only at h
      split at h
      · simp only [Bool.and_eq_true, beq_iff_eq] at h
        obtain ⟨⟨⟨h1, h2⟩, h3⟩, h4⟩ := h
        subst h1
        exact pl rfl (s_pop xo h2 (by simpa using h3) (ihP _ _ h4))
      · cases h
end
end Bw

/-! Ev14: statements. -/
namespace Bw
open PySem L2 PySem.Spec PyProof.Rows
/-- not a comprehension -/
def noLc : Expr → Bool
  | .ListComp _ _ _ _ => false
  | .SetComp _ _ _ _ => false
  | .DictComp _ _ _ _ _ => false
  | _ => true
/-- name = [..]: whether the name takes the list from within -/
def swB (sc scope : Scope) (y : Str) (py pos : Pos) : Bool := (sc.names.lookup y == some .local) && (py.line == pos.line) && !(scope.names.any fun (n, k) => n == y && (k == .local || k == .cell))
/-- one text -/
def chTx : List Expr → List E → Bool
  | [.Constant (.str _) _ _], [.cst (.str _)] => true
  | _, _ => false
def chH (G : GT) (N : List Str) (ch : Stmt → St → Bool) (sc : Scope) : ExceptHandler → Hn → Bool
  | .ExceptHandler (some (.Name x _)) nm suite _, .mk yes no nm' suite' => gloB sc x && nodbg x && decide (G.exm.lookup x = some (yes, no)) && !suite.isEmpty && (match nm, nm' with
    | none, none => true
    | some y, some i => decide (N[i]? = some y) && (sc.names.lookup y == some .local)
    | _, _ => false) && chL ch suite suite'
  | _, _ => false
section
variable (N : List Str)
def chS (G : GT) : Nat → Scope → Stmt → St → Bool
  | 0, _, _, _ => false
  | n + 1, sc, s, s' =>
    match s' with
    | .pass => (match s with
      | .Pass _ => true
      | .Expr (.Constant (.str _) _ _) _ => true
      | _ => false)
    | .ex e' => (match s with
      | .Expr e _ => noLc e && chE G N 60 sc e e'
      | _ => false)
    | .ret e' => (match s with
      | .Return (some e) _ => chE G N 60 sc e e'
      | _ => false)
    | .retN => (match s with
      | .Return none _ => true
      | _ => false)
    | .asg i e' => (match s with
      | .Assign [.Name y py] e _ => decide (N[i]? = some y) && locB sc y && (match e with
        | .ListComp elt0 [⟨tg0, iter0, ifs0, 0⟩] scope pos => !G.hot && (match e' with
          | .comp _ tg ik its cond elt own => swB sc scope y py pos && chLc G N 60 sc scope tg0 iter0 ifs0 elt0 tg ik its cond elt own
          | .fits i2 j k => swB sc scope y py pos && (match ifs0 with
            | [.Compare (.Subscript d0 x0 _) [.Eq] [y0] _] => decide ((ownOf N [k]).map (·.2) = [k]) && blkC N sc scope (ownOf N [k]) && chNm N scope tg0 k && decide (i2 ≠ k) && decide (j ≠ k) &&
              chV N sc iter0 i2 && chV N (relS scope sc) d0 i2 && chV N (relS scope sc) x0 k && chV N (relS scope sc) y0 j && chV N (relS scope sc) elt0 k
            | _ => false)
          | .keysOf i2 k => swB sc scope y py pos && (match ifs0 with
            | [] => decide ((ownOf N [k]).map (·.2) = [k]) && blkC N sc scope (ownOf N [k]) && chNm N scope tg0 k && decide (i2 ≠ k) && chV N sc iter0 i2 && chV N (relS scope sc) elt0 k
            | _ => false)
          | _ => false)
        | e => noLc e && chE G N 60 sc e e')
      | _ => false)
    | .asgT is e' => !G.hot && (match s with
      | .Assign [.Tuple es _ _] e _ => chL (chNm N sc) es is && noLc e && (!isTup e || decide (3 < es.length)) && chE G N 60 sc e e'
      | _ => false)
    | .par i j a b => !G.hot && (match s with
      | .Assign [.Tuple [.Name x px, .Name y py] _ _] (.Tuple [u, v] _ _) _ => decide (N[i]? = some x) && decide (N[j]? = some y) && decide (i ≠ j) && decide (x ≠ y) && (sc.names.lookup x == some .local) && (sc.names.lookup y == some .local) && (px.line == py.line) && !constantsAlone 8 u && !foldedForSure 8 u && chE G N 60 sc u a && chE G N 60 sc v b
      | _ => false)
    | .setIx o i e' => (match s with
      | .Assign [.Subscript o0 i0 _] e _ => noLc e && chE G N 60 sc e e' && chE G N 60 sc o0 o && chE G N 60 sc i0 i
      | _ => false)
    | .ite c a b => (match s with
      | .If c0 a0 b0 _ => okT c0 && chE G N 60 sc c0 c && chL (chS G n sc) a0 a && chL (chS G n sc) b0 b
      | _ => false)
    | .for tg ik its body => !G.hot && (match s with
      | .For tg0 iter body0 [] _ => chTg N sc tg0 tg && chI G (chE G N 60 sc) sc tg0 iter ik its && chL (chS G n sc) body0 body
      | _ => false)
    | .whl c body => !G.hot && (match s with
      | .While c0 body0 [] _ => okT c0 && chE G N 60 sc c0 c && chL (chS G n sc) body0 body
      | _ => false)
    | .brk => (match s with
      | .Break _ => true
      | _ => false)
    | .cnt => (match s with
      | .Continue _ => true
      | _ => false)
    | .fldS cs o f e' => (match s with
      | .Assign [.Attribute o0 nm _] e _ => decide (nm = sZ f) && noLc e && cs.all (fun c => (match G.fld.lookup c with
        | some fs => fs.contains f
        | none => false)) && chE G N 60 sc e e' && chE G N 60 sc o0 o
      | _ => false)
    | .augF _ _ _ _ => false
    | .rse c fs es' => !G.hot && (match s with
      | .Raise (some (.Call (.Name x _) es [] _)) none _ => gloB sc x && nodbg x && decide (G.xcl.lookup x = some (c, fs)) && (match fs with
        | [] => chTx es es'
        | _ => !es.isEmpty && decide (es.length = fs.length) && chL (chE G N 60 sc) es es')
      | _ => false)
    | .trys body hs orelse => !G.hot && (match s with
      | .Try body0 hds orelse0 [] _ => !hds.isEmpty && chL (chS G n sc) body0 body && chL (chS G n sc) orelse0 orelse && chL (chH G N (fun s s' => chS { G with hot := true } n sc s s') sc) hds hs
      | _ => false)
end
structure KD (Γ : Gm) (Wx : WX) (S : Sto) (H : Hp) (DW : Dn) (D : Ends) : Prop where
  nx : ∀ env' S' σ' H', envR Γ S' H' env' σ' → SR Γ S' H' → Fr S H S' H' → DW.nx env' S' → D.nx σ' H'
  rt : ∀ w S' v H', rep Γ S' H' w v → SR Γ S' H' → Fr S H S' H' → DW.rt w S' → D.rt v H'
  bk : ∀ env' S' σ' H', envR Γ S' H' env' σ' → SR Γ S' H' → Fr S H S' H' → DW.bk env' S' → D.bk σ' H'
  ct : ∀ env' S' σ' H', envR Γ S' H' env' σ' → SR Γ S' H' → Fr S H S' H' → DW.ct env' S' → D.ct σ' H'
  xc : ∀ x env' S' cls d σ' H', xrep Γ S' H' x cls d → envR Γ S' H' env' σ' → SR Γ S' H' → Fr S H S' H' → DW.xc x env' S' → Wx cls d σ' H'
section
variable {Γ : Gm} {G : GT} {C : CT} {N : List Str} {sc : Scope} {Wx : WX} {X : Cx}
theorem KD.fr {S S1 : Sto} {H H1 : Hp} {DW : Dn} {D : Ends} (k : KD Γ Wx S H DW D) (f : Fr S H S1 H1) : KD Γ Wx S1 H1 DW D where
  nx := fun env' S' σ' H' he hs f2 q => k.nx env' S' σ' H' he hs (f.trans f2) q
  rt := fun w S' v H' r hs f2 q => k.rt w S' v H' r hs (f.trans f2) q
  bk := fun env' S' σ' H' he hs f2 q => k.bk env' S' σ' H' he hs (f.trans f2) q
  ct := fun env' S' σ' H' he hs f2 q => k.ct env' S' σ' H' he hs (f.trans f2) q
  xc := fun x env' S' cls d σ' H' r he hs f2 q => k.xc x env' S' cls d σ' H' r he hs (f.trans f2) q
theorem KD.kx {S : Sto} {H : Hp} {DW : Dn} {D : Ends} {env : Env} {σ : L2.St} (k : KD Γ Wx S H DW D) (he : envR Γ S H env σ) : KX Γ S H (fun x S1 => DW.xc x env S1) (fun cls d H' => Wx cls d σ H') :=
  fun x S' cls d H' r hs f q => k.xc x env S' cls d σ H' r (he.fr f) hs f q
def tS (Γ : Gm) (C : CT) (Wx : WX) (s : St) : TS := fun D σ H => ∃ env S DW, envR Γ S H env σ ∧ SR Γ S H ∧ wS C s env S DW ∧ KD Γ Wx S H DW D
def tSs (Γ : Gm) (C : CT) (Wx : WX) (ss : List St) : TS := fun D σ H => ∃ env S DW, envR Γ S H env σ ∧ SR Γ S H ∧ wSs C ss env S DW ∧ KD Γ Wx S H DW D
/-- an exception class that is made by its __init__, which sets the fields fs -/
def spI (C : Addr) (fs : List (List Nat)) : Sp := fun vs H Q _ => ∃ (a : Addr) (us : List V), vs = .ref a :: us ∧ us.length = fs.length ∧ H a = some (exo a C none) ∧ ∀ dx, H dx = none → dx ≠ a → Q .non (upd (upd H dx (exd dx (insz fs.reverse us.reverse))) a (exo a C (some dx)))
def XiR (Γ : Gm) (X : Cx) (x : Str) (c : Nat) (fs : List (List Nat)) : Prop :=
  ∃ (ve : Bool) (k : Nat) (fI : Addr) (fd : FuncData) (ps : List Str), OxC X.K (Γ.ca c) ve ∧ PySem.W.findIn X.K (.ref (Γ.ca c)) "__init__" = some (some (.ref fI)) ∧ PySem.W.typeIn X.K (.ref fI) = some (.type "function") ∧
    FnOk X.prog X.w X.K X.mg X.base (L2.CX X.prog X.w) k fI fd ps (spI (Γ.ca c) fs) ∧ Room (k + 1) X.A ∧ Binds X.K fd ps [] ∧ X.mg x = some (.ref (Γ.ca c)) ∧ XkC X.K (Γ.ca c) ∧ ∀ f ∈ fs, PySem.W.findIn X.K (.ref (Γ.ca c)) (sZ f) = some none
/-- a class that a clause names -/
def ExR (Γ : Gm) (X : Cx) (x : Str) (yes no : List Nat) : Prop :=
  ∃ cv, (X.mg x = some cv ∨ (X.mg x = none ∧ bootBuiltins x = some cv ∧ x ≠ ("__name__" : Str))) ∧ (∀ c ∈ yes, PySem.W.exmOne X.K (.ref (Γ.ca c)) cv = some true) ∧ ∀ c ∈ no, PySem.W.exmOne X.K (.ref (Γ.ca c)) cv = some false
structure XS (Γ : Gm) (G : GT) (C : CT) (N : List Str) (sc : Scope) (Wx : WX) (X : Cx) : Prop extends XO Γ G C N sc Wx X where
  hp : G.hot = false → PassesOwn (model X.prog X.w) X.A X.env X.xe
  fnT : ∀ x, X.fn x = true
  kd : sc.kind = .function
  st : X.stack = X.env :: X.outer
  fm : X.env.frame = some X.env.locals
  xin : ∀ x c fs, G.hot = false → G.xcl.lookup x = some (c, fs) → fs ≠ [] → XiR Γ X x c fs
  exm : ∀ x yes no, G.exm.lookup x = some (yes, no) → ExR Γ X x yes no
theorem XS.loc (xs : XS Γ G C N sc Wx X) : ∀ x, locB sc x = true → Loc X.env.scope x ∧ (X.fn x = true ∨ X.env.scope.names.lookup x = some .local) := fun x h => ⟨xs.toXO.loc h, .inl (xs.fnT x)⟩
theorem XS.nN (xs : XS Γ G C N sc Wx X) : X.N.Nodup := by rw [xs.hN]; exact xs.nd
/-! ### blocks -/
theorem ss_of {f : Stmt → St → Bool} (hf : ∀ s s', f s s' = true → PS X s (tS Γ C Wx s')) : ∀ {ss : List Stmt} {ss' : List St}, chL f ss ss' = true → PSs X ss (tSs Γ C Wx ss')
  | [], [], _ => PSsimp pss_nil fun D σ H ⟨env, S, DW, he, hs, h, k⟩ => by
    simp only [wSs] at h
    exact k.nx env S σ H he hs (Fr.refl _ _) h
  | [], _ :: _, h => by simp [chL] at h
  | _ :: _, [], h => by simp [chL] at h
  | s :: ss, s' :: ss', h => by
    rw [chL, Bool.and_eq_true] at h
    refine PSsimp (pss_cons (hf _ _ h.1) (ss_of hf h.2)) fun D σ H ⟨env, S, DW, he, hs, h, k⟩ => ?_
    simp only [wSs] at h
    refine ⟨env, S, _, he, hs, h, ⟨fun env' S' σ' H' he' hs' f q => ?_, k.rt, k.bk, k.ct, k.xc⟩⟩
    exact ⟨env', S', DW, he', hs', q, k.fr f⟩
/-! ### the forms -/
theorem sw_no {e : Expr} (h : noLc e = true) (t : Option Expr) (l : Nat) (env : PySem.Env) : swapsWith e t l env = pure false := by
  cases e <;> first | rfl | (simp [noLc] at h)
theorem sw_sole {e : Expr} (h : noLc e = true) (t : Expr) (l : Nat) (env : PySem.Env) : swapsWithSole [t] e l env = pure false := by
  cases e <;> first | rfl | (simp [noLc] at h)
theorem st_ex {e : Expr} {e' : E} {pos : Pos} (p : PE X e (tE Γ C Wx e')) (h : noLc e = true) : PS X (.Expr e pos) (tS Γ C Wx (.ex e')) := by
  refine PSimp (ps_expr p (sw_no h _ _ _)) fun D σ H ⟨env, S, DW, he, hs, h, k⟩ => ?_
  simp only [wS] at h
  exact ⟨env, S, _, _, he, hs, h, fun w S1 v H1 r1 s1 f1 q1 => k.nx env S1 σ H1 (he.fr f1) s1 f1 q1, k.kx he⟩
theorem st_ret {e : Expr} {e' : E} {pos : Pos} (p : PE X e (tE Γ C Wx e')) : PS X (.Return (some e) pos) (tS Γ C Wx (.ret e')) := by
  refine PSimp (ps_ret p) fun D σ H ⟨env, S, DW, he, hs, h, k⟩ => ?_
  simp only [wS] at h
  exact ⟨env, S, _, _, he, hs, h, fun w S1 v H1 r1 s1 f1 q1 => k.rt w S1 v H1 r1 s1 f1 q1, k.kx he⟩
theorem st_retN {pos : Pos} : PS X (.Return none pos) (tS Γ C Wx .retN) := by
  refine PSimp ps_retN fun D σ H ⟨env, S, DW, he, hs, h, k⟩ => ?_
  simp only [wS] at h
  exact k.rt .non S .non H rfl hs (Fr.refl _ _) h
theorem asg_of {i : Nat} {e' : E} {D : Ends} {σ : L2.St} {H : Hp} (q : tS Γ C Wx (.asg i e') D σ H) : tE Γ C Wx e' σ H fun x H1 => gName i x σ H1 D.nx := by
  obtain ⟨env, S, DW, he, hs, h, k⟩ := q
  simp only [wS] at h
  exact ⟨env, S, _, _, he, hs, h, fun w S1 v H1 r1 s1 f1 q1 => k.nx _ S1 _ H1 ((he.fr f1).set i r1) s1 f1 q1, k.kx he⟩
theorem st_asg (xs : XS Γ G C N sc Wx X) {i : Nat} {y : Str} {e : Expr} {e' : E} {py pos : Pos} (h1 : N[i]? = some y) (h2 : locB sc y = true) (p : PE X e (tE Γ C Wx e')) (h : noLc e = true) : PS X (.Assign [.Name y py] e pos) (tS Γ C Wx (.asg i e')) :=
  PSimp (ps_set xs.nN (by rw [xs.hN]; exact h1) (xs.loc y h2).1 p (sw_no h _ _ _) (xs.loc y h2).2) fun D σ H q => asg_of q
theorem st_asgL (xs : XS Γ G C N sc Wx X) (nh : G.hot = false) {i : Nat} {y : Str} {py spos : Pos} {scope : Scope} {tg0 iter0 : Expr} {ifs0 : List Expr} {elt0 : Expr} {tg : Tg} {ik : IK} {its cond : List E} {elt : E} {own : List Nat} {fz : Bool} {pos : Pos} (h1 : N[i]? = some y) (sw : swB sc scope y py pos = true) (l : LcOk G C Γ N sc Wx X scope tg0 iter0 ifs0 elt0 tg ik its cond elt own) :
    PS X (.Assign [.Name y py] (.ListComp elt0 [⟨tg0, iter0, ifs0, 0⟩] scope pos) spos) (tS Γ C Wx (.asg i (.comp fz tg ik its cond elt own))) := by
  unfold swB at sw
  simp only [Bool.and_eq_true, Bool.not_eq_true'] at sw
  have hy : X.env.scope.names.lookup y = some .local := by rw [xs.hsc]; simpa using sw.1.1
  refine PSimp (ps_setLc (xs.calm nh) xs.nN (by rw [xs.hN]; exact h1) hy (sw_true (by rw [xs.hsc]; exact xs.kd) hy sw.1.2 sw.2) l.i l.b l.g l.t l.e l.s) fun D σ H q => ?_
  have q := asg_of q
  show tLc _ _ _ _ _ σ H fun x H1 => gName i x σ H1 D.nx
  rw [l.e1]
  exact comp_of xs.hK l.e2 q
theorem st_asgK (xs : XS Γ G C N sc Wx X) (nh : G.hot = false) {i : Nat} {y : Str} {py spos : Pos} {scope : Scope} {tg0 iter0 : Expr} {ifs0 : List Expr} {elt0 : Expr} {k : Nat} {e : E} {pos : Pos} (h1 : N[i]? = some y) (sw : swB sc scope y py pos = true) (h : ∃ wi g tt te, LkOk Γ C N Wx X scope tg0 iter0 ifs0 elt0 k e wi g tt te) :
    PS X (.Assign [.Name y py] (.ListComp elt0 [⟨tg0, iter0, ifs0, 0⟩] scope pos) spos) (tS Γ C Wx (.asg i e)) := by
  unfold swB at sw
  simp only [Bool.and_eq_true, Bool.not_eq_true'] at sw
  have hy : X.env.scope.names.lookup y = some .local := by rw [xs.hsc]; simpa using sw.1.1
  obtain ⟨wi, g, tt, te, l⟩ := h
  exact PSimp (ps_lock (ps_setLc (xs.calm nh) xs.nN (by rw [xs.hN]; exact h1) hy (sw_true (by rw [xs.hsc]; exact xs.kd) hy sw.1.2 sw.2) l.i l.b l.g l.t l.e l.s)) fun D σ H q => l.m σ H _ (asg_of q)
theorem sw_none {es : List Expr} {k0 : Nat} {tp : Pos} {e : Expr} {env : PySem.Env} (ht : (!isTup e || decide (3 < es.length)) = true) : swappedStores [.Tuple es k0 tp] e env = pure none := by
  cases e
  case Tuple vs k1 p1 =>
    have hl : 3 < es.length := by simpa [isTup] using ht
    have h2 : (es.length == 2) = false := by rw [beq_eq_false_iff_ne]; omega
    have h3 : (es.length == 3) = false := by rw [beq_eq_false_iff_ne]; omega
    unfold swappedStores
    simp only [h2, h3, Bool.or_self, Bool.not_false, Bool.true_or, if_true]
  all_goals rfl
theorem st_asgT (xs : XS Γ G C N sc Wx X) (nh : G.hot = false) {is : List Nat} {es : List Expr} {k0 : Nat} {tp pos : Pos} {e : Expr} {e' : E} (h1 : chL (chNm N sc) es is = true) (p : PE X e (tE Γ C Wx e')) (h : noLc e = true) (ht : (!isTup e || decide (3 < es.length)) = true) : PS X (.Assign [.Tuple es k0 tp] e pos) (tS Γ C Wx (.asgT is e')) := by
  have pg : PG X (.Tuple es k0 tp) (gW Γ (.pr is)) := pg_of xs.nN (xs.calm nh) xs.hK (tg := .pr is) ⟨es, k0, tp, rfl, nms_of xs.hN xs.loc h1⟩
  refine PSimp (ps_asg p pg (sw_sole h _ _ _) (sw_none ht) rfl) fun D σ H ⟨env, S, DW, he, hs, h, k⟩ => ?_
  simp only [wS] at h
  refine ⟨env, S, _, _, he, hs, h, fun w S1 v H1 r1 s1 f1 q1 => ?_, k.kx he⟩
  obtain ⟨env', e1, q1⟩ := wSome_el q1
  exact ⟨env, S1, w, env', he.fr f1, r1, e1, fun σ' _ he' => k.nx env' S1 σ' H1 he' s1 f1 q1⟩
theorem sw_par {env : PySem.Env} {x y : Str} {u v : Expr} {px py pt pt2 : Pos} {kt k2 : Nat} (hk : env.scope.kind = .function) (hx : env.scope.names.lookup x = some .local) (hy : env.scope.names.lookup y = some .local) (hxy : x ≠ y) (hl : (px.line == py.line) = true) (e6 : constantsAlone 8 u = false) (e7 : foldedForSure 8 u = false) (n1 : noStar u = true) (n2 : noStar v = true) :
    swappedStores [.Tuple [.Name x px, .Name y py] kt pt] (.Tuple [u, v] k2 pt2) env = pure (some [x, y]) := by
  have e0 : (env.blockKind != ScopeKind.function) = false := by
    unfold Env.blockKind
    rw [hk]
    rfl
  have e1 : (py.line == px.line) = true := by rw [beq_iff_eq] at hl ⊢; exact hl.symm
  have e4 : (y == x) = false := by simpa using (Ne.symm hxy)
  have e3 : [x, y].eraseDups = [x, y] := by
    simp only [List.eraseDups, List.eraseDupsBy, List.eraseDupsBy.loop, List.any_nil, List.any_cons, e4, Bool.or_false, List.reverse_cons, List.reverse_nil, List.nil_append, List.cons_append]
  have st : ∀ w : Expr, noStar w = true → (match w with | .Starred .. => true | _ => false) = false := fun w h => by cases w <;> first | rfl | (simp [noStar] at h)
  unfold swappedStores
  simp only [e0, Env.kindOf, hx, hy, List.length_cons, List.length_nil, List.any_cons, List.any_nil, List.head?_cons, Option.map_some, Option.getD_some, List.filterMap_cons, List.filterMap_nil, List.all_cons, List.all_nil, e6, e7, Expr.pos, beq_self_eq_true, Bool.and_self, if_true, e1, e3, Bool.true_and, Bool.false_and, Bool.and_true, Bool.false_eq_true, if_false, Bool.or_false, Bool.or_true, bne_self_eq_false, Nat.reduceAdd, Nat.reduceBEq, Bool.true_or, Bool.not_true, pure_bind]
  rw [if_neg (by rw [Bool.not_eq_true]; exact Bool.or_eq_false_iff.mpr ⟨st u n1, st v n2⟩)]
theorem st_par (xs : XS Γ G C N sc Wx X) (nh : G.hot = false) {i j : Nat} {x y : Str} {u v : Expr} {px py pt pt2 pos : Pos} {kt k2 : Nat} {a b : E} (hi : N[i]? = some x) (hj : N[j]? = some y) (hij : i ≠ j) (hxy : x ≠ y) (hx : sc.names.lookup x = some .local) (hy : sc.names.lookup y = some .local)
    (hl : (px.line == py.line) = true) (e6 : constantsAlone 8 u = false) (e7 : foldedForSure 8 u = false) (n1 : noStar u = true) (n2 : noStar v = true) (pa : PE X u (tE Γ C Wx a)) (pb : PE X v (tE Γ C Wx b)) :
    PS X (.Assign [.Tuple [.Name x px, .Name y py] kt pt] (.Tuple [u, v] k2 pt2) pos) (tS Γ C Wx (.par i j a b)) := by
  have hw : swappedStores [.Tuple [.Name x px, .Name y py] kt pt] (.Tuple [u, v] k2 pt2) X.env = pure (some [x, y]) :=
    sw_par (by rw [xs.hsc]; exact xs.kd) (by rw [xs.hsc]; exact hx) (by rw [xs.hsc]; exact hy) hxy hl e6 e7 n1 n2
  refine PSimp (ps_par (xs.calm nh) xs.nN (by rw [xs.hN]; exact hi) (by rw [xs.hN]; exact hj) hij (by rw [xs.hsc]; exact hx) (by rw [xs.hsc]; exact hy) (pa_cons pa (pa_cons pb pa_nil (star_cons n2)) (star_cons n1)) hw rfl) fun D σ H ⟨env, S, DW, he, hs, h, k⟩ => ?_
  simp only [wS] at h
  refine ⟨env, S, _, _, he, hs, h, fun w S1 v1 H1 r1 s1 f1 q1 => ?_, k.kx he⟩
  refine ⟨env, S1, _, _, he.fr f1, s1, q1, fun w2 S2 v2 H2 r2 s2 f2 q2 => ?_, (k.fr f1).kx (he.fr f1)⟩
  refine ⟨v1, v2, rfl, ?_⟩
  exact k.nx _ S2 _ H2 (((he.fr (f1.trans f2)).set i (rep.fr f2 _ _ r1)).set j r2) s2 (f1.trans f2) q2
theorem ixW_N {n : Nat} {i : Int} : ixW n i = ixN n i := rfl
def rSetW (Γ : Gm) : TSet := fun o i v H Q => ∃ x y w S QS, rep Γ S H x o ∧ rep Γ S H y i ∧ rep Γ S H w v ∧ SR Γ S H ∧ wSetIx x y w S QS ∧ ∀ S' H', SR Γ S' H' → Fr S H S' H' → QS S' → Q H'
theorem set_W (hu : X.A.units + 64 < cLine) : PSet X (rSetW Γ) := by
  intro pins s σ H o i v ov iv u Q I ro ri rv h
  obtain ⟨x, y, w, S, QS, r1, r2, r3, sr, h, k⟩ := h
  unfold wSetIx at h
  split at h
  · rename_i a
    split at h
    · rename_i ws e
      split at h
      · rename_i j
        split at h
        · rename_i jj e3
          cases r1
          cases r2
          obtain ⟨vs, h3, rr⟩ := sr a _ e
          exact set_list pins s σ H _ _ v ov iv u Q I ro ri rv ⟨a, vs, j, jj, rfl, rfl, h3, by rw [← rr.len, ← ixW_N]; exact e3, k _ _ (sr.wrL e (rr.set jj r3)) (Fr.wr e) h⟩
        · exact h.elim
      · exact h.elim
    · rename_i ks ws e
      split at h
      · rename_i ky e2
        cases r1
        obtain ⟨vs, h3, hl, rr⟩ := sr a _ e
        have ei := key_rep e2 r2
        subst ei
        obtain ⟨vs', p1, p2, p3⟩ := putD_rep (z := ky) hl rr r3
        refine set_dk (by omega) pins s σ H _ _ v ov iv u Q I ro ri rv ⟨a, _, rfl, DPut.k h3 (by rw [dkz_len (hl.trans rr.len), hl]; exact h.1), k _ _ ?_ (Fr.wr e) h.2⟩
        rw [p1]
        exact orep.wr sr e ⟨vs', upd_same, p2, reps.fr (Fr.wr e) _ _ p3⟩
      · exact h.elim
    · exact h.elim
  · exact h.elim
theorem st_setIx (xs : XS Γ G C N sc Wx X) {o i e : Expr} {o' i' e' : E} {p pos : Pos} (pe : PE X e (tE Γ C Wx e')) (po : PE X o (tE Γ C Wx o')) (pi : PE X i (tE Γ C Wx i')) (hi : ∀ l u st p, i ≠ .Slice l u st p) (h : noLc e = true) : PS X (.Assign [.Subscript o i p] e pos) (tS Γ C Wx (.setIx o' i' e')) := by
  have pg : PG X (.Subscript o i p) (gSub (tE Γ C Wx o') (tE Γ C Wx i') (rSetW Γ)) := pg_sub po pi (set_W xs.un) (by intro v; cases i <;> first | rfl | exact absurd rfl (hi _ _ _ _))
  refine PSimp (ps_asg pe pg (sw_sole h _ _ _) rfl rfl) fun D σ H ⟨env, S, DW, he, hs, h, k⟩ => ?_
  simp only [wS] at h
  refine ⟨env, S, _, _, he, hs, h, fun w S1 v H1 r1 s1 f1 q1 => ?_, k.kx he⟩
  refine ⟨env, S1, _, _, he.fr f1, s1, q1, fun x S2 ov H2 r2 s2 f2 q2 => ?_, (k.fr f1).kx (he.fr f1)⟩
  refine ⟨env, S2, _, _, he.fr (f1.trans f2), s2, q2, fun y S3 iv H3 r3 s3 f3 q3 => ?_, (k.fr (f1.trans f2)).kx (he.fr (f1.trans f2))⟩
  exact ⟨x, y, w, S3, _, rep.fr f3 _ _ r2, r3, rep.fr (f2.trans f3) _ _ r1, s3, q3, fun S4 H4 s4 f4 q4 => k.nx env S4 σ H4 (he.fr (f1.trans (f2.trans (f3.trans f4)))) s4 (f1.trans (f2.trans (f3.trans f4))) q4⟩
/-! ### fields set -/
theorem insz_put {f : List Nat} {w : W} {v : V} {S : Sto} {H : Hp} (rw' : rep Γ S H w v) : ∀ {ks : List (List Nat)} {ws : List W} {vs : List V}, ks.length = ws.length → reps Γ S H ws vs →
    ∃ vs', putF (sZ f) v (insz ks vs) = insz (putW ks ws f w).1 vs' ∧ (putW ks ws f w).1.length = (putW ks ws f w).2.length ∧ reps Γ S H (putW ks ws f w).2 vs' ∧ ∀ k ∈ (putW ks ws f w).1, k ∈ ks ∨ k = f
  | [], [], vs, _, r => by
    cases r
    exact ⟨[v], rfl, rfl, reps.one rw', fun k hk => by simpa [putW] using hk⟩
  | [], _ :: _, _, h, _ => by simp at h
  | _ :: _, [], _, h, _ => by simp at h
  | k :: ks, x :: ws, vs, hl, ⟨u, vr, e, q, t⟩ => by
    subst e
    by_cases e : k = f
    · subst e
      refine ⟨v :: vr, ?_, ?_, ?_, fun k' hk => ?_⟩
      · show putF (sZ k) v ((sZ k, u) :: insz ks vr) = insz (putW (k :: ks) (x :: ws) k w).1 (v :: vr)
        unfold putF putW
        rw [if_pos rfl]
        simp
        rfl
      · unfold putW; rw [if_pos rfl]; simpa using hl
      · unfold putW; rw [if_pos rfl]; exact ⟨v, vr, rfl, rw', t⟩
      · unfold putW at hk; rw [if_pos rfl] at hk; exact .inl hk
    · obtain ⟨vs', h1, h2, h3, h4⟩ := insz_put (f := f) (w := w) rw' (ks := ks) (ws := ws) (by simpa using hl) t
      refine ⟨u :: vs', ?_, ?_, ?_, fun k' hk => ?_⟩
      · have ne : (sZ k == sZ f) = false := by
          rw [beq_eq_false_iff_ne]
          exact fun z => e (sZ_inj z)
        show putF (sZ f) v ((sZ k, u) :: insz ks vr) = insz (putW (k :: ks) (x :: ws) f w).1 (u :: vs')
        unfold putF putW
        rw [if_neg e, if_neg (fun z => e (sZ_inj z)), h1]
        rfl
      · unfold putW; rw [if_neg e]; simpa using h2
      · unfold putW; rw [if_neg e]; exact ⟨u, vs', rfl, q, h3⟩
      · unfold putW at hk
        rw [if_neg e] at hk
        rcases List.mem_cons.mp hk with hk | hk
        · exact .inl (by rw [hk]; exact List.mem_cons_self)
        · rcases h4 k' hk with h5 | h5
          · exact .inl (List.mem_cons_of_mem _ h5)
          · exact .inr h5
theorem st_fldS (xs : XS Γ G C N sc Wx X) {cs : List Nat} {o e : Expr} {o' e' : E} {f : List Nat} {p pos : Pos} (hc : cs.all (fun c => (match G.fld.lookup c with
        | some fs => fs.contains f
        | none => false)) = true) (pe : PE X e (tE Γ C Wx e')) (po : PE X o (tE Γ C Wx o')) (h : noLc e = true) : PS X (.Assign [.Attribute o (sZ f) p] e pos) (tS Γ C Wx (.fldS cs o' f e')) := by
  refine PSimp (ps_fld po pe (sw_no h _ _ _)) fun D σ H ⟨env, S, DW, he, hs, h, k⟩ => ?_
  simp only [wS] at h
  refine ⟨env, S, _, _, he, hs, h, fun w S1 v H1 r1 s1 f1 q1 => ?_, k.kx he⟩
  refine ⟨env, S1, _, _, he.fr f1, s1, q1, fun x S2 ov H2 r2 s2 f2 q2 => ?_, (k.fr f1).kx (he.fr f1)⟩
  dsimp only at q2
  unfold wFldS at q2
  split at q2
  · rename_i a
    split at q2
    · rename_i c ks ws e2
      obtain ⟨hm, hz, q2⟩ := q2
      cases r2
      obtain ⟨dx, vs, h3, ⟨hl, ic⟩, rr⟩ := s2 a _ e2
      have hf := List.all_eq_true.mp hc c hm
      split at hf
      · rename_i fs e4
        have na := xs.fld c fs f e4 (List.contains_iff_mem.mp hf)
        obtain ⟨vs', p1, p2, p3, p4⟩ := insz_put (f := f) (rep.fr f2 _ _ r1) hl rr
        have ff := f1.trans (f2.trans (Fr.wr e2 (u' := .ins c (putW ks ws f w).1 (putW ks ws f w).2) (o := .ins (Γ.ca c) dx (insz (putW ks ws f w).1 vs'))))
        refine ⟨a, Γ.ca c, dx, insz ks vs, rfl, h3, by rw [xs.hK]; exact ic.1.cl, na, ?_, ?_⟩
        · have : (insz ks vs).length ≤ vs.length := by unfold insz; rw [List.length_map, List.length_zip]; omega
          have := rr.len
          omega
        · rw [p1]
          refine k.nx env _ σ _ (he.fr ff) (orep.wr s2 e2 ⟨dx, vs', upd_same, ⟨p2, ic.1, fun k' hk => ?_⟩, reps.fr (Fr.wr e2) _ _ p3⟩) ff q2
          rcases p4 k' hk with h5 | h5
          · exact ic.2 k' h5
          · rw [h5, ← xs.hK]; exact na
      · cases hf
    · exact q2.elim
  · exact q2.elim
/-! ### raised -/
theorem st_rseT (xs : XS Γ G C N sc Wx X) (nh : G.hot = false) {x : Str} {c : Nat} {es : List Expr} {es' : List E} {p p2 pos : Pos} (h1 : gloB sc x = true) (h2 : nodbg x = true) (h3 : G.xcl.lookup x = some (c, [])) (ht : chTx es es' = true) : PS X (.Raise (some (.Call (.Name x p) es [] p2)) none pos) (tS Γ C Wx (.rse c [] es')) := by
  unfold chTx at ht
  split at ht
  · obtain ⟨q, hm, hk, rb, rt, xk⟩ := xs.xcl x c nh h3
    refine PSimp (ps_raise (xs.calm nh) xs.tk (pmk_own F.excBase_ValueError q hm hk (raises_own rb rt) (xs.glo h1) (dbg_of h2).1)) fun D σ H ⟨env, S, DW, he, hs, h, k⟩ => ?_
    simp only [wS, wEs, wE, wVar] at h
    exact k.xc ⟨c, [], []⟩ env S _ none σ H ⟨rfl, ⟨rfl, by rw [← xs.hK]; exact xk, fun k hk => by cases hk⟩, [], .inl ⟨rfl, rfl⟩, rfl⟩ he hs (Fr.refl _ _) h.2.2
  · cases ht
theorem del_upd {H1 : Hp} {a dx : Addr} {o1 o2 o3 : HO} (ha : H1 a = none) (ne : dx ≠ a) : L2.del (upd (upd (upd H1 a o1) dx o2) a o3) a = upd H1 dx o2 := by
  funext b
  unfold L2.del upd
  by_cases h : b = a
  · subst h
    rw [if_pos rfl, if_neg (Ne.symm ne), ha]
  · rw [if_neg h, if_neg h]
    by_cases h2 : b = dx
    · rw [if_pos h2, if_pos h2]
    · rw [if_neg h2, if_neg h2, if_neg h]
theorem st_rseI (xs : XS Γ G C N sc Wx X) (nh : G.hot = false) {x : Str} {c : Nat} {fs : List (List Nat)} {es : List Expr} {es' : List E} {p p2 pos : Pos} (hf : fs ≠ []) (h1 : gloB sc x = true) (h2 : nodbg x = true) (h3 : G.xcl.lookup x = some (c, fs)) (h4 : es ≠ []) (hn : es.all noStar = true) (pa : PA X es (tEs Γ C Wx es')) :
    PS X (.Raise (some (.Call (.Name x p) es [] p2)) none pos) (tS Γ C Wx (.rse c fs es')) := by
  obtain ⟨ve, kk, fI, fd, ps, T, iC, tI, F1, hr, hb, hm, xk, hno⟩ := xs.xin x c fs nh h3 hf
  cases es with
  | nil => exact absurd rfl h4
  | cons e es =>
    rw [List.all_cons, Bool.and_eq_true] at hn
    have hx : Passes (L2.CX X.prog X.w) X (fun _ _ _ => False) := fun pins σ H s e s' I c => passAt (X := X) (W := W0) takes00 σ pins H s e s' I c
    refine PSimp (ps_raise (xs.calm nh) xs.tk (pmk_ox T iC tI F1 hr hb hx (xs.glo h1) hm pa (dbg_of h2).1 (star_cons hn.1) (star_any hn.2))) fun D σ H ⟨env, S, DW, he, hs, h, k⟩ => ?_
    simp only [wS] at h
    refine ⟨env, S, _, _, he, hs, h, fun ws S1 us H1 r1 s1 f1 q1 => ?_, k.kx he⟩
    obtain ⟨hz, hl, q1⟩ := q1
    have hl := hl hf
    have lu := r1.len
    refine ⟨by omega, fun a ha => ⟨a, us, rfl, by omega, upd_same, fun dx hdx ne => ⟨rfl, dx, insz fs.reverse us.reverse, upd_same, ?_, ?_, ?_⟩⟩⟩
    · rw [upd_ne ne, upd_same]
    · rw [upd_ne ne] at hdx; exact hdx
    · rw [upd_ne ne] at hdx
      rw [del_upd ha ne]
      have e2 : ∀ (o1 o2 : HO), upd (upd H1 dx o1) dx o2 = upd H1 dx o2 := fun o1 o2 => by
        funext b
        unfold upd
        split <;> rfl
      rw [e2]
      rw [if_neg hf] at q1
      refine k.xc _ env S1 _ (some dx) σ _ ⟨rfl, ⟨by simp [hl], by rw [← xs.hK]; exact xk, fun f hf' => by rw [← xs.hK]; exact hno f (List.mem_reverse.mp hf')⟩, us.reverse, .inr ⟨dx, rfl, s1.nil hdx, upd_same⟩, (reps.fr (Fr.new hdx) _ _ r1).rev⟩ (he.fr (f1.trans (Fr.new hdx))) (s1.new hdx) (f1.trans (Fr.new hdx)) q1
/-! ### tried -/
inductive HcR (Γ : Gm) (C : CT) (K : PySem.W.Frag) : List Hn → List Hc → Prop
  | nil : HcR Γ C K [] []
  | cons {yes no : List Nat} {nm : Option Nat} {suite : List St} {hs : List Hn} {cv : Value} {l : List Hc} (hy : ∀ c ∈ yes, PySem.W.exmOne K (.ref (Γ.ca c)) cv = some true) (hn : ∀ c ∈ no, PySem.W.exmOne K (.ref (Γ.ca c)) cv = some false) (r : HcR Γ C K hs l) :
      HcR Γ C K (.mk yes no nm suite :: hs) (⟨cv, nm, tSs Γ C W0 suite⟩ :: l)
theorem kd_suite {S : Sto} {H : Hp} {DW : Dn} {D : Ends} {nm : Option Nat} (k : KD Γ Wx S H DW D) : KD Γ W0 S H (sutD nm DW) (endH nm D) := by
  cases nm with
  | none => exact ⟨k.nx, k.rt, k.bk, k.ct, fun _ _ _ _ _ _ _ _ _ _ _ q => q⟩
  | some i =>
    exact ⟨fun env' S' σ' H' he hs f q => k.nx _ S' _ H' (he.clr i) hs f q, k.rt, fun env' S' σ' H' he hs f q => k.bk _ S' _ H' (he.clr i) hs f q, fun env' S' σ' H' he hs f q => k.ct _ S' _ H' (he.clr i) hs f q, fun _ _ _ _ _ _ _ _ _ _ _ q => q⟩
theorem hs_of {K : PySem.W.Frag} {hs : List Hn} {l : List Hc} (r : HcR Γ C K hs l) {D : Ends} {S : Sto} {H : Hp} {DW : Dn} {x : Xn} {env : Env} {cls : Value} {d : Option Addr} {σ : L2.St} (k : KD Γ Wx S H DW D) (xr : xrep Γ S H x cls d) (he : envR Γ S H env σ) (sr : SR Γ S H) (q : wHs C hs x env S DW) : wHc K Wx D l cls d σ H := by
  induction r with
  | nil =>
    simp only [wHs] at q
    exact k.xc x env S cls d σ H xr he sr (Fr.refl _ _) q
  | @cons yes no nm suite hs cv l hy hn r ih =>
    simp only [wHs, wHn] at q
    have xr0 := xr
    obtain ⟨rfl, ⟨lx, xc⟩, vs, xd, rr⟩ := xr
    by_cases hm : x.c ∈ yes
    · rw [if_pos hm] at q
      refine ⟨true, hy _ hm, fun _ a ha => ?_, (fun z => nomatch z)⟩
      have f : Fr S H S (upd H a (ExT (.ref (Γ.ca x.c)) d a)) := Fr.new ha
      refine ⟨bindH nm x env, S, sutD nm DW, ?_, sr.new ha, q, kd_suite (k.fr f)⟩
      have rx : rep Γ S (upd H a (ExT (.ref (Γ.ca x.c)) d a)) (.exn x.c x.ks x.ws) (.ref a) := ⟨a, d, vs, rfl, ⟨sr.nil ha, upd_same⟩, xd.fr0 f.1, ⟨lx, xc⟩, reps.fr f _ _ rr⟩
      cases nm with
      | none => exact he.fr f
      | some i => exact (he.fr f).set i rx
    · rw [if_neg hm] at q
      exact ⟨false, hn _ q.1, (fun z => nomatch z), fun _ => ih q.2⟩
theorem xs_tr (xs : XS Γ G C N sc Wx X) {W : WX} {pn : List (Addr × Obj)} {xe : Value → Shared → Prop} (tk : Takes (X.tr pn xe) W) (hp : PassesOwn (model X.prog X.w) X.A X.env xe) : XS Γ G C N sc W (X.tr pn xe) := {
  hN := xs.hN
  nd := xs.nd
  hsc := xs.hsc
  calm := xs.calm
  hK := xs.hK
  tk := tk
  un := xs.un
  bi := xs.bi
  con := xs.con
  fn := xs.fn
  fnv := xs.fnv
  cls := xs.cls
  xcl := xs.xcl
  mth := xs.mth
  fld := xs.fld
  isC := xs.isC
  tab := xs.tab
  hp := fun _ => hp
  fnT := xs.fnT
  kd := xs.kd
  st := xs.st
  fm := xs.fm
  xin := xs.xin
  exm := xs.exm }
theorem xs_suite (xs : XS Γ G C N sc Wx X) (a : Addr) (pn : List (Addr × Obj)) : XS Γ { G with hot := true } C N sc W0 (X.suite a pn) := {
  hN := xs.hN
  nd := xs.nd
  hsc := xs.hsc
  calm := fun z => by cases z
  hK := xs.hK
  tk := takes00
  un := xs.un
  bi := xs.bi
  con := xs.con
  fn := fun _ _ _ z => by cases z
  fnv := xs.fnv
  cls := fun _ _ _ z => by cases z
  xcl := fun _ _ z => by cases z
  mth := fun _ _ _ _ z => by cases z
  fld := xs.fld
  isC := xs.isC
  tab := xs.tab
  hp := fun z => by cases z
  fnT := xs.fnT
  kd := xs.kd
  st := xs.st
  fm := xs.fm
  xin := fun _ _ _ z => by cases z
  exm := xs.exm }
theorem hc_of (xs : XS Γ G C N sc Wx X) {ch : Stmt → St → Bool} (hf : ∀ (a : Addr) (pn : List (Addr × Obj)) {ss : List Stmt} {ss' : List St}, chL ch ss ss' = true → PSs (X.suite a pn) ss (tSs Γ C W0 ss')) : ∀ {hds : List ExceptHandler} {hs : List Hn}, chL (chH G N ch sc) hds hs = true → ∃ l, HcOk X hds l ∧ HcR Γ C X.K hs l
  | [], [], _ => ⟨[], .nil, .nil⟩
  | [], _ :: _, h => by simp [chL] at h
  | _ :: _, [], h => by simp [chL] at h
  | hd :: hds, hn :: hs, h => by
    rw [chL, Bool.and_eq_true] at h
    obtain ⟨l, h1, h2⟩ := hc_of xs hf h.2
    have h := h.1
    unfold chH at h
    split at h
    · rename_i x px nm suite np2 yes no nm' suite' _
      simp only [Bool.and_eq_true] at h
      obtain ⟨⟨⟨⟨⟨g1, g2⟩, g3⟩, g4⟩, g5⟩, g6⟩ := h
      obtain ⟨cv, hcv, hy, hno⟩ := xs.exm x yes no (of_decide_eq_true g3)
      have nm0 : Names X x cv := ⟨xs.glo g1, (dbg_of g2).1, hcv⟩
      cases suite with
      | nil => simp at g4
      | cons st0 sts =>
        split at g5
        · exact ⟨_, .cons nm0 (fun a pn => hf a pn g6) h1, .cons hy hno h2⟩
        · simp only [Bool.and_eq_true, beq_iff_eq] at g5
          exact ⟨_, .consN xs.nN (by rw [xs.hN]; exact of_decide_eq_true g5.1) (by show X.env.scope.names.lookup _ = _; rw [xs.hsc]; exact g5.2) nm0 (fun a pn => hf a pn g6) h1, .cons hy hno h2⟩
        · cases g5
    · cases h
theorem st_trys (xs : XS Γ G C N sc Wx X) {body orelse : List Stmt} {hds : List ExceptHandler} {body' orelse' : List St} {hs : List Hn} {l : List Hc} {pos : Pos} (hne : hds ≠ []) (pb : ∀ (W : WX) (pn : List (Addr × Obj)) (xe : Value → Shared → Prop), Takes (X.tr pn xe) W → PassesOwn (model X.prog X.w) X.A X.env xe → PSs (X.tr pn xe) body (tSs Γ C W body')) (po : PSs X orelse (tSs Γ C Wx orelse')) (h1 : HcOk X hds l) (h2 : HcR Γ C X.K hs l) :
    PS X (.Try body hds orelse [] pos) (tS Γ C Wx (.trys body' hs orelse')) := by
  cases hds with
  | nil => exact absurd rfl hne
  | cons h0 hds =>
    refine PSimp (ps_try_all po xs.st xs.fm xs.tk (tb := fun W => tSs Γ C W body') pb h1) fun D σ H ⟨env, S, DW, he, hs, h, k⟩ => ?_
    simp only [wS] at h
    refine ⟨env, S, _, he, hs, h, ⟨fun env' S' σ' H' he' hs' f q => ⟨env', S', DW, he', hs', q, k.fr f⟩, k.rt, k.bk, k.ct, fun x env' S' cls d σ' H' xr he' hs' f q => hs_of h2 (k.fr f) xr he' hs' q⟩⟩
theorem st_if {c : Expr} {a b : List Stmt} {c' : E} {a' b' : List St} {pos : Pos} (pc : PT X c (tT Γ C Wx c')) (pa : PSs X a (tSs Γ C Wx a')) (pb : PSs X b (tSs Γ C Wx b')) : PS X (.If c a b pos) (tS Γ C Wx (.ite c' a' b')) := by
  refine PSimp (ps_if pc pa pb) fun D σ H ⟨env, S, DW, he, hs, h, k⟩ => ?_
  simp only [wS] at h
  refine ⟨env, S, _, _, he, hs, h, fun x S1 H1 s1 f1 q1 => ?_, k.kx he⟩
  rcases wB_el q1 with ⟨rfl, q1⟩ | ⟨rfl, q1⟩
  · exact ⟨true, rfl, iteT ⟨env, S1, DW, he.fr f1, s1, q1, k.fr f1⟩⟩
  · exact ⟨false, rfl, iteF ⟨env, S1, DW, he.fr f1, s1, q1, k.fr f1⟩⟩
theorem st_for (xs : XS Γ G C N sc Wx X) (nh : G.hot = false) {tg0 iter : Expr} {body : List Stmt} {tg : Tg} {ik : IK} {its : List E} {body' : List St} {pos : Pos} (pi : PI X tg0 iter (iW Γ C Wx ik its)) (pg : PG X tg0 (gW Γ tg)) (pb : PSs X body (tSs Γ C Wx body')) (hs : ∀ x, foldedSetIterable iter X.env x = pure x) :
    PS X (.For tg0 iter body [] pos) (tS Γ C Wx (.for tg ik its body')) := by
  refine PSimp (ps_for (xs.hp nh) (xs.calm nh) pi pg pb hs) fun D σ H ⟨env, S, DW, he, hs, h, k⟩ => ?_
  simp only [wS] at h
  refine ⟨env, S, (fun items lk S1 => wFor lk tg (fun e S D => wSs C body' e S D) items env S1 DW), _, he, hs, h, fun items lk S1 H1 J P wk p0 s1 f1 lv q1 => ?_, k.kx he⟩
  refine ⟨fun i m σ H' => m = items.length - i ∧ ∃ env' S', i ≤ items.length ∧ envR Γ S' H' env' σ ∧ SR Γ S' H' ∧ Fr S1 H1 S' H' ∧ wFor lk tg (fun e S D => wSs C body' e S D) (items.drop i) env' S' DW, ⟨items.length, by simp, env, S1, Nat.zero_le _, he.fr f1, s1, Fr.refl _ _, q1⟩, ?_⟩
  rintro i m σ2 H2 ⟨rfl, env2, S2, hi, he2, s2, f2, q2⟩
  have p2 : P S2 H2 := wk.st _ _ _ _ f2 p0
  by_cases hlt : i < items.length
  · right
    rw [List.drop_eq_getElem_cons hlt] at q2
    obtain ⟨lv2, q2⟩ := q2
    refine ⟨wk.go i S2 H2 s2 p2 lv2 hlt, fun σ' H' => ∃ env' S', i + 1 ≤ items.length ∧ envR Γ S' H' env' σ' ∧ SR Γ S' H' ∧ Fr S1 H1 S' H' ∧ wFor lk tg (fun e S D => wSs C body' e S D) (items.drop (i + 1)) env' S' DW, fun σ' H' hn => ⟨items.length - (i + 1), by omega, rfl, hn⟩, fun x H3 y => ?_⟩
    obtain ⟨w, e1, s3, f3, r3⟩ := wk.yld i S2 H2 x H3 s2 p2 lv2 hlt y
    have e2 : items[i] = w := by rw [List.getElem?_eq_getElem hlt] at e1; exact Option.some.inj e1
    rw [e2] at q2
    obtain ⟨env', e3, q2⟩ := wSome_el q2
    refine ⟨env2, S2, w, env', he2.fr f3, r3, e3, fun σ' _ he' => ?_⟩
    have ff : Fr S1 H1 S2 H3 := f2.trans f3
    refine ⟨env', S2, _, he', s3, q2, ⟨fun e4 S4 σ4 H4 he4 s4 f4 q4 => ⟨e4, S4, hlt, he4, s4, ff.trans f4, q4⟩, fun w S4 v H4 r4 s4 f4 q4 => k.rt w S4 v H4 r4 s4 (f1.trans (ff.trans f4)) q4, fun e4 S4 σ4 H4 he4 s4 f4 q4 => k.nx e4 S4 σ4 H4 he4 s4 (f1.trans (ff.trans f4)) q4,
      fun e4 S4 σ4 H4 he4 s4 f4 q4 => ⟨e4, S4, hlt, he4, s4, ff.trans f4, q4⟩, fun x e4 S4 cls d σ4 H4 r4 he4 s4 f4 q4 => k.xc x e4 S4 cls d σ4 H4 r4 he4 s4 (f1.trans (ff.trans f4)) q4⟩⟩
  · left
    have e : i = items.length := by omega
    subst e
    rw [List.drop_of_length_le (Nat.le_refl _)] at q2
    obtain ⟨lv2, q2⟩ := q2
    exact ⟨wk.stop _ S2 H2 s2 p2 lv2 (Nat.le_refl _), k.nx env2 S2 σ2 H2 he2 s2 (f1.trans f2) q2⟩
theorem st_whl (xs : XS Γ G C N sc Wx X) (nh : G.hot = false) {c : Expr} {body : List Stmt} {c' : E} {body' : List St} {pos : Pos} (pc : PT X c (tT Γ C Wx c')) (pb : PSs X body (tSs Γ C Wx body')) : PS X (.While c body [] pos) (tS Γ C Wx (.whl c' body')) := by
  refine PSimp (ps_while (xs.hp nh) pc pb) fun D σ H ⟨env, S, DW, he, hs, h, k⟩ => ?_
  simp only [wS] at h
  obtain ⟨n, h⟩ := h
  refine ⟨fun m σ H' => ∃ env' S', envR Γ S' H' env' σ ∧ SR Γ S' H' ∧ Fr S H S' H' ∧ wWhl (fun e S Q X => wE C c' e S Q X) (fun e S D => wSs C body' e S D) m env' S' DW, ⟨n, env, S, he, hs, Fr.refl _ _, h⟩, ?_⟩
  rintro m σ2 H2 ⟨env2, S2, he2, s2, f2, q2⟩
  cases m with
  | zero => exact q2.elim
  | succ m =>
    refine ⟨env2, S2, _, _, he2, s2, q2, fun x S3 H3 s3 f3 q3 => ?_, (k.fr f2).kx he2⟩
    have ff : Fr S H S3 H3 := f2.trans f3
    rcases wB_el q3 with ⟨rfl, q3⟩ | ⟨rfl, q3⟩
    · refine ⟨true, rfl, iteT ⟨fun σ' H' => ∃ env' S', envR Γ S' H' env' σ' ∧ SR Γ S' H' ∧ Fr S H S' H' ∧ wWhl (fun e S Q X => wE C c' e S Q X) (fun e S D => wSs C body' e S D) m env' S' DW, fun σ' H' hn => ⟨m, Nat.lt_succ_self _, hn⟩, ?_⟩⟩
      refine ⟨env2, S3, _, he2.fr f3, s3, q3, ⟨fun e4 S4 σ4 H4 he4 s4 f4 q4 => ⟨e4, S4, he4, s4, ff.trans f4, q4⟩, fun w S4 v H4 r4 s4 f4 q4 => k.rt w S4 v H4 r4 s4 (ff.trans f4) q4, fun e4 S4 σ4 H4 he4 s4 f4 q4 => k.nx e4 S4 σ4 H4 he4 s4 (ff.trans f4) q4,
        fun e4 S4 σ4 H4 he4 s4 f4 q4 => ⟨e4, S4, he4, s4, ff.trans f4, q4⟩, fun x e4 S4 cls d σ4 H4 r4 he4 s4 f4 q4 => k.xc x e4 S4 cls d σ4 H4 r4 he4 s4 (ff.trans f4) q4⟩⟩
    · exact ⟨false, rfl, iteF (k.nx env2 S3 σ2 H3 (he2.fr f3) s3 ff q3)⟩
/-! ### every statement that the checker takes -/
theorem sndS : ∀ (n : Nat) {G : GT} {Wx : WX} {X : Cx} {s : Stmt} {s' : St}, XS Γ G C N sc Wx X → chS N G n sc s s' = true → PS X s (tS Γ C Wx s')
  | 0, _, _, _, _, _, _, h => by simp [chS] at h
  | n + 1, G, Wx, X, s, s', xs, h => by
    have ih0 : ∀ {G : GT} {Wx : WX} {X : Cx} {ss : List Stmt} {ss' : List St}, XS Γ G C N sc Wx X → chL (chS N G n sc) ss ss' = true → PSs X ss (tSs Γ C Wx ss') := fun xs q => ss_of (fun s s' q => sndS n xs q) q
    have ih : ∀ {ss : List Stmt} {ss' : List St}, chL (chS N G n sc) ss ss' = true → PSs X ss (tSs Γ C Wx ss') := fun q => ih0 xs q
    have ihP : ∀ {e : Expr} {e' : E}, chE G N 60 sc e e' = true → PE X e (tE Γ C Wx e') := fun q => (sndE 60 xs.toXO q).1
    have ihT : ∀ {e : Expr} {e' : E}, okT e = true → chE G N 60 sc e e' = true → PT X e (tT Γ C Wx e') := fun o q => (sndE 60 xs.toXO q).2 o
    unfold chS at h
    cases s' with
    | pass =>
      simp only at h
      split at h
      · exact PSimp ps_pass fun D σ H ⟨env, S, DW, he, hs, h, k⟩ => k.nx env S σ H he hs (Fr.refl _ _) (by simpa only [wS] using h)
      · exact PSimp ps_doc fun D σ H ⟨env, S, DW, he, hs, h, k⟩ => k.nx env S σ H he hs (Fr.refl _ _) (by simpa only [wS] using h)
      · cases h
    | ex e' =>
      simp only at h
      split at h
      · rw [Bool.and_eq_true] at h
        exact st_ex (ihP h.2) h.1
      · cases h
    | ret e' =>
      simp only at h
      split at h
      · exact st_ret (ihP h)
      · cases h
    | retN =>
      simp only at h
      split at h
      · exact st_retN
      · cases h
    | asg i e' =>
      simp only at h
      split at h
      · rw [Bool.and_eq_true, Bool.and_eq_true] at h
        obtain ⟨⟨h1, h2⟩, h3⟩ := h
        split at h3
        · simp only [Bool.and_eq_true, Bool.not_eq_true'] at h3
          obtain ⟨nh, h3⟩ := h3
          split at h3
          · rw [Bool.and_eq_true] at h3
            exact st_asgL xs nh (of_decide_eq_true h1) h3.1 (lc_of (fun xo q => sndE 60 xo q) xs.toXO nh h3.2)
          · rw [Bool.and_eq_true] at h3
            obtain ⟨sw, h3⟩ := h3
            split at h3
            · simp only [Bool.and_eq_true] at h3
              obtain ⟨⟨⟨⟨⟨⟨⟨⟨⟨g1, g2⟩, g3⟩, hik⟩, hjk⟩, g4⟩, g5⟩, g6⟩, g7⟩, g8⟩ := h3
              exact st_asgK xs nh (of_decide_eq_true h1) sw (fits_all xs.toXO (of_decide_eq_true g1) g2 g3 (of_decide_eq_true hik) (of_decide_eq_true hjk) g4 g5 g6 g7 g8)
            · cases h3
          · rw [Bool.and_eq_true] at h3
            obtain ⟨sw, h3⟩ := h3
            split at h3
            · simp only [Bool.and_eq_true] at h3
              obtain ⟨⟨⟨⟨⟨g1, g2⟩, g3⟩, hik⟩, g4⟩, g5⟩ := h3
              exact st_asgK xs nh (of_decide_eq_true h1) sw (keys_all xs.toXO (of_decide_eq_true g1) g2 g3 (of_decide_eq_true hik) g4 g5)
            · cases h3
          · cases h3
        · rw [Bool.and_eq_true] at h3
          exact st_asg xs (of_decide_eq_true h1) h2 (ihP h3.2) h3.1
      · cases h
    | asgT is e' =>
      simp only [Bool.and_eq_true, Bool.not_eq_true'] at h
      obtain ⟨nh, h⟩ := h
      split at h
      · simp only [Bool.and_eq_true, Bool.not_eq_true'] at h
        exact st_asgT xs nh h.1.1.1 (ihP h.2) h.1.1.2 h.1.2
      · cases h
    | par i j a b =>
      simp only [Bool.and_eq_true, Bool.not_eq_true'] at h
      obtain ⟨nh, h⟩ := h
      split at h
      · simp only [Bool.and_eq_true] at h
        obtain ⟨⟨⟨⟨⟨⟨⟨⟨⟨⟨h1, h2⟩, h3⟩, h4⟩, h5⟩, h6⟩, h7⟩, h8⟩, h9⟩, ha⟩, hb⟩ := h
        exact st_par xs nh (of_decide_eq_true h1) (of_decide_eq_true h2) (of_decide_eq_true h3) (of_decide_eq_true h4) (by simpa using h5) (by simpa using h6) h7 (by simpa using h8) (by simpa using h9) (chE_ns ha).1 (chE_ns hb).1 (ihP ha) (ihP hb)
      · cases h
    | setIx o i e' =>
      simp only at h
      split at h
      · simp only [Bool.and_eq_true] at h
        exact st_setIx xs (ihP h.1.1.2) (ihP h.1.2) (ihP h.2) (chE_ns h.2).2.1 h.1.1.1
      · cases h
    | ite c a b =>
      simp only at h
      split at h
      · simp only [Bool.and_eq_true] at h
        exact st_if (ihT h.1.1.1 h.1.1.2) (ih h.1.2) (ih h.2)
      · cases h
    | «for» tg ik its body =>
      simp only [Bool.and_eq_true, Bool.not_eq_true'] at h
      obtain ⟨nh, h⟩ := h
      split at h
      · simp only [Bool.and_eq_true] at h
        exact st_for xs nh (i_of xs.toXO (fun e e' q => ⟨(chE_ns q).1, ihP q⟩) h.1.2) (pg_of xs.nN (xs.calm nh) xs.hK (tg_of xs.hN xs.loc h.1.1)) (ih h.2) (fold_ok (chI_ok h.1.2))
      · cases h
    | whl c body =>
      simp only [Bool.and_eq_true, Bool.not_eq_true'] at h
      obtain ⟨nh, h⟩ := h
      split at h
      · simp only [Bool.and_eq_true] at h
        exact st_whl xs nh (ihT h.1.1 h.1.2) (ih h.2)
      · cases h
    | brk =>
      simp only at h
      split at h
      · exact PSimp ps_break fun D σ H ⟨env, S, DW, he, hs, h, k⟩ => k.bk env S σ H he hs (Fr.refl _ _) (by simpa only [wS] using h)
      · cases h
    | cnt =>
      simp only at h
      split at h
      · exact PSimp ps_continue fun D σ H ⟨env, S, DW, he, hs, h, k⟩ => k.ct env S σ H he hs (Fr.refl _ _) (by simpa only [wS] using h)
      · cases h
    | fldS cs o f e' =>
      simp only at h
      split at h
      · simp only [Bool.and_eq_true] at h
        obtain ⟨⟨⟨⟨h1, h2⟩, h3⟩, h4⟩, h5⟩ := h
        have e1 := of_decide_eq_true h1
        subst e1
        exact st_fldS xs h3 (ihP h4) (ihP h5) h2
      · cases h
    | augF cs o f e' => cases h
    | rse c fs es' =>
      simp only [Bool.and_eq_true, Bool.not_eq_true'] at h
      obtain ⟨nh, h⟩ := h
      split at h
      · simp only [Bool.and_eq_true] at h
        obtain ⟨⟨⟨h1, h2⟩, h3⟩, h4⟩ := h
        have h3 := of_decide_eq_true h3
        cases fs with
        | nil => exact st_rseT xs nh h1 h2 h3 h4
        | cons f fs =>
          simp only [Bool.and_eq_true] at h4
          exact st_rseI xs nh (by simp) h1 h2 h3 (ne_nil h4.1.1) (chL_ns h4.2) (pa_of xs.toXO (fun e e' q => ⟨(chE_ns q).1, ihP q⟩) h4.2)
      · cases h
    | trys body hs orelse =>
      simp only [Bool.and_eq_true, Bool.not_eq_true'] at h
      obtain ⟨nh, h⟩ := h
      split at h
      · simp only [Bool.and_eq_true] at h
        obtain ⟨⟨⟨h1, h2⟩, h3⟩, h4⟩ := h
        obtain ⟨l, k1, k2⟩ := hc_of xs (ch := fun s s' => chS N { G with hot := true } n sc s s') (fun a pn ss ss' q => ih0 (xs_suite xs a pn) q) h4
        exact st_trys xs (ne_nil h1) (fun W pn xe tk hp => ih0 (xs_tr xs tk hp) h2) (ih h3) k1 k2
      · cases h
end
end Bw

/-! Ev15: the defs of a text keep what wF says. -/
namespace Bw
open PySem L2 PySem.Spec PyProof.Rows
/-- a def, as it stands in the written part; dV: its defaults -/
structure FunY (K : PySem.W.Frag) (x qual : Str) (st : Stmt) (f : Addr) (fd : FuncData) : Prop where
  ex : ∃ (oc : Value) (od : Option Addr) (dV kV doc pm : Value) (an : Option Addr) (cdv ct : Value) (osl : Array (Option Value)),
    fd = PySem.W.fnOf x qual (defArgs st) (defBody st) (defScope st) dV kV doc pm an cdv ct ∧ K.lookup f = some ⟨oc, od, .func fd, osl⟩ ∧ PySem.W.codeIn K cdv qual = true
structure DD where
  x : Str
  qual : Str
  st : Stmt
  N : List Str
  ps : List Str
structure FnC (Γ : Gm) (G : GT) (i : Nat) (dd : DD) (d : FD) (fd : FuncData) : Prop where
  F : FunY Γ.K dd.x dd.qual dd.st (Γ.fa i) fd
  S : FnScope dd.N dd.ps (defScope dd.st)
  ar : d.ar = dd.ps.length
  sl : d.slots = dd.N.length
  ch : chL (chS dd.N G 60 (defScope dd.st)) (defBody dd.st) d.body = true
  b : Binds Γ.K fd dd.ps []
def NmW (mg : Str → Option Value) (y : Str) (D : Value) : Prop := mg y = some D ∧ (∃ a, D = .ref a) ∨ mg y = none ∧ ∃ n, D = .type n ∧ bootBuiltins y = some D ∧ y ≠ ("__name__" : Str)
structure Wd (Γ : Gm) (G : GT) (T : Nat → Option FD) (P : Program) (w : World) (base : Heap) (mg : Str → Option Value) (dd : Nat → DD) (fd : Nat → FuncData) : Prop where
  hot : G.hot = false
  fns : ∀ i d, T i = some d → FnC Γ G i (dd i) d (fd i)
  fnv : ∀ x f ar, (x, f, ar) ∈ G.fns → (∃ d, T f = some d) ∧ mg x = some (.ref (Γ.fa f)) ∧ PySem.W.keepIn Γ.K (.ref (Γ.fa f)) = true
  dfl : ∀ x f ar ws, (x, f, ar) ∈ G.fns → G.dfl.lookup x = some ws → ∀ m, m ≤ ws.length → ∃ dvs ds, Binds Γ.K (fd f) (dd f).ps ds ∧ Vals dvs ds ∧ ∀ S H, reps Γ S H (ws.drop (ws.length - m)) dvs
  bi : ∀ x, G.bis.contains x = true → mg x = none
  con : ∀ x w, G.cons.lookup x = some w → ∃ v u, mg x = some u ∧ RelV v u ∧ ∀ S H, rep Γ S H w v
  tab : ∀ x kvs, G.tabs.lookup x = some kvs → ∃ p, mg x = some (.ref p) ∧ ∀ k w', kvs.lookup k = some w' → ∃ v, KDct Γ.K w p ⟨k.toArray⟩ v ∧ ∀ S H, rep Γ S H w' v
  cls : ∀ x c fi, G.cls.lookup x = some (c, fi) → (∃ d, T fi = some d) ∧ Mk Γ.K (Γ.ca c) (Γ.fa fi) ∧ mg x = some (.ref (Γ.ca c)) ∧ InsC Γ.K (Γ.ca c)
  mth : ∀ m tb c f, G.mth.lookup m = some tb → tb.lookup c = some f → (∃ d, T f = some d) ∧ Meth Γ.K (Γ.ca c) (sZ m) (Γ.fa f)
  fld : ∀ c fs f, G.fld.lookup c = some fs → f ∈ fs → NoAttr Γ.K (Γ.ca c) (sZ f)
  xcl : ∀ x c, G.xcl.lookup x = some (c, []) → PySem.W.excIn Γ.K (Γ.ca c) [.type "ValueError", .type "Exception", .type "BaseException", .type "object"] "ValueError.__new__" = true ∧ mg x = some (.ref (Γ.ca c)) ∧ PySem.W.keepIn Γ.K (.ref (Γ.ca c)) = true ∧
    PySem.W.subIn Γ.K (.ref (Γ.ca c)) (.type "BaseException") = some true ∧ PySem.W.typeIn Γ.K (.ref (Γ.ca c)) = some (.type "type") ∧ XkC Γ.K (Γ.ca c)
  xin : ∀ x c fs, G.xcl.lookup x = some (c, fs) → fs ≠ [] → ∃ (ve : Bool) (fI : Addr) (fd : FuncData) (ps : List Str), OxC Γ.K (Γ.ca c) ve ∧ PySem.W.findIn Γ.K (.ref (Γ.ca c)) "__init__" = some (some (.ref fI)) ∧ PySem.W.typeIn Γ.K (.ref fI) = some (.type "function") ∧
    FnOk P w Γ.K mg base (L2.CX P w) 1 fI fd ps (spI (Γ.ca c) fs) ∧ Binds Γ.K fd ps [] ∧ mg x = some (.ref (Γ.ca c)) ∧ XkC Γ.K (Γ.ca c) ∧ ∀ f ∈ fs, PySem.W.findIn Γ.K (.ref (Γ.ca c)) (sZ f) = some none
  isC : ∀ y yes no, G.isC.lookup y = some (yes, no) → ∃ D, NmW mg y D ∧ (∀ c ∈ yes, PySem.W.kitOne Γ.K (.ref (Γ.ca c)) D = some true) ∧ (∀ c ∈ no, PySem.W.kitOne Γ.K (.ref (Γ.ca c)) D = some false) ∧ ∀ n ∈ ["NoneType", "bool", "int"], PySem.W.kitOne Γ.K (.type n) D = some false
  exm : ∀ x yes no, G.exm.lookup x = some (yes, no) → ∃ cv, (mg x = some cv ∨ (mg x = none ∧ bootBuiltins x = some cv ∧ x ≠ ("__name__" : Str))) ∧ (∀ c ∈ yes, PySem.W.exmOne Γ.K (.ref (Γ.ca c)) cv = some true) ∧ ∀ c ∈ no, PySem.W.exmOne Γ.K (.ref (Γ.ca c)) cv = some false
section
variable {Γ : Gm} {S S' : Sto} {H H' : Hp}
theorem xrep.fr {x : Xn} {cls : Value} {d : Option Addr} (f : Fr S H S' H') (r : xrep Γ S H x cls d) : xrep Γ S' H' x cls d := by
  obtain ⟨e, l, vs, xd, rr⟩ := r
  exact ⟨e, l, vs, xd.fr0 f.1, reps.fr f _ _ rr⟩
theorem env_start {N : List Str} {ws : List W} {vs : List V} {d : FD} (r : reps Γ S H ws vs) (h : d.slots = N.length) : envR Γ S H (entry d ws) (L2.start N vs) := by
  unfold entry L2.start
  refine ⟨by simp [r.len, h], fun i w e => ?_⟩
  by_cases hi : i < ws.length
  · rw [List.getElem?_append_left (by simpa using hi)] at e
    obtain ⟨v, e1, e2⟩ := r.getS e
    exact ⟨v, by rw [List.getElem?_append_left (by simpa [← r.len] using hi)]; exact e1, e2⟩
  · rw [List.getElem?_append_right (by simpa using hi)] at e
    rw [List.getElem?_replicate] at e
    split at e <;> cases e
theorem kd_of {Q : VK} {E : XK} {QW : VQ} {XW : XQ} (k : KQ Γ S H QW Q) (kx : KX Γ S H XW E) : KD Γ (fun cls d _ H => E cls d H) S H (dnOf QW XW) { nx := fun _ H' => Q .non H', rt := Q } where
  nx := fun env' S1 σ' H1 he hs f ⟨S2, sb, q⟩ => k .non S2 .non H1 rfl (hs.sub sb) (f.trans (Fr.sub sb)) q
  rt := fun w S1 v H1 r hs f ⟨w', S2, z, q⟩ => by
    obtain ⟨r2, s2, f2⟩ := z.rep hs r
    exact k w' S2 v H1 r2 s2 (f.trans f2) q
  bk := fun _ _ _ _ _ _ _ q => q.elim
  ct := fun _ _ _ _ _ _ _ q => q.elim
  xc := fun x env' S1 cls d σ' H1 r he hs f ⟨S2, sb, q⟩ => kx x S2 cls d H1 (r.fr (Fr.sub sb)) (hs.sub sb) (f.trans (Fr.sub sb)) q
end
section
variable {Γ : Gm} {G : GT} {T : Nat → Option FD} {w : World} {mg : Str → Option Value} {dd : Nat → DD} {fd : Nat → FuncData} {P : Program} {base : Heap}
theorem FunY.ok {K : PySem.W.Frag} {x qual : Str} {st : Stmt} {f : Addr} {fd : FuncData} {N ps : List Str} {k : Nat} {sp : Sp} (F : FunY K x qual st f fd) (S : FnScope N ps (defScope st)) (len : ∀ vs H Q E, sp vs H Q E → vs.length = ps.length)
    (hbody : ∀ (cdv : Value) (A : Around) (outer : List PySem.Env) (s : Shared) (H : Hp) (vs : List V) (Q : VK) (E : XK), Room k (A.deeper (envOfC qual (defScope st) s.heap.objs.size f cdv)) → sp vs H Q E →
      ∃ t, PSs (cxOf (L2.CX P w) P w K mg base N qual (defScope st) f cdv A outer s H E) (defBody st) t ∧ t { nx := fun _ H' => Q .non H', rt := Q } (L2.start N vs) H) : FnOk P w K mg base (L2.CX P w) (k + 1) f fd ps sp := by
  obtain ⟨oc, od, dV, kV, doc, pm, an, cdv, ct, osl, rfl, lk, hcd⟩ := F.ex
  exact fn_of lk hcd S len fun A outer s H vs Q E hr hsp => hbody cdv A outer s H vs Q E hr hsp
theorem fn_ok (wd : Wd Γ G T P w base mg dd fd) : ∀ (n i : Nat) (d : FD), T i = some d → FnOk P w Γ.K mg base (L2.CX P w) (2 * n + 4) (Γ.fa i) (fd i) (dd i).ps (spF Γ (wF T n) i)
  | 0, i, d, h => ⟨fun vs H Q E q => by obtain ⟨ws, S, QW, XW, r, sr, c, _⟩ := q; exact (show False from c).elim, fun A outer s H args us vs Q E _ _ _ _ q => by obtain ⟨ws, S, QW, XW, r, sr, c, _⟩ := q; exact (show False from c).elim⟩
  | n + 1, i, d, h => by
    have c := wd.fns i d h
    refine c.F.ok (k := 2 * n + 5) c.S (fun vs H Q E q => ?_) (fun cdv A outer s H vs Q E hr q => ?_)
    · obtain ⟨ws, S, QW, XW, r, sr, c2, _⟩ := q
      obtain ⟨d', e, hl, _⟩ := wSome_el (show wSome (T i) _ from c2)
      rw [h] at e
      cases e
      rw [← r.len, hl, c.ar]
    · obtain ⟨ws, S, QW, XW, r, sr, c2, k, kx⟩ := q
      obtain ⟨d', e, hl, hb⟩ := wSome_el (show wSome (T i) (fun d => ws.length = d.ar ∧ wSs (wF T n) d.body (entry d ws) S (dnOf QW XW)) from c2)
      rw [h] at e
      cases e
      have xs : XS Γ G (wF T n) (dd i).N (defScope (dd i).st) (fun cls d _ H => E cls d H) (cxOf (L2.CX P w) P w Γ.K mg base (dd i).N (dd i).qual (defScope (dd i).st) (Γ.fa i) cdv A outer s H E) := {
        hN := rfl
        nd := c.S.nd
        hsc := rfl
        calm := fun _ => rfl
        hK := rfl
        tk := takes_of rfl rfl rfl rfl
        un := hr.units
        bi := wd.bi
        con := wd.con
        fn := fun x f ar _ e => by
          obtain ⟨⟨d2, h2⟩, hm, hk⟩ := wd.fnv x f ar e
          have c3 := wd.fns f d2 h2
          exact ⟨2 * n + 4, fd f, (dd f).ps, fn_ok wd n f d2 h2, hr.mono (by omega), hk, c3.b, fun ws q => wd.dfl x f ar ws e q⟩
        fnv := fun x f ar e => (wd.fnv x f ar e).2.1
        cls := fun x c fi _ e => by
          obtain ⟨⟨d2, h2⟩, hM, hm, hi⟩ := wd.cls x c fi e
          exact ⟨2 * n + 4, fd fi, (dd fi).ps, fn_ok wd n fi d2 h2, (wd.fns fi d2 h2).b, hr, hM, hm, hi⟩
        xcl := fun x c _ e => wd.xcl x c e
        mth := fun m tb c f _ e1 e2 => by
          obtain ⟨⟨d2, h2⟩, hm⟩ := wd.mth m tb c f e1 e2
          exact ⟨2 * n + 4, ⟨fd f, (dd f).ps, fn_ok wd n f d2 h2, (wd.fns f d2 h2).b⟩, hr.mono (by omega), hm⟩
        fld := wd.fld
        isC := wd.isC
        tab := wd.tab
        hp := fun _ => passes_of rfl
        fnT := fun _ => rfl
        kd := c.S.kind
        st := rfl
        fm := rfl
        xin := fun x c fs _ e ne => by
          obtain ⟨ve, fI, fd, ps, T, iC, tI, F, hb, hm, xk, hn⟩ := wd.xin x c fs e ne
          exact ⟨ve, 1, fI, fd, ps, T, iC, tI, F, hr.mono (by omega), hb, hm, xk, hn⟩
        exm := wd.exm }
      exact ⟨_, ss_of (fun s s' q => sndS 60 xs q) c.ch, entry d ws, S, dnOf QW XW, env_start r c.sl, sr, hb, kd_of k kx⟩
/-! ### an exception's __init__ -/
section
variable {X : Cx} {N : List Str} {sc : Scope} {C : Addr} {ve : Bool}
end
/-- what law(script) promises -/
def spL (K : PySem.W.Frag) : Sp := fun vs H Q _ => ∃ (a : Addr) (ns : List Int), vs = [.ref a] ∧ SqL K H a (ns.map V.int) ∧ ns.length ≤ 63 ∧ (∀ z ∈ ns, Builtin.Int.intBits z ≤ 1048576) ∧ ∀ H', Q (.bl true) H'
theorem ints_reps {S : Sto} {H : Hp} : ∀ (ns : List Int), reps Γ S H (ns.map W.int) (ns.map V.int)
  | [] => rfl
  | n :: ns => ⟨_, _, rfl, rfl, ints_reps ns⟩
theorem law_end (wd : Wd Γ G T P w base mg dd fd) {n li : Nat} {d : FD} (h : T li = some d) (m : ∀ ns : List Int, ns.length ≤ 63 → (∀ z ∈ ns, Builtin.Int.intBits z ≤ 1048576) → wF T n li [.sc (ns.map W.int)] (fun _ => none) (fun w _ => w = .bl true) (fun _ _ => False)) :
    FnOk P w Γ.K mg base (L2.CX P w) (2 * n + 4) (Γ.fa li) (fd li) (dd li).ps (spL Γ.K) := by
  refine (fn_ok wd n li d h).imp fun vs H Q E q => ?_
  obtain ⟨a, ns, rfl, hS, hl, hb, q⟩ := q
  refine ⟨[.sc (ns.map W.int)], fun _ => none, _, _, reps.one ⟨a, ns.map V.int, rfl, ?_, ints_reps ns⟩, fun a o e => (by cases e), m ns hl hb, fun w S' v H' r s f e => ?_, fun _ _ _ _ _ _ _ _ q => q.elim⟩
  · rcases hS with hS | hS
    · exact .inl ⟨rfl, hS⟩
    · exact .inr hS
  · subst e
    cases r
    exact q H'
end
end Bw

/-! Ev15b: words for the head: classes. -/
namespace Bw
open PySem L2 PySem.Spec PyProof.Rows
theorem _root_.L2.Fun.y {K : PySem.W.Frag} {x qual : Str} {st : Stmt} {f : Addr} {fd : FuncData} (F : Fun K x qual st f fd) : FunY K x qual st f fd := by
  obtain ⟨oc, od, kV, doc, pm, an, cdv, ct, osl, e, l, c⟩ := F.ex
  exact ⟨⟨oc, od, .none, kV, doc, pm, an, cdv, ct, osl, e, l, c⟩⟩
section
variable {K : PySem.W.Frag} {A B : Addr} {b : Bool}
end
end Bw

/-! Ev16: small words for a law's head. -/
namespace Bw
open PySem L2 PySem.Spec PyProof.Rows
inductive AllL {α : Type} (φ : α → Prop) : List α → Prop
  | nil : AllL φ []
  | cons {a : α} {l : List α} : φ a → AllL φ l → AllL φ (a :: l)
theorem AllL.mem {α : Type} {φ : α → Prop} {l : List α} (h : AllL φ l) {a : α} (m : a ∈ l) : φ a := by
  induction h with
  | nil => cases m
  | cons q _ ih =>
    rcases List.mem_cons.mp m with rfl | m
    · exact q
    · exact ih m
theorem mem_of_lookupN {α : Type} : ∀ {l : List (List Nat × α)} {n : List Nat} {c : α}, l.lookup n = some c → (n, c) ∈ l
  | [], _, _, h => by cases h
  | (k, v) :: r, n, c, h => by
    rw [List.lookup_cons] at h
    cases q : n == k with
    | true =>
      rw [q] at h
      cases h
      rw [beq_iff_eq] at q
      subst q
      exact List.mem_cons_self
    | false =>
      rw [q] at h
      exact List.mem_cons_of_mem _ (mem_of_lookupN h)
end Bw

/-! Ev17: words for reading wF: comprehensions, loops, returns. -/
namespace Bw
open PySem (sizeLine)
theorem set_del {S : Sto} {D : PySem.Addr} {o : O} (h : S D = none) : (S.set D o).del D = S := by
  funext b
  unfold Sto.set Sto.del
  by_cases e : b = D
  · rw [if_pos e, e, h]
  · rw [if_neg e]; simp only [if_neg e]
theorem liveS_set {D : PySem.Addr} {o : O} : ∀ {lk : Lk} {S : Sto}, liveS lk S → S D = none → liveS lk (S.set D o)
  | [], _, _, _ => trivial
  | p :: r, S, h, e => ⟨by
    have n : p.1 ≠ D := fun z => by have q := h.1; rw [z, e] at q; cases q
    rw [Sto.set_ne n]
    exact h.1, liveS_set h.2 e⟩
theorem forI {lk : Lk} {tg : Tg} {body : Env → Sto → Dn → Prop} {D : Dn} (I : Nat → Env → Sto → Prop) : ∀ {items : List W} {env : Env} {S : Sto} (k : Nat), I k env S →
    (∀ i env S, i ≤ k + items.length → I i env S → liveS lk S) →
    (∀ i w env S (nx : Env → Sto → Prop), items[i]? = some w → I (k + i) env S → (∀ e S', I (k + i + 1) e S' → nx e S') → wSome (bindTg tg w env) fun env' => body env' S { D with nx := nx, ct := nx, bk := D.nx }) →
    (∀ env S, I (k + items.length) env S → D.nx env S) → wFor lk tg body items env S D
  | [], env, S, k, h, hl, step, fin => ⟨hl k env S (Nat.le_refl _) h, fin env S h⟩
  | w :: ws, env, S, k, h, hl, step, fin => ⟨hl k env S (Nat.le_add_right _ _) h, step 0 w env S _ rfl h fun e S' h' => forI I (k + 1) h' (fun i env S hi => hl i env S (by rw [List.length_cons]; omega))
      (fun i w env S nx e hI hn => step (i + 1) w env S nx e (by rw [show k + (i + 1) = k + 1 + i by omega]; exact hI) (fun e' S'' z => hn e' S'' (by rw [show k + 1 + i + 1 = k + (i + 1) + 1 by omega]; exact z)))
      (fun env S z => fin env S (by rw [List.length_cons, show k + (ws.length + 1) = k + 1 + ws.length by omega]; exact z))⟩
/-! ### returns -/
theorem Sub.refl (S : Sto) : Sub S S := ⟨fun _ _ h => h, fun _ h => h⟩
theorem Sub.trans {S S1 S2 : Sto} (a : Sub S S1) (b : Sub S1 S2) : Sub S S2 := ⟨fun p o h => b.1 p o (a.1 p o h), fun p h => a.2 p (b.2 p h)⟩
theorem Sub.set {S : Sto} {p : PySem.Addr} {ws : List W} (h : S p = none) : Sub S (S.set p (.lst ws)) := by
  refine ⟨fun a o e => ?_, fun a e => ?_⟩
  · have n : a ≠ p := fun z => by rw [z, h] at e; cases e
    rw [Sto.set_ne n]; exact e
  · by_cases n : a = p
    · subst n; rw [Sto.set_same] at e; cases e
    · rw [Sto.set_ne n] at e; exact e
theorem rt0 {S : Sto} {w : W} {Q : VQ} (q : Q w S) : ∃ w' S', Fz S w w' S' ∧ Q w' S' := ⟨w, S, ⟨Sub.refl S, .inl rfl⟩, q⟩
theorem rtG {S S0 : Sto} {w : W} {Q : VQ} (s : Sub S0 S) (q : Q w S0) : ∃ w' S', Fz S w w' S' ∧ Q w' S' := ⟨w, S0, ⟨s, .inl rfl⟩, q⟩
/-- a list of one's own is given back: known by content from here on -/
theorem rtL {S S0 : Sto} {a : PySem.Addr} {ws : List W} {Q : VQ} (s : Sub S0 S) (e : S a = some (.lst ws)) (e0 : S0 a = none) (q : Q (.rl ws) S0) : ∃ w' S', Fz S (.ref a) w' S' ∧ Q w' S' := ⟨.rl ws, S0, ⟨s, .inr ⟨a, rfl, e0, .inl ⟨ws, e, rfl⟩⟩⟩, q⟩
/-! ### tests -/
theorem wB_t {t f : Prop} : wB (.bl true) t f = t := rfl
theorem wB_f {t f : Prop} : wB (.bl false) t f = f := rfl
theorem wB_if {b : Bool} {t f : Prop} (ht : b = true → t) (hf : b = false → f) : wB (.bl b) t f := by
  cases b
  · exact hf rfl
  · exact ht rfl
theorem wB_dec {p : Prop} [Decidable p] {t f : Prop} (ht : p → t) (hf : ¬ p → f) : wB (.bl (decide p)) t f := by
  by_cases h : p
  · rw [decide_eq_true h]; exact ht h
  · rw [decide_eq_false h]; exact hf h
theorem wSome_s {α : Type} {x : α} {P : α → Prop} : wSome (some x) P = P x := rfl
theorem wWalk_s {p : List W × Lk} {P : List W → Lk → Prop} : wWalk (some p) P = P p.1 p.2 := rfl
/-! ### places, cuts -/
theorem cut_to {α : Type} {xs : List α} {k : Nat} : cutW xs none (some (k : Int)) = xs.take k := by
  unfold cutW
  rw [HT.sIx_nat, HT.sIx_none, List.drop_zero, Nat.sub_zero]
  by_cases h : k ≤ xs.length
  · rw [Nat.min_eq_left h]
  · rw [Nat.min_eq_right (by omega), List.take_of_length_le (Nat.le_refl _), List.take_of_length_le (by omega)]
theorem cut_from {α : Type} {xs : List α} {k : Nat} : cutW xs (some (k : Int)) none = xs.drop k := by
  unfold cutW
  rw [HT.sIx_nat, HT.sIx_none]
  by_cases h : k ≤ xs.length
  · rw [Nat.min_eq_left h, List.take_of_length_le (by rw [List.length_drop]; omega)]
  · rw [Nat.min_eq_right (by omega), List.drop_of_length_le (Nat.le_refl _), List.drop_of_length_le (by omega)]; simp
theorem cut_mid {α : Type} {xs : List α} {a b : Nat} : cutW xs (some (a : Int)) (some (b : Int)) = (xs.drop a).take (b - a) := by
  unfold cutW
  rw [HT.sIx_nat, HT.sIx_nat]
  by_cases h : a ≤ xs.length
  · rw [Nat.min_eq_left h]
    by_cases h2 : b ≤ xs.length
    · rw [Nat.min_eq_left h2]
    · rw [Nat.min_eq_right (by omega), List.take_of_length_le (by rw [List.length_drop]; omega), List.take_of_length_le (by rw [List.length_drop]; omega)]
  · have e : xs.drop a = [] := List.drop_of_length_le (by omega)
    rw [Nat.min_eq_right (show xs.length ≤ a by omega), List.drop_of_length_le (Nat.le_refl _), e]; simp
theorem cut1 {α : Type} {xs : List α} : cutW xs (some 1) none = xs.drop 1 := cut_from (k := 1)
theorem cut01 {α : Type} {xs : List α} : cutW xs none (some 1) = xs.take 1 := cut_to (k := 1)
theorem at_nat {α : Type} {xs : List α} {k : Nat} (h : k < xs.length) : atW xs (k : Int) = xs[k]? := by
  unfold atW ixW
  rw [if_pos (by omega), if_pos (by omega)]
  rfl
theorem at0 {α : Type} {x : α} {xs : List α} : atW (x :: xs) 0 = some x := by
  have := at_nat (xs := x :: xs) (k := 0) (by simp)
  simpa using this
theorem at1 {α : Type} {x y : α} {xs : List α} : atW (x :: y :: xs) 1 = some y := by
  have := at_nat (xs := x :: y :: xs) (k := 1) (by simp)
  simpa using this
theorem at2 {α : Type} {x y z : α} {xs : List α} : atW (x :: y :: z :: xs) 2 = some z := by
  have := at_nat (xs := x :: y :: z :: xs) (k := 2) (by simp)
  simpa using this
theorem at3 {α : Type} {x y z u : α} {xs : List α} : atW (x :: y :: z :: u :: xs) 3 = some u := by
  have := at_nat (xs := x :: y :: z :: u :: xs) (k := 3) (by simp)
  simpa using this
theorem at_int {α : Type} {xs : List α} {i : Int} {x : α} (h0 : 0 ≤ i) (h : xs[i.toNat]? = some x) : atW xs i = some x := by
  obtain ⟨k, rfl⟩ := Int.eq_ofNat_of_zero_le h0
  have hk : k < xs.length := by
    by_cases q : k < xs.length
    · exact q
    · rw [List.getElem?_eq_none (by simpa using q)] at h; cases h
  rw [show ((k : Nat) : Int) = ((k : Nat) : Int) from rfl, at_nat hk]
  simpa using h
/-! ### a script's cells -/
def cellI (ns : List Int) (k : Int) : Int := if k < ns.length then (ns[k.toNat]?).getD 0 else 0
/-! data of one sort only: the due things of the laws -/
end Bw

/-! Ev18: equations for reading wF, by the values' heads. -/
namespace Bw
open PySem (sizeLine)
def Ret (w : W) (S : Sto) (Q : VQ) : Prop := ∃ w' S', Fz S w w' S' ∧ Q w' S'
def RetX (x : Xn) (S : Sto) (X : XQ) : Prop := ∃ S', Sub S' S ∧ X x S'
def RetN (S : Sto) (Q : VQ) : Prop := ∃ S', Sub S' S ∧ Q .non S'
theorem dn_rt {Q : VQ} {X : XQ} {w : W} {S : Sto} : (dnOf Q X).rt w S = Ret w S Q := rfl
theorem dn_nx {Q : VQ} {X : XQ} {env : Env} {S : Sto} : (dnOf Q X).nx env S = RetN S Q := rfl
theorem ret0 {S : Sto} {w : W} {Q : VQ} (q : Q w S) : Ret w S Q := rt0 q
theorem retG {S S0 : Sto} {w : W} {Q : VQ} (s : Sub S0 S) (q : Q w S0) : Ret w S Q := rtG s q
theorem retL {S S0 : Sto} {a : PySem.Addr} {ws : List W} {Q : VQ} (s : Sub S0 S) (e : S a = some (.lst ws)) (e0 : S0 a = none) (q : Q (.rl ws) S0) : Ret (.ref a) S Q := rtL s e e0 q
theorem dn_xc {Q : VQ} {X : XQ} {x : Xn} {env : Env} {S : Sto} : (dnOf Q X).xc x env S = RetX x S X := rfl
section
variable {S : Sto} {Q : VQ} {P : W → Prop} {t f : Prop} {ws us : List W} {i j l : Int} {x y : W} {a : PySem.Addr} {neg : Bool} {fz : Bool}
theorem wF_eq {T : Nat → Option FD} {n i : Nat} {d : FD} {args : List W} {X : XQ} (h : T i = some d) : wF T (n + 1) i args S Q X = (args.length = d.ar ∧ wSs (wF T n) d.body (entry d args) S (dnOf Q X)) := by
  show wSome (T i) _ = _
  rw [h]
  rfl
theorem wEq_c {b : Bool} (hx : dataW (deref S x) = true) (hy : dataW (deref S y) = true) (hd : depW (deref S y) ≤ 60) (he : eqv (deref S x) (deref S y) = b) (q : Q (.bl (b != neg)) S) : wEq neg x y S Q := by
  unfold wEq
  rw [he]
  exact ⟨hx, hy, Nat.le_trans (Nat.min_le_right _ _) hd, q⟩
theorem wTab_c {kvs : List (List Nat × W)} {k : List Nat} {w : W} (h : kvs.lookup k = some w) (q : Q w S) : wTab kvs (.str k) S Q := by
  unfold wTab
  simp only [h]
  exact q
theorem wVar_s {w : W} : wVar (some (some w)) P = P w := rfl
theorem wNon_non : wNon .non t f = t := rfl
theorem wNon_bl {b : Bool} : wNon (.bl b) t f = f := rfl
theorem wNon_int  : wNon (.int i) t f = f := rfl
theorem wNon_str {z : List Nat} : wNon (.str z) t f = f := rfl
theorem wNon_tup  : wNon (.tup ws) t f = f := rfl
theorem wNon_rl  : wNon (.rl ws) t f = f := rfl
theorem wNon_sc  : wNon (.sc ws) t f = f := rfl
theorem wNot_b {b : Bool} {P : Bool → Prop} : wNot (.bl b) P = P (!b) := rfl
theorem wI1_i {P : Int → Prop} : wI1 (.int i) P = P i := rfl
theorem wInts_i {P : Int → Int → Prop} : wInts (.int i) (.int j) P = P i j := rfl
theorem wIdx_tup : wIdx (.tup ws) (.int i) S Q = wSome (atW ws i) (fun w => Q w S) := by unfold wIdx; simp only [dicOf, seqOf, deref]; cases atW ws i <;> rfl
theorem wLen_tup : wLen (.tup ws) S Q = Q (.int ws.length) S := rfl
theorem wSl_tup0 : wSl fz (.tup ws) [] [] S Q = Q (.tup (cutW ws none none)) S := rfl
theorem wSl_tup1 : wSl fz (.tup ws) [.int i] [] S Q = Q (.tup (cutW ws (some i) none)) S := rfl
theorem wSl_tup2 : wSl fz (.tup ws) [] [.int j] S Q = Q (.tup (cutW ws none (some j))) S := rfl
theorem wSl_tup3 : wSl fz (.tup ws) [.int i] [.int j] S Q = Q (.tup (cutW ws (some i) (some j))) S := rfl
theorem walkOf_tup : walkOf S (.tup ws) = some (ws, []) := rfl
theorem seqOf_tup : seqOf S (.tup ws) = some ws := rfl
theorem deref_tup : deref S (.tup ws) = .tup ws := rfl
theorem wIdx_rl : wIdx (.rl ws) (.int i) S Q = wSome (atW ws i) (fun w => Q w S) := by unfold wIdx; simp only [dicOf, seqOf, deref]; cases atW ws i <;> rfl
theorem wLen_rl : wLen (.rl ws) S Q = Q (.int ws.length) S := rfl
theorem wSl_rl0 : wSl fz (.rl ws) [] [] S Q = mkL fz (cutW ws none none) S Q := rfl
theorem wSl_rl1 : wSl fz (.rl ws) [.int i] [] S Q = mkL fz (cutW ws (some i) none) S Q := rfl
theorem wSl_rl2 : wSl fz (.rl ws) [] [.int j] S Q = mkL fz (cutW ws none (some j)) S Q := rfl
theorem wSl_rl3 : wSl fz (.rl ws) [.int i] [.int j] S Q = mkL fz (cutW ws (some i) (some j)) S Q := rfl
theorem walkOf_rl : walkOf S (.rl ws) = some (ws, []) := rfl
theorem seqOf_rl : seqOf S (.rl ws) = some ws := rfl
theorem deref_rl : deref S (.rl ws) = .rl ws := rfl
theorem wIdx_sc : wIdx (.sc ws) (.int i) S Q = wSome (atW ws i) (fun w => Q w S) := by unfold wIdx; simp only [dicOf, seqOf, deref]; cases atW ws i <;> rfl
theorem wLen_sc : wLen (.sc ws) S Q = Q (.int ws.length) S := rfl
theorem wSl_sc0 : wSl fz (.sc ws) [] [] S Q = mkL fz (cutW ws none none) S Q := rfl
theorem wSl_sc1 : wSl fz (.sc ws) [.int i] [] S Q = mkL fz (cutW ws (some i) none) S Q := rfl
theorem wSl_sc2 : wSl fz (.sc ws) [] [.int j] S Q = mkL fz (cutW ws none (some j)) S Q := rfl
theorem wSl_sc3 : wSl fz (.sc ws) [.int i] [.int j] S Q = mkL fz (cutW ws (some i) (some j)) S Q := rfl
theorem walkOf_sc : walkOf S (.sc ws) = some (ws, []) := rfl
theorem seqOf_sc : seqOf S (.sc ws) = some ws := rfl
theorem deref_sc : deref S (.sc ws) = .sc ws := rfl
theorem walkL_rl : walkL S (.rl ws) = some (ws, []) := rfl
theorem walkL_sc : walkL S (.sc ws) = some (ws, []) := rfl
theorem deref_non : deref S .non = .non := rfl
theorem deref_bl {b : Bool} : deref S (.bl b) = .bl b := rfl
theorem deref_int : deref S (.int i) = .int i := rfl
theorem deref_str {z : List Nat} : deref S (.str z) = .str z := rfl
theorem lstOf_rl : lstOf S (.rl ws) = some ws := rfl
theorem deref_rf (h : S a = some (.lst ws)) : deref S (.ref a) = .rl ws := by simp only [deref, h]
theorem wIdx_ref (h : S a = some (.lst ws)) : wIdx (.ref a) (.int i) S Q = wSome (atW ws i) (fun w => Q w S) := by unfold wIdx; simp only [dicOf, seqOf, deref, h]; cases atW ws i <;> rfl
theorem wLen_ref (h : S a = some (.lst ws)) : wLen (.ref a) S Q = Q (.int ws.length) S := by simp only [wLen, dicOf, seqOf, deref, h]; rfl
theorem wLen_dic {ks : List Ky} (h : S a = some (.dic ks ws)) : wLen (.ref a) S Q = Q (.int ks.length) S := by simp only [wLen, dicOf, h]
theorem seqOf_ref (h : S a = some (.lst ws)) : seqOf S (.ref a) = some ws := by simp only [seqOf, deref, h]
theorem lstOf_ref (h : S a = some (.lst ws)) : lstOf S (.ref a) = some ws := by simp only [lstOf, deref, h]
theorem wApp_ref {w : W} (h : S a = some (.lst ws)) : wApp (.ref a) w S Q = (ws.length < sizeLine ∧ Q .non (S.set a (.lst (ws ++ [w])))) := by simp only [wApp, h]
theorem wPop_ref {w : W} (h : S a = some (.lst (ws ++ [w]))) : wPop (.ref a) S Q = Q w (S.set a (.lst ws)) := by simp only [wPop, h, List.getLast?_concat, List.dropLast_concat]
theorem wLen_str {z : List Nat} : wLen (.str z) S Q = (z.length ≤ sizeLine ∧ Q (.int z.length) S) := rfl
theorem optI0 : optInt [] = some none := rfl
theorem optI1 : optInt [.int i] = some (some i) := rfl
theorem optS0 : (optInt []).isSome = true := rfl
theorem optS1 : (optInt [.int i]).isSome = true := rfl
theorem mkL_t : mkL true ws S Q = Q (.rl ws) S := rfl
theorem mkL_f : mkL false ws S Q = ∀ p, S p = none → Q (.ref p) (S.set p (.lst ws)) := rfl
theorem wEq_i : wEq neg (.int i) (.int j) S Q = Q (.bl ((i == j) != neg)) S := by simp [wEq, deref, dataW, depW, eqv]
theorem wEq_s {z u : List Nat} : wEq neg (.str z) (.str u) S Q = Q (.bl ((z == u) != neg)) S := by simp [wEq, deref, dataW, depW, eqv]
theorem wEq_b {b c : Bool} : wEq neg (.bl b) (.bl c) S Q = Q (.bl ((b == c) != neg)) S := by simp [wEq, deref, dataW, depW, eqv]
theorem wAdd_i : wAdd fz (.int i) (.int j) S Q = Q (.int (i + j)) S := rfl
theorem wAdd_s {z u : List Nat} : wAdd fz (.str z) (.str u) S Q = (z.length + u.length ≤ sizeLine ∧ Q (.str (z ++ u)) S) := rfl
theorem wAdd_t : wAdd fz (.tup ws) (.tup us) S Q = (ws.length + us.length ≤ sizeLine ∧ Q (.tup (ws ++ us)) S) := rfl
theorem wAdd_l {A B : List W} (hx : lstOf S x = some A) (hy : lstOf S y = some B) (q : A.length + B.length ≤ sizeLine ∧ mkL fz (A ++ B) S Q) : wAdd fz x y S Q := by
  unfold wAdd
  split
  · cases hx
  · cases hx
  · cases hx
  · rw [hx, hy]; exact q
theorem wBin_add : wBin (.add fz) x y S Q = (wAdd fz x y S Q) := rfl
theorem wBin_sub : wBin (.sub) x y S Q = (wInts x y fun i j => Q (.int (i - j)) S) := rfl
theorem wBin_fdiv : wBin (.fdiv) x y S Q = (wInts x y fun i j => (0 < j ∧ j.natAbs.log2 < 9000) ∧ Q (.int (i / j)) S) := rfl
theorem wBin_mod : wBin (.mod) x y S Q = (wInts x y fun i j => 0 < j ∧ Q (.int (i % j)) S) := rfl
theorem wBin_pow : wBin (.pow) x y S Q = (wInts x y fun i j => L2.CPow i j ∧ Q (.int (i ^ j.toNat)) S) := rfl
theorem wMeb_count {z : List Nat} : wMeb .count x [.str z] S Q = wSome ((lstOf S x).bind strsOf) (fun zs => Q (.int ((zs.countP (· == z) : Nat) : Int)) S) := rfl
theorem wMeb_index {z : List Nat} : wMeb .index x [.str z] S Q = wSome ((lstOf S x).bind strsOf) (fun zs => wSome (ixOf z zs) fun i => Q (.int (i : Nat)) S) := rfl
theorem wMeb_dget1 : wMeb .dget1 x [y] S Q = wSome (dicOf S x) (fun p => wSome (kyOf y) fun k => Q ((lookD p.1 p.2 k).getD .non) S) := rfl
theorem wMeb_dget2 {d : W} : wMeb .dget2 x [y, d] S Q = wSome (dicOf S x) (fun p => wSome (kyOf y) fun k => Q ((lookD p.1 p.2 k).getD d) S) := rfl
theorem wMeb_dcopy : wMeb .dcopy x [] S Q = wSome (dicOf S x) (fun p => ∀ a, S a = none → Q (.ref a) (S.set a (.dic p.1 p.2))) := by unfold wMeb; simp
theorem recv_count : recvOf .count S x = (lstOf S x).isSome := rfl
theorem recv_index : recvOf .index S x = (lstOf S x).isSome := rfl
theorem recv_dget1 : recvOf .dget1 S x = (dicOf S x).isSome := rfl
theorem recv_dget2 : recvOf .dget2 S x = (dicOf S x).isSome := rfl
theorem recv_dcopy : recvOf .dcopy S x = (dicOf S x).isSome := rfl
theorem dicOf_dct {ks : List Ky} : dicOf S (.dct ks ws) = some (ks, ws) := rfl
theorem kyOf_int : kyOf (.int i) = some (.inl i) := rfl
theorem kyOf_str {z : List Nat} : kyOf (.str z) = some (.inr z) := rfl
theorem wIdx_dct {ks : List Ky} : wIdx (.dct ks ws) y S Q = wSome (kyOf y) (fun k => wSome (lookD ks ws k) fun w => Q w S) := by
  show (match kyOf y with | some k => (match lookD ks ws k with | some w => Q w S | none => False) | none => False) = _
  cases kyOf y with
  | none => rfl
  | some k => show (match lookD ks ws k with | some w => Q w S | none => False) = _; cases h : lookD ks ws k <;> simp only [wSome, h]
theorem wIn_dct {ks : List Ky} : wIn neg x (.dct ks ws) S Q = wSome (kyOf x) (fun k => Q (.bl ((lookD ks ws k).isSome != neg)) S) := by
  show (match kyOf x with | some k => Q (.bl ((lookD ks ws k).isSome != neg)) S | none => False) = _
  cases kyOf x <;> rfl
theorem fld_obj {c : Nat} {ks : List (List Nat)} : fldOf S (.obj c ks ws) = some (c, ks, ws) := rfl
theorem fld_exn {c : Nat} {ks : List (List Nat)} : fldOf S (.exn c ks ws) = some (c, ks, ws) := rfl
theorem obj_obj {c : Nat} {ks : List (List Nat)} : objOf S (.obj c ks ws) = some (c, ks, ws) := rfl
theorem isCW_non {yes no : List Nat} : isCW yes no S .non = some false := rfl
theorem isCW_bl {yes no : List Nat} {b : Bool} : isCW yes no S (.bl b) = some false := rfl
theorem isCW_int {yes no : List Nat} : isCW yes no S (.int i) = some false := rfl
theorem isCW_exn {yes no : List Nat} {c : Nat} {ks : List (List Nat)} : isCW yes no S (.exn c ks ws) = if c ∈ yes then some true else if c ∈ no then some false else none := rfl
theorem bindH_n {x : Xn} {env : Env} : bindH none x env = env := rfl
theorem bindH_s {k : Nat} {x : Xn} {env : Env} : bindH (some k) x env = env.set k (some (.exn x.c x.ks x.ws)) := rfl
theorem goneH_n {env : Env} : goneH none env = env := rfl
theorem goneH_s {k : Nat} {env : Env} : goneH (some k) env = env.set k none := rfl
theorem sutD_nx {nm : Option Nat} {D : Dn} {e : Env} : (sutD nm D).nx e S = D.nx (goneH nm e) S := rfl
theorem sutD_rt {nm : Option Nat} {D : Dn} : (sutD nm D).rt = D.rt := rfl
theorem wOrd_s {c : Nat} : wOrd (.str [c]) S Q = Q (.int (c : Int)) S := rfl
theorem pair0 : pairUp [] = some ([], []) := rfl
theorem pair_i {v : W} : pairUp (.int i :: v :: ws) = (pairUp ws).map fun p => (.inl i :: p.1, v :: p.2) := rfl
theorem strs0 : strsOf [] = some [] := rfl
theorem strs1 {z : List Nat} : strsOf (.str z :: ws) = (strsOf ws).map (z :: ·) := rfl
theorem wBin_mul_i : wBin (.mul fz) (.int i) y S Q = (wInts (.int i) y fun i j => (L2.CMul i j ∨ L2.CMulW i j) ∧ Q (.int (i * j)) S) := rfl
theorem wBin_mul_t : wBin (.mul fz) (.tup ws) (.int i) S Q = (ws ≠ [] ∧ 0 ≤ i ∧ i ≤ 1000 ∧ ws.length ≤ 1000 ∧ Q (.tup (List.replicate i.toNat ws).flatten) S) := rfl
theorem wCmp_eq : wCmp .eq x y S Q = (wEq false x y S Q) := rfl
theorem wCmp_ne : wCmp .ne x y S Q = (wEq true x y S Q) := rfl
theorem wCmp_lt : wCmp .lt x y S Q = (wInts x y fun i j => Q (.bl (decide (i < j))) S) := rfl
theorem wCmp_le : wCmp .le x y S Q = (wInts x y fun i j => Q (.bl (decide (i ≤ j))) S) := rfl
theorem wCmp_gt : wCmp .gt x y S Q = (wInts x y fun i j => Q (.bl (decide (j < i))) S) := rfl
theorem wCmp_ge : wCmp .ge x y S Q = (wInts x y fun i j => Q (.bl (decide (j ≤ i))) S) := rfl
theorem wCmp_isin : wCmp .isin x y S Q = (wIn false x y S Q) := rfl
theorem wCmp_notin : wCmp .notin x y S Q = (wIn true x y S Q) := rfl
theorem wBi_len : wBi (.len) [x] S Q = (wLen x S Q) := rfl
theorem wBi_int1 : wBi (.int1) [x] S Q = (wIntOf x S Q) := rfl
theorem wBi_max2 : wBi (.max2) [.int i, .int j] S Q = (Q (.int (max i j)) S) := rfl
theorem wBi_max3 : wBi (.max3) [.int i, .int j, .int l] S Q = (Q (.int (max (max i j) l)) S) := rfl
theorem wBi_min2 : wBi (.min2) [.int i, .int j] S Q = (Q (.int (min i j)) S) := rfl
theorem wBi_abs : wBi (.abs) [.int i] S Q = (Q (.int (if i < 0 then -i else i)) S) := rfl
theorem wBi_maxd : wBi (.maxd) ws S Q = (wMaxd ws S Q) := rfl
theorem wBi_tuple1 : wBi (.tuple1) [x] S Q = (wSome (seqOf S x) fun us => Q (.tup us) S) := rfl
theorem wBi_list1 : wBi (.list1 fz) [x] S Q = (wSome (seqOf S x) fun us => mkL fz us S Q) := rfl
theorem wBi_listrev : wBi (.listrev fz) [x] S Q = (wSome (walkL S x) fun p => mkL fz p.1.reverse S Q) := rfl
theorem wBi_all1 : wBi (.all1) [x] S Q = (wSome ((lstOf S x).bind blsOf) fun bs => Q (.bl (bs.all id)) S) := rfl
theorem wBi_any1 : wBi (.any1) [x] S Q = (wSome ((lstOf S x).bind blsOf) fun bs => Q (.bl (bs.any id)) S) := rfl
theorem wBi_sum1 : wBi (.sum1) [x] S Q = (wSome ((lstOf S x).bind intsOf) fun ns => Q (.int ns.sum) S) := rfl
theorem wBi_ord1 : wBi (.ord1) [x] S Q = (wOrd x S Q) := rfl
theorem wBi_lenset : wBi (.lenset) [x] S Q = (wSome ((lstOf S x).bind intsOf) fun ns => ns.Nodup ∧ ns.length ≤ 4000 ∧ Q (.int (ns.length : Nat)) S) := rfl
theorem wBi_dict1 : wBi (.dict1) [x] S Q = (wSome (dicOf S x) fun p => ∀ a, S a = none → Q (.ref a) (S.set a (.dic p.1 p.2))) := rfl
theorem wBi_max1 : wBi (.max1) [x] S Q = (wSome ((lstOf S x).bind intsOf) fun ns => 0 < ns.length ∧ Q (.int (maxL ns)) S) := rfl
theorem it_seq : itemsOf .seq [x] S = walkOf S x := rfl
theorem it_rng1 : itemsOf .rng1 [.int i] S = if fits i = true then some (rngW 0 i.toNat, []) else none := rfl
theorem it_rng2 : itemsOf .rng2 [.int i, .int j] S = if (fits i && fits j) = true then some (rngW i (j - i).toNat, []) else none := rfl
theorem it_enum : itemsOf .enum [x] S = (walkL S x).map fun p => (enumW 0 p.1, p.2) := rfl
theorem it_rev : itemsOf .rev [x] S = (walkL S x).map fun p => (p.1.reverse, p.2) := rfl
theorem it_zipT : itemsOf .zip [.tup ws, .tup us] S = some (zipW ws us, []) := rfl
theorem wipe0 {env : Env} : wipeE env [] = env := rfl
theorem wipe1 {env : Env} {v : Nat} {vs : List Nat} : wipeE env (v :: vs) = (wipeE env vs).set v none := rfl
theorem bt_nm {k : Nat} {w : W} {env : Env} : bindTg (.nm k) w env = some (env.set k (some w)) := rfl
theorem bt_pr {is : List Nat} {env : Env} : bindTg (.pr is) (.tup ws) env = bindIs is ws env := rfl
theorem bt_prl {is : List Nat} {env : Env} : bindTg (.pr is) (.rl ws) env = bindIs is ws env := rfl
theorem bi0 {env : Env} : bindIs [] [] env = some env := rfl
theorem bi1 {k : Nat} {is : List Nat} {w : W} {env : Env} : bindIs (k :: is) (w :: ws) env = bindIs is ws (env.set k (some w)) := rfl
theorem fits_of {i : Int} (h0 : -1000000000 ≤ i) (h : i ≤ 1000000000) : fits i = true := decide_eq_true ⟨by omega, by omega⟩
theorem sz0 : (0 ≤ sizeLine) = True := eq_true (by decide)
theorem sz1 : (1 ≤ sizeLine) = True := eq_true (by decide)
theorem sz2 : (2 ≤ sizeLine) = True := eq_true (by decide)
theorem sz3 : (3 ≤ sizeLine) = True := eq_true (by decide)
theorem sz4 : (4 ≤ sizeLine) = True := eq_true (by decide)
theorem sz5 : (5 ≤ sizeLine) = True := eq_true (by decide)
theorem sz6 : (6 ≤ sizeLine) = True := eq_true (by decide)
theorem sz7 : (7 ≤ sizeLine) = True := eq_true (by decide)
theorem sz8 : (8 ≤ sizeLine) = True := eq_true (by decide)
theorem sz9 : (9 ≤ sizeLine) = True := eq_true (by decide)
theorem sz10 : (10 ≤ sizeLine) = True := eq_true (by decide)
theorem sz11 : (11 ≤ sizeLine) = True := eq_true (by decide)
theorem sz12 : (12 ≤ sizeLine) = True := eq_true (by decide)
theorem isi_dict_dct {ks : List Ky} : isiW .dict S (.dct ks ws) = some true := rfl
theorem isi_tuple_dct {ks : List Ky} : isiW .tuple S (.dct ks ws) = some false := rfl
theorem isi_int_non  : isiW .int S .non = some false := rfl
theorem isi_bool_non  : isiW .bool S .non = some false := rfl
theorem isi_str_non  : isiW .str S .non = some false := rfl
theorem isi_tuple_non  : isiW .tuple S .non = some false := rfl
theorem isi_list_non  : isiW .list S .non = some false := rfl
theorem isi_dict_non  : isiW .dict S .non = some false := rfl
theorem isi_int_bl {b : Bool} : isiW .int S (.bl b) = some true := rfl
theorem isi_bool_bl {b : Bool} : isiW .bool S (.bl b) = some true := rfl
theorem isi_str_bl {b : Bool} : isiW .str S (.bl b) = some false := rfl
theorem isi_tuple_bl {b : Bool} : isiW .tuple S (.bl b) = some false := rfl
theorem isi_list_bl {b : Bool} : isiW .list S (.bl b) = some false := rfl
theorem isi_dict_bl {b : Bool} : isiW .dict S (.bl b) = some false := rfl
theorem isi_int_int  : isiW .int S (.int i) = some true := rfl
theorem isi_bool_int  : isiW .bool S (.int i) = some false := rfl
theorem isi_str_int  : isiW .str S (.int i) = some false := rfl
theorem isi_tuple_int  : isiW .tuple S (.int i) = some false := rfl
theorem isi_list_int  : isiW .list S (.int i) = some false := rfl
theorem isi_dict_int  : isiW .dict S (.int i) = some false := rfl
theorem isi_int_str {z : List Nat} : isiW .int S (.str z) = some false := rfl
theorem isi_bool_str {z : List Nat} : isiW .bool S (.str z) = some false := rfl
theorem isi_str_str {z : List Nat} : isiW .str S (.str z) = some true := rfl
theorem isi_tuple_str {z : List Nat} : isiW .tuple S (.str z) = some false := rfl
theorem isi_list_str {z : List Nat} : isiW .list S (.str z) = some false := rfl
theorem isi_dict_str {z : List Nat} : isiW .dict S (.str z) = some false := rfl
theorem isi_int_tup  : isiW .int S (.tup ws) = some false := rfl
theorem isi_bool_tup  : isiW .bool S (.tup ws) = some false := rfl
theorem isi_str_tup  : isiW .str S (.tup ws) = some false := rfl
theorem isi_tuple_tup  : isiW .tuple S (.tup ws) = some true := rfl
theorem isi_list_tup  : isiW .list S (.tup ws) = some false := rfl
theorem isi_dict_tup  : isiW .dict S (.tup ws) = some false := rfl
theorem isi_int_rl  : isiW .int S (.rl ws) = some false := rfl
theorem isi_bool_rl  : isiW .bool S (.rl ws) = some false := rfl
theorem isi_str_rl  : isiW .str S (.rl ws) = some false := rfl
theorem isi_tuple_rl  : isiW .tuple S (.rl ws) = some false := rfl
theorem isi_list_rl  : isiW .list S (.rl ws) = some true := rfl
theorem isi_dict_rl  : isiW .dict S (.rl ws) = some false := rfl
theorem isi_int_sc  : isiW .int S (.sc ws) = some false := rfl
theorem isi_bool_sc  : isiW .bool S (.sc ws) = some false := rfl
theorem isi_str_sc  : isiW .str S (.sc ws) = some false := rfl
theorem isi_tuple_sc  : isiW .tuple S (.sc ws) = some false := rfl
theorem isi_list_sc  : isiW .list S (.sc ws) = some true := rfl
theorem isi_dict_sc  : isiW .dict S (.sc ws) = some false := rfl
end
end Bw

namespace Bw
/-- kinds_in -/
def d0 : FD := ⟨1, 1, [.ret (.bi (.list1 false) [(.sl true (.var 0) [(.cst (.int 1))] [])])]⟩
/-- with_kinds -/
def d1 : FD := ⟨2, 2, [.ret (.bin (.add false) (.sl true (.var 0) [] [(.cst (.int 1))]) (.bi .tuple1 [(.var 1)]))]⟩
/-- ground -/
def d2 : FD := ⟨1, 2, [.ret (.call 1 [(.var 0), (.comp true (.nm 1) .seq [(.sl true (.var 0) [(.cst (.int 1))] [])] [] (.cst (.tup [.str [63]])) [1])])]⟩
/-- _law_cell_at -/
def d8 : FD := ⟨2, 2, [.ite (.cmp .lt (.var 1) (.bi .len [(.var 0)])) [.ret (.idx (.var 0) (.var 1))] [], .ret (.cst (.int 0))]⟩
/-- parts -/
def d87 : FD := ⟨1, 1, [.ite (.cmp .eq (.idx (.var 0) (.cst (.int 0))) (.cst (.str [114, 111, 119]))) [.ret (.bi (.list1 false) [(.idx (.var 0) (.cst (.int 3)))])] [], .ret (.bi (.list1 false) [(.sl true (.var 0) [(.tab [([119, 104, 111, 108, 101], .int 3), ([116, 114, 117, 116, 104], .int 3), ([103, 105, 118, 101, 110], .int 3), ([110, 97, 109, 101], .int 3), ([102, 110], .int 4), ([115, 101, 108, 102], .int 6), ([99, 97, 108, 108], .int 2), ([108, 101, 116], .int 3), ([105, 102], .int 2), ([100, 111], .int 3), ([97, 116], .int 2), ([115, 105, 122, 101], .int 2), ([112, 97, 105, 114], .int 2), ([111, 110, 101], .int 2), ([116, 119, 111], .int 2), ([97, 115], .int 3), ([108, 111, 111, 107], .int 4)] (.idx (.var 0) (.cst (.int 0))))] [])])]⟩
/-- with_parts -/
def d88 : FD := ⟨2, 2, [.ite (.cmp .eq (.idx (.var 0) (.cst (.int 0))) (.cst (.str [114, 111, 119]))) [.ret (.bin (.add false) (.sl true (.var 0) [] [(.cst (.int 3))]) (.tup [(.bi .tuple1 [(.var 1)])]))] [], .ret (.bin (.add false) (.sl true (.var 0) [] [(.tab [([119, 104, 111, 108, 101], .int 3), ([116, 114, 117, 116, 104], .int 3), ([103, 105, 118, 101, 110], .int 3), ([110, 97, 109, 101], .int 3), ([102, 110], .int 4), ([115, 101, 108, 102], .int 6), ([99, 97, 108, 108], .int 2), ([108, 101, 116], .int 3), ([105, 102], .int 2), ([100, 111], .int 3), ([97, 116], .int 2), ([115, 105, 122, 101], .int 2), ([112, 97, 105, 114], .int 2), ([111, 110, 101], .int 2), ([116, 119, 111], .int 2), ([97, 115], .int 3), ([108, 111, 111, 107], .int 4)] (.idx (.var 0) (.cst (.int 0))))]) (.bi .tuple1 [(.var 1)]))]⟩
/-- written -/
def d89 : FD := ⟨1, 1, [.ite (.cmp .eq (.idx (.var 0) (.cst (.int 0))) (.cst (.str [102, 110]))) [.ret (.lst false [(.idx (.var 0) (.cst (.int 3)))])] [], .ite (.cmp .eq (.idx (.var 0) (.cst (.int 0))) (.cst (.str [115, 101, 108, 102]))) [.ret (.lst false [(.idx (.var 0) (.cst (.int 4))), (.idx (.var 0) (.cst (.int 5)))])] [], .ite (.or [(.cmp .eq (.idx (.var 0) (.cst (.int 0))) (.cst (.str [114, 111, 119]))), (.cmp .eq (.idx (.var 0) (.cst (.int 0))) (.cst (.str [97, 115])))]) [.ret (.lst false [(.idx (.var 0) (.cst (.int 2)))])] [], .ret (.lst false [])]⟩
/-- with_written -/
def d90 : FD := ⟨2, 2, [.ite (.cmp .eq (.idx (.var 0) (.cst (.int 0))) (.cst (.str [102, 110]))) [.ret (.bin (.add false) (.bin (.add true) (.sl true (.var 0) [] [(.cst (.int 3))]) (.bi .tuple1 [(.var 1)])) (.sl true (.var 0) [(.cst (.int 4))] []))] [], .ite (.cmp .eq (.idx (.var 0) (.cst (.int 0))) (.cst (.str [115, 101, 108, 102]))) [.ret (.bin (.add false) (.bin (.add true) (.sl true (.var 0) [] [(.cst (.int 4))]) (.bi .tuple1 [(.var 1)])) (.sl true (.var 0) [(.cst (.int 6))] []))] [], .ite (.or [(.cmp .eq (.idx (.var 0) (.cst (.int 0))) (.cst (.str [114, 111, 119]))), (.cmp .eq (.idx (.var 0) (.cst (.int 0))) (.cst (.str [97, 115])))]) [.ret (.bin (.add false) (.bin (.add true) (.sl true (.var 0) [] [(.cst (.int 2))]) (.bi .tuple1 [(.var 1)])) (.sl true (.var 0) [(.cst (.int 3))] []))] [], .ret (.var 0)]⟩
/-- places -/
def d91 : FD := ⟨1, 3, [.asg 1 (.lst false [(.idx (.var 0) (.cst (.int 1)))]), .for (.nm 2) .seq [(.call 87 [(.var 0)])] [.ex (.ext (.var 1) (.call 91 [(.var 2)]))], .ret (.var 1)]⟩
/-- nest -/
def d92 : FD := ⟨1, 2, [.ret (.bin (.add false) (.cst (.int 1)) (.bi .maxd [(.comp true (.nm 1) .seq [(.call 87 [(.var 0)])] [] (.call 92 [(.var 1)]) [1]), (.cst (.int 0))]))]⟩
/-- _law_alike -/
def d93 : FD := ⟨2, 3, [.ite (.isi .bool (.var 1)) [.ret (.and [(.isi .bool (.var 0)), (.cmp .eq (.var 0) (.var 1))])] [], .ite (.isi .int (.var 1)) [.ret (.and [(.isi .int (.var 0)), (.not (.isi .bool (.var 0))), (.cmp .eq (.var 0) (.var 1))])] [], .ite (.isi .str (.var 1)) [.ret (.and [(.isi .str (.var 0)), (.cmp .eq (.var 0) (.var 1))])] [], .ite (.isi .tuple (.var 1)) [.ite (.not (.isi .tuple (.var 0))) [.ret (.cst (.bl false))] []] [.ite (.not (.isi .list (.var 0))) [.ret (.cst (.bl false))] []], .ite (.cmp .ne (.bi .len [(.var 0)]) (.bi .len [(.var 1)])) [.ret (.cst (.bl false))] [], .for (.nm 2) .rng1 [(.bi .len [(.var 1)])] [.ite (.not (.call 93 [(.idx (.var 0) (.var 2)), (.idx (.var 1) (.var 2))])) [.ret (.cst (.bl false))] []], .ret (.cst (.bl true))]⟩
/-- _law_next -/
def d94 : FD := ⟨2, 2, [.ite (.cmp .eq (.var 0) (.lst true [])) [.ret (.cst (.int 0))] [], .ret (.bin .mod (.pop (.var 0)) (.var 1))]⟩
/-- _law_place -/
def d95 : FD := ⟨2, 3, [.asg 2 (.bin (.add true) (.bin .mod (.bin (.add true) (.idx (.var 1) (.cst (.int 0))) (.bin (.mul true) (.idx (.var 1) (.cst (.int 1))) (.bi .len [(.var 0)]))) (.cst (.int 9973))) (.idx (.var 1) (.cst (.int 2)))), .ex (.app (.var 0) (.var 2)), .ret (.var 2)]⟩
/-- _law_name -/
def d96 : FD := ⟨1, 5, [.asg 1 (.bin (.mul true) (.call 94 [(.var 0), (.bin (.mul true) (.cst (.int 8)) (.bin .pow (.cst (.int 26)) (.cst (.int 8))))]) (.cst (.int 48271))), .asg 2 (.bin (.add true) (.cst (.int 1)) (.bin .mod (.var 1) (.cst (.int 8)))), .asg 1 (.bin .fdiv (.var 1) (.cst (.int 8))), .asg 3 (.cst (.str [])), .for (.nm 4) .rng1 [(.var 2)] [.asg 3 (.bin (.add true) (.var 3) (.idx (.cst (.str [97, 98, 99, 100, 101, 102, 103, 104, 105, 106, 107, 108, 109, 110, 111, 112, 113, 114, 115, 116, 117, 118, 119, 120, 121, 122])) (.bin .mod (.var 1) (.cst (.int 26))))), .asg 1 (.bin .fdiv (.var 1) (.cst (.int 26)))], .ite (.or [(.cmp .eq (.var 3) (.cst (.str [121, 101, 115]))), (.cmp .eq (.var 3) (.cst (.str [110, 111])))]) [.asg 3 (.bin (.add true) (.var 3) (.cst (.str [120])))] [], .ret (.var 3)]⟩
/-- _law_number -/
def d97 : FD := ⟨1, 2, [.asg 1 (.call 94 [(.var 0), (.bin (.mul true) (.cst (.int 8)) (.bin .pow (.cst (.int 10)) (.cst (.int 40))))]), .ite (.cmp .eq (.bin .mod (.var 1) (.cst (.int 4))) (.cst (.int 0))) [.ret (.bin .sub (.bin .mod (.bin .fdiv (.var 1) (.cst (.int 4))) (.cst (.int 21))) (.cst (.int 10)))] [], .ite (.cmp .eq (.bin .mod (.var 1) (.cst (.int 4))) (.cst (.int 1))) [.ret (.bin (.mul false) (.bin .sub (.bin .sub (.bin .pow (.cst (.int 10)) (.cst (.int 40))) (.cst (.int 1))) (.bin .mod (.bin .fdiv (.var 1) (.cst (.int 8))) (.cst (.int 10)))) (.bin .sub (.cst (.int 1)) (.bin (.mul true) (.cst (.int 2)) (.bin .mod (.bin .fdiv (.var 1) (.cst (.int 4))) (.cst (.int 2))))))] [], .ret (.bin (.mul false) (.bin .fdiv (.var 1) (.cst (.int 8))) (.bin .sub (.cst (.int 1)) (.bin (.mul true) (.cst (.int 2)) (.bin .mod (.bin .fdiv (.var 1) (.cst (.int 4))) (.cst (.int 2))))))]⟩
/-- _law_kind -/
def d98 : FD := ⟨2, 4, [.asg 2 (.call 94 [(.var 0), (.cst (.int 9))]), .ite (.or [(.cmp .eq (.var 1) (.cst (.int 1))), (.cmp .lt (.var 2) (.cst (.int 5)))]) [.ret (.tup [(.idx (.lst true [(.cst (.str [119, 104, 111, 108, 101])), (.cst (.str [116, 114, 117, 116, 104])), (.cst (.str [63])), (.cst (.str [119, 104, 111, 108, 101])), (.cst (.str [116, 114, 117, 116, 104])), (.cst (.str [63])), (.cst (.str [119, 104, 111, 108, 101])), (.cst (.str [116, 114, 117, 116, 104])), (.cst (.str [63]))]) (.var 2))])] [], .ite (.cmp .eq (.var 2) (.cst (.int 5))) [.ret (.tup [(.cst (.str [114, 111, 119])), (.call 98 [(.var 0), (.bin .sub (.var 1) (.cst (.int 1)))])])] [], .asg 3 (.idx (.lst true [(.cst (.str [116, 111])), (.cst (.str [112, 97, 105, 114]))]) (.bin .mod (.var 2) (.cst (.int 2)))), .ret (.tup [(.var 3), (.call 98 [(.var 0), (.bin .sub (.var 1) (.cst (.int 1)))]), (.call 98 [(.var 0), (.bin .sub (.var 1) (.cst (.int 1)))])])]⟩
/-- _law_many -/
def d99 : FD := ⟨2, 2, [.ite (.cmp .eq (.var 1) (.cst (.str [114, 111, 119]))) [.ret (.call 94 [(.var 0), (.cst (.int 5))])] [], .ite (.cmp .eq (.var 1) (.cst (.str [105, 102]))) [.ret (.cst (.int 3))] [], .ite (.cmp .isin (.var 1) (.tup [(.cst (.str [99, 97, 108, 108])), (.cst (.str [108, 101, 116])), (.cst (.str [100, 111])), (.cst (.str [97, 116])), (.cst (.str [112, 97, 105, 114]))])) [.ret (.cst (.int 2))] [], .ret (.bi .int1 [(.cmp .notin (.var 1) (.tup [(.cst (.str [119, 104, 111, 108, 101])), (.cst (.str [116, 114, 117, 116, 104])), (.cst (.str [103, 105, 118, 101, 110])), (.cst (.str [110, 97, 109, 101]))]))])]⟩
/-- _law_front -/
def d100 : FD := ⟨2, 3, [.ite (.cmp .eq (.var 1) (.cst (.str [119, 104, 111, 108, 101]))) [.ret (.lst false [(.call 97 [(.var 0)])])] [], .ite (.cmp .eq (.var 1) (.cst (.str [116, 114, 117, 116, 104]))) [.ret (.lst false [(.cmp .eq (.call 94 [(.var 0), (.cst (.int 2))]) (.cst (.int 1)))])] [], .ite (.cmp .eq (.var 1) (.cst (.str [103, 105, 118, 101, 110]))) [.ret (.lst false [(.call 94 [(.var 0), (.cst (.int 8))])])] [], .ite (.cmp .eq (.var 1) (.cst (.str [100, 111]))) [.ret (.lst false [(.idx (.cst (.str [43, 45, 42, 60, 61])) (.call 94 [(.var 0), (.cst (.int 5))]))])] [], .ret (.comp false (.nm 2) .rng1 [(.meb .count (.lst true [(.cst (.str [110, 97, 109, 101])), (.cst (.str [102, 110])), (.cst (.str [108, 101, 116])), (.cst (.str [115, 101, 108, 102])), (.cst (.str [115, 101, 108, 102]))]) [(.var 1)])] [] (.call 96 [(.var 0)]) [2])]⟩
/-- _law_kinds -/
def d101 : FD := ⟨2, 3, [.ret (.comp false (.nm 2) .rng1 [(.meb .count (.lst true [(.cst (.str [102, 110])), (.cst (.str [115, 101, 108, 102])), (.cst (.str [115, 101, 108, 102])), (.cst (.str [114, 111, 119])), (.cst (.str [97, 115])), (.cst (.str [108, 111, 111, 107])), (.cst (.str [108, 111, 111, 107]))]) [(.var 1)])] [] (.call 98 [(.var 0), (.cst (.int 4))]) [2])]⟩
/-- _law_put -/
def d102 : FD := ⟨5, 5, [.ite (.cmp .eq (.var 0) (.cst (.str [114, 111, 119]))) [.ret (.tup [(.var 0), (.var 1), (.idx (.var 3) (.cst (.int 0))), (.bi .tuple1 [(.var 4)])])] [], .ret (.bin (.add false) (.bin (.add true) (.bin (.add true) (.tup [(.var 0), (.var 1)]) (.bi .tuple1 [(.var 2)])) (.bi .tuple1 [(.var 3)])) (.bi .tuple1 [(.var 4)]))]⟩
/-- _law_word -/
def d103 : FD := ⟨1, 2, [.asg 1 (.lst true [(.cst (.str [119, 104, 111, 108, 101])), (.cst (.str [116, 114, 117, 116, 104])), (.cst (.str [103, 105, 118, 101, 110])), (.cst (.str [110, 97, 109, 101])), (.cst (.str [102, 110])), (.cst (.str [115, 101, 108, 102])), (.cst (.str [99, 97, 108, 108])), (.cst (.str [108, 101, 116])), (.cst (.str [105, 102])), (.cst (.str [100, 111])), (.cst (.str [114, 111, 119])), (.cst (.str [97, 116])), (.cst (.str [115, 105, 122, 101])), (.cst (.str [112, 97, 105, 114]))]), .ret (.idx (.bin (.add true) (.var 1) (.lst true [(.cst (.str [111, 110, 101])), (.cst (.str [116, 119, 111])), (.cst (.str [97, 115])), (.cst (.str [108, 111, 111, 107]))])) (.var 0))]⟩
/-- _law_tree -/
def d104 : FD := ⟨4, 14, [.asg 4 (.call 95 [(.var 1), (.var 2)]), .asg 5 (.call 94 [(.var 0), (.cst (.int 17))]), .ite (.or [(.cmp .eq (.var 3) (.cst (.int 1))), (.cmp .gt (.bi .len [(.var 1)]) (.cst (.int 90)))]) [.asg 5 (.bin .mod (.var 5) (.cst (.int 4)))] [], .asg 6 (.call 103 [(.var 5)]), .asg 7 (.call 100 [(.var 0), (.var 6)]), .asg 8 (.call 101 [(.var 0), (.var 6)]), .asg 9 (.lst false []), .asg 10 (.cst (.int 0)), .for (.nm 11) .rng1 [(.call 99 [(.var 0), (.var 6)])] [.asgT [12, 13] (.call 104 [(.var 0), (.var 1), (.var 2), (.bin .sub (.var 3) (.cst (.int 1)))]), .ex (.app (.var 9) (.var 12)), .asg 10 (.bi .max2 [(.var 10), (.var 13)])], .ret (.tup [(.call 102 [(.var 6), (.var 4), (.var 7), (.var 8), (.var 9)]), (.bin (.add true) (.cst (.int 1)) (.var 10))])]⟩
/-- _law_counted -/
def d105 : FD := ⟨3, 3, [.ret (.and [(.call 93 [(.call 91 [(.var 0)]), (.var 1)]), (.call 93 [(.call 92 [(.var 0)]), (.bin (.add true) (.cst (.int 1)) (.var 2))]), (.call 93 [(.call 91 [(.var 0)]), (.var 1)])])]⟩
/-- _law_turned -/
def d106 : FD := ⟨3, 5, [.asg 3 (.bi (.list1 true) [(.var 1)]), .asg 4 (.call 88 [(.var 0), (.var 3)]), .ret (.and [(.cmp .eq (.var 3) (.var 1)), (.call 93 [(.var 4), (.var 2)]), (.call 93 [(.call 87 [(.var 4)]), (.var 1)])])]⟩
/-- _law_rewritten -/
def d107 : FD := ⟨4, 6, [.asg 4 (.bi (.list1 true) [(.var 1)]), .asg 5 (.call 90 [(.var 0), (.var 4)]), .ite (.or [(.cmp .ne (.var 4) (.var 1)), (.not (.call 93 [(.var 5), (.var 2)]))]) [.ret (.cst (.bl false))] [], .ret (.and [(.call 93 [(.call 89 [(.var 5)]), (.var 1)]), (.call 93 [(.call 87 [(.var 5)]), (.var 3)])])]⟩
/-- _law_listed -/
def d108 : FD := ⟨3, 5, [.asg 3 (.call 87 [(.var 0)]), .asg 4 (.call 89 [(.var 0)]), .ite (.or [(.not (.call 93 [(.var 3), (.var 1)])), (.not (.call 93 [(.var 4), (.var 2)]))]) [.ret (.cst (.bl false))] [], .ex (.app (.var 3) (.cst (.int 1))), .ex (.app (.var 4) (.cst (.int 1))), .ret (.and [(.call 93 [(.call 87 [(.var 0)]), (.var 1)]), (.call 93 [(.call 89 [(.var 0)]), (.var 2)])])]⟩
/-- law -/
def d109 : FD := ⟨1, 18, [.asg 1 (.bi (.listrev false) [(.sl true (.var 0) [(.cst (.int 2))] [(.cst (.int 120))])]), .asg 2 (.bin (.add true) (.cst (.int 1)) (.bin .mod (.bin (.mul true) (.call 8 [(.var 0), (.cst (.int 1))]) (.cst (.int 7919))) (.cst (.int 9972)))), .asg 3 (.tup [(.bin .mod (.call 8 [(.var 0), (.cst (.int 1))]) (.cst (.int 9973))), (.var 2), (.bin .mod (.bin .fdiv (.call 8 [(.var 0), (.cst (.int 0))]) (.cst (.int 18))) (.cst (.int 28)))]), .asg 4 (.call 103 [(.bin .mod (.call 8 [(.var 0), (.cst (.int 0))]) (.cst (.int 18)))]), .asg 5 (.lst false []), .asg 6 (.call 95 [(.var 5), (.var 3)]), .asg 7 (.call 100 [(.var 1), (.var 4)]), .asg 8 (.call 101 [(.var 1), (.var 4)]), .asg 9 (.lst false []), .asg 10 (.cst (.int 0)), .for (.nm 11) .rng1 [(.call 99 [(.var 1), (.var 4)])] [.asgT [15, 16] (.call 104 [(.var 1), (.var 5), (.var 3), (.cst (.int 7))]), .ex (.app (.var 9) (.var 15)), .asg 10 (.bi .max2 [(.var 10), (.var 16)])], .ite (.cmp .eq (.var 4) (.cst (.str [108, 111, 111, 107]))) [.asg 6 (.idx (.idx (.var 9) (.cst (.int 0))) (.cst (.int 1))), .asg 8 (.lst true [(.idx (.var 8) (.cst (.int 0))), (.idx (.lst true [(.tup [(.cst (.str [63]))]), (.tup [(.cst (.str [116, 114, 117, 116, 104]))])]) (.bi .int1 [(.cmp .eq (.idx (.var 8) (.cst (.int 0))) (.tup [(.cst (.str [63]))]))]))])] [], .asg 12 (.call 102 [(.var 4), (.var 6), (.var 7), (.var 8), (.var 9)]), .ite (.and [(.cmp .ne (.var 4) (.cst (.str [108, 111, 111, 107]))), (.not (.call 105 [(.var 12), (.bi (.list1 true) [(.var 5)]), (.var 10)]))]) [.ret (.cst (.bl false))] [], .asg 13 (.comp true (.nm 11) .rng1 [(.bi .len [(.var 9)])] [] (.tup [(.cst (.str [103, 105, 118, 101, 110])), (.call 95 [(.var 5), (.var 3)]), (.bin .mod (.bin (.add true) (.var 11) (.bi .len [(.var 0)])) (.cst (.int 8)))]) [11]), .ite (.cmp .eq (.var 4) (.cst (.str [108, 111, 111, 107]))) [.asg 13 (.lst true [(.tup [(.cst (.str [103, 105, 118, 101, 110])), (.var 6), (.bin .mod (.bi .len [(.var 0)]) (.cst (.int 8)))])])] [], .ite (.not (.call 106 [(.var 12), (.var 13), (.call 102 [(.var 4), (.var 6), (.var 7), (.var 8), (.var 13)])])) [.ret (.cst (.bl false))] [], .ite (.cmp .eq (.var 4) (.cst (.str [108, 111, 111, 107]))) [.ret (.call 108 [(.var 12), (.var 9), (.lst true [])])] [], .asg 14 (.comp true (.nm 17) .seq [(.var 8)] [] (.tup [(.cst (.str [114, 111, 119])), (.var 17)]) [17]), .ite (.not (.call 107 [(.var 12), (.var 14), (.call 102 [(.var 4), (.var 6), (.var 7), (.var 14), (.var 9)]), (.var 9)])) [.ret (.cst (.bl false))] [], .ret (.call 108 [(.var 12), (.var 9), (.var 8)])]⟩
/-- _law_steps -/
def d170 : FD := ⟨1, 1, [.ite (.cmp .eq (.var 0) (.cst (.str [116, 111]))) [.ret (.lst false [(.cst (.str [97, 114, 103])), (.cst (.str [114, 101, 115]))])] [], .ite (.cmp .eq (.var 0) (.cst (.str [114, 111, 119]))) [.ret (.lst false [(.cst (.str [105, 116, 101, 109]))])] [], .ret (.lst false [(.cst (.str [111, 110, 101])), (.cst (.str [116, 119, 111]))])]⟩
/-- _law_more -/
def d182 : FD := ⟨3, 4, [.asg 3 (.bi .dict1 [(.var 0)]), .setIx (.var 3) (.var 1) (.var 2), .ret (.var 3)]⟩
/-- _law_parts -/
def d185 : FD := ⟨1, 3, [.asg 1 (.idx (.var 0) (.cst (.int 0))), .ite (.or [(.cmp .eq (.var 1) (.cst (.str [119, 104, 111, 108, 101]))), (.cmp .eq (.var 1) (.cst (.str [116, 114, 117, 116, 104]))), (.cmp .eq (.var 1) (.cst (.str [103, 105, 118, 101, 110]))), (.cmp .eq (.var 1) (.cst (.str [110, 97, 109, 101])))]) [.ret (.lst false [])] [], .ite (.cmp .eq (.var 1) (.cst (.str [114, 111, 119]))) [.ret (.bi (.list1 false) [(.idx (.var 0) (.cst (.int 3)))])] [], .ret (.comp false (.nm 2) .seq [(.sl true (.var 0) [(.cst (.int 2))] [])] [(.and [(.isi .tuple (.var 2)), (.cmp .gt (.bi .len [(.var 2)]) (.cst (.int 1))), (.isi .int (.idx (.var 2) (.cst (.int 1))))])] (.var 2) [2])]⟩
/-- _law_names -/
def d186 : FD := ⟨3, 3, [.ite (.cmp .eq (.idx (.var 0) (.cst (.int 0))) (.cst (.str [102, 110]))) [.ret (.call 182 [(.var 1), (.idx (.var 0) (.cst (.int 2))), (.idx (.var 0) (.cst (.int 3)))])] [], .ite (.cmp .eq (.idx (.var 0) (.cst (.int 0))) (.cst (.str [115, 101, 108, 102]))) [.ret (.call 182 [(.call 182 [(.var 1), (.idx (.var 0) (.cst (.int 2))), (.tup [(.cst (.str [116, 111])), (.idx (.var 0) (.cst (.int 4))), (.idx (.var 0) (.cst (.int 5)))])]), (.idx (.var 0) (.cst (.int 3))), (.idx (.var 0) (.cst (.int 4)))])] [], .ite (.and [(.cmp .eq (.idx (.var 0) (.cst (.int 0))) (.cst (.str [108, 101, 116]))), (.cmp .eq (.bi .len [(.var 2)]) (.cst (.int 1)))]) [.ret (.call 182 [(.var 1), (.idx (.var 0) (.cst (.int 2))), (.idx (.var 2) (.cst (.int 0)))])] [], .ret (.var 1)]⟩
/-- _law_shaped -/
def d187 : FD := ⟨2, 2, [.ite (.cmp .eq (.idx (.var 0) (.cst (.int 0))) (.idx (.var 1) (.cst (.int 0)))) [.ret (.var 0)] [], .ret (.var 1)]⟩
/-- _law_want -/
def d188 : FD := ⟨2, 4, [.asg 2 (.idx (.var 0) (.cst (.int 0))), .asg 3 (.cmp .eq (.bi .len [(.var 1)]) (.cst (.int 1))), .ite (.or [(.cmp .eq (.var 2) (.cst (.str [100, 111]))), (.and [(.cmp .eq (.var 2) (.cst (.str [97, 116]))), (.not (.var 3))])]) [.ret (.tup [(.cst (.str [119, 104, 111, 108, 101]))])] [], .ite (.or [(.cmp .eq (.var 2) (.cst (.str [97, 115]))), (.cmp .eq (.var 2) (.cst (.str [114, 111, 119])))]) [.ret (.idx (.var 0) (.cst (.int 2)))] [], .ite (.cmp .eq (.var 2) (.cst (.str [115, 101, 108, 102]))) [.ret (.idx (.var 0) (.cst (.int 5)))] [], .ite (.and [(.cmp .eq (.var 2) (.cst (.str [105, 102]))), (.var 3)]) [.ret (.tup [(.cst (.str [116, 114, 117, 116, 104]))])] [], .ite (.and [(.cmp .eq (.var 2) (.cst (.str [99, 97, 108, 108]))), (.not (.var 3))]) [.ret (.idx (.call 187 [(.idx (.var 1) (.cst (.int 0))), (.tup [(.cst (.str [116, 111])), (.tup [(.cst (.str [63]))]), (.tup [(.cst (.str [63]))])])]) (.cst (.int 1)))] [], .ite (.cmp .eq (.var 2) (.cst (.str [99, 97, 108, 108]))) [.ret (.call 187 [(.idx (.var 1) (.cst (.int 0))), (.tup [(.cst (.str [116, 111])), (.tup [(.cst (.str [63]))]), (.tup [(.cst (.str [63]))])])])] [], .ite (.or [(.cmp .eq (.var 2) (.cst (.str [97, 116]))), (.cmp .eq (.var 2) (.cst (.str [115, 105, 122, 101])))]) [.ret (.call 187 [(.idx (.var 1) (.cst (.int 0))), (.tup [(.cst (.str [114, 111, 119])), (.tup [(.cst (.str [63]))])])])] [], .ite (.or [(.cmp .eq (.var 2) (.cst (.str [111, 110, 101]))), (.cmp .eq (.var 2) (.cst (.str [116, 119, 111])))]) [.ret (.call 187 [(.idx (.var 1) (.cst (.int 0))), (.tup [(.cst (.str [112, 97, 105, 114])), (.tup [(.cst (.str [63]))]), (.tup [(.cst (.str [63]))])])])] [], .ret (.idx (.var 1) (.neg (.cst (.int 1))))]⟩
/-- _law_own -/
def d189 : FD := ⟨3, 4, [.asg 3 (.idx (.var 0) (.cst (.int 0))), .ite (.cmp .eq (.var 3) (.cst (.str [110, 97, 109, 101]))) [.ret (.idx (.var 1) (.idx (.var 0) (.cst (.int 2))))] [], .ite (.or [(.cmp .eq (.var 3) (.cst (.str [116, 114, 117, 116, 104]))), (.and [(.cmp .eq (.var 3) (.cst (.str [100, 111]))), (.cmp .isin (.idx (.var 0) (.cst (.int 2))) (.lst true [(.cst (.str [60])), (.cst (.str [61]))]))])]) [.ret (.tup [(.cst (.str [116, 114, 117, 116, 104]))])] [], .ite (.or [(.cmp .eq (.var 3) (.cst (.str [119, 104, 111, 108, 101]))), (.cmp .eq (.var 3) (.cst (.str [103, 105, 118, 101, 110]))), (.cmp .eq (.var 3) (.cst (.str [100, 111]))), (.cmp .eq (.var 3) (.cst (.str [115, 105, 122, 101])))]) [.ret (.tup [(.cst (.str [119, 104, 111, 108, 101]))])] [], .ite (.cmp .eq (.var 3) (.cst (.str [102, 110]))) [.ret (.tup [(.cst (.str [116, 111])), (.idx (.var 0) (.cst (.int 3))), (.idx (.var 2) (.cst (.int 0)))])] [], .ite (.cmp .eq (.var 3) (.cst (.str [115, 101, 108, 102]))) [.ret (.tup [(.cst (.str [116, 111])), (.idx (.var 0) (.cst (.int 4))), (.idx (.var 0) (.cst (.int 5)))])] [], .ite (.cmp .eq (.var 3) (.cst (.str [108, 101, 116]))) [.ret (.idx (.var 2) (.cst (.int 1)))] [], .ite (.cmp .eq (.var 3) (.cst (.str [105, 102]))) [.ret (.call 184 [(.idx (.var 2) (.cst (.int 1))), (.idx (.var 2) (.cst (.int 2)))])] [], .ite (.cmp .eq (.var 3) (.cst (.str [99, 97, 108, 108]))) [.ret (.idx (.call 187 [(.idx (.var 2) (.cst (.int 0))), (.tup [(.cst (.str [116, 111])), (.tup [(.cst (.str [63]))]), (.tup [(.cst (.str [63]))])])]) (.cst (.int 2)))] [], .ite (.cmp .eq (.var 3) (.cst (.str [114, 111, 119]))) [.ret (.tup [(.cst (.str [114, 111, 119])), (.idx (.var 0) (.cst (.int 2)))])] [], .ite (.cmp .eq (.var 3) (.cst (.str [97, 116]))) [.ret (.idx (.call 187 [(.idx (.var 2) (.cst (.int 0))), (.tup [(.cst (.str [114, 111, 119])), (.tup [(.cst (.str [63]))])])]) (.cst (.int 1)))] [], .ite (.cmp .eq (.var 3) (.cst (.str [112, 97, 105, 114]))) [.ret (.tup [(.cst (.str [112, 97, 105, 114])), (.idx (.var 2) (.cst (.int 0))), (.idx (.var 2) (.cst (.int 1)))])] [], .ite (.cmp .eq (.var 3) (.cst (.str [97, 115]))) [.ret (.idx (.var 0) (.cst (.int 2)))] [], .ret (.idx (.call 187 [(.idx (.var 2) (.cst (.int 0))), (.tup [(.cst (.str [112, 97, 105, 114])), (.tup [(.cst (.str [63]))]), (.tup [(.cst (.str [63]))])])]) (.bin (.add true) (.cst (.int 1)) (.bi .int1 [(.cmp .eq (.var 3) (.cst (.str [116, 119, 111])))])))]⟩
/-- _law_written -/
def d192 : FD := ⟨1, 1, [.ite (.cmp .eq (.idx (.var 0) (.cst (.int 0))) (.cst (.str [102, 110]))) [.ret (.lst false [(.idx (.var 0) (.cst (.int 3)))])] [], .ite (.cmp .eq (.idx (.var 0) (.cst (.int 0))) (.cst (.str [115, 101, 108, 102]))) [.ret (.lst false [(.idx (.var 0) (.cst (.int 4))), (.idx (.var 0) (.cst (.int 5)))])] [], .ite (.or [(.cmp .eq (.idx (.var 0) (.cst (.int 0))) (.cst (.str [114, 111, 119]))), (.cmp .eq (.idx (.var 0) (.cst (.int 0))) (.cst (.str [97, 115])))]) [.ret (.lst false [(.idx (.var 0) (.cst (.int 2)))])] [], .ret (.lst false [])]⟩
/-- _law_come_to -/
def d193 : FD := ⟨2, 7, [.for (.nm 2) .seq [(.call 192 [(.var 0)])] [.ite (.cmp .gt (.call 190 [(.var 2)]) (.cst (.int 4))) [.ret (.tup [(.cst (.str [100, 101, 101, 112])), (.idx (.var 0) (.cst (.int 1)))])] []], .asg 3 (.lst false []), .for (.nm 4) .seq [(.call 185 [(.var 0)])] [.asg 6 (.call 193 [(.var 4), (.call 186 [(.var 0), (.var 1), (.var 3)])]), .ite (.cmp .ne (.idx (.var 6) (.cst (.int 0))) (.cst (.str [116, 97, 107, 101, 110]))) [.ret (.var 6)] [], .ex (.app (.var 3) (.idx (.var 6) (.cst (.int 1)))), .asg 6 (.call 191 [(.var 0), (.var 4), (.var 3)]), .ite (.isN true (.var 6)) [.ret (.var 6)] []], .asg 5 (.call 189 [(.var 0), (.var 1), (.var 3)]), .ite (.cmp .gt (.call 190 [(.var 5)]) (.cst (.int 4))) [.ret (.tup [(.cst (.str [100, 101, 101, 112])), (.idx (.var 0) (.cst (.int 1)))])] [], .ret (.tup [(.cst (.str [116, 97, 107, 101, 110])), (.var 5)])]⟩
end Bw
open Bw
/-! Kd: kinds, and what is due. -/
namespace Bw
open PySem (sizeLine)
inductive Kd where
  | whole | truth | unt | row (a : Kd) | to (a b : Kd) | pair (a b : Kd)
  deriving DecidableEq
def hS : Kd → List Nat
  | .whole => [119, 104, 111, 108, 101]
  | .truth => [116, 114, 117, 116, 104]
  | .unt => [63]
  | .row _ => [114, 111, 119]
  | .to _ _ => [116, 111]
  | .pair _ _ => [112, 97, 105, 114]
def parts : Kd → List Kd
  | .row a => [a]
  | .to a b => [a, b]
  | .pair a b => [a, b]
  | _ => []
def kW : Kd → W
  | .whole => .tup [.str [119, 104, 111, 108, 101]]
  | .truth => .tup [.str [116, 114, 117, 116, 104]]
  | .unt => .tup [.str [63]]
  | .row a => .tup [.str [114, 111, 119], kW a]
  | .to a b => .tup [.str [116, 111], kW a, kW b]
  | .pair a b => .tup [.str [112, 97, 105, 114], kW a, kW b]
theorem kW_eq (k : Kd) : kW k = .tup (.str (hS k) :: (parts k).map kW) := by cases k <;> rfl
def kdep : Kd → Nat
  | .row a => kdep a + 1
  | .to a b => max (kdep a) (kdep b) + 1
  | .pair a b => max (kdep a) (kdep b) + 1
  | _ => 1
theorem dep_kW : ∀ k : Kd, depW (kW k) = kdep k
  | .whole => rfl
  | .truth => rfl
  | .unt => rfl
  | .row a => by
    show max 0 (max (depW (kW a)) 0) + 1 = _
    rw [dep_kW a]; simp [kdep]
  | .to a b => by
    show max 0 (max (depW (kW a)) (max (depW (kW b)) 0)) + 1 = _
    rw [dep_kW a, dep_kW b]; simp [kdep]
  | .pair a b => by
    show max 0 (max (depW (kW a)) (max (depW (kW b)) 0)) + 1 = _
    rw [dep_kW a, dep_kW b]; simp [kdep]
/-! what may be due: tuples, lists known by content -/
mutual
def due2 : W → Bool
  | .non => true
  | .int _ => true
  | .bl _ => true
  | .str _ => true
  | .tup ws => decide (ws.length ≤ 1000) && due2s ws
  | .rl ws => decide (ws.length ≤ 1000) && due2s ws
  | _ => false
def due2s : List W → Bool
  | [] => true
  | w :: ws => due2 w && due2s ws
end
theorem due2s_of : ∀ {ws : List W}, (∀ w ∈ ws, due2 w = true) → due2s ws = true
  | [], _ => rfl
  | w :: ws, h => by
    show (due2 w && due2s ws) = true
    rw [h w List.mem_cons_self, due2s_of fun x hx => h x (List.mem_cons_of_mem _ hx)]; rfl
theorem due2_tup {ws : List W} (hl : ws.length ≤ 1000) (h : ∀ w ∈ ws, due2 w = true) : due2 (.tup ws) = true := by
  show (decide (ws.length ≤ 1000) && due2s ws) = true
  rw [decide_eq_true hl, due2s_of h]; rfl
theorem due2_rl {ws : List W} (hl : ws.length ≤ 1000) (h : ∀ w ∈ ws, due2 w = true) : due2 (.rl ws) = true := by
  show (decide (ws.length ≤ 1000) && due2s ws) = true
  rw [decide_eq_true hl, due2s_of h]; rfl
theorem due2_k : ∀ k : Kd, due2 (kW k) = true
  | .whole => rfl
  | .truth => rfl
  | .unt => rfl
  | .row a => due2_tup (by simp) fun w hw => by
    simp only [List.mem_cons, List.not_mem_nil, or_false] at hw
    rcases hw with rfl | rfl
    · rfl
    · exact due2_k a
  | .to a b => due2_tup (by simp) fun w hw => by
    simp only [List.mem_cons, List.not_mem_nil, or_false] at hw
    rcases hw with rfl | rfl | rfl
    · rfl
    · exact due2_k a
    · exact due2_k b
  | .pair a b => due2_tup (by simp) fun w hw => by
    simp only [List.mem_cons, List.not_mem_nil, or_false] at hw
    rcases hw with rfl | rfl | rfl
    · rfl
    · exact due2_k a
    · exact due2_k b
mutual
theorem eqv_refl2 : ∀ {w : W}, due2 w = true → eqv w w = true
  | .non, _ => rfl
  | .bl b, _ => by simp [eqv]
  | .int i, _ => by simp [eqv]
  | .str x, _ => by simp [eqv]
  | .tup ws, h => by
    have h : (decide (ws.length ≤ 1000) && due2s ws) = true := h
    rw [Bool.and_eq_true] at h
    exact eqvs_refl2 h.2
  | .rl ws, h => by
    have h : (decide (ws.length ≤ 1000) && due2s ws) = true := h
    rw [Bool.and_eq_true] at h
    exact eqvs_refl2 h.2
  | .sc _, h => by cases h
  | .ref _, h => by cases h
  | .fn _, h => by cases h
theorem eqvs_refl2 : ∀ {ws : List W}, due2s ws = true → eqvs ws ws = true
  | [], _ => rfl
  | w :: ws, h => by
    have h : (due2 w && due2s ws) = true := h
    rw [Bool.and_eq_true] at h
    show (eqv w w && eqvs ws ws) = true
    rw [eqv_refl2 h.1, eqvs_refl2 h.2]; rfl
end
mutual
theorem data_due2 : ∀ {w : W}, due2 w = true → dataW w = true
  | .non, _ => rfl
  | .bl b, _ => rfl
  | .int i, _ => rfl
  | .str x, _ => rfl
  | .tup ws, h => by
    have h : (decide (ws.length ≤ 1000) && due2s ws) = true := h
    rw [Bool.and_eq_true] at h
    exact datas_due2 h.2
  | .rl ws, h => by
    have h : (decide (ws.length ≤ 1000) && due2s ws) = true := h
    rw [Bool.and_eq_true] at h
    exact datas_due2 h.2
  | .sc _, h => by cases h
  | .ref _, h => by cases h
  | .fn _, h => by cases h
theorem datas_due2 : ∀ {ws : List W}, due2s ws = true → dataWs ws = true
  | [], _ => rfl
  | w :: ws, h => by
    have h : (due2 w && due2s ws) = true := h
    rw [Bool.and_eq_true] at h
    show (dataW w && dataWs ws) = true
    rw [data_due2 h.1, datas_due2 h.2]; rfl
end
theorem eqv_k : ∀ a b : Kd, eqv (kW a) (kW b) = decide (a = b)
  | .whole, b => by cases b <;> simp [kW, eqv, eqvs]
  | .truth, b => by cases b <;> simp [kW, eqv, eqvs]
  | .unt, b => by cases b <;> simp [kW, eqv, eqvs]
  | .row a, b => by
    cases b with
    | row c => simp [kW, eqv, eqvs, eqv_k a c]
    | _ => simp [kW, eqv, eqvs]
  | .to a a', b => by
    cases b with
    | to c c' => simp [kW, eqv, eqvs, eqv_k a c, eqv_k a' c']
    | _ => simp [kW, eqv, eqvs]
  | .pair a a', b => by
    cases b with
    | pair c c' => simp [kW, eqv, eqvs, eqv_k a c, eqv_k a' c']
    | _ => simp [kW, eqv, eqvs]
section
variable {S : Sto} {Q : VQ} {X : XQ} {k a b : Kd} {fz neg : Bool} {t f : Prop}
theorem deref_k : deref S (kW k) = kW k := by rw [kW_eq]; rfl
theorem k_sl1 : wSl fz (kW k) [.int 1] [] S Q = Q (.tup ((parts k).map kW)) S := by
  rw [kW_eq]
  show Q (.tup (cutW _ (some 1) none)) S = _
  rw [cut1]; rfl
theorem k_sl01 : wSl fz (kW k) [] [.int 1] S Q = Q (.tup [.str (hS k)]) S := by
  rw [kW_eq]
  show Q (.tup (cutW _ none (some 1))) S = _
  rw [cut01]; rfl
theorem k_idx0 : wIdx (kW k) (.int 0) S Q = Q (.str (hS k)) S := by
  rw [kW_eq, wIdx_tup, at0]; rfl
theorem k_len : wLen (kW k) S Q = Q (.int (((parts k).length + 1 : Nat) : Int)) S := by
  rw [kW_eq, wLen_tup]; simp
theorem k_non : wNon (kW k) t f = f := by rw [kW_eq]; rfl
theorem k_isi_tuple : isiW .tuple S (kW k) = some true := by rw [kW_eq]; rfl
theorem k_isi_int : isiW .int S (kW k) = some false := by rw [kW_eq]; rfl
theorem k_isi_bool : isiW .bool S (kW k) = some false := by rw [kW_eq]; rfl
theorem k_isi_str : isiW .str S (kW k) = some false := by rw [kW_eq]; rfl
theorem k_isi_list : isiW .list S (kW k) = some false := by rw [kW_eq]; rfl
theorem k_equ : wEq neg (kW k) (.tup [.str [63]]) S Q = Q (.bl (decide (k = .unt) != neg)) S := by
  have e := eqv_k k .unt
  unfold wEq
  rw [deref_k, deref_tup]
  rw [show eqv (kW k) (.tup [.str [63]]) = decide (k = .unt) from e, data_due2 (due2_k k)]
  have h1 : dataW (.tup [.str [63]]) = true := rfl
  have h2 : min (depW (kW k)) (depW (.tup [.str [63]])) ≤ 60 := Nat.le_trans (Nat.min_le_right _ _) (by show 1 ≤ 60; omega)
  rw [h1]
  simp [h2]
/-- two like data -/
theorem same_eq {x y : W} (e : deref S x = deref S y) (h : due2 (deref S y) = true) (hd : depW (deref S y) ≤ 60) (q : Q (.bl (true != neg)) S) : wEq neg x y S Q := by
  refine wEq_c ?_ (data_due2 h) hd ?_ q
  · rw [e]; exact data_due2 h
  · rw [e]; exact eqv_refl2 h
end
/-! ### comprehensions over a mapped list -/
theorem compA {α : Type} {f : W → Sto → (List W → Sto → Prop) → Prop} {S : Sto} {P : PySem.Addr → List W → Sto → Prop} {lk : Lk} (l : List α) (φ ψ : α → W) (hl : liveS lk S)
    (h : ∀ a ∈ l, ∀ D, S D = none → ∀ R : List W → Sto → Prop, R [ψ a] (S.set D .hid) → f (φ a) (S.set D .hid) R) (q : ∀ D, S D = none → P D (l.map ψ) (S.set D .hid)) :
    ∀ D, S D = none → wMap lk f (l.map φ) (S.set D .hid) (P D) := fun D hD => by
  have lv := liveS_set (o := .hid) hl hD
  have key : ∀ (l : List α) (Q : List W → Sto → Prop), (∀ a ∈ l, ∀ R : List W → Sto → Prop, R [ψ a] (S.set D .hid) → f (φ a) (S.set D .hid) R) → Q (l.map ψ) (S.set D .hid) → wMap lk f (l.map φ) (S.set D .hid) Q := by
    intro l
    induction l with
    | nil => intro Q _ q; exact ⟨lv, q⟩
    | cons a l ih => intro Q h q; exact ⟨lv, h a List.mem_cons_self _ (ih _ (fun b hb => h b (List.mem_cons_of_mem _ hb)) q)⟩
  exact key l _ (fun a ha R r => h a ha D hD R r) (q D hD)
/-- a walk through a mapped list, by what is left -/
theorem forR {α : Type} {lk : Lk} {tg : Tg} {body : Env → Sto → Dn → Prop} {D : Dn} (φ : α → W) (I : List α → Env → Sto → Prop) : ∀ {l : List α} {env : Env} {S : Sto}, I l env S → (∀ l env S, I l env S → liveS lk S) →
    (∀ a l env S (nx : Env → Sto → Prop), I (a :: l) env S → (∀ e S', I l e S' → nx e S') → wSome (bindTg tg (φ a) env) fun env' => body env' S { D with nx := nx, ct := nx, bk := D.nx }) →
    (∀ env S, I [] env S → D.nx env S) → wFor lk tg body (l.map φ) env S D
  | [], env, S, i, lv, _, fin => ⟨lv _ _ _ i, fin env S i⟩
  | a :: l, env, S, i, lv, step, fin => ⟨lv _ _ _ i, step a l env S _ i fun e S' i' => forR φ I i' lv step fin⟩
theorem set_comm {S : Sto} {p p2 : PySem.Addr} {x y : O} (h : p ≠ p2) : (S.set p x).set p2 y = (S.set p2 y).set p x := by
  funext b
  unfold Sto.set
  by_cases e : b = p2
  · subst e; simp [Ne.symm h]
  · simp [e]
theorem wB_or {b c : Bool} {A B : Prop} (hA : b = true ∨ c = true → A) (hB : b = false → c = false → B) : wB (.bl b) A (wB (.bl c) A B) := by
  cases b
  · cases c
    · exact hB rfl rfl
    · exact hA (.inr rfl)
  · exact hA (.inl rfl)
theorem wMaxd_l {ws : List W} {d : Int} {ns : List Int} {S : Sto} {Q : VQ} (h : intsOf ws = some ns) (q : Q (.int (if ns = [] then d else maxL ns)) S) : wMaxd [.rl ws, .int d] S Q := by
  show wSome ((lstOf S (.rl ws)).bind intsOf) _
  rw [lstOf_rl, Option.bind_some, h]
  exact q
/-! ### stacks of cells -/
def stk (c : List Int) : O := .lst (c.reverse.map W.int)
def nv (c : List Int) (m : Int) : Int := match c with | [] => 0 | x :: _ => x % m
theorem set_self {S : Sto} {p : PySem.Addr} {o : O} (h : S p = some o) : S.set p o = S := by
  funext b
  unfold Sto.set
  by_cases e : b = p
  · rw [if_pos e, e, h]
  · rw [if_neg e]
theorem nv_lt {c : List Int} {m : Int} (h : 0 < m) : 0 ≤ nv c m ∧ nv c m < m := by
  cases c with
  | nil => exact ⟨Int.le_refl _, h⟩
  | cons x c => exact ⟨Int.emod_nonneg _ (by omega), Int.emod_lt_of_pos _ h⟩
theorem ints_data : ∀ ns : List Int, dataWs (ns.map W.int) = true
  | [] => rfl
  | n :: ns => by show (true && dataWs (ns.map W.int)) = true; rw [ints_data ns]; rfl
theorem set_set {S : Sto} {p : PySem.Addr} {o u : O} : (S.set p o).set p u = S.set p u := by funext b; unfold Sto.set; by_cases e : b = p <;> simp [e]
end Bw

local macro_rules | `(tactic| walk_at "w") => `(tactic| try simp -implicitDefEqProofs only [wSs, wS, wHs, wHn, wE, wEs, wAnd, wOr, wB_t, wB_f, wSome_s, wWalk_s, entry, cF, Option.map_some, Option.bind_some, List.map_cons, List.map_nil, List.length_cons, List.length_nil, List.length_map, List.replicate, List.cons_append, List.nil_append, List.getElem?_cons_zero, List.getElem?_cons_succ, List.set_cons_zero, List.set_cons_succ, Nat.reduceSub, Nat.reduceAdd, Int.reduceAdd, Int.reduceSub, at0, at1, at2, at3, cut1, cut01, Option.isSome_some, true_and, and_true, if_true, Bool.false_eq_true, if_false, Bool.not_true, Bool.not_false, beq_self_eq_true, Bool.or_true, Bool.true_or, Bool.or_false, Bool.bne_false, Bool.bne_true, implies_true, Int.toNat_natCast, List.drop_succ_cons, List.drop_zero, List.take_succ_cons, List.take_zero, List.take_nil, List.drop_nil, dn_rt, dn_nx, dn_xc, wVar_s, wNon_non, wNon_bl, wNon_int, wNon_str, wNon_tup, wNon_rl, wNon_sc, wNot_b, wI1_i, wInts_i, wIdx_tup, wLen_tup, wSl_tup0, wSl_tup1, wSl_tup2, wSl_tup3, walkOf_tup, seqOf_tup, deref_tup, wIdx_rl, wLen_rl, wSl_rl0, wSl_rl1, wSl_rl2, wSl_rl3, walkOf_rl, seqOf_rl, deref_rl, wIdx_sc, wLen_sc, wSl_sc0, wSl_sc1, wSl_sc2, wSl_sc3, walkOf_sc, seqOf_sc, deref_sc, walkL_rl, walkL_sc, deref_non, deref_bl, deref_int, deref_str, lstOf_rl, wLen_dic, wLen_str, optI0, optI1, optS0, optS1, mkL_t, mkL_f, wEq_i, wEq_s, wEq_b, wAdd_i, wAdd_s, wAdd_t, wBin_add, wBin_sub, wBin_fdiv, wBin_mod, wBin_pow, wMeb_count, wMeb_index, wMeb_dget1, wMeb_dget2, wMeb_dcopy, recv_count, recv_index, recv_dget1, recv_dget2, recv_dcopy, dicOf_dct, kyOf_int, kyOf_str, wIdx_dct, wIn_dct, fld_obj, fld_exn, obj_obj, isCW_non, isCW_bl, isCW_int, isCW_exn, bindH_n, bindH_s, goneH_n, goneH_s, sutD_nx, sutD_rt, wOrd_s, pair0, pair_i, strs0, strs1, wBin_mul_i, wBin_mul_t, wCmp_eq, wCmp_ne, wCmp_lt, wCmp_le, wCmp_gt, wCmp_ge, wCmp_isin, wCmp_notin, wBi_len, wBi_int1, wBi_max2, wBi_max3, wBi_min2, wBi_abs, wBi_maxd, wBi_tuple1, wBi_list1, wBi_listrev, wBi_all1, wBi_any1, wBi_sum1, wBi_ord1, wBi_lenset, wBi_dict1, wBi_max1, it_seq, it_rng1, it_rng2, it_enum, it_rev, it_zipT, wipe0, wipe1, bt_nm, bt_pr, bt_prl, bi0, bi1, sz0, sz1, sz2, sz3, sz4, sz5, sz6, sz7, sz8, sz9, sz10, sz11, sz12, isi_dict_dct, isi_tuple_dct, isi_int_non, isi_bool_non, isi_str_non, isi_tuple_non, isi_list_non, isi_dict_non, isi_int_bl, isi_bool_bl, isi_str_bl, isi_tuple_bl, isi_list_bl, isi_dict_bl, isi_int_int, isi_bool_int, isi_str_int, isi_tuple_int, isi_list_int, isi_dict_int, isi_int_str, isi_bool_str, isi_str_str, isi_tuple_str, isi_list_str, isi_dict_str, isi_int_tup, isi_bool_tup, isi_str_tup, isi_tuple_tup, isi_list_tup, isi_dict_tup, isi_int_rl, isi_bool_rl, isi_str_rl, isi_tuple_rl, isi_list_rl, isi_dict_rl, isi_int_sc, isi_bool_sc, isi_str_sc, isi_tuple_sc, isi_list_sc, isi_dict_sc, k_sl1, k_sl01, k_idx0, k_len, k_non, k_isi_tuple, k_isi_int, k_isi_bool, k_isi_str, k_isi_list, k_equ])
/-! AL: the laws' own small functions. -/
namespace Bw
open PySem (sizeLine)
def nextFD : FD := ⟨2, 2, [.ite (.cmp .eq (.var 0) (.lst true [])) [.ret (.cst (.int 0))] [], .ret (.bin .mod (.pop (.var 0)) (.var 1))]⟩
def cellFD : FD := ⟨2, 2, [.ite (.cmp .lt (.var 1) (.bi .len [(.var 0)])) [.ret (.idx (.var 0) (.var 1))] [], .ret (.cst (.int 0))]⟩
section
variable {T : Nat → Option FD} {S : Sto} {Q : VQ} {X : XQ} {n : Nat}
theorem cell_ok {i : Nat} (h : T i = some cellFD) {ns : List Int} {k : Int} (hk : 0 ≤ k) (q : Q (.int (cellI ns k)) S) : wF T (n + 1) i [.sc (ns.map W.int), .int k] S Q X := by
  rw [wF_eq h, cellFD]
  walk_at "w"
  unfold cellI at q
  refine wB_dec (fun hl => ?_) (fun hl => ?_)
  · have e : (ns.map W.int)[k.toNat]? = some (.int (ns[k.toNat]?.getD 0)) := by
      rw [List.getElem?_map, List.getElem?_eq_getElem (by omega)]; rfl
    rw [at_int hk e]
    rw [if_pos hl] at q
    exact ret0 q
  · rw [if_neg hl] at q
    exact ret0 q
theorem next_ok {i : Nat} (h : T i = some nextFD) {p : PySem.Addr} {c : List Int} {m : Int} (hp : S p = some (stk c)) (hm : 0 < m) (q : Q (.int (nv c m)) (S.set p (stk c.tail))) : wF T (n + 1) i [.ref p, .int m] S Q X := by
  have hp' : S p = some (.lst (c.reverse.map W.int)) := hp
  rw [wF_eq h, nextFD]
  walk_at "w"
  refine wEq_c (b := decide (c = [])) ?_ rfl (by show 1 ≤ 60; omega) ?_ ?_
  · rw [deref_rf hp']; exact ints_data _
  · rw [deref_rf hp']
    cases c with
    | nil => rfl
    | cons x c =>
      rw [List.reverse_cons, List.map_append]
      cases c.reverse.map W.int <;> rfl
  walk_at "w"
  refine wB_dec (fun e => ?_) (fun e => ?_)
  · subst e
    refine ret0 ?_
    have e2 : S.set p (stk []) = S := set_self hp
    rw [show ([] : List Int).tail = [] from rfl, e2] at q
    exact q
  · cases c with
    | nil => exact absurd rfl e
    | cons x c =>
      rw [List.reverse_cons, List.map_append] at hp'
      rw [wPop_ref hp']
      walk_at "w"
      exact ⟨hm, ret0 q⟩
end
end Bw

/-! Kd2: kinds made from cells, looser, meet, join, paths (plain). -/
namespace Bw
open PySem (sizeLine)
/-! ### kinds from cells -/
/-! ### looser, join, meet -/
/-! ### paths -/
end Bw

/-! TR: programs as trees; parts, names (printed by gtr.py) -/
namespace Bw
open PySem (sizeLine)
inductive Wo where
  | whole | truth | given | name | fn | self | call | let_ | if_ | do_ | row | at_ | size | pair | one | two | as_ | look
  deriving DecidableEq
def woS : Wo → List Nat
  | .whole => [119, 104, 111, 108, 101]
  | .truth => [116, 114, 117, 116, 104]
  | .given => [103, 105, 118, 101, 110]
  | .name => [110, 97, 109, 101]
  | .fn => [102, 110]
  | .self => [115, 101, 108, 102]
  | .call => [99, 97, 108, 108]
  | .let_ => [108, 101, 116]
  | .if_ => [105, 102]
  | .do_ => [100, 111]
  | .row => [114, 111, 119]
  | .at_ => [97, 116]
  | .size => [115, 105, 122, 101]
  | .pair => [112, 97, 105, 114]
  | .one => [111, 110, 101]
  | .two => [116, 119, 111]
  | .as_ => [97, 115]
  | .look => [108, 111, 111, 107]
/-- names, signs, numbers in front -/
def nF : Wo → Nat
  | .whole => 1
  | .truth => 1
  | .given => 1
  | .name => 1
  | .fn => 1
  | .self => 2
  | .call => 0
  | .let_ => 1
  | .if_ => 0
  | .do_ => 1
  | .row => 0
  | .at_ => 0
  | .size => 0
  | .pair => 0
  | .one => 0
  | .two => 0
  | .as_ => 0
  | .look => 0
/-- kinds -/
def nK : Wo → Nat
  | .whole => 0
  | .truth => 0
  | .given => 0
  | .name => 0
  | .fn => 1
  | .self => 2
  | .call => 0
  | .let_ => 0
  | .if_ => 0
  | .do_ => 0
  | .row => 1
  | .at_ => 0
  | .size => 0
  | .pair => 0
  | .one => 0
  | .two => 0
  | .as_ => 1
  | .look => 2
def shp (w : Wo) (p : Int) (fr ks us : List W) : W :=
  match w with
  | .row => .tup (.str (woS .row) :: .int p :: (ks ++ [.tup us]))
  | w => .tup (.str (woS w) :: .int p :: (fr ++ (ks ++ us)))
theorem woS_inj : ∀ {a b : Wo}, woS a = woS b → a = b := by
  intro a b h
  cases a <;> cases b <;> first | rfl | (simp [woS] at h)
theorem woS_beq (a b : Wo) : (woS a == woS b) = decide (a = b) := by
  by_cases h : a = b
  · subst h; simp
  · rw [decide_eq_false h]
    exact beq_eq_false_iff_ne.mpr fun z => h (woS_inj z)
theorem len0 {α : Type} {l : List α} (h : l.length = 0) : l = [] := List.eq_nil_of_length_eq_zero h
theorem len1 {α : Type} {l : List α} (h : l.length = 1) : ∃ a, l = [a] := List.length_eq_one_iff.mp h
theorem len2 {α : Type} {l : List α} (h : l.length = 2) : ∃ a b, l = [a, b] := by
  match l, h with
  | [a, b], _ => exact ⟨a, b, rfl⟩
theorem cut_f2 {α : Type} {xs : List α} : cutW xs (some 2) none = xs.drop 2 := cut_from (k := 2)
theorem cut_f3 {α : Type} {xs : List α} : cutW xs (some 3) none = xs.drop 3 := cut_from (k := 3)
theorem cut_f4 {α : Type} {xs : List α} : cutW xs (some 4) none = xs.drop 4 := cut_from (k := 4)
theorem cut_f6 {α : Type} {xs : List α} : cutW xs (some 6) none = xs.drop 6 := cut_from (k := 6)
theorem cut_t2 {α : Type} {xs : List α} : cutW xs none (some 2) = xs.take 2 := cut_to (k := 2)
theorem cut_t3 {α : Type} {xs : List α} : cutW xs none (some 3) = xs.take 3 := cut_to (k := 3)
theorem cut_t4 {α : Type} {xs : List α} : cutW xs none (some 4) = xs.take 4 := cut_to (k := 4)
theorem cut_t6 {α : Type} {xs : List α} : cutW xs none (some 6) = xs.take 6 := cut_to (k := 6)
section
variable {T : Nat → Option FD} {S : Sto} {Q : VQ} {X : XQ} {n : Nat} {w : Wo} {p : Int} {fr ks us : List W}
theorem shp_idx0 : wIdx (shp w p fr ks us) (.int 0) S Q = Q (.str (woS w)) S := by
  cases w <;> (show wIdx (.tup _) _ _ _ = _; rw [wIdx_tup, at0]; rfl)
theorem shp_idx1 : wIdx (shp w p fr ks us) (.int 1) S Q = Q (.int p) S := by
  cases w <;> (show wIdx (.tup _) _ _ _ = _; rw [wIdx_tup, at1]; rfl)
theorem parts_shp (h : T 87 = some d87) (hf : fr.length = nF w) (hk : ks.length = nK w) (q : ∀ a, S a = none → Ret (.ref a) (S.set a (.lst us)) Q) : wF T (n + 1) 87 [shp w p fr ks us] S Q X := by
  rw [wF_eq h, d87]
  walk_at "w"
  rw [shp_idx0, wEq_s, show [114, 111, 119] = woS .row from rfl, woS_beq]
  cases w <;> ((first | (obtain ⟨f1, f2, rfl⟩ := len2 hf) | (obtain ⟨f1, rfl⟩ := len1 hf) | (obtain rfl := len0 hf)); (first | (obtain ⟨k1, k2, rfl⟩ := len2 hk) | (obtain ⟨k1, rfl⟩ := len1 hk) | (obtain rfl := len0 hk)))
  all_goals simp only [reduceCtorEq, decide_true, decide_false]
  all_goals walk_at "w"
  all_goals first | (rw [shp_idx0]; refine wTab_c rfl ?_) | skip
  all_goals simp only [shp]
  all_goals walk_at "w"
  all_goals (try simp only [cut_f2, cut_f3, cut_f4, cut_f6, at3])
  all_goals walk_at "w"
  all_goals exact q
end
/-! ### trees -/
abbrev Ns := List (List Nat)
def nmW : W → List Nat
  | .str z => z
  | _ => []
inductive Tr where
  | nd (w : Wo) (p : Int) (fr : List W) (ks : List Kd) (ps : List Tr)
mutual
def tW : Tr → W
  | .nd w p fr ks ps => shp w p fr (ks.map kW) (tWs ps)
def tWs : List Tr → List W
  | [] => []
  | t :: ts => tW t :: tWs ts
end
mutual
def dT : Tr → Nat
  | .nd _ _ _ _ ps => dTs ps + 1
def dTs : List Tr → Nat
  | [] => 0
  | t :: ts => max (dT t) (dTs ts)
end
def binds (w : Wo) : Bool := w == .name || w == .fn || w == .self || w == .let_
def okN (w : Wo) (fr : List W) (ks : List Kd) (n : Nat) : Prop := fr.length = nF w ∧ ks.length = nK w ∧ n ≤ 100 ∧ (binds w = true → fr = fr.map fun x => W.str (nmW x))
mutual
def okTr : Tr → Prop
  | .nd w _ fr ks ps => okN w fr ks ps.length ∧ okTrs ps
def okTrs : List Tr → Prop
  | [] => True
  | t :: ts => okTr t ∧ okTrs ts
end
theorem tWs_map : ∀ ts : List Tr, tWs ts = ts.map tW
  | [] => rfl
  | t :: ts => by rw [tWs, tWs_map ts]; rfl
theorem okTrs_mem : ∀ {ts : List Tr} {t : Tr}, okTrs ts → t ∈ ts → okTr t
  | x :: ts, t, h, m => by
    rcases List.mem_cons.mp m with rfl | m
    · exact h.1
    · exact okTrs_mem h.2 m
theorem okTrs_of : ∀ {ts : List Tr}, (∀ t ∈ ts, okTr t) → okTrs ts
  | [], _ => trivial
  | t :: ts, h => ⟨h t List.mem_cons_self, okTrs_of fun x hx => h x (List.mem_cons_of_mem _ hx)⟩
theorem dTs_mem : ∀ {ts : List Tr} {t : Tr}, t ∈ ts → dT t ≤ dTs ts
  | x :: ts, t, m => by
    rcases List.mem_cons.mp m with rfl | m
    · exact Nat.le_max_left _ _
    · exact Nat.le_trans (dTs_mem m) (Nat.le_max_right _ _)
theorem dTs_le : ∀ {ts : List Tr} {n : Nat}, (∀ t ∈ ts, dT t ≤ n) → dTs ts ≤ n
  | [], _, _ => Nat.zero_le _
  | t :: ts, n, h => Nat.max_le.mpr ⟨h t List.mem_cons_self, dTs_le fun x hx => h x (List.mem_cons_of_mem _ hx)⟩
/-! ### names -/
def within (w : Wo) (fr : List W) (i : Nat) (ns : Ns) : Ns := if w = .fn ∨ w = .self ∨ (w = .let_ ∧ i = 1) then ns ++ fr.map nmW else ns
mutual
def frees : Tr → Ns → List (Int × List Nat)
  | .nd w p fr _ ps, ns => (if w = .name ∧ nmW (fr.headD .non) ∉ ns then [(p, nmW (fr.headD .non))] else []) ++ freess w fr 0 ps ns
def freess (w : Wo) (fr : List W) : Nat → List Tr → Ns → List (Int × List Nat)
  | _, [], _ => []
  | i, t :: ts, ns => frees t (within w fr i ns) ++ freess w fr (i + 1) ts ns
end
section
variable {T : Nat → Option FD} {S : Sto} {Q : VQ} {X : XQ} {n : Nat} {w : Wo} {p : Int} {fr ks us : List W}
end
end Bw

namespace Bw
open PySem (sizeLine)
section
variable {T : Nat → Option FD} {S : Sto} {Q : VQ} {X : XQ} {n : Nat}
end
end Bw

/-! PR: parting, depth (from M23, M21) -/
namespace Bw
open PySem (sizeLine)
section
variable {T : Nat → Option FD} {S : Sto} {Q : VQ} {X : XQ} {n : Nat}
end
end Bw

/-! LO: the looker -/
namespace Bw
open PySem (sizeLine)
abbrev Tbl := List (Int × Kd)
def putT (F : Tbl) (p : Int) (k : Kd) : Tbl := if (F.any fun e => decide (e.1 = p)) = true then F.map (fun e => if e.1 = p then (e.1, k) else e) else F ++ [(p, k)]
def kyT (F : Tbl) : List Ky := F.map fun e => .inl e.1
def wsT (F : Tbl) : List W := F.map fun e => kW e.2
def dO (F : Tbl) : O := .dic (kyT F) (wsT F)
/-! names -/
abbrev Nm := List (List Nat × Kd)
def getN : Nm → List Nat → Option Kd
  | [], _ => none
  | (q, k) :: r, p => if q = p then some k else getN r p
/-! ### what the looker does -/
def fP : List Nat := [112, 108, 97, 99, 101]
def xDeep (p : Int) : Xn := ⟨5, [fP], [.int p]⟩
inductive RL where
  | ok (k : Kd) (F G : Tbl)
  | bad (x : Xn) (F G : Tbl)
def RL.bind (r : RL) (f : Kd → Tbl → Tbl → RL) : RL := match r with
  | .ok k F G => f k F G
  | .bad x F G => .bad x F G
def fin (p : Int) (r : RL) : RL := r.bind fun k F G => if 4 < kdep k then .bad (xDeep p) F G else .ok k (putT F p k) (putT G p k)
def plT : Tr → Int
  | .nd _ p _ _ _ => p
section
variable {pl pf pw : PySem.Addr}
/-- the store with the looker's two dicts -/
def up (pf pw : PySem.Addr) (S : Sto) (F G : Tbl) : Sto := (S.set pf (dO F)).set pw (dO G)
end
section
variable {T : Nat → Option FD} {S : Sto} {Q : VQ} {X : XQ} {n : Nat} {pl pf pw : PySem.Addr}
/-! ### by its word -/
def kp (k : Kd) (i : Nat) : Kd := (parts k).getD i .unt
def nm0 (fr : List W) : List Nat := nmW (fr.headD .non)
def k0 (ks : List Kd) : Kd := ks.headD .unt
def k1 (ks : List Kd) : Kd := ks.getD 1 .unt
/-! what is known of what is found -/
mutual
def szT : Tr → Nat
  | .nd _ _ _ _ ps => szTs ps + 1
def szTs : List Tr → Nat
  | [] => 0
  | t :: ts => szT t + szTs ts
end
end
end Bw

/-! LS: the looker's walks -/
namespace Bw
open PySem (sizeLine)
theorem at4 {α : Type} {x y z u v : α} {xs : List α} : atW (x :: y :: z :: u :: v :: xs) 4 = some v := by
  have := at_nat (xs := x :: y :: z :: u :: v :: xs) (k := 4) (by simp)
  simpa using this
theorem at5 {α : Type} {x y z u v a : α} {xs : List α} : atW (x :: y :: z :: u :: v :: a :: xs) 5 = some a := by
  have := at_nat (xs := x :: y :: z :: u :: v :: a :: xs) (k := 5) (by simp)
  simpa using this
theorem at6 {α : Type} {x y z u v a b : α} {xs : List α} : atW (x :: y :: z :: u :: v :: a :: b :: xs) 6 = some b := by
  have := at_nat (xs := x :: y :: z :: u :: v :: a :: b :: xs) (k := 6) (by simp)
  simpa using this
/-! arity -/
def nP : Wo → Nat
  | .fn => 1
  | .self => 1
  | .call => 2
  | .let_ => 2
  | .if_ => 3
  | .do_ => 2
  | .at_ => 2
  | .size => 1
  | .pair => 2
  | .one => 1
  | .two => 1
  | .as_ => 1
  | .look => 1
  | _ => 0
def gdN (w : Wo) (fr : List W) (ks : List Kd) (n : Nat) : Prop := w ≠ .look ∧ (w ≠ .row → n = nP w) ∧ (w = .do_ → fr = fr.map fun x => W.str (nmW x)) ∧ ∀ k ∈ ks, kdep k ≤ 8
mutual
def gdT : Tr → Prop
  | .nd w _ fr ks ps => gdN w fr ks ps.length ∧ gdTs ps
def gdTs : List Tr → Prop
  | [] => True
  | t :: ts => gdT t ∧ gdTs ts
end
theorem gdTs_mem : ∀ {ts : List Tr} {t : Tr}, gdTs ts → t ∈ ts → gdT t
  | x :: ts, t, h, m => by
    rcases List.mem_cons.mp m with rfl | m
    · exact h.1
    · exact gdTs_mem h.2 m
theorem gdTs_of : ∀ {ts : List Tr}, (∀ t ∈ ts, gdT t) → gdTs ts
  | [], _ => trivial
  | t :: ts, h => ⟨h t List.mem_cons_self, gdTs_of fun x hx => h x (List.mem_cons_of_mem _ hx)⟩
theorem szTs_mem : ∀ {ts : List Tr} {t : Tr}, t ∈ ts → szT t ≤ szTs ts
  | x :: ts, t, m => by
    show _ ≤ szT x + szTs ts
    rcases List.mem_cons.mp m with rfl | m
    · omega
    · have := szTs_mem m; omega
theorem freess_get : ∀ {w : Wo} {fr : List W} {ps : List Tr} {i : Nat} {ns : Ns}, freess w fr i ps ns = [] → ∀ {j : Nat} {t : Tr}, ps[j]? = some t → frees t (within w fr (i + j) ns) = []
  | w, fr, [], i, ns, _, j, t, e => by simp at e
  | w, fr, x :: ps, i, ns, h, j, t, e => by
    rw [freess, List.append_eq_nil_iff] at h
    cases j with
    | zero =>
      simp only [List.getElem?_cons_zero, Option.some.injEq] at e
      subst e
      exact h.1
    | succ j =>
      rw [List.getElem?_cons_succ] at e
      have := freess_get h.2 e
      rw [show i + (j + 1) = i + 1 + j by omega]
      exact this
/-! ### what is found is not deep -/
/-! ### what the walks need -/
structure Cd (m : Nat) (t : Tr) (N : Nm) (F G : Tbl) : Prop where
  d : dT t ≤ m
  g : gdT t
  o : okTr t
  fr : ∃ ns, frees t ns = [] ∧ ∀ z ∈ ns, getN N z ≠ none
  nk : ∀ z k, getN N z = some k → kdep k ≤ 5
  lF : F.length + 6 * szT t ≤ 100000
  lG : G.length + 6 * szT t ≤ 100000
  lN : N.length + 2 * dT t ≤ 9000
/-- a node's part -/
theorem Cd.part {m : Nat} {w : Wo} {p : Int} {fr : List W} {ks : List Kd} {ps : List Tr} {N N' : Nm} {F G F' G' : Tbl} (c : Cd (m + 1) (.nd w p fr ks ps) N F G) {j : Nat} {t : Tr} (hj : ps[j]? = some t)
    (hN : ∀ z, getN N z ≠ none → getN N' z ≠ none) (hw : (w = .fn ∨ w = .self ∨ (w = .let_ ∧ j = 1)) → ∀ z ∈ fr.map nmW, getN N' z ≠ none) (hk : ∀ z k, getN N' z = some k → kdep k ≤ 5) (lN : N'.length ≤ N.length + 2)
    (lF : F'.length + 6 * szT t ≤ F.length + 6 * szTs ps) (lG : G'.length + 6 * szT t ≤ G.length + 6 * szTs ps) : Cd m t N' F' G' := by
  have hm : t ∈ ps := List.mem_of_getElem? hj
  have h1 := dTs_mem hm
  have h2 : dTs ps + 1 ≤ m + 1 := c.d
  have h3 := c.lF
  have h4 := c.lG
  have h5 := c.lN
  simp only [szT, dT] at h3 h4 h5
  refine ⟨by omega, gdTs_mem c.g.2 hm, okTrs_mem c.o.2 hm, ?_, hk, by omega, by omega, by omega⟩
  obtain ⟨ns, h, hn⟩ := c.fr
  rw [frees, List.append_eq_nil_iff] at h
  refine ⟨within w fr (0 + j) ns, freess_get h.2 hj, fun z hz => ?_⟩
  rw [Nat.zero_add] at hz
  unfold within at hz
  split at hz
  · rename_i hh
    rcases List.mem_append.mp hz with hz | hz
    · exact hN z (hn z hz)
    · exact hw hh z hz
  · exact hN z (hn z hz)
section
variable {T : Nat → Option FD} {S : Sto} {Q : VQ} {X X0 : XQ} {n e m : Nat} {pl pf pw : PySem.Addr} {w : Wo} {p : Int} {fr us : List W} {N : Nm} {F G : Tbl} {Q0 : Kd → Tbl → Tbl → Prop}
end
end Bw

/-! LW: the looker, by its word -/
namespace Bw
open PySem (sizeLine)
section
variable {T : Nat → Option FD} {S : Sto} {Q : VQ} {X X0 : XQ} {n e m : Nat} {pl pf pw : PySem.Addr} {p : Int} {N : Nm} {F G : Tbl} {Q0 : Kd → Tbl → Tbl → Prop} {a b c : Tr} {k k2 x y : Kd} {z z2 : List Nat}
theorem tW_idx1 : wIdx (tW a) (.int 1) S Q = Q (.int (plT a)) S := by
  cases a with
  | nd w p fr ks ps => simp only [tW, plT]; rw [shp_idx1]
abbrev QS (pf pw : PySem.Addr) (S : Sto) (Q : VQ) : Kd → Tbl → Tbl → Prop := fun k F G => Q (kW k) (up pf pw S F G)
end
end Bw

/-! LA: looked at wholly -/
namespace Bw
open PySem (sizeLine)
section
variable {T : Nat → Option FD} {S : Sto} {Q : VQ} {X X0 : XQ} {n e m : Nat} {pl pf pw : PySem.Addr} {w : Wo} {p : Int} {fr us : List W} {ks : List Kd} {ps : List Tr} {N : Nm} {F G : Tbl} {Q0 : Kd → Tbl → Tbl → Prop} {a b c : Tr} {k k2 x y : Kd} {z z2 : List Nat}
theorem str1 {f : W} (h : [f] = [f].map fun x => W.str (nmW x)) : f = .str (nmW f) := by simpa using h
end
end Bw

/-! LQ: looked, kind_of -/
namespace Bw
open PySem (sizeLine)
section
variable {T : Nat → Option FD} {S : Sto} {Q : VQ} {X X0 : XQ} {n e m : Nat} {pl pf pw : PySem.Addr} {t : Tr}
end
end Bw

/-! M31: k31, taken for a kind -/
namespace Bw
open PySem (sizeLine)
theorem rng_get {lo : Int} {n i : Nat} {w : W} (h : (rngW lo n)[i]? = some w) : i < n ∧ w = .int (lo + (i : Int)) := by
  unfold rngW at h
  rw [List.getElem?_map] at h
  by_cases hi : i < n
  · rw [List.getElem?_range hi] at h
    exact ⟨hi, (Option.some.inj h).symm⟩
  · rw [List.getElem?_eq_none (by simpa using hi)] at h
    cases h
section
variable {T : Nat → Option FD} {S : Sto} {Q : VQ} {X X0 : XQ} {n e m : Nat}
end
end Bw

/-! W33: the deal, the words, the programs of k33 -/
namespace Bw
open PySem (sizeLine)
theorem compI {f : W → Sto → (List W → Sto → Prop) → Prop} {lk : Lk} (I : Nat → List W → Sto → Prop) : ∀ {items : List W} {done : List W} {S : Sto} {R : List W → Sto → Prop} (k : Nat), I k done S →
    (∀ i done S, i ≤ k + items.length → I i done S → liveS lk S) →
    (∀ i w done S (R : List W → Sto → Prop), items[i]? = some w → I (k + i) done S → (∀ y S', I (k + i + 1) (done ++ [y]) S' → R [y] S') → f w S R) →
    (∀ more S', I (k + items.length) (done ++ more) S' → R more S') → wMap lk f items S R
  | [], done, S, R, k, h, hl, step, fin => ⟨hl k done S (Nat.le_refl _) h, fin [] S (by rw [List.append_nil]; exact h)⟩
  | w :: ws, done, S, R, k, h, hl, step, fin => ⟨hl k done S (Nat.le_add_right _ _) h, step 0 w done S _ rfl h fun y S' h' => compI I (k + 1) h' (fun i done S hi => hl i done S (by rw [List.length_cons]; omega))
      (fun i w done S R e hI hn => step (i + 1) w done S R e (by rw [show k + (i + 1) = k + 1 + i by omega]; exact hI) (fun y S'' z => hn y S'' (by rw [show k + 1 + i + 1 = k + (i + 1) + 1 by omega]; exact z)))
      (fun more S'' z => fin ([y] ++ more) S'' (by rw [List.length_cons, show k + (ws.length + 1) = k + 1 + ws.length by omega, ← List.append_assoc]; exact z))⟩
theorem rng_get0 {n i : Nat} {w : W} (h : (rngW 0 n)[i]? = some w) : i < n ∧ w = .int (i : Int) := by
  obtain ⟨h1, h2⟩ := rng_get h
  exact ⟨h1, by rw [h2]; simp⟩
theorem intOf_b {b : Bool} {S : Sto} {Q : VQ} : wIntOf (.bl b) S Q = Q (.int (if b then 1 else 0)) S := rfl
/-- the deal -/
def dl (ns : List Int) (b : Int) (r : List W) (i c : Int) : O := .lst (.sc (ns.map W.int) :: .int i :: .int b :: .int c :: r)
section
variable {T : Nat → Option FD} {S : Sto} {Q : VQ} {X X0 : XQ} {n e m : Nat} {pd : PySem.Addr} {ns : List Int} {b i c : Int} {r : List W}
theorem idx_str3 {z : List Nat} {j : Int} (h0 : 0 ≤ j) (h : j < (z.length : Int)) (hz : z.length ≤ 1000) (q : ∀ c, Q (.str [c]) S) : wIdx (.str z) (.int j) S Q := by
  have sz : 1000 ≤ sizeLine := by decide
  obtain ⟨m, rfl⟩ : ∃ m : Nat, j = (m : Int) := ⟨j.toNat, by omega⟩
  have hm : m < z.length := by omega
  have e : atW z (m : Int) = some z[m] := by rw [at_nat hm, List.getElem?_eq_getElem hm]
  show z.length ≤ sizeLine ∧ (match atW z (m : Int) with | some c => Q (.str [c]) S | none => False)
  rw [e]
  exact ⟨by omega, q _⟩
end
end Bw

/-! Y33: any program of k33 -/
namespace Bw
open PySem (sizeLine)
theorem szTs_len : ∀ {ps : List Tr} {s : Nat}, (∀ t ∈ ps, szT t ≤ s) → szTs ps ≤ ps.length * s
  | [], _, _ => Nat.zero_le _
  | t :: ts, s, h => by
    have h1 := h t List.mem_cons_self
    have h2 := szTs_len (ps := ts) fun x hx => h x (List.mem_cons_of_mem _ hx)
    show szT t + szTs ts ≤ (ts.length + 1) * s
    rw [Nat.add_mul]
    omega
section
variable {T : Nat → Option FD} {S : Sto} {Q : VQ} {X X0 : XQ} {n e m : Nat} {pd : PySem.Addr} {ns : List Int} {b i c : Int} {ws : List (List Nat)} {nms : Ns}
end
end Bw

/-! R33: the looker without its dicts; the law's own rules -/
namespace Bw
open PySem (sizeLine)
section
variable {n : Nat} {t : Tr} {w s : Kd} {b : Int} {N : Nm} {F G : Tbl}
end
/-! ### the walks -/
def partFD (i : Nat) : FD := ⟨2, 4, [.ite (.or [(.cmp .eq (.idx (.var 0) (.cst (.int 0))) (.cst (.str [63]))), (.cmp .eq (.idx (.var 1) (.cst (.int 0))) (.cst (.str [63])))]) [.ret (.cst (.non))] [], .ite (.cmp .ne (.idx (.var 0) (.cst (.int 0))) (.idx (.var 1) (.cst (.int 0)))) [.ret (.tup [])] [], .for (.nm 2) .rng2 [(.cst (.int 1)), (.bi .len [(.var 0)])] [.asg 3 (.call i [(.idx (.var 0) (.var 2)), (.idx (.var 1) (.var 2))]), .ite (.isN true (.var 3)) [.ret (.bin (.add false) (.tup [(.idx (.call 170 [(.idx (.var 0) (.cst (.int 0)))]) (.bin .sub (.var 2) (.cst (.int 1))))]) (.var 3))] []], .ret (.cst (.non))]⟩
def depFD (i : Nat) : FD := ⟨1, 2, [.ret (.bin (.add false) (.cst (.int 1)) (.bi .maxd [(.comp true (.nm 1) .rng2 [(.cst (.int 1)), (.bi .len [(.var 0)])] [] (.call i [(.idx (.var 0) (.var 1))]) [1]), (.cst (.int 0))]))]⟩
def joinFD (i : Nat) : FD := ⟨2, 3, [.ite (.cmp .ne (.idx (.var 0) (.cst (.int 0))) (.idx (.var 1) (.cst (.int 0)))) [.ret (.tup [(.cst (.str [63]))])] [], .ret (.bin (.add false) (.tup [(.idx (.var 0) (.cst (.int 0)))]) (.bi .tuple1 [(.comp true (.nm 2) .rng2 [(.cst (.int 1)), (.bi .len [(.var 0)])] [] (.call i [(.idx (.var 0) (.var 2)), (.idx (.var 1) (.var 2))]) [2])]))]⟩
section
variable {T : Nat → Option FD} {S : Sto} {Q : VQ} {X : XQ} {n : Nat}
end
end Bw

local macro_rules | `(tactic| walk_at "w") => `(tactic| try simp -implicitDefEqProofs only [wSs, wS, wHs, wHn, wE, wEs, wAnd, wOr, wB_t, wB_f, wSome_s, wWalk_s, entry, cF, Option.map_some, Option.bind_some, List.map_cons, List.map_nil, List.length_cons, List.length_nil, List.length_map, List.replicate, List.cons_append, List.nil_append, List.getElem?_cons_zero, List.getElem?_cons_succ, List.set_cons_zero, List.set_cons_succ, Nat.reduceSub, Nat.reduceAdd, Int.reduceAdd, Int.reduceSub, at0, at1, at2, at3, cut1, cut01, Option.isSome_some, true_and, and_true, if_true, Bool.false_eq_true, if_false, Bool.not_true, Bool.not_false, beq_self_eq_true, Bool.or_true, Bool.true_or, Bool.or_false, Bool.bne_false, Bool.bne_true, implies_true, Int.toNat_natCast, List.drop_succ_cons, List.drop_zero, List.take_succ_cons, List.take_zero, List.take_nil, List.drop_nil, dn_rt, dn_nx, dn_xc, wVar_s, wNon_non, wNon_bl, wNon_int, wNon_str, wNon_tup, wNon_rl, wNon_sc, wNot_b, wI1_i, wInts_i, wIdx_tup, wLen_tup, wSl_tup0, wSl_tup1, wSl_tup2, wSl_tup3, walkOf_tup, seqOf_tup, deref_tup, wIdx_rl, wLen_rl, wSl_rl0, wSl_rl1, wSl_rl2, wSl_rl3, walkOf_rl, seqOf_rl, deref_rl, wIdx_sc, wLen_sc, wSl_sc0, wSl_sc1, wSl_sc2, wSl_sc3, walkOf_sc, seqOf_sc, deref_sc, walkL_rl, walkL_sc, deref_non, deref_bl, deref_int, deref_str, lstOf_rl, wLen_dic, wLen_str, optI0, optI1, optS0, optS1, mkL_t, mkL_f, wEq_i, wEq_s, wEq_b, wAdd_i, wAdd_s, wAdd_t, wBin_add, wBin_sub, wBin_fdiv, wBin_mod, wBin_pow, wMeb_count, wMeb_index, wMeb_dget1, wMeb_dget2, wMeb_dcopy, recv_count, recv_index, recv_dget1, recv_dget2, recv_dcopy, dicOf_dct, kyOf_int, kyOf_str, wIdx_dct, wIn_dct, fld_obj, fld_exn, obj_obj, isCW_non, isCW_bl, isCW_int, isCW_exn, bindH_n, bindH_s, goneH_n, goneH_s, sutD_nx, sutD_rt, wOrd_s, pair0, pair_i, strs0, strs1, wBin_mul_i, wBin_mul_t, wCmp_eq, wCmp_ne, wCmp_lt, wCmp_le, wCmp_gt, wCmp_ge, wCmp_isin, wCmp_notin, wBi_len, wBi_int1, wBi_max2, wBi_max3, wBi_min2, wBi_abs, wBi_maxd, wBi_tuple1, wBi_list1, wBi_listrev, wBi_all1, wBi_any1, wBi_sum1, wBi_ord1, wBi_lenset, wBi_dict1, wBi_max1, it_seq, it_rng1, it_rng2, it_enum, it_rev, it_zipT, wipe0, wipe1, bt_nm, bt_pr, bt_prl, bi0, bi1, sz0, sz1, sz2, sz3, sz4, sz5, sz6, sz7, sz8, sz9, sz10, sz11, sz12, isi_dict_dct, isi_tuple_dct, isi_int_non, isi_bool_non, isi_str_non, isi_tuple_non, isi_list_non, isi_dict_non, isi_int_bl, isi_bool_bl, isi_str_bl, isi_tuple_bl, isi_list_bl, isi_dict_bl, isi_int_int, isi_bool_int, isi_str_int, isi_tuple_int, isi_list_int, isi_dict_int, isi_int_str, isi_bool_str, isi_str_str, isi_tuple_str, isi_list_str, isi_dict_str, isi_int_tup, isi_bool_tup, isi_str_tup, isi_tuple_tup, isi_list_tup, isi_dict_tup, isi_int_rl, isi_bool_rl, isi_str_rl, isi_tuple_rl, isi_list_rl, isi_dict_rl, isi_int_sc, isi_bool_sc, isi_str_sc, isi_tuple_sc, isi_list_sc, isi_dict_sc, k_sl1, k_sl01, k_idx0, k_len, k_non, k_isi_tuple, k_isi_int, k_isi_bool, k_isi_str, k_isi_list, k_equ, List.cons_beq_cons, Nat.reduceBEq, Bool.false_and, Bool.true_and, List.beq_nil_eq, List.nil_beq_eq, List.isEmpty_cons, List.isEmpty_nil, at4, at5, at6, Int.reduceBEq])
/-! Z33: the law's own rules walked -/
namespace Bw
open PySem (sizeLine)
section
variable {T : Nat → Option FD} {S : Sto} {Q : VQ} {X : XQ} {n : Nat} {w : Wo} {p : Int} {fr us : List W} {ks : List Kd} {N : Nm} {kinds : List Kd} {x kx : W}
end
end Bw

/-! A33: held, own, written, parts -/
namespace Bw
open PySem (sizeLine)
def heldFD (wi pi : Nat) : FD := ⟨3, 5, [.ite (.and [(.cmp .eq (.idx (.var 0) (.cst (.int 0))) (.cst (.str [105, 102]))), (.cmp .eq (.bi .len [(.var 2)]) (.cst (.int 2)))]) [.ret (.cst (.non))] [], .ite (.and [(.cmp .eq (.idx (.var 0) (.cst (.int 0))) (.cst (.str [105, 102]))), (.cmp .eq (.bi .len [(.var 2)]) (.cst (.int 3)))]) [.asg 4 (.call pi [(.idx (.var 2) (.cst (.int 2))), (.idx (.var 2) (.cst (.int 1)))]), .ite (.isN true (.var 4)) [.ret (.tup [(.cst (.str [112, 97, 114, 116, 101, 100])), (.idx (.var 1) (.cst (.int 1))), (.idx (.var 2) (.cst (.int 2))), (.idx (.idx (.var 0) (.cst (.int 3))) (.cst (.int 1))), (.idx (.var 2) (.cst (.int 1))), (.var 4)])] [], .ret (.cst (.non))] [], .asg 3 (.call wi [(.var 0), (.var 2)]), .asg 4 (.call pi [(.idx (.var 2) (.neg (.cst (.int 1)))), (.var 3)]), .ite (.isN false (.var 4)) [.ret (.cst (.non))] [], .ret (.tup [(.cst (.str [112, 97, 114, 116, 101, 100])), (.idx (.var 1) (.cst (.int 1))), (.idx (.var 2) (.neg (.cst (.int 1)))), (.idx (.var 0) (.cst (.int 1))), (.var 3), (.var 4)])]⟩
section
variable {T : Nat → Option FD} {S : Sto} {Q : VQ} {X : XQ} {n : Nat} {w : Wo} {p : Int} {fr us : List W} {ks : List Kd} {N : Nm} {kinds : List Kd} {x kx : W} {ps : List Tr} {t : Tr}
end
end Bw

/-! C33: the law's walk through a program -/
namespace Bw
open PySem (sizeLine)
structure RT (T : Nat → Option FD) : Prop where
  h170 : T 170 = some d170
  h182 : T 182 = some d182
  h183 : T 183 = some (partFD 183)
  h184 : T 184 = some (joinFD 184)
  h185 : T 185 = some d185
  h186 : T 186 = some d186
  h187 : T 187 = some d187
  h188 : T 188 = some d188
  h189 : T 189 = some d189
  h190 : T 190 = some (depFD 190)
  h191 : T 191 = some (heldFD 188 183)
  h192 : T 192 = some d192
  h193 : T 193 = some d193
section
variable {T : Nat → Option FD} {S : Sto} {Q : VQ} {X : XQ} {n : Nat}
end
end Bw

/-! D33: told; the law -/
namespace Bw
open PySem (sizeLine)
section
variable {T : Nat → Option FD} {S : Sto} {Q : VQ} {X : XQ} {n : Nat}
end
end Bw

/-! TYN: programs that the looker takes: a node's kind is looser than the kind that it was made for -/
namespace Bw
section
variable {w : Wo} {p : Int} {fr : List W} {ks : List Kd} {ps : List Tr} {N : Nm} {want w0 w1 w2 w3 K : Kd} {a b c : Tr} {z z2 : List Nat}
end
end Bw

/-! ND1: the deal, the words, leaves of a drawn kind -/
namespace Bw
open PySem (sizeLine)
mutual
def plcs : Tr → List Int
  | .nd _ p _ _ ps => p :: plcss ps
def plcss : List Tr → List Int
  | [] => []
  | t :: ts => plcs t ++ plcss ts
end
mutual
/-- what stands in front is plain -/
def flT : Tr → Prop
  | .nd _ _ fr _ ps => (∀ x ∈ fr, flatW x = true) ∧ flTs ps
def flTs : List Tr → Prop
  | [] => True
  | t :: ts => flT t ∧ flTs ts
end
theorem flTs_mem : ∀ {ts : List Tr} {t : Tr}, flTs ts → t ∈ ts → flT t
  | x :: ts, t, h, m => by
    rcases List.mem_cons.mp m with rfl | m
    · exact h.1
    · exact flTs_mem h.2 m
theorem plcss_app : ∀ {a b : List Tr}, plcss (a ++ b) = plcss a ++ plcss b
  | [], b => rfl
  | t :: a, b => by rw [List.cons_append, plcss, plcss, plcss_app (a := a), List.append_assoc]
section
variable {b c c1 c2 c0 c' : Int} {w : Wo} {fr : List W} {ks : List Kd} {nms : Ns} {d s s2 e : Nat} {ts : List Tr} {t : Tr}
end
/-! ### names -/
section
variable {T : Nat → Option FD} {S : Sto} {Q : VQ} {X X0 : XQ} {n e m : Nat} {pd : PySem.Addr} {ns : List Int} {b i c fl : Int} {r : List W} {ws : List (List Nat)} {nms : Ns} {N : Nm} {want : Kd}
end
end Bw

/-! ND2: leaves of a drawn kind -/
namespace Bw
open PySem (sizeLine)
theorem wSs_app3 {C : CT} : ∀ {A B : List St} {env : Env} {S : Sto} {D : Dn}, wSs C (A ++ B) env S D = wSs C A env S { D with nx := fun e S => wSs C B e S D }
  | [], B, env, S, D => rfl
  | s :: A, B, env, S, D => by
    show wS C s env S _ = wS C s env S _
    congr 1
    show Dn.mk _ _ _ _ _ = Dn.mk _ _ _ _ _
    congr 1
    funext e S
    exact wSs_app3
section
variable {T : Nat → Option FD} {pd : PySem.Addr} {ns : List Int} {b fl : Int} {ws : List (List Nat)}
end
end Bw

/-! ND3: programs of a drawn kind -/
namespace Bw
open PySem (sizeLine)
section
variable {T : Nat → Option FD} {pd : PySem.Addr} {ns : List Int} {b fl : Int} {ws : List (List Nat)}
end
end Bw

/-! ND4: loops of a drawn kind -/
namespace Bw
open PySem (sizeLine)
section
variable {T : Nat → Option FD} {pd : PySem.Addr} {ns : List Int} {b fl : Int} {ws : List (List Nat)}
end
end Bw

/-! ND5: loops walked; any program of a drawn kind -/
namespace Bw
open PySem (sizeLine)
section
variable {T : Nat → Option FD} {pd : PySem.Addr} {ns : List Int} {b fl : Int} {ws : List (List Nat)}
end
end Bw

/-! ND6: any program of a drawn kind -/
namespace Bw
open PySem (sizeLine)
section
variable {T : Nat → Option FD} {pd : PySem.Addr} {ns : List Int} {b fl : Int} {ws : List (List Nat)}
end
end Bw

/-! ND7: five words, all unlike -/
namespace Bw
open PySem (sizeLine)
def az : List Nat := [97, 98, 99, 100, 101, 102, 103, 104, 105, 106, 107, 108, 109, 110, 111, 112, 113, 114, 115, 116, 117, 118, 119, 120, 121, 122]
section
variable {T : Nat → Option FD} {S : Sto} {Q : VQ} {X : XQ} {n : Nat} {c : Int}
end
end Bw

/-! RD1: all places are found -/
namespace Bw
open PySem (sizeLine)
end Bw

/-! RD2: places, looks told, looks put in and taken out -/
namespace Bw
open PySem (sizeLine)
theorem plcs_len (t : Tr) : (plcs t).length = szT t := by
  have : ∀ n : Nat, ∀ t : Tr, dT t ≤ n → (plcs t).length = szT t := fun n => by
    induction n with
    | zero => intro t h; exact absurd h (by cases t; simp [dT])
    | succ n ih =>
      intro t h
      cases t with
      | nd w p fr ks ps =>
        have : ∀ ts : List Tr, dTs ts ≤ n → (plcss ts).length = szTs ts := fun ts => by
          induction ts with
          | nil => intro _; rfl
          | cons x r ih2 =>
            intro h
            simp only [dTs] at h
            rw [plcss, List.length_append, ih x (by omega), ih2 (by omega), szTs]
        simp only [dT] at h
        rw [plcs, List.length_cons, this ps (by omega), szT]
  exact this (dT t) t (Nat.le_refl _)
section
variable {T : Nat → Option FD} {S : Sto} {Q : VQ} {X : XQ} {n : Nat} {w : Wo} {p : Int} {fr ks us us' : List W} {F G : Tbl}
theorem with_shp {x : W} (h : T 88 = some d88) (hf : fr.length = nF w) (hk : ks.length = nK w) (hx : seqOf S x = some us') (hl : us'.length ≤ 1000) (q : Q (shp w p fr ks us') S) : wF T (n + 1) 88 [shp w p fr ks us, x] S Q X := by
  have sz : 100000 ≤ sizeLine := by decide
  rw [wF_eq h, d88]
  walk_at "w"
  rw [shp_idx0, wEq_s, show [114, 111, 119] = woS .row from rfl, woS_beq]
  cases w <;> ((first | (obtain ⟨f1, f2, rfl⟩ := len2 hf) | (obtain ⟨f1, rfl⟩ := len1 hf) | (obtain rfl := len0 hf)); (first | (obtain ⟨k1, k2, rfl⟩ := len2 hk) | (obtain ⟨k1, rfl⟩ := len1 hk) | (obtain rfl := len0 hk)))
  all_goals simp only [reduceCtorEq, decide_true, decide_false]
  all_goals walk_at "w"
  all_goals first | (rw [shp_idx0]; refine wTab_c rfl ?_) | skip
  all_goals simp only [shp]
  all_goals walk_at "w"
  all_goals (try simp only [cut_t2, cut_t3, cut_t4, cut_t6])
  all_goals walk_at "w"
  all_goals rw [hx]
  all_goals walk_at "w"
  all_goals first | exact ret0 q | exact ⟨by omega, ret0 q⟩ | exact ⟨by simp; omega, ret0 q⟩
theorem parts_rl {ps : List Tr} {ks : List Kd} (h : T 87 = some d87) (hf : fr.length = nF w) (hk : ks.length = nK w) (q : Q (.rl (ps.map tW)) S) : wF T (n + 1) 87 [tW (.nd w p fr ks ps)] S Q X := by
  rw [tW]
  refine parts_shp h hf (by rw [List.length_map]; exact hk) fun a ha => ?_
  rw [tWs_map]
  exact retL (Sub.set ha) Sto.set_same ha q
end
end Bw

/-! RD3: the laws' own walks through programs made ready; large rows -/
namespace Bw
open PySem (sizeLine)
mutual
/-- of such words, signs and kinds -/
def dueT : Tr → Prop
  | .nd w _ fr ks ps => (fr.length = nF w ∧ ks.length = nK w ∧ ps.length ≤ 100) ∧ (∀ x ∈ fr, flatW x = true) ∧ (∀ k ∈ ks, kdep k ≤ 8) ∧ dueTs ps
def dueTs : List Tr → Prop
  | [] => True
  | t :: ts => dueT t ∧ dueTs ts
end
theorem dueTs_mem : ∀ {ts : List Tr} {t : Tr}, dueTs ts → t ∈ ts → dueT t
  | x :: ts, t, h, m => by
    rcases List.mem_cons.mp m with rfl | m
    · exact h.1
    · exact dueTs_mem h.2 m
theorem dueTs_of : ∀ {ts : List Tr}, (∀ t ∈ ts, dueT t) → dueTs ts
  | [], _ => trivial
  | t :: ts, h => ⟨h t List.mem_cons_self, dueTs_of fun x hx => h x (List.mem_cons_of_mem _ hx)⟩
theorem due_of : ∀ (m : Nat) {t : Tr}, dT t ≤ m → okTr t → gdT t → flT t → dueT t
  | 0, t, h, _, _, _ => absurd h (by cases t; simp [dT])
  | m + 1, .nd w p fr ks ps, h, ho, hg, hf => by
    simp only [dT] at h
    exact ⟨⟨ho.1.1, ho.1.2.1, ho.1.2.2.1⟩, hf.1, hg.1.2.2.2, dueTs_of fun t ht => due_of m (Nat.le_trans (dTs_mem ht) (by omega)) (okTrs_mem ho.2 ht) (gdTs_mem hg.2 ht) (flTs_mem hf.2 ht)⟩
theorem flat_due {x : W} (h : flatW x = true) : due2 x = true ∧ depW x = 0 := by cases x <;> first | exact ⟨rfl, rfl⟩ | (simp [flatW] at h)
theorem tree_due : ∀ (m : Nat) {t : Tr}, dT t ≤ m → dueT t → due2 (tW t) = true ∧ depW (tW t) ≤ 2 * dT t + 9
  | 0, t, h, _ => absurd h (by cases t; simp [dT])
  | m + 1, .nd w p fr ks ps, h, hd => by
    simp only [dT] at h
    have ih : ∀ t ∈ ps, due2 (tW t) = true ∧ depW (tW t) ≤ 2 * dT t + 9 := fun t ht => tree_due m (Nat.le_trans (dTs_mem ht) (by omega)) (dueTs_mem hd.2.2.2 ht)
    have hk : ∀ x ∈ ks.map kW, due2 x = true ∧ depW x ≤ 8 := fun x hx => by
      obtain ⟨k, hk, rfl⟩ := List.mem_map.mp hx
      exact ⟨due2_k k, by rw [dep_kW]; exact hd.2.2.1 k hk⟩
    have hp : ∀ x ∈ tWs ps, due2 x = true ∧ depW x ≤ 2 * dTs ps + 9 := fun x hx => by
      rw [tWs_map] at hx
      obtain ⟨t, ht, rfl⟩ := List.mem_map.mp hx
      have h1 := ih t ht
      have := dTs_mem ht
      exact ⟨h1.1, by omega⟩
    have depl : ∀ (l : List W) (b : Nat), (∀ x ∈ l, depW x ≤ b) → depWs l ≤ b := fun l b => by
      induction l with
      | nil => intro _; exact Nat.zero_le _
      | cons a r ih2 =>
        intro h
        show max (depW a) (depWs r) ≤ b
        exact Nat.max_le.mpr ⟨h a List.mem_cons_self, ih2 fun x hx => h x (List.mem_cons_of_mem _ hx)⟩
    have hn : nF w ≤ 2 ∧ nK w ≤ 2 := by cases w <;> simp [nF, nK]
    have lt : (tWs ps).length ≤ 100 := by rw [tWs_map, List.length_map]; exact hd.1.2.2
    have gen : ∀ l : List W, (∀ x ∈ l, due2 x = true ∧ depW x ≤ 2 * dTs ps + 10) → l.length ≤ 200 → due2 (.tup l) = true ∧ depW (.tup l) ≤ 2 * (dTs ps + 1) + 9 := fun l hl h2 => by
      refine ⟨due2_tup (by omega) fun x hx => (hl x hx).1, ?_⟩
      show depWs l + 1 ≤ _
      have := depl l _ fun x hx => (hl x hx).2
      omega
    rw [tW]
    show due2 (shp w p fr (ks.map kW) (tWs ps)) = true ∧ depW (shp w p fr (ks.map kW) (tWs ps)) ≤ 2 * (dTs ps + 1) + 9
    by_cases hr : w = .row
    · subst hr
      refine gen _ (fun x hx => ?_) (by simp [hd.1.2.1, nK])
      simp only [List.mem_cons, List.mem_append, List.not_mem_nil, or_false] at hx
      rcases hx with rfl | rfl | hx | rfl
      · exact ⟨rfl, Nat.zero_le _⟩
      · exact ⟨rfl, Nat.zero_le _⟩
      · have := hk x hx; exact ⟨this.1, by omega⟩
      · refine ⟨due2_tup (by omega) fun x hx => (hp x hx).1, ?_⟩
        show depWs (tWs ps) + 1 ≤ _
        have := depl _ _ fun x hx => (hp x hx).2
        omega
    · have e : shp w p fr (ks.map kW) (tWs ps) = .tup (.str (woS w) :: .int p :: (fr ++ (ks.map kW ++ tWs ps))) := by cases w <;> first | rfl | exact absurd rfl hr
      rw [e]
      refine gen _ (fun x hx => ?_) (by simp [hd.1.1, hd.1.2.1]; omega)
      simp only [List.mem_cons, List.mem_append] at hx
      rcases hx with rfl | rfl | hx | hx | hx
      · exact ⟨rfl, Nat.zero_le _⟩
      · exact ⟨rfl, Nat.zero_le _⟩
      · have := flat_due (hd.2.1 x hx); exact ⟨this.1, by omega⟩
      · have := hk x hx; exact ⟨this.1, by omega⟩
      · have := hp x hx; exact ⟨this.1, by omega⟩
end Bw

/-! RD4: the laws' own walks through programs made ready; large rows -/
namespace Bw
open PySem (sizeLine)
def restW (w : Wo) (fr ks us : List W) : List W := if w = .row then ks ++ [.tup us] else fr ++ (ks ++ us)
theorem shpE {w : Wo} {p : Int} {fr ks us : List W} : shp w p fr ks us = .tup (.str (woS w) :: .int p :: restW w fr ks us) := by cases w <;> rfl
section
variable {T : Nat → Option FD} {S : Sto} {Q : VQ} {X : XQ} {n : Nat} {F G : Tbl}
end
end Bw

/-! RD5: looks met; large rows -/
namespace Bw
open PySem (sizeLine)
section
variable {T : Nat → Option FD} {S : Sto} {Q : VQ} {X : XQ} {n : Nat} {F G : Tbl}
end
end Bw

/-! M42: the law of looks -/
namespace Bw
open PySem (sizeLine)
def QT : VQ := fun w _ => w = .bl true
section
variable {T : Nat → Option FD} {S : Sto} {Q : VQ} {X : XQ} {n : Nat} {F G : Tbl}
end
end Bw

/-! SP1: spots of kinds, loosened by bits -/
namespace Bw
open PySem (sizeLine)
theorem intsOf_nat {α : Type} {f : α → Nat} : ∀ {l : List α}, intsOf (l.map fun x => W.int ((f x : Nat) : Int)) = some (l.map fun x => ((f x : Nat) : Int))
  | [] => rfl
  | x :: l => by rw [List.map_cons, intsOf, intsOf_nat]; rfl
section
variable {T : Nat → Option FD} {S : Sto} {Q : VQ} {X : XQ} {n : Nat}
end
end Bw

/-! SP2: spots of programs; programs loosened by bits -/
namespace Bw
open PySem (sizeLine)
theorem wB_n {b : Bool} {t f : Prop} (h : b = false) (q : f) : wB (.bl b) t f := by subst h; exact q
theorem wB_y {b : Bool} {t f : Prop} (h : b = true) (q : t) : wB (.bl b) t f := by subst h; exact q
section
variable {T : Nat → Option FD} {S : Sto} {Q : VQ} {X : XQ} {n : Nat} {w : Wo} {p : Int} {fr us us' : List W} {ks ks' : List Kd}
theorem written_rl (h : T 89 = some d89) {wk : List W} (hf : fr.length = nF w) (hk : wk.length = nK w) (hw : w ≠ .look) (q : Q (.rl wk) S) : wF T (n + 1) 89 [shp w p fr wk us] S Q X := by
  rw [wF_eq h, d89]
  walk_at "w"
  simp only [shp_idx0]
  walk_at "w"
  cases w
  case look => exact absurd rfl hw
  all_goals first | (obtain ⟨f1, f2, rfl⟩ := len2 hf) | (obtain ⟨f1, rfl⟩ := len1 hf) | (obtain rfl := len0 hf)
  all_goals first | (obtain ⟨k1, k2, rfl⟩ := len2 hk) | (obtain ⟨k1, rfl⟩ := len1 hk) | (obtain rfl := len0 hk)
  all_goals (repeat (first | refine wB_n rfl ?_ | refine wB_y rfl ?_))
  all_goals try simp only [shp, List.cons_append, List.nil_append, List.map_cons, List.map_nil]
  all_goals walk_at "w"
  all_goals exact fun p hp => retL (Sub.set hp) Sto.set_same hp q
theorem with_wr (h : T 90 = some d90) {wk wk' : List W} {x : W} (hf : fr.length = nF w) (hk : wk.length = nK w) (hk' : wk'.length = nK w) (hw : w ≠ .look) (hx : seqOf S x = some wk') (hl : us.length ≤ 1000) (q : Q (shp w p fr wk' us) S) : wF T (n + 1) 90 [shp w p fr wk us, x] S Q X := by
  have sz : 100000 ≤ sizeLine := by decide
  rw [wF_eq h, d90]
  walk_at "w"
  simp only [shp_idx0]
  walk_at "w"
  cases w
  case look => exact absurd rfl hw
  all_goals first | (obtain ⟨f1, f2, rfl⟩ := len2 hf) | (obtain ⟨f1, rfl⟩ := len1 hf) | (obtain rfl := len0 hf)
  all_goals first | (obtain ⟨k1, k2, rfl⟩ := len2 hk) | (obtain ⟨k1, rfl⟩ := len1 hk) | (obtain rfl := len0 hk)
  all_goals first | (obtain ⟨k1', k2', rfl⟩ := len2 hk') | (obtain ⟨k1', rfl⟩ := len1 hk') | (obtain rfl := len0 hk')
  all_goals (repeat (first | refine wB_n rfl ?_ | refine wB_y rfl ?_))
  all_goals first | exact ret0 q | skip
  all_goals simp only [shp, List.cons_append, List.nil_append]
  all_goals walk_at "w"
  all_goals (try simp only [cut_t2, cut_t3, cut_t4, cut_t6])
  all_goals rw [hx]
  all_goals walk_at "w"
  all_goals (try simp only [cut_f3, cut_f4, cut_f6])
  all_goals walk_at "w"
  all_goals first | exact ret0 q | exact ⟨by omega, ret0 q⟩
theorem nK_le (w : Wo) : nK w ≤ 2 := by cases w <;> simp [nK]
end
end Bw

/-! SP3: programs held side by side -/
namespace Bw
open PySem (sizeLine)
end Bw

/-! SP4: programs held side by side, walked -/
namespace Bw
open PySem (sizeLine)
section
variable {T : Nat → Option FD} {S : Sto} {Q : VQ} {X : XQ} {n : Nat}
end
end Bw

/-! SP5: the law's own walk over the tuples -/
namespace Bw
open PySem (sizeLine)
section
variable {T : Nat → Option FD} {S : Sto} {Q : VQ} {X : XQ} {n : Nat} {pk : W} {kD : List Ky} {vD : List W} {many : Nat} {b : Nat → Bool}
end
end Bw

/-! SP6: the law's own walk: kinds, rows, programs -/
namespace Bw
open PySem (sizeLine)
section
variable {T : Nat → Option FD} {S : Sto} {Q : VQ} {X : XQ} {n : Nat} {pk : W} {kD : List Ky} {vD : List W} {many : Nat} {b : Nat → Bool}
end
end Bw

/-! SP7: the maker of k80 -/
namespace Bw
open PySem (sizeLine)
theorem flTs_of7 : ∀ {ts : List Tr}, (∀ t ∈ ts, flT t) → flTs ts
  | [], _ => trivial
  | t :: ts, h => ⟨h t List.mem_cons_self, flTs_of7 fun x hx => h x (List.mem_cons_of_mem _ hx)⟩
section
variable {T : Nat → Option FD} {S : Sto} {Q : VQ} {X : XQ} {n : Nat} {pd : PySem.Addr} {ns : List Int} {b i c : Int}
abbrev dp (ns : List Int) (b i c : Int) : O := dl ns b [] i c
end
end Bw

/-! EA1: k11, what its programs are made of -/
namespace Bw
open PySem (sizeLine)
def fA : W → Bool
  | .bl _ => true
  | .int _ => true
  | .str _ => true
  | _ => false
theorem fA_flat {x : W} (h : fA x = true) : flatW x = true := by cases x <;> first | rfl | cases h
mutual
/-- what may be held against itself -/
def okA : W → Bool
  | .bl _ => true
  | .int _ => true
  | .str _ => true
  | .tup ws => decide (ws.length ≤ 1000000) && okAs ws
  | .rl ws => decide (ws.length ≤ 1000000) && okAs ws
  | _ => false
def okAs : List W → Bool
  | [] => true
  | w :: ws => okA w && okAs ws
end
theorem okAs_mem : ∀ {ws : List W} {w : W}, okAs ws = true → w ∈ ws → okA w = true
  | x :: ws, w, h, m => by
    have h : (okA x && okAs ws) = true := h
    rw [Bool.and_eq_true] at h
    rcases List.mem_cons.mp m with rfl | m
    · exact h.1
    · exact okAs_mem h.2 m
theorem okAs_of : ∀ {ws : List W}, (∀ w ∈ ws, okA w = true) → okAs ws = true
  | [], _ => rfl
  | w :: ws, h => by
    show (okA w && okAs ws) = true
    rw [h w List.mem_cons_self, okAs_of fun x hx => h x (List.mem_cons_of_mem _ hx)]; rfl
theorem fA_okA {x : W} (h : fA x = true) : okA x = true := by cases x <;> first | rfl | cases h
theorem okA_k : ∀ k : Kd, okA (kW k) = true
  | .whole => rfl
  | .truth => rfl
  | .unt => rfl
  | .row a => by show (decide (2 ≤ 1000000) && (true && (okA (kW a) && true))) = true; rw [okA_k a]; rfl
  | .to a b => by show (decide (3 ≤ 1000000) && (true && (okA (kW a) && (okA (kW b) && true)))) = true; rw [okA_k a, okA_k b]; rfl
  | .pair a b => by show (decide (3 ≤ 1000000) && (true && (okA (kW a) && (okA (kW b) && true)))) = true; rw [okA_k a, okA_k b]; rfl
theorem okA_shp {w : Wo} {p : Int} {fr wk us : List W} (hf : ∀ x ∈ fr, okA x = true) (hk : ∀ x ∈ wk, okA x = true) (hu : ∀ x ∈ us, okA x = true) (h1 : fr.length ≤ 100) (h2 : wk.length ≤ 100) (h3 : us.length ≤ 10000) : okA (shp w p fr wk us) = true := by
  rw [shpE]
  have r : ∀ x ∈ restW w fr wk us, okA x = true := fun x hx => by
    unfold restW at hx
    split at hx
    · rcases List.mem_append.mp hx with hx | hx
      · exact hk x hx
      · obtain rfl : x = .tup us := by simpa using hx
        show (decide (us.length ≤ 1000000) && okAs us) = true
        rw [okAs_of hu, decide_eq_true (by omega)]; rfl
    · rcases List.mem_append.mp hx with hx | hx
      · exact hf x hx
      · rcases List.mem_append.mp hx with hx | hx
        · exact hk x hx
        · exact hu x hx
  have l : (restW w fr wk us).length ≤ 20000 := by
    unfold restW
    split <;> simp <;> omega
  show (decide (_ ≤ 1000000) && (true && (true && okAs (restW w fr wk us)))) = true
  rw [okAs_of r, decide_eq_true (by simp; omega)]; rfl
structure EZ (T : Nat → Option FD) : Prop where
  h94 : T 94 = some nextFD
  h95 : T 95 = some d95
  h96 : T 96 = some d96
  h97 : T 97 = some d97
  h98 : T 98 = some d98
  h99 : T 99 = some d99
  h100 : T 100 = some d100
  h101 : T 101 = some d101
  h102 : T 102 = some d102
  h103 : T 103 = some d103
theorem az_len11 : [97, 98, 99, 100, 101, 102, 103, 104, 105, 106, 107, 108, 109, 110, 111, 112, 113, 114, 115, 116, 117, 118, 119, 120, 121, 122].length = 26 := rfl
def LwE : List Wo := [.whole, .truth, .given, .name, .fn, .self, .call, .let_, .if_, .do_, .row, .at_, .size, .pair, .one, .two, .as_, .look]
section
variable {T : Nat → Option FD} {S : Sto} {Q : VQ} {X : XQ} {n : Nat} {px pu : PySem.Addr} {c : List Int}
theorem wIn_wo11 {neg : Bool} {w : Wo} {l : List Wo} : wIn neg (.str (woS w)) (.tup (l.map fun w => W.str (woS w))) S Q = Q (.bl (decide (w ∈ l) != neg)) S := by
  have e0 : ∀ l : List Wo, inW (.str (woS w)) (l.map fun w => W.str (woS w)) = decide (w ∈ l) := fun l => by
    induction l with
    | nil => simp [inW]
    | cons y ys ih =>
      show (eqv (.str (woS y)) (.str (woS w)) || inW (.str (woS w)) (ys.map fun w => W.str (woS w))) = _
      rw [ih]
      show ((woS y == woS w) || _) = _
      rw [woS_beq]
      by_cases e : y = w
      · simp [e]
      · have : ¬ w = y := fun h => e h.symm
        simp [e, this]
  have e1 : (l.map fun w => W.str (woS w)).all flatW = true := by
    rw [List.all_map]; exact List.all_eq_true.mpr fun _ _ => rfl
  have ok : inOk S (.str (woS w)) (l.map fun w => W.str (woS w)) = true := by unfold inOk; rw [e1]; rfl
  have e : (inOk S (.str (woS w)) (l.map fun w => W.str (woS w)) = true ∧ Q (.bl (inW (.str (woS w)) (l.map fun w => W.str (woS w)) != neg)) S) = Q (.bl (decide (w ∈ l) != neg)) S := by
    rw [ok, e0]; simp
  rw [← e]
  unfold wIn
  simp only [dicOf]
  cases w <;> rfl
theorem atKd {l : List Kd} {j : Int} {P : W → Prop} (h0 : 0 ≤ j) (h : j < (l.length : Int)) (q : ∀ k ∈ l, P (.str (hS k))) : wSome (atW (l.map fun k => W.str (hS k)) j) P := by
  obtain ⟨m, rfl⟩ : ∃ m : Nat, j = (m : Int) := ⟨j.toNat, by omega⟩
  have hm : m < l.length := by omega
  rw [at_nat (by rw [List.length_map]; exact hm), List.getElem?_map, List.getElem?_eq_getElem hm]
  exact q _ (List.getElem_mem hm)
theorem place11 (E : EZ T) {us : List W} {b0 b1 b2 : Int} (hp : S pu = some (.lst us)) (hl : us.length ≤ 1000000) (q : ∀ i : Int, Q (.int i) (S.set pu (.lst (us ++ [.int i])))) : wF T (n + 1) 95 [.ref pu, .tup [.int b0, .int b1, .int b2]] S Q X := by
  have sz : 1000001 ≤ sizeLine := by decide
  rw [wF_eq E.h95, d95]
  walk_at "w"
  rw [wLen_ref hp]
  walk_at "w"
  rw [lstOf_ref hp, wApp_ref hp]
  refine ⟨.inl (.inr ⟨by omega, by omega⟩), by omega, rfl, by omega, ?_⟩
  exact ret0 (q _)
theorem name11 (E : EZ T) (hp : S px = some (stk c)) (q : ∀ z c', Q (.str z) (S.set px (stk c'))) : wF T (n + 2) 96 [.ref px] S Q X := by
  rw [wF_eq E.h96, d96]
  walk_at "w"
  refine ⟨⟨by decide, by decide, by decide⟩, .inl (.inl ⟨by decide, by decide⟩), ?_⟩
  refine next_ok E.h94 hp (by decide) ?_
  walk_at "w"
  refine ⟨.inl (.inr ⟨by omega, by omega⟩), by omega, ⟨by omega, by decide⟩, ?_⟩
  generalize nv c (8 * 26 ^ Int.toNat 8) * 48271 = num
  obtain ⟨m, hm, em⟩ : ∃ m : Nat, m ≤ 7 ∧ num % 8 = (m : Int) := ⟨(num % 8).toNat, by omega, by omega⟩
  rw [em, if_pos (fits_of (by omega) (by omega))]
  walk_at "w"
  have sz : 1000 ≤ sizeLine := by decide
  refine forI (fun i e S' => S' = S.set px (stk c.tail) ∧ ∃ (z : List Nat) (a : Int) (x : Option W), z.length = i ∧ e = [some (.ref px), some (.int a), some (.int (1 + (m : Int))), some (.str z), x]) 0 ⟨rfl, [], _, _, rfl, rfl⟩ (fun _ _ _ _ _ => trivial) ?_ ?_
  · rintro i w0 e S' nx hi ⟨rfl, z, a, x, hz, rfl⟩ hn
    have hi2 : i < 8 := by
      have : i < (rngW 0 (1 + (m : Int)).toNat).length := by
        rcases Nat.lt_or_ge i (rngW 0 (1 + (m : Int)).toNat).length with h | h
        · exact h
        · rw [List.getElem?_eq_none h] at hi; cases hi
      rw [rngW_len] at this; omega
    rw [Nat.zero_add] at hz hn
    walk_at "w"
    refine ⟨by omega, ?_⟩
    refine idx_str3 (by omega) (by rw [az_len11]; omega) (by rw [az_len11]; omega) fun ch => ?_
    walk_at "w"
    refine ⟨by omega, ⟨by omega, by decide⟩, ?_⟩
    exact hn _ _ ⟨rfl, z ++ [ch], _, _, by simp [hz], rfl⟩
  · rintro e S' ⟨rfl, z, a, x, hz, rfl⟩
    rw [rngW_len, Nat.zero_add] at hz
    walk_at "w"
    refine wB_or (fun _ => ?_) (fun _ _ => ?_)
    · refine ⟨by omega, ret0 (q _ _)⟩
    · exact ret0 (q _ _)
theorem number11 (E : EZ T) (hp : S px = some (stk c)) (q : ∀ i c', Q (.int i) (S.set px (stk c'))) : wF T (n + 2) 97 [.ref px] S Q X := by
  rw [wF_eq E.h97, d97]
  walk_at "w"
  refine ⟨⟨by decide, by decide, by decide⟩, .inl (.inl ⟨by decide, by decide⟩), ?_⟩
  refine next_ok E.h94 hp (by decide) ?_
  walk_at "w"
  generalize nv c (8 * 10 ^ Int.toNat 40) = x
  refine ⟨by decide, wB_if (fun _ => ⟨⟨by decide, by decide⟩, by decide, ret0 (q _ _)⟩) fun _ => ⟨by decide, wB_if (fun _ => ?_) fun _ => ?_⟩⟩
  · refine ⟨⟨by decide, by decide, by decide⟩, ⟨by decide, by decide⟩, by decide, ⟨by decide, by decide⟩, by decide, .inl (.inl ⟨by decide, by decide⟩), .inl (.inr ⟨by omega, by omega⟩), ret0 (q _ _)⟩
  · exact ⟨⟨by decide, by decide⟩, ⟨by decide, by decide⟩, by decide, .inl (.inl ⟨by decide, by decide⟩), .inl (.inr ⟨by omega, by omega⟩), ret0 (q _ _)⟩
theorem kind11 (E : EZ T) : ∀ (r : Nat) {c : List Int} {n : Nat} {S : Sto} {Q : VQ} {X : XQ}, S px = some (stk c) → r + 3 ≤ n → (∀ k c', kdep k ≤ r + 1 → Q (kW k) (S.set px (stk c'))) → wF T n 98 [.ref px, .int ((r + 1 : Nat) : Int)] S Q X := by
  have leaf : ∀ {m : Int} {S : Sto} {Q : VQ}, 0 ≤ m → m < 9 → (∀ k, kdep k ≤ 1 → Q (kW k) S) → wSome (atW [W.str [119, 104, 111, 108, 101], W.str [116, 114, 117, 116, 104], W.str [63], W.str [119, 104, 111, 108, 101], W.str [116, 114, 117, 116, 104], W.str [63], W.str [119, 104, 111, 108, 101], W.str [116, 114, 117, 116, 104], W.str [63]] m) fun w => Ret (.tup [w]) S Q := fun {m S Q} h0 h1 q => by
    refine atKd (l := [.whole, .truth, .unt, .whole, .truth, .unt, .whole, .truth, .unt]) h0 h1 fun k hk => ret0 ?_
    have : kW k = .tup [.str (hS k)] ∧ kdep k ≤ 1 := by
      simp only [List.mem_cons, List.mem_nil_iff, or_false] at hk
      rcases hk with rfl | rfl | rfl | rfl | rfl | rfl | rfl | rfl | rfl <;> exact ⟨rfl, by simp [kdep]⟩
    rw [← this.1]
    exact q k this.2
  intro r
  induction r with
  | zero =>
    intro c n S Q X hp hn q
    obtain ⟨n, rfl⟩ : ∃ n', n = n' + 2 := ⟨n - 2, by omega⟩
    rw [wF_eq E.h98, d98]
    walk_at "w"
    refine next_ok E.h94 hp (by decide) ?_
    have b := nv_lt (c := c) (m := 9) (by omega)
    obtain ⟨m, hm⟩ : ∃ m, m = nv c 9 := ⟨_, rfl⟩
    rw [← hm] at b ⊢
    walk_at "w"
    exact leaf b.1 b.2 fun k hk => q k _ (by omega)
  | succ r ih =>
    intro c n S Q X hp hn q
    obtain ⟨n, rfl⟩ : ∃ n', n = n' + 2 := ⟨n - 2, by omega⟩
    rw [wF_eq E.h98, d98]
    walk_at "w"
    refine next_ok E.h94 hp (by decide) ?_
    have b := nv_lt (c := c) (m := 9) (by omega)
    obtain ⟨m, hm⟩ : ∃ m, m = nv c 9 := ⟨_, rfl⟩
    rw [← hm] at b ⊢
    walk_at "w"
    have er : ((r + 1 + 1 : Nat) : Int) - 1 = ((r + 1 : Nat) : Int) := by omega
    rw [er]
    refine wB_dec (fun _ => leaf b.1 b.2 fun k hk => q k _ (by omega)) fun h1 => wB_dec (fun _ => leaf b.1 b.2 fun k hk => q k _ (by omega)) fun h2 => wB_if (fun _ => ?_) fun h5 => ⟨by decide, ?_⟩
    · refine ih Sto.set_same (by omega) fun k c' hk => ?_
      rw [set_set]
      exact ret0 (q (.row k) _ (by simp only [kdep]; omega))
    · have fin : ∀ (f : Kd → Kd → Kd) (z : List Nat), (∀ a b, kW (f a b) = .tup [.str z, kW a, kW b]) → (∀ a b, kdep (f a b) = max (kdep a) (kdep b) + 1) → wF T (n + 1) 98 [.ref px, .int ((r + 1 : Nat) : Int)] (S.set px (stk c.tail)) (fun w_1 S1 => wF T (n + 1) 98 [.ref px, .int ((r + 1 : Nat) : Int)] S1 (fun w_2 S1 => Ret (W.tup [.str z, w_1, w_2]) S1 Q) fun x S1 => RetX x S1 X) fun x S1 => RetX x S1 X := fun f z hf hd => by
        refine ih Sto.set_same (by omega) fun k1 c1 hk1 => ?_
        rw [set_set]
        refine ih Sto.set_same (by omega) fun k2 c2 hk2 => ?_
        rw [set_set]
        have := q (f k1 k2) c2 (by rw [hd]; omega)
        rw [hf] at this
        exact ret0 this
      rcases (show m % 2 = 0 ∨ m % 2 = 1 by omega) with e | e <;> rw [e]
      · rw [at0]; exact fin .to _ (fun _ _ => rfl) (fun _ _ => rfl)
      · rw [at1]; exact fin .pair _ (fun _ _ => rfl) (fun _ _ => rfl)
theorem many11 (E : EZ T) {w : Wo} (hp : S px = some (stk c)) (q : ∀ (m : Nat) c', m ≤ 4 → (w ≠ .row → m = nP w) → Q (.int (m : Int)) (S.set px (stk c'))) : wF T (n + 2) 99 [.ref px, .str (woS w)] S Q X := by
  have qs : ∀ m : Nat, m ≤ 4 → (w ≠ .row → m = nP w) → Q (.int (m : Int)) S := fun m h1 h2 => by
    have := q m c h1 h2
    rwa [set_self hp] at this
  rw [wF_eq E.h99, d99]
  walk_at "w"
  by_cases e : w = .row
  · subst e
    refine wB_y rfl ?_
    refine next_ok E.h94 hp (by omega) ?_
    have b := nv_lt (c := c) (m := 5) (by omega)
    obtain ⟨m, hm⟩ : ∃ m : Nat, nv c 5 = (m : Int) := ⟨(nv c 5).toNat, by omega⟩
    rw [hm]
    exact ret0 (q m _ (by omega) (fun z => absurd rfl z))
  · have i1 : ∀ {P : VQ}, wIn false (.str (woS w)) (.tup [W.str [99, 97, 108, 108], W.str [108, 101, 116], W.str [100, 111], W.str [97, 116], W.str [112, 97, 105, 114]]) S P = P (.bl (decide (w ∈ ([.call, .let_, .do_, .at_, .pair] : List Wo)) != false)) S := fun {P} => wIn_wo11 (l := [.call, .let_, .do_, .at_, .pair])
    have i2 : ∀ {P : VQ}, wIn true (.str (woS w)) (.tup [W.str [119, 104, 111, 108, 101], W.str [116, 114, 117, 116, 104], W.str [103, 105, 118, 101, 110], W.str [110, 97, 109, 101]]) S P = P (.bl (decide (w ∈ ([.whole, .truth, .given, .name] : List Wo)) != true)) S := fun {P} => wIn_wo11 (l := [.whole, .truth, .given, .name])
    rw [i1]
    try rw [i2]
    cases w
    case row => exact absurd rfl e
    all_goals (repeat (first | refine wB_n rfl ?_ | refine wB_y rfl ?_))
    all_goals first | exact ret0 (qs 0 (by decide) (fun _ => rfl)) | exact ret0 (qs 1 (by decide) (fun _ => rfl)) | exact ret0 (qs 2 (by decide) (fun _ => rfl)) | exact ret0 (qs 3 (by decide) (fun _ => rfl))
theorem word11 (E : EZ T) {j : Int} (h0 : 0 ≤ j) (h1 : j < 18) (q : ∀ w ∈ LwE, (j < 17 → w ≠ .look) → (j < 4 → nP w = 0 ∧ nK w = 0) → Q (.str (woS w)) S) : wF T (n + 1) 103 [.int j] S Q X := by
  rw [wF_eq E.h103, d103]
  walk_at "w"
  have sz : 1000 ≤ sizeLine := by decide
  refine ⟨by omega, ?_⟩
  refine wAdd_l rfl rfl ⟨by decide, ?_⟩
  walk_at "w"
  obtain ⟨m, rfl⟩ : ∃ m : Nat, j = (m : Int) := ⟨j.toNat, by omega⟩
  have hm : m < LwE.length := by show m < 18; omega
  have e : atW (LwE.map fun w => W.str (woS w)) (m : Int) = some (.str (woS LwE[m])) := by
    rw [at_nat (by rw [List.length_map]; exact hm), List.getElem?_map, List.getElem?_eq_getElem hm]; rfl
  show wSome (atW (LwE.map fun w => W.str (woS w)) (m : Int)) _
  rw [e]
  refine ret0 (q _ (List.getElem_mem hm) (fun h => ?_) (fun h => ?_))
  · have : ∀ i : Fin 18, i.val < 17 → LwE[i.val]'(i.isLt) ≠ .look := by decide
    exact this ⟨m, hm⟩ (by show m < 17; omega)
  · have : ∀ i : Fin 18, i.val < 4 → nP (LwE[i.val]'(i.isLt)) = 0 ∧ nK (LwE[i.val]'(i.isLt)) = 0 := by decide
    exact this ⟨m, hm⟩ (by show m < 4; omega)
/-- what stands in front of the parts -/
def FrE (w : Wo) (fr : List W) : Prop := fr.length = nF w ∧ (∀ x ∈ fr, fA x = true) ∧ ((binds w = true ∨ w = .do_) → fr = fr.map fun x => W.str (nmW x))
def nA11 : Wo → Nat
  | .name => 1
  | .fn => 1
  | .let_ => 1
  | .self => 2
  | _ => 0
theorem cnt11 (w : Wo) : List.countP (fun x => x == woS w) [[110, 97, 109, 101], [102, 110], [108, 101, 116], [115, 101, 108, 102], [115, 101, 108, 102]] = nA11 w := by cases w <;> rfl
theorem cnt11k (w : Wo) : List.countP (fun x => x == woS w) [[102, 110], [115, 101, 108, 102], [115, 101, 108, 102], [114, 111, 119], [97, 115], [108, 111, 111, 107], [108, 111, 111, 107]] = nK w := by cases w <;> rfl
theorem front11 (E : EZ T) {w : Wo} (hp : S px = some (stk c)) (q : ∀ fr c', FrE w fr → Q (.rl fr) (S.set px (stk c'))) : wF T (n + 4) 100 [.ref px, .str (woS w)] S Q X := by
  rw [wF_eq E.h100, d100]
  walk_at "w"
  have fin : ∀ {x : W} {c' : List Int} {S' : Sto}, S' = S.set px (stk c') → FrE w [x] → ∀ p : PySem.Addr, S' p = none → Ret (.ref p) (S'.set p (.lst [x])) Q := fun {x c' S'} e hf p hp2 => by
    subst e
    exact retL (Sub.set hp2) Sto.set_same hp2 (q _ _ hf)
  have iw : ∀ v : Wo, (woS w == woS v) = decide (w = v) := fun v => woS_beq _ _
  rw [show [119, 104, 111, 108, 101] = woS .whole from rfl, show [116, 114, 117, 116, 104] = woS .truth from rfl, show [103, 105, 118, 101, 110] = woS .given from rfl, show [100, 111] = woS .do_ from rfl, iw, iw, iw, iw]
  refine wB_dec (fun e => ?_) fun e1 => wB_dec (fun e => ?_) fun e2 => wB_dec (fun e => ?_) fun e3 => wB_dec (fun e => ?_) fun e4 => ?_
  · refine number11 E hp fun i c' => fin rfl ⟨by rw [e]; rfl, by simp [fA], by rw [e]; simp [binds]⟩
  · refine next_ok E.h94 hp (by decide) ?_
    walk_at "w"
    exact fin rfl ⟨by rw [e]; rfl, by simp [fA], by rw [e]; simp [binds]⟩
  · refine next_ok E.h94 hp (by decide) (fin rfl ⟨by rw [e]; rfl, by simp [fA], by rw [e]; simp [binds]⟩)
  · refine next_ok E.h94 hp (by decide) ?_
    have b := nv_lt (c := c) (m := 5) (by omega)
    refine idx_str3 b.1 (by simp only [List.length_cons, List.length_nil]; omega) (by decide) fun ch => ?_
    walk_at "w"
    exact fin rfl ⟨by rw [e]; rfl, by simp [fA], by simp [nmW]⟩
  · rw [cnt11]
    have hA : nA11 w = nF w := by cases w <;> first | rfl | exact absurd rfl e1 | exact absurd rfl e2 | exact absurd rfl e3 | exact absurd rfl e4
    have hA2 : nF w ≤ 2 := by cases w <;> simp [nF]
    rw [hA, if_pos (fits_of (by omega) (by omega))]
    walk_at "w"
    have sz : 1000 ≤ sizeLine := by decide
    refine ⟨by rw [rngW_len]; omega, ?_⟩
    intro D hD
    have nD : D ≠ px := fun z => by rw [z, hp] at hD; cases hD
    refine compI (fun j done S' => ∃ c', done.length = j ∧ (∀ x ∈ done, ∃ z, x = W.str z) ∧ S' = (S.set px (stk c')).set D .hid) (done := []) 0 ⟨c, rfl, by simp, by rw [set_self hp]⟩ (fun _ _ _ _ _ => trivial) ?_ ?_
    · rintro j w0 done S' R hj ⟨c', hl, hs, rfl⟩ hn2
      refine name11 E (c := c') (by rw [Sto.set_ne (Ne.symm nD)]; exact Sto.set_same) fun z c2 => ?_
      rw [set_comm nD, set_set]
      refine hn2 _ _ ⟨c2, by simp [hl], fun x hx => ?_, rfl⟩
      rcases List.mem_append.mp hx with hx | hx
      · exact hs x hx
      · exact ⟨z, by simpa using hx⟩
    · rintro more S' ⟨c', hl, hs, rfl⟩
      rw [Nat.zero_add, rngW_len, List.nil_append] at hl
      rw [List.nil_append] at hs
      walk_at "w"
      have hD2 : (S.set px (stk c')) D = none := by rw [Sto.set_ne nD]; exact hD
      rw [set_del hD2]
      have hfr : FrE w more := ⟨hl, fun x hx => by obtain ⟨z, rfl⟩ := hs x hx; rfl, fun _ => by
        have : ∀ l : List W, (∀ x ∈ l, ∃ z, x = W.str z) → l = l.map fun x => W.str (nmW x) := fun l => by
          induction l with
          | nil => intro _; rfl
          | cons a l ih =>
            intro h
            obtain ⟨z, rfl⟩ := h a List.mem_cons_self
            rw [List.map_cons, ← ih fun x hx => h x (List.mem_cons_of_mem _ hx)]
            rfl
        exact this more hs⟩
      exact fun p hp2 => retL (Sub.set hp2) Sto.set_same hp2 (q _ _ hfr)
theorem kinds11 (E : EZ T) {w : Wo} (hp : S px = some (stk c)) (q : ∀ (ks : List Kd) c', ks.length = nK w → (∀ k ∈ ks, kdep k ≤ 4) → Q (.rl (ks.map kW)) (S.set px (stk c'))) : wF T (n + 8) 101 [.ref px, .str (woS w)] S Q X := by
  rw [wF_eq E.h101, d101]
  walk_at "w"
  rw [cnt11k]
  have hA2 := nK_le w
  have sz : 1000 ≤ sizeLine := by decide
  rw [if_pos (fits_of (by omega) (by omega))]
  walk_at "w"
  refine ⟨by rw [rngW_len]; omega, ?_⟩
  intro D hD
  have nD : D ≠ px := fun z => by rw [z, hp] at hD; cases hD
  refine compI (fun j done S' => ∃ c' ks, done = List.map kW ks ∧ ks.length = j ∧ (∀ k ∈ ks, kdep k ≤ 4) ∧ S' = (S.set px (stk c')).set D .hid) (done := []) 0 ⟨c, [], rfl, rfl, by simp, by rw [set_self hp]⟩ (fun _ _ _ _ _ => trivial) ?_ ?_
  · rintro j w0 done S' R hj ⟨c', ks, rfl, hl, hs, rfl⟩ hn2
    refine kind11 E 3 (c := c') (by rw [Sto.set_ne (Ne.symm nD)]; exact Sto.set_same) (by omega) fun k c2 hk => ?_
    rw [set_comm nD, set_set]
    refine hn2 _ _ ⟨c2, ks ++ [k], by simp, by simp [hl], fun x hx => ?_, rfl⟩
    rcases List.mem_append.mp hx with hx | hx
    · exact hs x hx
    · obtain rfl : x = k := by simpa using hx
      exact hk
  · rintro more S' ⟨c', ks, e, hl, hs, rfl⟩
    rw [Nat.zero_add, rngW_len] at hl
    rw [List.nil_append] at e
    subst e
    walk_at "w"
    have hD2 : (S.set px (stk c')) D = none := by rw [Sto.set_ne nD]; exact hD
    rw [set_del hD2]
    exact fun p hp2 => retL (Sub.set hp2) Sto.set_same hp2 (q _ _ hl hs)
/-- a list, as a value or kept -/
def LsV (S : Sto) (x : W) (ws : List W) : Prop := x = .rl ws ∨ ∃ a, x = .ref a ∧ S a = some (.lst ws)
theorem LsV.seq {x : W} {ws : List W} (h : LsV S x ws) : seqOf S x = some ws := by
  rcases h with rfl | ⟨a, rfl, h⟩
  · rfl
  · exact seqOf_ref h
theorem LsV.idx {x : W} {ws : List W} {i : Int} (h : LsV S x ws) : wIdx x (.int i) S Q = wSome (atW ws i) (fun w => Q w S) := by
  rcases h with rfl | ⟨a, rfl, h⟩
  · exact wIdx_rl
  · exact wIdx_ref h
theorem put11 (E : EZ T) {w : Wo} {p : Int} {fr wk us : List W} {x y z : W} (hf : fr.length = nF w) (hk : wk.length = nK w) (hx : LsV S x fr) (hy : LsV S y wk) (hz : LsV S z us) (hl : us.length ≤ 1000) (q : Q (shp w p fr wk us) S) : wF T (n + 1) 102 [.str (woS w), .int p, x, y, z] S Q X := by
  have sz : 2000 ≤ sizeLine := by decide
  have hk2 := nK_le w
  have hf2 : nF w ≤ 2 := by cases w <;> simp [nF]
  rw [wF_eq E.h102, d102]
  walk_at "w"
  by_cases e : w = .row
  · subst e
    refine wB_y rfl ?_
    rw [hy.idx]
    obtain ⟨k1, rfl⟩ := len1 (show wk.length = 1 from hk)
    rw [at0]
    walk_at "w"
    rw [hz.seq]
    obtain rfl := len0 (show fr.length = 0 from hf)
    walk_at "w"
    exact ret0 q
  · refine wB_n (by rw [show [114, 111, 119] = woS .row from rfl, woS_beq]; exact decide_eq_false e) ?_
    rw [hx.seq, hy.seq, hz.seq]
    walk_at "w"
    refine ⟨by omega, by omega, by rw [List.length_append]; omega, ?_⟩
    have e2 : W.tup (.str (woS w) :: .int p :: (fr ++ wk ++ us)) = shp w p fr wk us := by
      rw [shpE]; unfold restW; rw [if_neg e, List.append_assoc]
    rw [e2]
    exact ret0 q
end
end Bw

/-! EA2: k11, its programs -/
namespace Bw
open PySem (sizeLine)
def St2 (S : Sto) (px pu : PySem.Addr) (c : List Int) (us : List W) : Sto := (S.set px (stk c)).set pu (.lst us)
section
variable {S : Sto} {px pu : PySem.Addr} {c c2 : List Int} {us us2 : List W}
theorem St2.gx (ne : px ≠ pu) : St2 S px pu c us px = some (stk c) := by unfold St2; rw [Sto.set_ne ne]; exact Sto.set_same
theorem St2.gu : St2 S px pu c us pu = some (.lst us) := Sto.set_same
theorem St2.setx (ne : px ≠ pu) : (St2 S px pu c us).set px (stk c2) = St2 S px pu c2 us := by unfold St2; rw [set_comm (Ne.symm ne), set_set]
theorem St2.setu : (St2 S px pu c us).set pu (.lst us2) = St2 S px pu c us2 := by unfold St2; rw [set_set]
theorem St2.both (ne : px ≠ pu) : St2 (St2 S px pu c us) px pu c2 us2 = St2 S px pu c2 us2 := by
  show ((St2 S px pu c us).set px (stk c2)).set pu (.lst us2) = _
  rw [St2.setx ne, St2.setu]
theorem St2.other {a : PySem.Addr} {o : O} (h1 : a ≠ px) (h2 : a ≠ pu) : (St2 S px pu c us).set a o = St2 (S.set a o) px pu c us := by
  unfold St2; rw [set_comm (Ne.symm h2), set_comm (Ne.symm h1)]
theorem St2.get {a : PySem.Addr} (h1 : a ≠ px) (h2 : a ≠ pu) : St2 S px pu c us a = S a := by unfold St2; rw [Sto.set_ne h2, Sto.set_ne h1]
theorem St2.self (hx : S px = some (stk c)) (hu : S pu = some (.lst us)) : St2 S px pu c us = S := by unfold St2; rw [set_self hx, set_self hu]
end
structure GE (d s : Nat) (t : Tr) : Prop where
  g : gdT t
  o : okTr t
  fl : flT t
  a : okA (tW t) = true
  d : dT t ≤ d
  s : szT t ≤ s
theorem plcss_len : ∀ (m : Nat) {t : Tr}, dT t ≤ m → (plcs t).length = szT t
  | 0, t, h => absurd h (by cases t; simp [dT])
  | m + 1, .nd w p fr ks ps, h => by
    simp only [dT] at h
    have all : ∀ ts : List Tr, (∀ x ∈ ts, dT x ≤ m) → (plcss ts).length = szTs ts := fun ts => by
      induction ts with
      | nil => intro _; rw [plcss, szTs]; rfl
      | cons t ts ih => intro h; rw [plcss, szTs, List.length_append, plcss_len m (h t List.mem_cons_self), ih fun y hy => h y (List.mem_cons_of_mem _ hy)]
    rw [plcs, szT, List.length_cons, all ps fun x hx => Nat.le_trans (dTs_mem hx) (by omega)]
theorem GE.node {w : Wo} {p : Int} {fr : List W} {ks : List Kd} {ps : List Tr} {d s : Nat} (hw : w ≠ .look) (hf : FrE w fr) (hk : ks.length = nK w) (hp : w ≠ .row → ps.length = nP w) (h4 : ps.length ≤ 4) (hk4 : ∀ k ∈ ks, kdep k ≤ 4) (hps : ∀ t ∈ ps, GE d s t) : GE (d + 1) (4 * s + 1) (.nd w p fr ks ps) := by
  refine ⟨⟨⟨hw, hp, fun h => hf.2.2 (.inr h), fun k h => by have := hk4 k h; omega⟩, gdTs_of fun t ht => (hps t ht).g⟩, ⟨⟨hf.1, hk, by omega, fun h => hf.2.2 (.inl h)⟩, okTrs_of fun t ht => (hps t ht).o⟩, ⟨fun x hx => fA_flat (hf.2.1 x hx), flTs_of7 fun t ht => (hps t ht).fl⟩, ?_, ?_, ?_⟩
  · have hk2 := nK_le w
    have hf2 : nF w ≤ 2 := by cases w <;> simp [nF]
    have hfl := hf.1
    rw [tW, tWs_map]
    refine okA_shp (fun x hx => fA_okA (hf.2.1 x hx)) (fun x hx => ?_) (fun x hx => ?_) (by omega) (by rw [List.length_map]; omega) (by rw [List.length_map]; omega)
    · obtain ⟨k, _, rfl⟩ := List.mem_map.mp hx; exact okA_k k
    · obtain ⟨t, ht, rfl⟩ := List.mem_map.mp hx; exact (hps t ht).a
  · show dTs ps + 1 ≤ d + 1
    have := dTs_le (ts := ps) (n := d) fun t ht => (hps t ht).d
    omega
  · show szTs ps + 1 ≤ 4 * s + 1
    have := szTs_len (ps := ps) (s := s) fun t ht => (hps t ht).s
    have := Nat.mul_le_mul_right s h4
    omega
theorem dTs_snoc : ∀ {ts : List Tr} {t : Tr}, dTs (ts ++ [t]) = max (dTs ts) (dT t)
  | [], t => by simp [dTs]
  | x :: ts, t => by rw [List.cons_append, dTs, dTs, dTs_snoc]; omega
def nE : Nat → Nat
  | 0 => 1
  | r + 1 => 4 * nE r + 1
theorem nE_pos : ∀ r, 1 ≤ nE r
  | 0 => Nat.le_refl _
  | r + 1 => by show 1 ≤ 4 * nE r + 1; omega
structure TZ (T : Nat → Option FD) : Prop where
  E : EZ T
  h104 : T 104 = some d104
section
variable {T : Nat → Option FD} {S : Sto} {Q : VQ} {X : XQ} {n : Nat} {px pu : PySem.Addr} {c : List Int} {b0 b1 b2 : Int}
def TE (T : Nat → Option FD) (px pu : PySem.Addr) (b0 b1 b2 : Int) (r : Nat) : Prop :=
  ∀ {c : List Int} {us : List W} {n : Nat} {S : Sto} {Q : VQ} {X : XQ}, S px = some (stk c) → S pu = some (.lst us) → r + 12 ≤ n → us.length + nE r ≤ 900000 →
    (∀ t c', GE (r + 1) (nE r) t → Q (.tup [tW t, .int (dT t : Nat)]) (St2 S px pu c' (us ++ (plcs t).map W.int))) → wF T n 104 [.ref px, .ref pu, .tup [.int b0, .int b1, .int b2], .int ((r + 1 : Nat) : Int)] S Q X
theorem tree_rest (E : TZ T) (ne : px ≠ pu) {r : Nat} (ih : ∀ r', r = r' + 1 → TE T px pu b0 b1 b2 r') {c : List Int} {us : List W} {p j : Int} (h0 : 0 ≤ j) (h1 : j < 17) (h2 : r = 0 → j < 4) (hn : r + 11 ≤ n) (hl : us.length + nE r ≤ 900000)
    (q : ∀ t c', GE (r + 1) (nE r) t → Q (.tup [tW t, .int (dT t : Nat)]) (St2 S px pu c' (us ++ (plcs t).map W.int))) :
    wSs (wF T n) (d104.body.drop 3) [some (.ref px), some (.ref pu), some (.tup [.int b0, .int b1, .int b2]), some (.int ((r + 1 : Nat) : Int)), some (.int p), some (.int j), none, none, none, none, none, none, none, none] (St2 S px pu c (us ++ [.int p])) (dnOf Q X) := by
  obtain ⟨n, rfl⟩ : ∃ n', n = n' + 8 := ⟨n - 8, by omega⟩
  have sz : 1000 ≤ sizeLine := by decide
  simp only [d104, List.drop]
  walk_at "w"
  refine word11 E.E h0 (by omega) fun w hw hlk h4 => ?_
  walk_at "w"
  refine front11 (n := n + 4) E.E (St2.gx ne) fun fr c1 hfr => ?_
  rw [St2.setx ne]
  walk_at "w"
  refine kinds11 E.E (St2.gx ne) fun ks c2 hk hk4 => ?_
  rw [St2.setx ne]
  walk_at "w"
  intro a9 h9
  have n9x : a9 ≠ px := fun z => by rw [z, St2.gx ne] at h9; cases h9
  have n9u : a9 ≠ pu := fun z => by rw [z, St2.gu] at h9; cases h9
  rw [St2.other n9x n9u]
  refine many11 E.E (St2.gx ne) fun m c3 hm hmP => ?_
  rw [St2.setx ne]
  walk_at "w"
  rw [if_pos (fits_of (by omega) (by omega))]
  walk_at "w"
  have hlook : w ≠ .look := hlk h1
  have hr0 : r = 0 → m = 0 := fun h => by
    have := h4 (h2 h)
    rw [hmP (fun z => by rw [z] at this; exact absurd this.2 (by decide))]
    exact this.1
  have ea : ∀ {ts : List Tr} {p : Int}, (us ++ W.int p :: (plcss ts).map W.int).length = us.length + 1 + (plcss ts).length := fun {ts p} => by simp; omega
  refine forI (fun i e S' => ∃ ts c' y1 y2 y3, ts.length = i ∧ (∀ t ∈ ts, r ≠ 0 ∧ GE r (nE (r - 1)) t) ∧ e = [some (.ref px), some (.ref pu), some (.tup [.int b0, .int b1, .int b2]), some (.int ((r + 1 : Nat) : Int)), some (.int p), some (.int j), some (.str (woS w)), some (.rl fr), some (.rl (ks.map kW)), some (.ref a9), some (.int (dTs ts : Nat)), y1, y2, y3] ∧ S' = St2 (S.set a9 (.lst (ts.map tW))) px pu c' (us ++ W.int p :: (plcss ts).map W.int)) 0 ⟨[], c3, _, _, _, rfl, by simp, rfl, rfl⟩ (fun _ _ _ _ _ => trivial) ?_ ?_
  · rintro i w0 e S' nx hi ⟨ts, c', y1, y2, y3, hti, hts, rfl, rfl⟩ hn2
    obtain ⟨hi2, rfl⟩ := rng_get0 hi
    rw [Nat.zero_add] at hti hn2
    obtain ⟨r', rfl⟩ : ∃ r', r = r' + 1 := ⟨r - 1, by
      have : r ≠ 0 := fun h => by have := hr0 h; omega
      omega⟩
    have hsz : (plcss ts).length ≤ 3 * nE r' := by
      have h3 : szTs ts ≤ ts.length * nE r' := szTs_len fun t ht => (hts t ht).2.s
      have h4 : ts.length * nE r' ≤ 3 * nE r' := Nat.mul_le_mul_right _ (by omega)
      have h5 : (plcss ts).length = szTs ts := by
        have := @plcss_len (r' + 2) (.nd .row 0 [] [] ts) (by show dTs ts + 1 ≤ r' + 2; have := dTs_le (ts := ts) (n := r' + 1) fun t ht => (hts t ht).2.d; omega)
        rw [plcs, szT, List.length_cons] at this
        omega
      omega
    have hl2 : us.length + (4 * nE r' + 1) ≤ 900000 := hl
    walk_at "w"
    rw [show ((r' + 1 + 1 : Nat) : Int) - 1 = ((r' + 1 : Nat) : Int) by omega]
    refine ih r' rfl (St2.gx ne) St2.gu (by omega) (by rw [ea]; omega) fun t c'' gt => ?_
    rw [St2.both ne]
    walk_at "w"
    rw [lstOf_ref (by rw [St2.get n9x n9u]; exact Sto.set_same), wApp_ref (by rw [St2.get n9x n9u]; exact Sto.set_same)]
    refine ⟨rfl, by rw [List.length_map]; omega, ?_⟩
    rw [St2.other n9x n9u, set_set]
    walk_at "w"
    have e1 : us ++ W.int p :: (plcss ts).map W.int ++ (plcs t).map W.int = us ++ W.int p :: (plcss (ts ++ [t])).map W.int := by
      rw [plcss_app]; simp [plcss]
    have e2 : max ((dTs ts : Nat) : Int) ((dT t : Nat) : Int) = ((dTs (ts ++ [t]) : Nat) : Int) := by
      rw [dTs_snoc]; omega
    rw [e1, e2]
    refine hn2 _ _ ⟨ts ++ [t], c'', _, _, _, by simp [hti], fun x hx => ?_, rfl, by rw [List.map_append]; rfl⟩
    rcases List.mem_append.mp hx with hx | hx
    · exact hts x hx
    · obtain rfl : x = t := by simpa using hx
      exact ⟨by omega, gt⟩
  · rintro e S' ⟨ts, c', y1, y2, y3, hti, hts, rfl, rfl⟩
    rw [Nat.zero_add, rngW_len] at hti
    walk_at "w"
    have hm4 : ts.length ≤ 4 := by omega
    refine put11 (wk := ks.map kW) (us := ts.map tW) E.E hfr.1 (by rw [List.length_map]; exact hk) (.inl rfl) (.inl rfl) (.inr ⟨a9, rfl, by rw [St2.get n9x n9u]; exact Sto.set_same⟩) (by rw [List.length_map]; omega) ?_
    walk_at "w"
    have e3 : shp w p fr (ks.map kW) (ts.map tW) = tW (.nd w p fr ks ts) := by rw [tW, tWs_map]
    have e4 : (1 : Int) + ((dTs ts : Nat) : Int) = ((dT (.nd w p fr ks ts) : Nat) : Int) := by rw [dT]; omega
    rw [e3, e4]
    have gn : GE (r + 1) (nE r) (.nd w p fr ks ts) := by
      by_cases hr : r = 0
      · subst hr
        obtain rfl : ts = [] := List.eq_nil_of_length_eq_zero (by rw [hti]; exact hr0 rfl)
        have := GE.node (p := p) (d := 0) (s := 0) (ps := []) hlook hfr hk (fun z => by rw [List.length_nil, ← hmP z, ← hti]; rfl) (by simp) hk4 (by simp)
        exact this
      · obtain ⟨r', rfl⟩ : ∃ r', r = r' + 1 := ⟨r - 1, by omega⟩
        exact GE.node hlook hfr hk (fun z => by rw [hti]; exact hmP z) hm4 hk4 fun t ht => (hts t ht).2
    have qq := q _ c' gn
    have e5 : us ++ (plcs (.nd w p fr ks ts)).map W.int = us ++ W.int p :: (plcss ts).map W.int := by rw [plcs]; rfl
    rw [e5] at qq
    refine retG ?_ qq
    rw [← St2.other n9x n9u]
    refine Sub.set ?_
    rw [St2.get n9x n9u]
    rw [St2.get n9x n9u] at h9
    exact h9
theorem tree11 (E : TZ T) (ne : px ≠ pu) : ∀ r, TE T px pu b0 b1 b2 r := by
  have step : ∀ r, (∀ r', r = r' + 1 → TE T px pu b0 b1 b2 r') → TE T px pu b0 b1 b2 r := by
    intro r ih c us n S Q X hx hu hn hl q
    obtain ⟨n, rfl⟩ : ∃ n', n = n' + 2 := ⟨n - 2, by omega⟩
    have hnp := nE_pos r
    rw [wF_eq E.h104]
    refine ⟨rfl, ?_⟩
    rw [← List.take_append_drop 3 d104.body, wSs_app3]
    have rest := fun {c j p} (h0 : 0 ≤ j) (h1 : j < 17) (h2 : r = 0 → j < 4) => @tree_rest T S Q X (n + 1) px pu b0 b1 b2 E ne r ih c us p j h0 h1 h2 (by omega) hl q
    generalize d104.body.drop 3 = B at rest
    simp only [d104, List.take]
    walk_at "w"
    refine place11 E.E hu (by omega) fun p => ?_
    rw [show S.set pu (.lst (us ++ [.int p])) = St2 S px pu c (us ++ [.int p]) by unfold St2; rw [set_self hx]]
    walk_at "w"
    refine next_ok E.E.h94 (St2.gx ne) (by decide) ?_
    rw [St2.setx ne]
    have b := nv_lt (c := c) (m := 17) (by omega)
    walk_at "w"
    refine wB_dec (fun _ => ⟨by decide, rest (by omega) (by omega) (fun _ => by omega)⟩) fun hr => ?_
    rw [wLen_ref St2.gu]
    walk_at "w"
    refine wB_dec (fun _ => ⟨by decide, rest (by omega) (by omega) (fun _ => by omega)⟩) fun _ => rest b.1 b.2 (fun h => absurd (by omega) hr)
  intro r
  induction r with
  | zero => exact step 0 fun r' h => absurd h (by omega)
  | succ r ih => exact step (r + 1) fun r' h => by obtain rfl : r = r' := (by omega); exact ih
end
end Bw

/-! EA3: k11, what is asked -/
namespace Bw
open PySem (sizeLine)
theorem depWs_mem : ∀ {ws : List W} {w : W}, w ∈ ws → depW w ≤ depWs ws
  | x :: ws, w, m => by
    show depW w ≤ max (depW x) (depWs ws)
    rcases List.mem_cons.mp m with rfl | m
    · omega
    · have := depWs_mem m; omega
/-- a thing, as a value or a list that is kept -/
def RV (S : Sto) (y x : W) : Prop := y = x ∨ ∃ a ws, y = .ref a ∧ S a = some (.lst ws) ∧ x = .rl ws
section
variable {T : Nat → Option FD} {S : Sto} {Q : VQ} {X : XQ} {n : Nat}
theorem RV.isi {y x : W} {t : Ty} (h : RV S y x) : isiW t S y = isiW t S x := by
  rcases h with rfl | ⟨a, ws, rfl, h, rfl⟩
  · rfl
  · simp only [isiW, deref_rf h, deref_rl]
theorem RV.len {y : W} {ws : List W} (h : RV S y (.rl ws)) : wLen y S Q = Q (.int ws.length) S := by
  rcases h with rfl | ⟨a, us, rfl, h, e⟩
  · rfl
  · cases e; exact wLen_ref h
theorem RV.idx {y : W} {ws : List W} {i : Int} (h : RV S y (.rl ws)) : wIdx y (.int i) S Q = wSome (atW ws i) (fun w => Q w S) := by
  rcases h with rfl | ⟨a, us, rfl, h, e⟩
  · exact wIdx_rl
  · cases e; exact wIdx_ref h
theorem alike_rest {m : Nat} (ih : ∀ {x : W} {n : Nat} {S : Sto} {Q : VQ} {X : XQ}, okA x = true → depW x ≤ m → m + 1 ≤ n → Q (.bl true) S → wF T n 93 [x, x] S Q X) {y1 y2 : W} {ws : List W} (hw : ws.length ≤ 1000000) (ho : ∀ w ∈ ws, okA w = true ∧ depW w ≤ m) (hn : m + 1 ≤ n)
    (hl1 : ∀ {P : VQ}, wLen y1 S P = P (.int ws.length) S) (hl2 : ∀ {P : VQ}, wLen y2 S P = P (.int ws.length) S) (hi1 : ∀ {i : Int} {P : VQ}, wIdx y1 (.int i) S P = wSome (atW ws i) fun w => P w S) (hi2' : ∀ {i : Int} {P : VQ}, wIdx y2 (.int i) S P = wSome (atW ws i) fun w => P w S) (q : Q (.bl true) S) :
    wSs (wF T n) (d93.body.drop 4) [some y1, some y2, none] S (dnOf Q X) := by
  have sz : 1000001 ≤ sizeLine := by decide
  simp only [d93, List.drop]
  walk_at "w"
  rw [hl1]
  walk_at "w"
  rw [hl2]
  walk_at "w"
  rw [hl2]
  walk_at "w"
  rw [if_pos (fits_of (by omega) (by omega))]
  walk_at "w"
  refine forI (fun i e S' => S' = S ∧ ∃ y, e = [some y1, some y2, y]) 0 ⟨rfl, _, rfl⟩ (fun _ _ _ _ _ => trivial) ?_ ?_
  · rintro i w0 e S' nx hi ⟨rfl, y, rfl⟩ hn2
    obtain ⟨hi2, rfl⟩ := rng_get0 hi
    walk_at "w"
    rw [hi1, at_nat hi2, List.getElem?_eq_getElem hi2]
    walk_at "w"
    rw [hi2', at_nat hi2, List.getElem?_eq_getElem hi2]
    walk_at "w"
    have := ho _ (List.getElem_mem hi2)
    refine ih this.1 this.2 hn ?_
    walk_at "w"
    exact hn2 _ _ ⟨rfl, _, rfl⟩
  · rintro e S' ⟨rfl, y, rfl⟩
    exact ret0 q
theorem alike11 (h : T 93 = some d93) : ∀ (m : Nat) {x y1 y2 : W} {n : Nat} {S : Sto} {Q : VQ} {X : XQ}, okA x = true → depW x ≤ m → m + 1 ≤ n → RV S y1 x → RV S y2 x → Q (.bl true) S → wF T n 93 [y1, y2] S Q X := by
  have atom : ∀ {x y : W} {S : Sto}, RV S y x → (∀ ws, x ≠ .rl ws) → y = x := fun {x y S} h hx => by
    rcases h with h | ⟨a, ws, _, _, e⟩
    · exact h
    · exact absurd e (hx ws)
  have flat : ∀ {x y1 y2 : W} {n : Nat} {S : Sto} {Q : VQ} {X : XQ}, ((∃ b, x = .bl b) ∨ (∃ i, x = .int i) ∨ ∃ z, x = .str z) → RV S y1 x → RV S y2 x → Q (.bl true) S → wF T (n + 1) 93 [y1, y2] S Q X := fun {x y1 y2 n S Q X} hx h1 h2 q => by
    rcases hx with ⟨b, rfl⟩ | ⟨i, rfl⟩ | ⟨z, rfl⟩
    all_goals
      obtain rfl := atom h1 (fun _ => by simp)
      obtain rfl := atom h2 (fun _ => by simp)
      rw [wF_eq h, d93]
      walk_at "w"
      exact ret0 q
  intro m
  induction m with
  | zero =>
    intro x y1 y2 n S Q X ho hd hn h1 h2 q
    obtain ⟨n, rfl⟩ : ∃ n', n = n' + 1 := ⟨n - 1, by omega⟩
    cases x with
    | bl b => exact flat (.inl ⟨_, rfl⟩) h1 h2 q
    | int i => exact flat (.inr (.inl ⟨_, rfl⟩)) h1 h2 q
    | str z => exact flat (.inr (.inr ⟨_, rfl⟩)) h1 h2 q
    | tup ws => simp [depW] at hd
    | rl ws => simp [depW] at hd
    | _ => cases ho
  | succ m ih =>
    intro x y1 y2 n S Q X ho hd hn h1 h2 q
    obtain ⟨n, rfl⟩ : ∃ n', n = n' + 1 := ⟨n - 1, by omega⟩
    have ih2 := fun {x : W} {n : Nat} {S : Sto} {Q : VQ} {X : XQ} (a : okA x = true) (b : depW x ≤ m) (c : m + 1 ≤ n) (d : Q (.bl true) S) => @ih x x x n S Q X a b c (.inl rfl) (.inl rfl) d
    have mem : ∀ {ws : List W}, okAs ws = true → depWs ws ≤ m → ∀ w ∈ ws, okA w = true ∧ depW w ≤ m := fun {ws} a b w hw => ⟨okAs_mem a hw, Nat.le_trans (depWs_mem hw) b⟩
    have split : ∀ {ws : List W}, (decide (ws.length ≤ 1000000) && okAs ws) = true → ws.length ≤ 1000000 ∧ okAs ws = true := fun {ws} h => by
      rw [Bool.and_eq_true, decide_eq_true_eq] at h; exact h
    cases x with
    | bl b => exact flat (.inl ⟨_, rfl⟩) h1 h2 q
    | int i => exact flat (.inr (.inl ⟨_, rfl⟩)) h1 h2 q
    | str z => exact flat (.inr (.inr ⟨_, rfl⟩)) h1 h2 q
    | tup ws =>
      obtain ⟨a1, a2⟩ := split ho
      have hd : depWs ws + 1 ≤ m + 1 := hd
      obtain rfl := atom h1 (fun _ => by simp)
      obtain rfl := atom h2 (fun _ => by simp)
      rw [wF_eq h]
      refine ⟨rfl, ?_⟩
      rw [← List.take_append_drop 4 d93.body, wSs_app3]
      have rest := @alike_rest T S Q X n m ih2 (.tup ws) (.tup ws) ws a1 (mem a2 (by omega)) (by omega) rfl rfl wIdx_tup wIdx_tup q
      generalize d93.body.drop 4 = B at rest
      simp only [d93, List.take]
      walk_at "w"
      exact rest
    | rl ws =>
      obtain ⟨a1, a2⟩ := split ho
      have hd : depWs ws + 1 ≤ m + 1 := hd
      rw [wF_eq h]
      refine ⟨rfl, ?_⟩
      rw [← List.take_append_drop 4 d93.body, wSs_app3]
      have rest := @alike_rest T S Q X n m ih2 y1 y2 ws a1 (mem a2 (by omega)) (by omega) h1.len h2.len h1.idx h2.idx q
      generalize d93.body.drop 4 = B at rest
      simp only [d93, List.take]
      walk_at "w"
      simp only [h1.isi, h2.isi]
      walk_at "w"
      exact rest
    | _ => cases ho
theorem maxL_dT : ∀ {ps : List Tr}, (if (ps.map fun t => ((dT t : Nat) : Int)) = [] then (0 : Int) else maxL (ps.map fun t => ((dT t : Nat) : Int))) = ((dTs ps : Nat) : Int)
  | [] => rfl
  | t :: ts => by
    have : ∀ (t : Tr) (ts : List Tr), maxL ((t :: ts).map fun t => ((dT t : Nat) : Int)) = ((dTs (t :: ts) : Nat) : Int) := fun t ts => by
      induction ts generalizing t with
      | nil => simp [maxL, dTs]
      | cons u us ih =>
        have := ih u
        rw [List.map_cons] at this ⊢
        rw [List.map_cons]
        show max _ (maxL _) = _
        rw [this, show dTs (t :: u :: us) = max (dT t) (dTs (u :: us)) from rfl]; omega
    rw [if_neg (by simp), this]
theorem nest11 (h : T 92 = some d92) (h87 : T 87 = some d87) : ∀ (m : Nat) {t : Tr} {n : Nat} {S : Sto} {Q : VQ} {X : XQ}, dT t ≤ m → m + 2 ≤ n → okTr t → Q (.int (dT t : Nat)) S → wF T n 92 [tW t] S Q X := by
  intro m
  induction m with
  | zero => intro t n S Q X hd; exact absurd hd (by cases t; simp [dT])
  | succ m ih =>
    intro t n S Q X hd hn ho q
    obtain ⟨n, rfl⟩ : ∃ n', n = n' + 2 := ⟨n - 2, by omega⟩
    cases t with
    | nd w p fr ks ps =>
    have sz : 1000 ≤ sizeLine := by decide
    have hl : ps.length ≤ 100 := ho.1.2.2.1
    simp only [dT] at hd
    rw [wF_eq h, d92]
    walk_at "w"
    refine parts_rl h87 ho.1.1 ho.1.2.1 ?_
    walk_at "w"
    refine ⟨by omega, ?_⟩
    refine compA ps tW (fun t => .int (dT t : Nat)) trivial (fun t ht D hD R rr => ?_) fun D hD => ?_
    · exact ih (Nat.le_trans (dTs_mem ht) (by omega)) (by omega) (okTrs_mem ho.2 ht) rr
    · rw [set_del hD]
      refine wMaxd_l (intsOf_nat (f := dT)) ?_
      rw [maxL_dT]
      have : Q (.int ((1 : Int) + ((dTs ps : Nat) : Int))) S := by
        rw [dT] at q
        rw [show (1 : Int) + ((dTs ps : Nat) : Int) = ((dTs ps + 1 : Nat) : Int) by omega]; exact q
      exact ret0 this
theorem places11 (h91 : T 91 = some d91) (h87 : T 87 = some d87) : ∀ (m : Nat) {t : Tr} {n : Nat} {S : Sto} {Q : VQ} {X : XQ}, dT t ≤ m → m + 2 ≤ n → okTr t → szT t ≤ 400000 → Q (.rl ((plcs t).map W.int)) S → wF T n 91 [tW t] S Q X := by
  intro m
  induction m with
  | zero => intro t n S Q X hd; exact absurd hd (by cases t; simp [dT])
  | succ m ih =>
    intro t n S Q X hd hn ho hs q
    obtain ⟨n, rfl⟩ : ∃ n', n = n' + 2 := ⟨n - 2, by omega⟩
    cases t with
    | nd w p fr ks ps =>
    have sz : 1000000 ≤ sizeLine := by decide
    rw [wF_eq h91, d91]
    walk_at "w"
    rw [tW_idx1]
    walk_at "w"
    intro a ha
    refine parts_rl h87 ho.1.1 ho.1.2.1 ?_
    walk_at "w"
    have hl := plcs_len
    refine forR tW (fun l env S' => ∃ done, ps = done ++ l ∧ S' = S.set a (.lst ((p :: plcss done).map W.int)) ∧ ∃ x, env = [some (tW (.nd w p fr ks ps)), some (.ref a), x]) ⟨[], rfl, rfl, _, rfl⟩ (fun _ _ _ _ => trivial) ?_ ?_
    · rintro t l env S' nx ⟨done, e, rfl, x, rfl⟩ hn2
      have hm : t ∈ ps := by rw [e]; simp
      have h1 := dTs_mem hm
      have h2 := szTs_mem hm
      simp only [dT, szT] at hd hs
      walk_at "w"
      rw [lstOf_ref Sto.set_same]
      refine ⟨rfl, ?_⟩
      refine ih (by omega) (by omega) (okTrs_mem ho.2 hm) (by omega) ?_
      have e1 : (plcs t).length ≤ 400000 := by rw [hl]; omega
      have e2 : (plcss done).length ≤ 400000 := by
        have : (plcss done).length + (plcss (t :: l)).length = (plcss ps).length := by rw [e, plcss_app, List.length_append]
        have h3 : (plcss ps).length = szTs ps := by
          have := hl (.nd w p fr ks ps)
          rw [plcs, List.length_cons, szT] at this; omega
        omega
      unfold wExt
      simp only [Sto.set_same, lstOf, deref]
      refine ⟨by simp; omega, ?_⟩
      rw [set_set]
      refine hn2 _ _ ⟨done ++ [t], by rw [e]; simp, ?_, _, rfl⟩
      rw [plcss_app]
      simp [plcss]
    · rintro env S' ⟨done, e, rfl, x, rfl⟩
      rw [List.append_nil] at e
      subst e
      walk_at "w"
      exact retL (Sub.set ha) Sto.set_same ha q
/-- a list of things as they stand -/
theorem RV.seq {y : W} {ws : List W} (h : RV S y (.rl ws)) : seqOf S y = some ws := by
  rcases h with rfl | ⟨a, us, rfl, h, e⟩
  · rfl
  · cases e; exact seqOf_ref h
structure FZ (T : Nat → Option FD) : Prop where
  h87 : T 87 = some d87
  h88 : T 88 = some d88
  h89 : T 89 = some d89
  h90 : T 90 = some d90
  h91 : T 91 = some d91
  h92 : T 92 = some d92
  h93 : T 93 = some d93
  h105 : T 105 = some d105
  h106 : T 106 = some d106
  h107 : T 107 = some d107
  h108 : T 108 = some d108
theorem okA_ints (l : List Int) (h : l.length ≤ 1000000) : okA (.rl (l.map W.int)) = true := by
  show (decide (_ ≤ 1000000) && okAs _) = true
  rw [List.length_map, decide_eq_true h, okAs_of fun x hx => by obtain ⟨i, _, rfl⟩ := List.mem_map.mp hx; rfl]; rfl
theorem dep_ints (l : List Int) : depW (.rl (l.map W.int)) ≤ 1 := by
  show depWs _ + 1 ≤ 1
  have : ∀ l : List Int, depWs (l.map W.int) = 0 := fun l => by
    induction l with
    | nil => rfl
    | cons a l ih => show max (depW (.int a)) (depWs (l.map W.int)) = 0; rw [ih]; rfl
  rw [this]; omega
theorem counted11 (F : FZ T) {t : Tr} {y : W} {hi : Int} (hd : dT t ≤ 20) (hn : 40 ≤ n) (ho : okTr t) (hs : szT t ≤ 400000) (hy : RV S y (.rl ((plcs t).map W.int))) (hh : 1 + hi = ((dT t : Nat) : Int)) (q : Q (.bl true) S) : wF T n 105 [tW t, y, .int hi] S Q X := by
  obtain ⟨n, rfl⟩ : ∃ n', n = n' + 1 := ⟨n - 1, by omega⟩
  have oa := okA_ints (plcs t) (by rw [plcs_len]; omega)
  have da := dep_ints (plcs t)
  rw [wF_eq F.h105, d105]
  walk_at "w"
  refine places11 F.h91 F.h87 20 hd (by omega) ho hs ?_
  refine alike11 F.h93 1 oa da (by omega) (.inl rfl) hy ?_
  walk_at "w"
  refine nest11 F.h92 F.h87 20 hd (by omega) ho ?_
  walk_at "w"
  rw [hh]
  refine alike11 F.h93 1 rfl (by simp [depW]) (by omega) (.inl rfl) (.inl rfl) ?_
  walk_at "w"
  refine places11 F.h91 F.h87 20 hd (by omega) ho hs ?_
  exact alike11 F.h93 1 oa da (by omega) (.inl rfl) hy (ret0 q)
end
end Bw

/-! EA4: k11, nodes with other parts and kinds -/
namespace Bw
open PySem (sizeLine)
theorem RV.fresh {S : Sto} {y x : W} {a : PySem.Addr} {o : O} (h : RV S y x) (ha : S a = none) : RV (S.set a o) y x := by
  rcases h with rfl | ⟨b, ws, rfl, h, rfl⟩
  · exact .inl rfl
  · exact .inr ⟨b, ws, rfl, by rw [Sto.set_ne (fun e => by rw [e, ha] at h; cases h)]; exact h, rfl⟩
theorem RV.other {S : Sto} {y x : W} {a : PySem.Addr} {o : O} (h : RV S y x) (ha : y ≠ .ref a) : RV (S.set a o) y x := by
  rcases h with rfl | ⟨b, ws, rfl, h, rfl⟩
  · exact .inl rfl
  · exact .inr ⟨b, ws, rfl, by rw [Sto.set_ne (fun e => ha (by rw [e]))]; exact h, rfl⟩
theorem RV.deref {S : Sto} {y : W} {ws : List W} (h : RV S y (.rl ws)) : deref S y = .rl ws := by
  rcases h with rfl | ⟨b, us, rfl, h, e⟩
  · rfl
  · cases e; exact deref_rf h
/-- a thing that may be asked for -/
structure AK (x : W) : Prop where
  o : okA x = true
  d : depW x ≤ 50
  u : due2 x = true
theorem AK.rl {ws : List W} (hl : ws.length ≤ 900) (h : ∀ x ∈ ws, okA x = true ∧ depW x ≤ 49 ∧ due2 x = true) : AK (.rl ws) := by
  have dw : ∀ ws : List W, (∀ x ∈ ws, depW x ≤ 49) → depWs ws ≤ 49 := fun ws => by
    induction ws with
    | nil => intro _; exact Nat.zero_le _
    | cons a l ih => intro h; show max (depW a) (depWs l) ≤ 49; have := h a List.mem_cons_self; have := ih fun x hx => h x (List.mem_cons_of_mem _ hx); omega
  refine ⟨?_, by show depWs ws + 1 ≤ 50; have := dw ws fun x hx => (h x hx).2.1; omega, due2_rl (by omega) fun x hx => (h x hx).2.2⟩
  show (decide (_ ≤ 1000000) && okAs ws) = true
  rw [decide_eq_true (by omega), okAs_of fun x hx => (h x hx).1]; rfl
/-- what is written at a node, a look none -/
def wrE (w : Wo) (wk : List W) : List W := if w = .look then [] else wk
section
variable {T : Nat → Option FD} {S : Sto} {Q : VQ} {X : XQ} {n : Nat} {w : Wo} {p : Int} {fr us us' wk wk' : List W}
theorem parts_ref (h : T 87 = some d87) (hf : fr.length = nF w) (hk : wk.length = nK w) (q : ∀ a, S a = none → Q (.ref a) (S.set a (.lst us))) : wF T (n + 1) 87 [shp w p fr wk us] S Q X :=
  parts_shp h hf hk fun a ha => ret0 (q a ha)
theorem parts_l (h : T 87 = some d87) (hf : fr.length = nF w) (hk : wk.length = nK w) (q : Q (.rl us) S) : wF T (n + 1) 87 [shp w p fr wk us] S Q X :=
  parts_shp h hf hk fun a ha => retL (Sub.set ha) Sto.set_same ha q
theorem written_any (h : T 89 = some d89) (hf : fr.length = nF w) (hk : wk.length = nK w) (q : ∀ a, S a = none → Ret (.ref a) (S.set a (.lst (wrE w wk))) Q) : wF T (n + 1) 89 [shp w p fr wk us] S Q X := by
  rw [wF_eq h, d89]
  walk_at "w"
  simp only [shp_idx0]
  walk_at "w"
  by_cases hl : w = .look
  · subst hl
    repeat (first | refine wB_n rfl ?_ | refine wB_y rfl ?_)
    exact q
  · unfold wrE at q
    simp only [if_neg hl] at q
    cases w
    case look => exact absurd rfl hl
    all_goals first | (obtain ⟨f1, f2, rfl⟩ := len2 hf) | (obtain ⟨f1, rfl⟩ := len1 hf) | (obtain rfl := len0 hf)
    all_goals first | (obtain ⟨k1, k2, rfl⟩ := len2 hk) | (obtain ⟨k1, rfl⟩ := len1 hk) | (obtain rfl := len0 hk)
    all_goals (repeat (first | refine wB_n rfl ?_ | refine wB_y rfl ?_))
    all_goals try simp only [shp, List.cons_append, List.nil_append, List.map_cons, List.map_nil]
    all_goals walk_at "w"
    all_goals exact q
theorem turned11 (F : FZ T) {y : W} (hn : 60 ≤ n) (hf : fr.length = nF w) (hk : wk.length = nK w) (hy : RV S y (.rl us')) (ay : AK (.rl us')) (hl : us'.length ≤ 900) (ad : AK (shp w p fr wk us')) (q : Q (.bl true) S) : wF T n 106 [shp w p fr wk us, y, shp w p fr wk us'] S Q X := by
  obtain ⟨n, rfl⟩ : ∃ n', n = n' + 1 := ⟨n - 1, by omega⟩
  obtain ⟨n, rfl⟩ : ∃ n', n = n' + 1 := ⟨n - 1, by omega⟩
  have nd : ∀ ws : List W, shp w p fr wk us' ≠ .rl ws := fun ws => by rw [shpE]; simp
  rw [wF_eq F.h106, d106]
  walk_at "w"
  rw [hy.seq]
  walk_at "w"
  refine with_shp F.h88 hf hk rfl (by omega) ?_
  walk_at "w"
  refine same_eq (by rw [hy.deref]; rfl) (by rw [hy.deref]; exact ay.u) (by rw [hy.deref]; have := ay.d; omega) ?_
  walk_at "w"
  refine alike11 F.h93 50 ad.o ad.d (by omega) (.inl rfl) (.inl rfl) ?_
  walk_at "w"
  refine parts_l F.h87 hf hk ?_
  exact alike11 F.h93 50 ay.o ay.d (by omega) (.inl rfl) hy (ret0 q)
theorem rewritten11 (F : FZ T) {y z : W} (hn : 60 ≤ n) (hw : w ≠ .look) (hf : fr.length = nF w) (hk : wk.length = nK w) (hk' : wk'.length = nK w) (hy : RV S y (.rl wk')) (ay : AK (.rl wk')) (hz : RV S z (.rl us)) (az : AK (.rl us)) (hl : us.length ≤ 900) (ad : AK (shp w p fr wk' us)) (q : Q (.bl true) S) : wF T n 107 [shp w p fr wk us, y, shp w p fr wk' us, z] S Q X := by
  obtain ⟨n, rfl⟩ : ∃ n', n = n' + 1 := ⟨n - 1, by omega⟩
  obtain ⟨n, rfl⟩ : ∃ n', n = n' + 1 := ⟨n - 1, by omega⟩
  rw [wF_eq F.h107, d107]
  walk_at "w"
  rw [hy.seq]
  walk_at "w"
  refine with_wr F.h90 hf hk hk' hw rfl (by omega) ?_
  walk_at "w"
  refine same_eq (by rw [hy.deref]; rfl) (by rw [hy.deref]; exact ay.u) (by rw [hy.deref]; have := ay.d; omega) ?_
  walk_at "w"
  refine alike11 F.h93 50 ad.o ad.d (by omega) (.inl rfl) (.inl rfl) ?_
  walk_at "w"
  refine written_rl F.h89 hf hk' hw ?_
  refine alike11 F.h93 50 ay.o ay.d (by omega) (.inl rfl) hy ?_
  walk_at "w"
  refine parts_l F.h87 hf hk' ?_
  exact alike11 F.h93 50 az.o az.d (by omega) (.inl rfl) hz (ret0 q)
theorem listed11 (F : FZ T) {y z : W} (hn : 60 ≤ n) (hf : fr.length = nF w) (hk : wk.length = nK w) (hz : RV S z (.rl us)) (az : AK (.rl us)) (hy : RV S y (.rl (wrE w wk))) (ay : AK (.rl (wrE w wk))) (hl : us.length ≤ 900) (q : Q (.bl true) S) : wF T n 108 [shp w p fr wk us, z, y] S Q X := by
  obtain ⟨n, rfl⟩ : ∃ n', n = n' + 1 := ⟨n - 1, by omega⟩
  obtain ⟨n, rfl⟩ : ∃ n', n = n' + 1 := ⟨n - 1, by omega⟩
  have sz : 10000 ≤ sizeLine := by decide
  have hl2 : (wrE w wk).length ≤ 2 := by unfold wrE; have := nK_le w; split <;> simp <;> omega
  rw [wF_eq F.h108, d108]
  walk_at "w"
  refine parts_ref F.h87 hf hk fun a ha => ?_
  refine written_any F.h89 hf hk fun b hb => ret0 ?_
  have nab : a ≠ b := fun e => by rw [← e, Sto.set_same] at hb; cases hb
  walk_at "w"
  refine alike11 F.h93 50 az.o az.d (by omega) (.inr ⟨a, _, rfl, by rw [Sto.set_ne nab]; exact Sto.set_same, rfl⟩) ((hz.fresh ha).fresh hb) ?_
  walk_at "w"
  refine alike11 F.h93 50 ay.o ay.d (by omega) (.inr ⟨b, _, rfl, Sto.set_same, rfl⟩) ((hy.fresh ha).fresh hb) ?_
  walk_at "w"
  rw [lstOf_ref (show ((S.set a (.lst us)).set b (.lst (wrE w wk))) a = some (.lst us) by rw [Sto.set_ne nab]; exact Sto.set_same), wApp_ref (show ((S.set a (.lst us)).set b (.lst (wrE w wk))) a = some (.lst us) by rw [Sto.set_ne nab]; exact Sto.set_same)]
  refine ⟨rfl, by omega, ?_⟩
  have hb2 : (((S.set a (.lst us)).set b (.lst (wrE w wk))).set a (.lst (us ++ [.int 1]))) b = some (.lst (wrE w wk)) := by rw [Sto.set_ne (Ne.symm nab)]; exact Sto.set_same
  rw [lstOf_ref hb2, wApp_ref hb2]
  refine ⟨rfl, by omega, ?_⟩
  have e1 : (((S.set a (.lst us)).set b (.lst (wrE w wk))).set a (.lst (us ++ [.int 1]))).set b (.lst (wrE w wk ++ [.int 1])) = (S.set a (.lst (us ++ [.int 1]))).set b (.lst (wrE w wk ++ [.int 1])) := by
    rw [set_comm nab, set_set, set_comm nab, set_set]
    exact set_comm (Ne.symm nab)
  rw [e1]
  have hb' : (S.set a (.lst (us ++ [.int 1]))) b = none := by
    rw [Sto.set_ne (Ne.symm nab)] at hb ⊢; exact hb
  refine parts_l F.h87 hf hk ?_
  refine alike11 F.h93 50 az.o az.d (by omega) (.inl rfl) ((hz.fresh ha).fresh hb') ?_
  walk_at "w"
  refine written_any F.h89 hf hk fun c hc => retL (Sub.set hc) Sto.set_same hc ?_
  exact alike11 F.h93 50 ay.o ay.d (by omega) (.inl rfl) ((hy.fresh ha).fresh hb') (retG ((Sub.set ha).trans (Sub.set hb')) q)
end
end Bw

/-! EA5: the law of parts and places -/
namespace Bw
open PySem (sizeLine)
abbrev A40 (x : W) : Prop := okA x = true ∧ depW x ≤ 40 ∧ due2 x = true
theorem fA_40 {x : W} (h : fA x = true) : A40 x := by
  cases x <;> first | exact ⟨rfl, by simp [depW], rfl⟩ | cases h
theorem depWs_le {m : Nat} : ∀ {ws : List W}, (∀ x ∈ ws, depW x ≤ m) → depWs ws ≤ m
  | [], _ => Nat.zero_le _
  | a :: l, h => by
    show max (depW a) (depWs l) ≤ m
    have := h a List.mem_cons_self
    have := depWs_le fun x hx => h x (List.mem_cons_of_mem _ hx)
    omega
theorem AK_shp {w : Wo} {p : Int} {fr wk us : List W} (hf : ∀ x ∈ fr, fA x = true) (hk : ∀ x ∈ wk, A40 x) (hu : ∀ x ∈ us, A40 x) (h1 : fr.length ≤ 2) (h2 : wk.length ≤ 2) (h3 : us.length ≤ 900) : AK (shp w p fr wk us) := by
  refine ⟨okA_shp (fun x hx => fA_okA (hf x hx)) (fun x hx => (hk x hx).1) (fun x hx => (hu x hx).1) (by omega) (by omega) (by omega), ?_, ?_⟩
  · rw [shpE]
    show depWs _ + 1 ≤ 50
    have : depWs (.str (woS w) :: .int p :: restW w fr wk us) ≤ 45 := depWs_le fun x hx => by
      rcases List.mem_cons.mp hx with rfl | hx
      · simp [depW]
      rcases List.mem_cons.mp hx with rfl | hx
      · simp [depW]
      unfold restW at hx
      split at hx
      · rcases List.mem_append.mp hx with hx | hx
        · have := (hk x hx).2.1; omega
        · obtain rfl : x = .tup us := by simpa using hx
          show depWs us + 1 ≤ 45
          have := depWs_le (m := 40) fun x hx => (hu x hx).2.1
          omega
      · rcases List.mem_append.mp hx with hx | hx
        · have := (fA_40 (hf x hx)).2.1; omega
        · rcases List.mem_append.mp hx with hx | hx
          · have := (hk x hx).2.1; omega
          · have := (hu x hx).2.1; omega
    omega
  · rw [shpE]
    refine due2_tup ?_ fun x hx => ?_
    · unfold restW; split <;> simp <;> omega
    · rcases List.mem_cons.mp hx with rfl | hx
      · rfl
      rcases List.mem_cons.mp hx with rfl | hx
      · rfl
      unfold restW at hx
      split at hx
      · rcases List.mem_append.mp hx with hx | hx
        · exact (hk x hx).2.2
        · obtain rfl : x = .tup us := by simpa using hx
          exact due2_tup (by omega) fun x hx => (hu x hx).2.2
      · rcases List.mem_append.mp hx with hx | hx
        · exact (fA_40 (hf x hx)).2.2
        · rcases List.mem_append.mp hx with hx | hx
          · exact (hk x hx).2.2
          · exact (hu x hx).2.2
theorem A40.list {ws : List W} (hl : ws.length ≤ 900) (h : ∀ x ∈ ws, A40 x) : AK (.rl ws) := AK.rl hl fun x hx => ⟨(h x hx).1, by have := (h x hx).2.1; omega, (h x hx).2.2⟩
theorem A40_k {k : Kd} (h : kdep k ≤ 40) : A40 (kW k) := ⟨okA_k k, by rw [dep_kW]; exact h, due2_k k⟩
theorem A40_t {t : Tr} (g : GE 7 (nE 6) t) : A40 (tW t) := by
  have := tree_due 20 (t := t) (Nat.le_trans g.d (by omega)) (due_of 20 (Nat.le_trans g.d (by omega)) g.o g.g g.fl)
  have hd := g.d
  exact ⟨g.a, by omega, this.1⟩
def givW (i j : Int) : W := .tup [.str [103, 105, 118, 101, 110], .int i, .int j]
theorem A40_g (i j : Int) : A40 (givW i j) := ⟨rfl, by simp [givW, depW, depWs], rfl⟩
structure LZ11 (T : Nat → Option FD) : Prop where
  Z : TZ T
  F : FZ T
  h8 : T 8 = some d8
  h109 : T 109 = some d109
section
variable {T : Nat → Option FD} {S : Sto} {Q : VQ} {X : XQ} {n : Nat}
theorem tail11 (E : LZ11 T) {w : Wo} {p : Int} {fr wk : List W} {ks : List Kd} {ts : List Tr} {px pu a9 : PySem.Addr} {ns : List Int} {step b0 b1 b2 : Int} {c : List Int} {y11 y15 y16 : Option W} (hns : ns.length ≤ 64) (hf : FrE w fr) (hk : wk.length = nK w) (hwk : ∀ x ∈ wk, A40 x) (hl : ts.length ≤ 4) (hts : ∀ t ∈ ts, GE 7 (nE 6) t) (hP : w ≠ .row → ts.length = nP w)
    (hx : S px = some (stk c)) (hu : ∃ us : List W, S pu = some (.lst us) ∧ us.length ≤ 500000 ∧ (w ≠ .look → us = (p :: plcss ts).map W.int)) (h9 : S a9 = some (.lst (ts.map tW))) (n1 : px ≠ pu) (n2 : a9 ≠ px) (n3 : a9 ≠ pu) (hnl : w ≠ .look → wk = ks.map kW ∧ ∀ k ∈ ks, kdep k ≤ 4) :
    wSs (wF T 100) (d109.body.drop 12) [some (.sc (ns.map W.int)), some (.ref px), some (.int step), some (.tup [.int b0, .int b1, .int b2]), some (.str (woS w)), some (.ref pu), some (.int p), some (.rl fr), some (.rl wk), some (.ref a9), some (.int (dTs ts : Nat)), y11, none, none, none, y15, y16, none] S (dnOf QT fun _ _ => False) := by
  obtain ⟨us, hu, hul, hue⟩ := hu
  have sz : 1000000 ≤ sizeLine := by decide
  have hfl := hf.1
  have hf2 : nF w ≤ 2 := by cases w <;> simp [nF]
  have hk2 := nK_le w
  have hus : ∀ x ∈ ts.map tW, A40 x := fun x hx => by
    obtain ⟨t, ht, rfl⟩ := List.mem_map.mp hx
    exact A40_t (hts t ht)
  simp only [d109, List.drop]
  walk_at "w"
  refine put11 (wk := wk) (us := ts.map tW) E.Z.E hfl hk (.inl rfl) (.inl rfl) (.inr ⟨a9, rfl, h9⟩) (by rw [List.length_map]; omega) ?_
  walk_at "w"
  have AKn : ∀ {wk us : List W}, wk.length = nK w → (∀ x ∈ wk, A40 x) → us.length ≤ 100 → (∀ x ∈ us, A40 x) → AK (shp w p fr wk us) := fun {wk us} h1 h2 h3 h4 => AK_shp hf.2.1 h2 h4 (by omega) (by omega) (by omega)
  have lus : (ts.map tW).length ≤ 100 := by rw [List.length_map]; omega
  by_cases hlk : w = .look
  · have g1 : (woS w == [108, 111, 111, 107]) = true := by rw [hlk]; rfl
    rw [g1]
    walk_at "w"
    rw [wLen_ref h9]
    walk_at "w"
    rw [if_pos (fits_of (by omega) (by omega))]
    walk_at "w"
    refine ⟨by rw [rngW_len]; omega, ?_⟩
    intro D hD
    have nD : D ≠ pu := fun z => by rw [z, hu] at hD; cases hD
    refine compI (fun j done S' => ∃ us', done.length = j ∧ (∀ x ∈ done, ∃ i k, x = givW i k) ∧ us'.length ≤ 500000 + j ∧ S' = (S.set pu (.lst us')).set D .hid) (done := []) 0 ⟨us, rfl, by simp, by omega, by rw [set_self hu]⟩ (fun _ _ _ _ _ => trivial) ?_ ?_
    · rintro j w0 done S' R hj ⟨us', hdl, hdg, hul', rfl⟩ hn2
      obtain ⟨hj2, rfl⟩ := rng_get0 hj
      rw [Nat.zero_add] at hul'
      refine place11 E.Z.E (us := us') (by rw [Sto.set_ne (Ne.symm nD)]; exact Sto.set_same) (by omega) fun i1 => ?_
      walk_at "w"
      refine ⟨by decide, ?_⟩
      refine hn2 _ _ ⟨us' ++ [.int i1], by simp [hdl], fun x hx => ?_, by simp; omega, by rw [set_comm nD, set_set]⟩
      rcases List.mem_append.mp hx with hx | hx
      · exact hdg x hx
      · exact ⟨_, _, by simpa [givW] using hx⟩
    rintro more S' ⟨us', hml, hmg, hul', rfl⟩
    rw [Nat.zero_add, rngW_len, List.nil_append] at hml
    rw [List.nil_append] at hmg
    have hD2 : (S.set pu (.lst us')) D = none := by rw [Sto.set_ne nD]; exact hD
    rw [set_del hD2]
    obtain ⟨S3, hS3⟩ : ∃ S3, S3 = S.set pu (.lst us') := ⟨_, rfl⟩
    have h93 : S3 a9 = some (.lst (ts.map tW)) := by rw [hS3, Sto.set_ne n3]; exact h9
    rw [← hS3]
    have hm40 : ∀ x ∈ more, A40 x := fun x hx => by
      obtain ⟨i, k, rfl⟩ := hmg x hx
      exact A40_g i k
    skip
    walk_at "w"
    refine ⟨by decide, ?_⟩
    have a1 : ∀ x ∈ [W.tup [W.str [103, 105, 118, 101, 110], W.int p, W.int ((ns.length : Int) % 8)]], A40 x := fun x hx => by
      obtain rfl : x = _ := List.mem_singleton.mp hx
      exact A40_g _ _
    refine put11 (us := [W.tup [W.str [103, 105, 118, 101, 110], W.int p, W.int ((ns.length : Int) % 8)]]) E.Z.E hfl hk (.inl rfl) (.inl rfl) (.inl rfl) (by simp) ?_
    walk_at "w"
    refine turned11 E.F (us' := [W.tup [W.str [103, 105, 118, 101, 110], W.int p, W.int ((ns.length : Int) % 8)]]) (by omega) hfl hk (.inl rfl) (A40.list (by simp) a1) (by simp) (AKn hk hwk (by simp) a1) ?_
    walk_at "w"
    skip
    walk_at "w"
    have hw0 : wrE w wk = [] := by unfold wrE; rw [if_pos hlk]
    exact listed11 E.F (by omega) hfl hk (.inr ⟨a9, _, rfl, h93, rfl⟩) (A40.list (by omega) hus) (by rw [hw0]; exact .inl rfl) (by rw [hw0]; exact A40.list (by simp) (by simp)) (by omega) (ret0 rfl)
  · have g1 : (woS w == [108, 111, 111, 107]) = false := by rw [show [108, 111, 111, 107] = woS .look from rfl, woS_beq]; exact decide_eq_false hlk
    obtain ⟨rfl, hk4⟩ := hnl hlk
    have hue := hue hlk
    have gn : GE 8 (4 * nE 6 + 1) (.nd w p fr ks ts) := GE.node hlk hf (by rw [← hk, List.length_map]) hP hl hk4 hts
    rw [g1]
    walk_at "w"
    rw [seqOf_ref hu]
    walk_at "w"
    have etw : shp w p fr (ks.map kW) (ts.map tW) = tW (.nd w p fr ks ts) := by rw [tW, tWs_map]
    rw [etw]
    refine counted11 E.F (by have := gn.d; omega) (by omega) gn.o (by have := gn.s; have : nE 6 = 5461 := rfl; omega) (by rw [hue]; exact .inl rfl) (by rw [dT]; omega) ?_
    rw [← etw]
    walk_at "w"
    rw [wLen_ref h9]
    walk_at "w"
    rw [if_pos (fits_of (by omega) (by omega))]
    walk_at "w"
    refine ⟨by rw [rngW_len]; omega, ?_⟩
    intro D hD
    have nD : D ≠ pu := fun z => by rw [z, hu] at hD; cases hD
    refine compI (fun j done S' => ∃ us', done.length = j ∧ (∀ x ∈ done, ∃ i k, x = givW i k) ∧ us'.length ≤ 500000 + j ∧ S' = (S.set pu (.lst us')).set D .hid) (done := []) 0 ⟨us, rfl, by simp, by omega, by rw [set_self hu]⟩ (fun _ _ _ _ _ => trivial) ?_ ?_
    · rintro j w0 done S' R hj ⟨us', hdl, hdg, hul', rfl⟩ hn2
      obtain ⟨hj2, rfl⟩ := rng_get0 hj
      rw [Nat.zero_add] at hul'
      refine place11 E.Z.E (us := us') (by rw [Sto.set_ne (Ne.symm nD)]; exact Sto.set_same) (by omega) fun i1 => ?_
      walk_at "w"
      refine ⟨by decide, ?_⟩
      refine hn2 _ _ ⟨us' ++ [.int i1], by simp [hdl], fun x hx => ?_, by simp; omega, by rw [set_comm nD, set_set]⟩
      rcases List.mem_append.mp hx with hx | hx
      · exact hdg x hx
      · exact ⟨_, _, by simpa [givW] using hx⟩
    rintro more S' ⟨us', hml, hmg, hul', rfl⟩
    rw [Nat.zero_add, rngW_len, List.nil_append] at hml
    rw [List.nil_append] at hmg
    have hD2 : (S.set pu (.lst us')) D = none := by rw [Sto.set_ne nD]; exact hD
    rw [set_del hD2]
    obtain ⟨S3, hS3⟩ : ∃ S3, S3 = S.set pu (.lst us') := ⟨_, rfl⟩
    have h93 : S3 a9 = some (.lst (ts.map tW)) := by rw [hS3, Sto.set_ne n3]; exact h9
    rw [← hS3]
    have hm40 : ∀ x ∈ more, A40 x := fun x hx => by
      obtain ⟨i, k, rfl⟩ := hmg x hx
      exact A40_g i k
    skip
    walk_at "w"
    refine put11 (us := more) E.Z.E hfl hk (.inl rfl) (.inl rfl) (.inl rfl) (by omega) ?_
    refine turned11 E.F (us' := more) (by omega) hfl hk (.inl rfl) (A40.list (by omega) hm40) (by omega) (AKn hk hwk (by omega) hm40) ?_
    walk_at "w"
    skip
    walk_at "w"
    have hkl : ks.length = nK w := by rw [← hk, List.length_map]
    refine ⟨by omega, ?_⟩
    have hr40 : ∀ x ∈ ks.map (fun k => kW (.row k)), A40 x := fun x hx => by
      obtain ⟨k, hk, rfl⟩ := List.mem_map.mp hx
      exact A40_k (by have := hk4 k hk; simp only [kdep]; omega)
    refine compA ks kW (fun k => kW (.row k)) trivial (fun k _ D hD R rr => rr) fun D hD => ?_
    walk_at "w"
    rw [set_del hD]
    refine put11 (wk := ks.map fun k => kW (.row k)) (us := ts.map tW) E.Z.E hfl (by rw [List.length_map]; exact hkl) (.inl rfl) (.inl rfl) (.inr ⟨a9, rfl, h93⟩) (by omega) ?_
    refine rewritten11 E.F (wk' := ks.map fun k => kW (.row k)) (by omega) hlk hfl hk (by rw [List.length_map]; exact hkl) (.inl rfl) (A40.list (by rw [List.length_map]; omega) hr40) (.inr ⟨a9, _, rfl, h93, rfl⟩) (A40.list (by omega) hus) (by omega) (AKn (by rw [List.length_map]; exact hkl) hr40 lus hus) ?_
    walk_at "w"
    have hw0 : wrE w (ks.map kW) = ks.map kW := by unfold wrE; rw [if_neg hlk]
    exact listed11 E.F (by omega) hfl hk (.inr ⟨a9, _, rfl, h93, rfl⟩) (A40.list (by omega) hus) (by rw [hw0]; exact .inl rfl) (by rw [hw0]; exact A40.list (by rw [List.length_map]; omega) hwk) (by omega) (ret0 rfl)
theorem law11 (E : LZ11 T) (ns : List Int) (hn : ns.length ≤ 63) : wF T 101 109 [.sc (ns.map W.int)] (fun _ => none) QT (fun _ _ => False) := by
  have sz : 10000 ≤ sizeLine := by decide
  rw [wF_eq E.h109]
  refine ⟨rfl, ?_⟩
  rw [← List.take_append_drop 12 d109.body, wSs_app3]
  have tail := fun {S : Sto} {w p fr wk ks ts px pu a9 step b0 b1 b2 c y11 y15 y16} => @tail11 T S E w p fr wk ks ts px pu a9 ns step b0 b1 b2 c y11 y15 y16 (by omega)
  generalize d109.body.drop 12 = B at tail
  simp only [d109, List.take]
  walk_at "w"
  intro px _
  have cut : cutW (List.map W.int ns) (some 2) (some 120) = (ns.drop 2).map W.int := by
    rw [show (2 : Int) = ((2 : Nat) : Int) from rfl, show (120 : Int) = ((120 : Nat) : Int) from rfl, cut_mid, List.take_of_length_le (by simp; omega), ← List.map_drop]
  rw [cut, show (O.lst (List.map W.int (ns.drop 2)).reverse) = stk (ns.drop 2) by unfold stk; rw [List.map_reverse]]
  refine cell_ok (i := 8) E.h8 (by omega) ?_
  walk_at "w"
  refine ⟨.inl (.inr ⟨by decide, by decide⟩), by decide, ?_⟩
  refine cell_ok (i := 8) E.h8 (by omega) ?_
  walk_at "w"
  refine ⟨by decide, ?_⟩
  refine cell_ok (i := 8) E.h8 (by omega) ?_
  walk_at "w"
  refine ⟨⟨by decide, by decide⟩, by decide, ?_⟩
  refine cell_ok (i := 8) E.h8 (by omega) ?_
  walk_at "w"
  refine ⟨by decide, ?_⟩
  refine word11 E.Z.E (Int.emod_nonneg _ (by decide)) (Int.emod_lt_of_pos _ (by decide)) fun w hw _ _ => ?_
  walk_at "w"
  intro pu hpu
  have n1 : px ≠ pu := fun z => by rw [← z, Sto.set_same] at hpu; cases hpu
  refine place11 E.Z.E (us := []) Sto.set_same (by simp) fun p => ?_
  rw [set_set]
  obtain ⟨S0, hS0⟩ : ∃ S0 : Sto, S0 = fun _ => none := ⟨_, rfl⟩
  rw [← hS0]
  rw [show (S0.set px (stk (ns.drop 2))).set pu (.lst ([] ++ [.int p])) = St2 S0 px pu (ns.drop 2) [.int p] from rfl]
  refine front11 (n := 96) E.Z.E (St2.gx n1) fun fr c1 hfr => ?_
  rw [St2.setx n1]
  refine kinds11 (n := 92) E.Z.E (St2.gx n1) fun ks c2 hk hk4 => ?_
  rw [St2.setx n1]
  walk_at "w"
  intro a9 h9
  have n9x : a9 ≠ px := fun z => by rw [z, St2.gx n1] at h9; cases h9
  have n9u : a9 ≠ pu := fun z => by rw [z, St2.gu] at h9; cases h9
  rw [St2.other n9x n9u]
  refine many11 (n := 98) E.Z.E (St2.gx n1) fun m c3 hm hmP => ?_
  rw [St2.setx n1]
  walk_at "w"
  rw [if_pos (fits_of (by omega) (by omega))]
  walk_at "w"
  generalize cellI ns 1 % 9973 = b0
  generalize 1 + cellI ns 1 * 7919 % 9972 = b1
  generalize cellI ns 0 / 18 % 28 = b2
  refine forI (fun i e S' => ∃ ts c' y1 y2 y3, ts.length = i ∧ (∀ t ∈ ts, GE 7 (nE 6) t) ∧ e = [some (.sc (ns.map W.int)), some (.ref px), some (.int b1), some (.tup [.int b0, .int b1, .int b2]), some (.str (woS w)), some (.ref pu), some (.int p), some (.rl fr), some (.rl (ks.map kW)), some (.ref a9), some (.int (dTs ts : Nat)), y1, none, none, none, y2, y3, none] ∧ S' = St2 (S0.set a9 (.lst (ts.map tW))) px pu c' (W.int p :: (plcss ts).map W.int)) 0 ⟨[], c3, _, _, _, rfl, by simp, rfl, rfl⟩ (fun _ _ _ _ _ => trivial) ?_ ?_
  · rintro i w0 e S' nx hi ⟨ts, c', y1, y2, y3, hti, hts, rfl, rfl⟩ hn2
    obtain ⟨hi2, rfl⟩ := rng_get0 hi
    rw [Nat.zero_add] at hti hn2
    have h5461 : nE 6 = 5461 := rfl
    have hsz : (plcss ts).length ≤ 4 * nE 6 := by
      have h3 : szTs ts ≤ ts.length * nE 6 := szTs_len fun t ht => (hts t ht).s
      have h4 : ts.length * nE 6 ≤ 4 * nE 6 := Nat.mul_le_mul_right _ (by omega)
      have h5 : (plcss ts).length = szTs ts := by
        have := plcs_len (.nd .row 0 [] [] ts)
        rw [plcs, szT, List.length_cons] at this
        omega
      omega
    walk_at "w"
    refine tree11 E.Z n1 6 (St2.gx n1) St2.gu (by omega) (by rw [List.length_cons, List.length_map]; omega) fun t c'' gt => ?_
    rw [St2.both n1]
    walk_at "w"
    rw [lstOf_ref (by rw [St2.get n9x n9u]; exact Sto.set_same), wApp_ref (by rw [St2.get n9x n9u]; exact Sto.set_same)]
    refine ⟨rfl, by rw [List.length_map]; omega, ?_⟩
    rw [St2.other n9x n9u, set_set]
    walk_at "w"
    have e1 : W.int p :: ((plcss ts).map W.int ++ (plcs t).map W.int) = W.int p :: (plcss (ts ++ [t])).map W.int := by
      rw [plcss_app]; simp [plcss]
    have e2 : max ((dTs ts : Nat) : Int) ((dT t : Nat) : Int) = ((dTs (ts ++ [t]) : Nat) : Int) := by
      rw [dTs_snoc]; omega
    rw [e2]
    refine hn2 _ _ ⟨ts ++ [t], c'', _, _, _, by simp [hti], fun x hx => ?_, rfl, by rw [← e1, List.map_append]; rfl⟩
    rcases List.mem_append.mp hx with hx | hx
    · exact hts x hx
    · obtain rfl : x = t := by simpa using hx
      exact gt
  · rintro e S' ⟨ts, c', y1, y2, y3, hti, hts, rfl, rfl⟩
    rw [Nat.zero_add, rngW_len] at hti
    have hm4 : ts.length ≤ 4 := by omega
    have h5461 : nE 6 = 5461 := rfl
    have hsz : (plcss ts).length ≤ 4 * nE 6 := by
      have h3 : szTs ts ≤ ts.length * nE 6 := szTs_len fun t ht => (hts t ht).s
      have h4 : ts.length * nE 6 ≤ 4 * nE 6 := Nat.mul_le_mul_right _ hm4
      have h5 : (plcss ts).length = szTs ts := by
        have := plcs_len (.nd .row 0 [] [] ts)
        rw [plcs, szT, List.length_cons] at this
        omega
      omega
    have t9 : (St2 (S0.set a9 (.lst (ts.map tW))) px pu c' (W.int p :: (plcss ts).map W.int)) a9 = some (.lst (ts.map tW)) := by rw [St2.get n9x n9u]; exact Sto.set_same
    have hul : (W.int p :: (plcss ts).map W.int).length ≤ 500000 := by rw [List.length_cons, List.length_map]; omega
    have hw40 : ∀ x ∈ ks.map kW, A40 x := fun x hx => by
      obtain ⟨k, hk, rfl⟩ := List.mem_map.mp hx
      exact A40_k (by have := hk4 k hk; omega)
    walk_at "w"
    by_cases hlk : w = .look
    · subst hlk
      refine wB_y rfl ?_
      rw [wIdx_ref t9]
      obtain ⟨t, rfl⟩ := len1 (show ts.length = 1 by rw [hti]; exact hmP (by simp))
      obtain ⟨k0, k1, rfl⟩ := len2 (show ks.length = 2 from hk)
      rw [List.map_cons, at0]
      walk_at "w"
      rw [tW_idx1, intOf_b]
      have fin : ∀ (k2 : Kd) {S' : Sto} {c' : List Int} {us : List W}, kdep k2 ≤ 40 → S' = St2 (S0.set a9 (.lst [tW t])) px pu c' us → us.length ≤ 500000 → wSs (wF T 100) B [some (.sc (ns.map W.int)), some (.ref px), some (.int b1), some (.tup [.int b0, .int b1, .int b2]), some (.str (woS .look)), some (.ref pu), some (.int (plT t)), some (.rl fr), some (.rl [kW k0, kW k2]), some (.ref a9), some (.int (dTs [t] : Nat)), y1, none, none, none, y2, y3, none] S' (dnOf QT fun _ _ => False) := fun k2 {S' c' us} hk2 e hus => by
        subst e
        refine tail (ks := []) hfr (by rfl) (fun x hx => ?_) (by simp) hts (fun z => by rfl) (St2.gx n1) ⟨_, St2.gu, hus, fun z => absurd rfl z⟩ (by rw [St2.get n9x n9u]; exact Sto.set_same) n1 n9x n9u fun z => absurd rfl z
        simp only [List.mem_cons, List.mem_nil_iff, or_false] at hx
        rcases hx with rfl | rfl
        · exact hw40 _ (by simp)
        · exact A40_k hk2
      by_cases hk0 : k0 = .unt
      · rw [decide_eq_true hk0, if_pos rfl, wIdx_rl, at1]
        exact fin .truth (by simp [kdep]) rfl hul
      · rw [decide_eq_false hk0, if_neg (by simp), wIdx_rl, at0]
        exact fin .unt (by simp [kdep]) rfl hul
    · refine wB_n (by rw [show [108, 111, 111, 107] = woS .look from rfl, woS_beq]; exact decide_eq_false hlk) ?_
      walk_at "w"
      exact tail hfr (by rw [List.length_map]; exact hk) hw40 hm4 hts (fun z => by rw [hti]; exact hmP z) (St2.gx n1) ⟨_, St2.gu, hul, fun _ => rfl⟩ t9 n1 n9x n9u fun _ => ⟨rfl, hk4⟩
end
end Bw

namespace Bw.k11_parts_and_places
open PySem L2 PySem.Spec PyProof.Rows Bw
/-! ### the text by places, and what stands for it -/
def top (i : Nat) : Stmt := PySem.Challenge.pw_blamewise_k11_parts_and_places.main.body.getD i (.Pass ⟨0, 0, 0, 0⟩)
def clsB : Stmt → List Stmt
  | .ClassDef (body := b) .. => b
  | _ => []
def G : GT := { fns := [(("_law_cell_at" : Str), 8, 2), (("parts" : Str), 87, 1), (("with_parts" : Str), 88, 2), (("written" : Str), 89, 1), (("with_written" : Str), 90, 2), (("places" : Str), 91, 1), (("nest" : Str), 92, 1), (("_law_alike" : Str), 93, 2), (("_law_next" : Str), 94, 2), (("_law_place" : Str), 95, 2), (("_law_name" : Str), 96, 1), (("_law_number" : Str), 97, 1), (("_law_kind" : Str), 98, 2), (("_law_many" : Str), 99, 2), (("_law_front" : Str), 100, 2), (("_law_kinds" : Str), 101, 2), (("_law_put" : Str), 102, 5), (("_law_word" : Str), 103, 1), (("_law_tree" : Str), 104, 4), (("_law_counted" : Str), 105, 3), (("_law_turned" : Str), 106, 3), (("_law_rewritten" : Str), 107, 4), (("_law_listed" : Str), 108, 3)], cons := [], tabs := [("AHEAD", [([119, 104, 111, 108, 101], .int 3), ([116, 114, 117, 116, 104], .int 3), ([103, 105, 118, 101, 110], .int 3), ([110, 97, 109, 101], .int 3), ([102, 110], .int 4), ([115, 101, 108, 102], .int 6), ([99, 97, 108, 108], .int 2), ([108, 101, 116], .int 3), ([105, 102], .int 2), ([100, 111], .int 3), ([97, 116], .int 2), ([115, 105, 122, 101], .int 2), ([112, 97, 105, 114], .int 2), ([111, 110, 101], .int 2), ([116, 119, 111], .int 2), ([97, 115], .int 3), ([108, 111, 111, 107], .int 4)])], bis := ["bool", "int", "isinstance", "len", "list", "max", "range", "reversed", "str", "tuple"] }
def T : Nat → Option FD
  | 8 => some d8
  | 87 => some d87
  | 88 => some d88
  | 89 => some d89
  | 90 => some d90
  | 91 => some d91
  | 92 => some d92
  | 93 => some d93
  | 94 => some d94
  | 95 => some d95
  | 96 => some d96
  | 97 => some d97
  | 98 => some d98
  | 99 => some d99
  | 100 => some d100
  | 101 => some d101
  | 102 => some d102
  | 103 => some d103
  | 104 => some d104
  | 105 => some d105
  | 106 => some d106
  | 107 => some d107
  | 108 => some d108
  | 109 => some d109
  | _ => none
def dd : Nat → DD
  | 8 => ⟨"_law_cell_at", "_law_cell_at", top 9, ["_law_script", "_law_k"], ["_law_script", "_law_k"]⟩
  | 87 => ⟨"parts", "parts", top 2, ["tree"], ["tree"]⟩
  | 88 => ⟨"with_parts", "with_parts", top 3, ["tree", "some"], ["tree", "some"]⟩
  | 89 => ⟨"written", "written", top 4, ["tree"], ["tree"]⟩
  | 90 => ⟨"with_written", "with_written", top 5, ["tree", "some"], ["tree", "some"]⟩
  | 91 => ⟨"places", "places", top 6, ["tree", "found", "part"], ["tree"]⟩
  | 92 => ⟨"nest", "nest", top 7, ["tree", "part"], ["tree"]⟩
  | 93 => ⟨"_law_alike", "_law_alike", top 10, ["_law_found", "_law_due", "_law_k"], ["_law_found", "_law_due"]⟩
  | 94 => ⟨"_law_next", "_law_next", top 11, ["_law_xs", "_law_many_here"], ["_law_xs", "_law_many_here"]⟩
  | 95 => ⟨"_law_place", "_law_place", top 12, ["_law_used", "_law_base", "_law_place_here"], ["_law_used", "_law_base"]⟩
  | 96 => ⟨"_law_name", "_law_name", top 13, ["_law_xs", "_law_number_here", "_law_size", "_law_word_here", "_law_k"], ["_law_xs"]⟩
  | 97 => ⟨"_law_number", "_law_number", top 14, ["_law_xs", "_law_number_here"], ["_law_xs"]⟩
  | 98 => ⟨"_law_kind", "_law_kind", top 15, ["_law_xs", "_law_room", "_law_way", "_law_head"], ["_law_xs", "_law_room"]⟩
  | 99 => ⟨"_law_many", "_law_many", top 16, ["_law_xs", "_law_word_here"], ["_law_xs", "_law_word_here"]⟩
  | 100 => ⟨"_law_front", "_law_front", top 17, ["_law_xs", "_law_word_here", "_law_k"], ["_law_xs", "_law_word_here"]⟩
  | 101 => ⟨"_law_kinds", "_law_kinds", top 18, ["_law_xs", "_law_word_here", "_law_k"], ["_law_xs", "_law_word_here"]⟩
  | 102 => ⟨"_law_put", "_law_put", top 19, ["_law_word_here", "_law_place_here", "_law_front_here", "_law_kinds_here", "_law_some"], ["_law_word_here", "_law_place_here", "_law_front_here", "_law_kinds_here", "_law_some"]⟩
  | 103 => ⟨"_law_word", "_law_word", top 20, ["_law_number_here", "_law_words"], ["_law_number_here"]⟩
  | 104 => ⟨"_law_tree", "_law_tree", top 21, ["_law_xs", "_law_used", "_law_base", "_law_room", "_law_place_here", "_law_number_here", "_law_word_here", "_law_front_here", "_law_kinds_here", "_law_some", "_law_high", "_law_k", "_law_tree_here", "_law_deep"], ["_law_xs", "_law_used", "_law_base", "_law_room"]⟩
  | 105 => ⟨"_law_counted", "_law_counted", top 22, ["_law_node", "_law_used", "_law_high"], ["_law_node", "_law_used", "_law_high"]⟩
  | 106 => ⟨"_law_turned", "_law_turned", top 23, ["_law_node", "_law_others", "_law_due", "_law_handed", "_law_swapped"], ["_law_node", "_law_others", "_law_due"]⟩
  | 107 => ⟨"_law_rewritten", "_law_rewritten", top 24, ["_law_node", "_law_kinds_here", "_law_due", "_law_some", "_law_handed", "_law_again"], ["_law_node", "_law_kinds_here", "_law_due", "_law_some"]⟩
  | 108 => ⟨"_law_listed", "_law_listed", top 25, ["_law_node", "_law_some", "_law_kinds_here", "_law_held", "_law_shown"], ["_law_node", "_law_some", "_law_kinds_here"]⟩
  | 109 => ⟨"law", "law", top 26, ["_law_script", "_law_xs", "_law_step", "_law_base", "_law_word_here", "_law_used", "_law_place_here", "_law_front_here", "_law_kinds_here", "_law_some", "_law_high", "_law_k", "_law_node", "_law_others", "_law_rows", "_law_tree_here", "_law_deep", "_law_kind_here"], ["_law_script"]⟩
  | _ => ⟨"", "", top 0, [], []⟩
theorem sc8 : FnScope ["_law_script", "_law_k"] ["_law_script", "_law_k"] (defScope (top 9)) := ⟨rfl, rfl, rfl, by decide +kernel, rfl, by decide +kernel, by decide +kernel⟩
theorem ch8 : chL (chS ["_law_script", "_law_k"] G 60 (defScope (top 9))) (defBody (top 9)) d8.body = true := by decide +kernel
theorem sc87 : FnScope ["tree"] ["tree"] (defScope (top 2)) := ⟨rfl, rfl, rfl, by decide +kernel, rfl, by decide +kernel, by decide +kernel⟩
theorem ch87 : chL (chS ["tree"] G 60 (defScope (top 2))) (defBody (top 2)) d87.body = true := by decide +kernel
theorem sc88 : FnScope ["tree", "some"] ["tree", "some"] (defScope (top 3)) := ⟨rfl, rfl, rfl, by decide +kernel, rfl, by decide +kernel, by decide +kernel⟩
theorem ch88 : chL (chS ["tree", "some"] G 60 (defScope (top 3))) (defBody (top 3)) d88.body = true := by decide +kernel
theorem sc89 : FnScope ["tree"] ["tree"] (defScope (top 4)) := ⟨rfl, rfl, rfl, by decide +kernel, rfl, by decide +kernel, by decide +kernel⟩
theorem ch89 : chL (chS ["tree"] G 60 (defScope (top 4))) (defBody (top 4)) d89.body = true := by decide +kernel
theorem sc90 : FnScope ["tree", "some"] ["tree", "some"] (defScope (top 5)) := ⟨rfl, rfl, rfl, by decide +kernel, rfl, by decide +kernel, by decide +kernel⟩
theorem ch90 : chL (chS ["tree", "some"] G 60 (defScope (top 5))) (defBody (top 5)) d90.body = true := by decide +kernel
theorem sc91 : FnScope ["tree", "found", "part"] ["tree"] (defScope (top 6)) := ⟨rfl, rfl, rfl, by decide +kernel, rfl, by decide +kernel, by decide +kernel⟩
theorem ch91 : chL (chS ["tree", "found", "part"] G 60 (defScope (top 6))) (defBody (top 6)) d91.body = true := by decide +kernel
theorem sc92 : FnScope ["tree", "part"] ["tree"] (defScope (top 7)) := ⟨rfl, rfl, rfl, by decide +kernel, rfl, by decide +kernel, by decide +kernel⟩
theorem ch92 : chL (chS ["tree", "part"] G 60 (defScope (top 7))) (defBody (top 7)) d92.body = true := by decide +kernel
theorem sc93 : FnScope ["_law_found", "_law_due", "_law_k"] ["_law_found", "_law_due"] (defScope (top 10)) := ⟨rfl, rfl, rfl, by decide +kernel, rfl, by decide +kernel, by decide +kernel⟩
theorem ch93 : chL (chS ["_law_found", "_law_due", "_law_k"] G 60 (defScope (top 10))) (defBody (top 10)) d93.body = true := by decide +kernel
theorem sc94 : FnScope ["_law_xs", "_law_many_here"] ["_law_xs", "_law_many_here"] (defScope (top 11)) := ⟨rfl, rfl, rfl, by decide +kernel, rfl, by decide +kernel, by decide +kernel⟩
theorem ch94 : chL (chS ["_law_xs", "_law_many_here"] G 60 (defScope (top 11))) (defBody (top 11)) d94.body = true := by decide +kernel
theorem sc95 : FnScope ["_law_used", "_law_base", "_law_place_here"] ["_law_used", "_law_base"] (defScope (top 12)) := ⟨rfl, rfl, rfl, by decide +kernel, rfl, by decide +kernel, by decide +kernel⟩
theorem ch95 : chL (chS ["_law_used", "_law_base", "_law_place_here"] G 60 (defScope (top 12))) (defBody (top 12)) d95.body = true := by decide +kernel
theorem sc96 : FnScope ["_law_xs", "_law_number_here", "_law_size", "_law_word_here", "_law_k"] ["_law_xs"] (defScope (top 13)) := ⟨rfl, rfl, rfl, by decide +kernel, rfl, by decide +kernel, by decide +kernel⟩
theorem ch96 : chL (chS ["_law_xs", "_law_number_here", "_law_size", "_law_word_here", "_law_k"] G 60 (defScope (top 13))) (defBody (top 13)) d96.body = true := by decide +kernel
theorem sc97 : FnScope ["_law_xs", "_law_number_here"] ["_law_xs"] (defScope (top 14)) := ⟨rfl, rfl, rfl, by decide +kernel, rfl, by decide +kernel, by decide +kernel⟩
theorem ch97 : chL (chS ["_law_xs", "_law_number_here"] G 60 (defScope (top 14))) (defBody (top 14)) d97.body = true := by decide +kernel
theorem sc98 : FnScope ["_law_xs", "_law_room", "_law_way", "_law_head"] ["_law_xs", "_law_room"] (defScope (top 15)) := ⟨rfl, rfl, rfl, by decide +kernel, rfl, by decide +kernel, by decide +kernel⟩
theorem ch98 : chL (chS ["_law_xs", "_law_room", "_law_way", "_law_head"] G 60 (defScope (top 15))) (defBody (top 15)) d98.body = true := by decide +kernel
theorem sc99 : FnScope ["_law_xs", "_law_word_here"] ["_law_xs", "_law_word_here"] (defScope (top 16)) := ⟨rfl, rfl, rfl, by decide +kernel, rfl, by decide +kernel, by decide +kernel⟩
theorem ch99 : chL (chS ["_law_xs", "_law_word_here"] G 60 (defScope (top 16))) (defBody (top 16)) d99.body = true := by decide +kernel
theorem sc100 : FnScope ["_law_xs", "_law_word_here", "_law_k"] ["_law_xs", "_law_word_here"] (defScope (top 17)) := ⟨rfl, rfl, rfl, by decide +kernel, rfl, by decide +kernel, by decide +kernel⟩
theorem ch100 : chL (chS ["_law_xs", "_law_word_here", "_law_k"] G 60 (defScope (top 17))) (defBody (top 17)) d100.body = true := by decide +kernel
theorem sc101 : FnScope ["_law_xs", "_law_word_here", "_law_k"] ["_law_xs", "_law_word_here"] (defScope (top 18)) := ⟨rfl, rfl, rfl, by decide +kernel, rfl, by decide +kernel, by decide +kernel⟩
theorem ch101 : chL (chS ["_law_xs", "_law_word_here", "_law_k"] G 60 (defScope (top 18))) (defBody (top 18)) d101.body = true := by decide +kernel
theorem sc102 : FnScope ["_law_word_here", "_law_place_here", "_law_front_here", "_law_kinds_here", "_law_some"] ["_law_word_here", "_law_place_here", "_law_front_here", "_law_kinds_here", "_law_some"] (defScope (top 19)) := ⟨rfl, rfl, rfl, by decide +kernel, rfl, by decide +kernel, by decide +kernel⟩
theorem ch102 : chL (chS ["_law_word_here", "_law_place_here", "_law_front_here", "_law_kinds_here", "_law_some"] G 60 (defScope (top 19))) (defBody (top 19)) d102.body = true := by decide +kernel
theorem sc103 : FnScope ["_law_number_here", "_law_words"] ["_law_number_here"] (defScope (top 20)) := ⟨rfl, rfl, rfl, by decide +kernel, rfl, by decide +kernel, by decide +kernel⟩
theorem ch103 : chL (chS ["_law_number_here", "_law_words"] G 60 (defScope (top 20))) (defBody (top 20)) d103.body = true := by decide +kernel
theorem sc104 : FnScope ["_law_xs", "_law_used", "_law_base", "_law_room", "_law_place_here", "_law_number_here", "_law_word_here", "_law_front_here", "_law_kinds_here", "_law_some", "_law_high", "_law_k", "_law_tree_here", "_law_deep"] ["_law_xs", "_law_used", "_law_base", "_law_room"] (defScope (top 21)) := ⟨rfl, rfl, rfl, by decide +kernel, rfl, by decide +kernel, by decide +kernel⟩
theorem ch104 : chL (chS ["_law_xs", "_law_used", "_law_base", "_law_room", "_law_place_here", "_law_number_here", "_law_word_here", "_law_front_here", "_law_kinds_here", "_law_some", "_law_high", "_law_k", "_law_tree_here", "_law_deep"] G 60 (defScope (top 21))) (defBody (top 21)) d104.body = true := by decide +kernel
theorem sc105 : FnScope ["_law_node", "_law_used", "_law_high"] ["_law_node", "_law_used", "_law_high"] (defScope (top 22)) := ⟨rfl, rfl, rfl, by decide +kernel, rfl, by decide +kernel, by decide +kernel⟩
theorem ch105 : chL (chS ["_law_node", "_law_used", "_law_high"] G 60 (defScope (top 22))) (defBody (top 22)) d105.body = true := by decide +kernel
theorem sc106 : FnScope ["_law_node", "_law_others", "_law_due", "_law_handed", "_law_swapped"] ["_law_node", "_law_others", "_law_due"] (defScope (top 23)) := ⟨rfl, rfl, rfl, by decide +kernel, rfl, by decide +kernel, by decide +kernel⟩
theorem ch106 : chL (chS ["_law_node", "_law_others", "_law_due", "_law_handed", "_law_swapped"] G 60 (defScope (top 23))) (defBody (top 23)) d106.body = true := by decide +kernel
theorem sc107 : FnScope ["_law_node", "_law_kinds_here", "_law_due", "_law_some", "_law_handed", "_law_again"] ["_law_node", "_law_kinds_here", "_law_due", "_law_some"] (defScope (top 24)) := ⟨rfl, rfl, rfl, by decide +kernel, rfl, by decide +kernel, by decide +kernel⟩
theorem ch107 : chL (chS ["_law_node", "_law_kinds_here", "_law_due", "_law_some", "_law_handed", "_law_again"] G 60 (defScope (top 24))) (defBody (top 24)) d107.body = true := by decide +kernel
theorem sc108 : FnScope ["_law_node", "_law_some", "_law_kinds_here", "_law_held", "_law_shown"] ["_law_node", "_law_some", "_law_kinds_here"] (defScope (top 25)) := ⟨rfl, rfl, rfl, by decide +kernel, rfl, by decide +kernel, by decide +kernel⟩
theorem ch108 : chL (chS ["_law_node", "_law_some", "_law_kinds_here", "_law_held", "_law_shown"] G 60 (defScope (top 25))) (defBody (top 25)) d108.body = true := by decide +kernel
theorem sc109 : FnScope ["_law_script", "_law_xs", "_law_step", "_law_base", "_law_word_here", "_law_used", "_law_place_here", "_law_front_here", "_law_kinds_here", "_law_some", "_law_high", "_law_k", "_law_node", "_law_others", "_law_rows", "_law_tree_here", "_law_deep", "_law_kind_here"] ["_law_script"] (defScope (top 26)) := ⟨rfl, rfl, rfl, by decide +kernel, rfl, by decide +kernel, by decide +kernel⟩
theorem ch109 : chL (chS ["_law_script", "_law_xs", "_law_step", "_law_base", "_law_word_here", "_law_used", "_law_place_here", "_law_front_here", "_law_kinds_here", "_law_some", "_law_high", "_law_k", "_law_node", "_law_others", "_law_rows", "_law_tree_here", "_law_deep", "_law_kind_here"] G 60 (defScope (top 26))) (defBody (top 26)) d109.body = true := by decide +kernel
theorem law_holds : ∀ ns : List Int, ns.length ≤ 63 → (∀ z ∈ ns, Builtin.Int.intBits z ≤ 1048576) → wF T 101 109 [.sc (ns.map W.int)] (fun _ => none) (fun w _ => w = .bl true) (fun _ _ => False) := fun ns hn _ => law11 ⟨⟨⟨rfl, rfl, rfl, rfl, rfl, rfl, rfl, rfl, rfl, rfl⟩, rfl⟩, ⟨rfl, rfl, rfl, rfl, rfl, rfl, rfl, rfl, rfl, rfl, rfl⟩, rfl, rfl⟩ ns hn
/-! ### the program's top -/
theorem all_mk {l : PySem.W.OpenLaw} {w : World} {K : PySem.W.Frag} {h : Heap} {mg : Str → Option Value} {fa : Addr} (X : K.In h) (G : h.Ns mainGlobals mg) (hfa : mg "law" = some (.ref fa))
    {f8 : Addr} {od8f an8f : Option Addr} {sl8f : Array (Option Value)} {oc8f kV8f dc8f pm8f cd8f ct8f : Value}
    {f87 : Addr} {od87f an87f : Option Addr} {sl87f : Array (Option Value)} {oc87f kV87f dc87f pm87f cd87f ct87f : Value}
    {f88 : Addr} {od88f an88f : Option Addr} {sl88f : Array (Option Value)} {oc88f kV88f dc88f pm88f cd88f ct88f : Value}
    {f89 : Addr} {od89f an89f : Option Addr} {sl89f : Array (Option Value)} {oc89f kV89f dc89f pm89f cd89f ct89f : Value}
    {f90 : Addr} {od90f an90f : Option Addr} {sl90f : Array (Option Value)} {oc90f kV90f dc90f pm90f cd90f ct90f : Value}
    {f91 : Addr} {od91f an91f : Option Addr} {sl91f : Array (Option Value)} {oc91f kV91f dc91f pm91f cd91f ct91f : Value}
    {f92 : Addr} {od92f an92f : Option Addr} {sl92f : Array (Option Value)} {oc92f kV92f dc92f pm92f cd92f ct92f : Value}
    {f93 : Addr} {od93f an93f : Option Addr} {sl93f : Array (Option Value)} {oc93f kV93f dc93f pm93f cd93f ct93f : Value}
    {f94 : Addr} {od94f an94f : Option Addr} {sl94f : Array (Option Value)} {oc94f kV94f dc94f pm94f cd94f ct94f : Value}
    {f95 : Addr} {od95f an95f : Option Addr} {sl95f : Array (Option Value)} {oc95f kV95f dc95f pm95f cd95f ct95f : Value}
    {f96 : Addr} {od96f an96f : Option Addr} {sl96f : Array (Option Value)} {oc96f kV96f dc96f pm96f cd96f ct96f : Value}
    {f97 : Addr} {od97f an97f : Option Addr} {sl97f : Array (Option Value)} {oc97f kV97f dc97f pm97f cd97f ct97f : Value}
    {f98 : Addr} {od98f an98f : Option Addr} {sl98f : Array (Option Value)} {oc98f kV98f dc98f pm98f cd98f ct98f : Value}
    {f99 : Addr} {od99f an99f : Option Addr} {sl99f : Array (Option Value)} {oc99f kV99f dc99f pm99f cd99f ct99f : Value}
    {f100 : Addr} {od100f an100f : Option Addr} {sl100f : Array (Option Value)} {oc100f kV100f dc100f pm100f cd100f ct100f : Value}
    {f101 : Addr} {od101f an101f : Option Addr} {sl101f : Array (Option Value)} {oc101f kV101f dc101f pm101f cd101f ct101f : Value}
    {f102 : Addr} {od102f an102f : Option Addr} {sl102f : Array (Option Value)} {oc102f kV102f dc102f pm102f cd102f ct102f : Value}
    {f103 : Addr} {od103f an103f : Option Addr} {sl103f : Array (Option Value)} {oc103f kV103f dc103f pm103f cd103f ct103f : Value}
    {f104 : Addr} {od104f an104f : Option Addr} {sl104f : Array (Option Value)} {oc104f kV104f dc104f pm104f cd104f ct104f : Value}
    {f105 : Addr} {od105f an105f : Option Addr} {sl105f : Array (Option Value)} {oc105f kV105f dc105f pm105f cd105f ct105f : Value}
    {f106 : Addr} {od106f an106f : Option Addr} {sl106f : Array (Option Value)} {oc106f kV106f dc106f pm106f cd106f ct106f : Value}
    {f107 : Addr} {od107f an107f : Option Addr} {sl107f : Array (Option Value)} {oc107f kV107f dc107f pm107f cd107f ct107f : Value}
    {f108 : Addr} {od108f an108f : Option Addr} {sl108f : Array (Option Value)} {oc108f kV108f dc108f pm108f cd108f ct108f : Value}
    {f109 : Addr} {od109f an109f : Option Addr} {sl109f : Array (Option Value)} {oc109f kV109f dc109f pm109f cd109f ct109f : Value}
    {p1 : Addr}
    {es2 : Array DictEntry}
    {n3 : Nat}
    {u7 : Value}
    {tk10 : Tok}
    {u11 : Value}
    {tk14 : Tok}
    {u15 : Value}
    {tk18 : Tok}
    {u19 : Value}
    {tk22 : Tok}
    {u23 : Value}
    {tk26 : Tok}
    {u27 : Value}
    {tk30 : Tok}
    {u31 : Value}
    {tk34 : Tok}
    {u35 : Value}
    {tk38 : Tok}
    {u39 : Value}
    {tk42 : Tok}
    {u43 : Value}
    {tk46 : Tok}
    {u47 : Value}
    {tk50 : Tok}
    {u51 : Value}
    {tk54 : Tok}
    {u55 : Value}
    {tk58 : Tok}
    {u59 : Value}
    {tk62 : Tok}
    {u63 : Value}
    {tk66 : Tok}
    {u67 : Value}
    {tk70 : Tok}
    {u71 : Value}
    {tk74 : Tok}
    (a8f : PySem.W.nsIn K mainGlobals "_law_cell_at" = some (some (.ref f8)))
    (l8f : K.lookup f8 = some ⟨oc8f, od8f, .func (PySem.W.fnOf "_law_cell_at" "_law_cell_at" (defArgs (top 9)) (defBody (top 9)) (defScope (top 9)) .none kV8f dc8f pm8f an8f cd8f ct8f), sl8f⟩)
    (c8f : PySem.W.codeIn K cd8f "_law_cell_at" = true)
    (k8f : PySem.W.keepIn K (.ref f8) = true)
    (a87f : PySem.W.nsIn K mainGlobals "parts" = some (some (.ref f87)))
    (l87f : K.lookup f87 = some ⟨oc87f, od87f, .func (PySem.W.fnOf "parts" "parts" (defArgs (top 2)) (defBody (top 2)) (defScope (top 2)) .none kV87f dc87f pm87f an87f cd87f ct87f), sl87f⟩)
    (c87f : PySem.W.codeIn K cd87f "parts" = true)
    (k87f : PySem.W.keepIn K (.ref f87) = true)
    (a88f : PySem.W.nsIn K mainGlobals "with_parts" = some (some (.ref f88)))
    (l88f : K.lookup f88 = some ⟨oc88f, od88f, .func (PySem.W.fnOf "with_parts" "with_parts" (defArgs (top 3)) (defBody (top 3)) (defScope (top 3)) .none kV88f dc88f pm88f an88f cd88f ct88f), sl88f⟩)
    (c88f : PySem.W.codeIn K cd88f "with_parts" = true)
    (k88f : PySem.W.keepIn K (.ref f88) = true)
    (a89f : PySem.W.nsIn K mainGlobals "written" = some (some (.ref f89)))
    (l89f : K.lookup f89 = some ⟨oc89f, od89f, .func (PySem.W.fnOf "written" "written" (defArgs (top 4)) (defBody (top 4)) (defScope (top 4)) .none kV89f dc89f pm89f an89f cd89f ct89f), sl89f⟩)
    (c89f : PySem.W.codeIn K cd89f "written" = true)
    (k89f : PySem.W.keepIn K (.ref f89) = true)
    (a90f : PySem.W.nsIn K mainGlobals "with_written" = some (some (.ref f90)))
    (l90f : K.lookup f90 = some ⟨oc90f, od90f, .func (PySem.W.fnOf "with_written" "with_written" (defArgs (top 5)) (defBody (top 5)) (defScope (top 5)) .none kV90f dc90f pm90f an90f cd90f ct90f), sl90f⟩)
    (c90f : PySem.W.codeIn K cd90f "with_written" = true)
    (k90f : PySem.W.keepIn K (.ref f90) = true)
    (a91f : PySem.W.nsIn K mainGlobals "places" = some (some (.ref f91)))
    (l91f : K.lookup f91 = some ⟨oc91f, od91f, .func (PySem.W.fnOf "places" "places" (defArgs (top 6)) (defBody (top 6)) (defScope (top 6)) .none kV91f dc91f pm91f an91f cd91f ct91f), sl91f⟩)
    (c91f : PySem.W.codeIn K cd91f "places" = true)
    (k91f : PySem.W.keepIn K (.ref f91) = true)
    (a92f : PySem.W.nsIn K mainGlobals "nest" = some (some (.ref f92)))
    (l92f : K.lookup f92 = some ⟨oc92f, od92f, .func (PySem.W.fnOf "nest" "nest" (defArgs (top 7)) (defBody (top 7)) (defScope (top 7)) .none kV92f dc92f pm92f an92f cd92f ct92f), sl92f⟩)
    (c92f : PySem.W.codeIn K cd92f "nest" = true)
    (k92f : PySem.W.keepIn K (.ref f92) = true)
    (a93f : PySem.W.nsIn K mainGlobals "_law_alike" = some (some (.ref f93)))
    (l93f : K.lookup f93 = some ⟨oc93f, od93f, .func (PySem.W.fnOf "_law_alike" "_law_alike" (defArgs (top 10)) (defBody (top 10)) (defScope (top 10)) .none kV93f dc93f pm93f an93f cd93f ct93f), sl93f⟩)
    (c93f : PySem.W.codeIn K cd93f "_law_alike" = true)
    (k93f : PySem.W.keepIn K (.ref f93) = true)
    (a94f : PySem.W.nsIn K mainGlobals "_law_next" = some (some (.ref f94)))
    (l94f : K.lookup f94 = some ⟨oc94f, od94f, .func (PySem.W.fnOf "_law_next" "_law_next" (defArgs (top 11)) (defBody (top 11)) (defScope (top 11)) .none kV94f dc94f pm94f an94f cd94f ct94f), sl94f⟩)
    (c94f : PySem.W.codeIn K cd94f "_law_next" = true)
    (k94f : PySem.W.keepIn K (.ref f94) = true)
    (a95f : PySem.W.nsIn K mainGlobals "_law_place" = some (some (.ref f95)))
    (l95f : K.lookup f95 = some ⟨oc95f, od95f, .func (PySem.W.fnOf "_law_place" "_law_place" (defArgs (top 12)) (defBody (top 12)) (defScope (top 12)) .none kV95f dc95f pm95f an95f cd95f ct95f), sl95f⟩)
    (c95f : PySem.W.codeIn K cd95f "_law_place" = true)
    (k95f : PySem.W.keepIn K (.ref f95) = true)
    (a96f : PySem.W.nsIn K mainGlobals "_law_name" = some (some (.ref f96)))
    (l96f : K.lookup f96 = some ⟨oc96f, od96f, .func (PySem.W.fnOf "_law_name" "_law_name" (defArgs (top 13)) (defBody (top 13)) (defScope (top 13)) .none kV96f dc96f pm96f an96f cd96f ct96f), sl96f⟩)
    (c96f : PySem.W.codeIn K cd96f "_law_name" = true)
    (k96f : PySem.W.keepIn K (.ref f96) = true)
    (a97f : PySem.W.nsIn K mainGlobals "_law_number" = some (some (.ref f97)))
    (l97f : K.lookup f97 = some ⟨oc97f, od97f, .func (PySem.W.fnOf "_law_number" "_law_number" (defArgs (top 14)) (defBody (top 14)) (defScope (top 14)) .none kV97f dc97f pm97f an97f cd97f ct97f), sl97f⟩)
    (c97f : PySem.W.codeIn K cd97f "_law_number" = true)
    (k97f : PySem.W.keepIn K (.ref f97) = true)
    (a98f : PySem.W.nsIn K mainGlobals "_law_kind" = some (some (.ref f98)))
    (l98f : K.lookup f98 = some ⟨oc98f, od98f, .func (PySem.W.fnOf "_law_kind" "_law_kind" (defArgs (top 15)) (defBody (top 15)) (defScope (top 15)) .none kV98f dc98f pm98f an98f cd98f ct98f), sl98f⟩)
    (c98f : PySem.W.codeIn K cd98f "_law_kind" = true)
    (k98f : PySem.W.keepIn K (.ref f98) = true)
    (a99f : PySem.W.nsIn K mainGlobals "_law_many" = some (some (.ref f99)))
    (l99f : K.lookup f99 = some ⟨oc99f, od99f, .func (PySem.W.fnOf "_law_many" "_law_many" (defArgs (top 16)) (defBody (top 16)) (defScope (top 16)) .none kV99f dc99f pm99f an99f cd99f ct99f), sl99f⟩)
    (c99f : PySem.W.codeIn K cd99f "_law_many" = true)
    (k99f : PySem.W.keepIn K (.ref f99) = true)
    (a100f : PySem.W.nsIn K mainGlobals "_law_front" = some (some (.ref f100)))
    (l100f : K.lookup f100 = some ⟨oc100f, od100f, .func (PySem.W.fnOf "_law_front" "_law_front" (defArgs (top 17)) (defBody (top 17)) (defScope (top 17)) .none kV100f dc100f pm100f an100f cd100f ct100f), sl100f⟩)
    (c100f : PySem.W.codeIn K cd100f "_law_front" = true)
    (k100f : PySem.W.keepIn K (.ref f100) = true)
    (a101f : PySem.W.nsIn K mainGlobals "_law_kinds" = some (some (.ref f101)))
    (l101f : K.lookup f101 = some ⟨oc101f, od101f, .func (PySem.W.fnOf "_law_kinds" "_law_kinds" (defArgs (top 18)) (defBody (top 18)) (defScope (top 18)) .none kV101f dc101f pm101f an101f cd101f ct101f), sl101f⟩)
    (c101f : PySem.W.codeIn K cd101f "_law_kinds" = true)
    (k101f : PySem.W.keepIn K (.ref f101) = true)
    (a102f : PySem.W.nsIn K mainGlobals "_law_put" = some (some (.ref f102)))
    (l102f : K.lookup f102 = some ⟨oc102f, od102f, .func (PySem.W.fnOf "_law_put" "_law_put" (defArgs (top 19)) (defBody (top 19)) (defScope (top 19)) .none kV102f dc102f pm102f an102f cd102f ct102f), sl102f⟩)
    (c102f : PySem.W.codeIn K cd102f "_law_put" = true)
    (k102f : PySem.W.keepIn K (.ref f102) = true)
    (a103f : PySem.W.nsIn K mainGlobals "_law_word" = some (some (.ref f103)))
    (l103f : K.lookup f103 = some ⟨oc103f, od103f, .func (PySem.W.fnOf "_law_word" "_law_word" (defArgs (top 20)) (defBody (top 20)) (defScope (top 20)) .none kV103f dc103f pm103f an103f cd103f ct103f), sl103f⟩)
    (c103f : PySem.W.codeIn K cd103f "_law_word" = true)
    (k103f : PySem.W.keepIn K (.ref f103) = true)
    (a104f : PySem.W.nsIn K mainGlobals "_law_tree" = some (some (.ref f104)))
    (l104f : K.lookup f104 = some ⟨oc104f, od104f, .func (PySem.W.fnOf "_law_tree" "_law_tree" (defArgs (top 21)) (defBody (top 21)) (defScope (top 21)) .none kV104f dc104f pm104f an104f cd104f ct104f), sl104f⟩)
    (c104f : PySem.W.codeIn K cd104f "_law_tree" = true)
    (k104f : PySem.W.keepIn K (.ref f104) = true)
    (a105f : PySem.W.nsIn K mainGlobals "_law_counted" = some (some (.ref f105)))
    (l105f : K.lookup f105 = some ⟨oc105f, od105f, .func (PySem.W.fnOf "_law_counted" "_law_counted" (defArgs (top 22)) (defBody (top 22)) (defScope (top 22)) .none kV105f dc105f pm105f an105f cd105f ct105f), sl105f⟩)
    (c105f : PySem.W.codeIn K cd105f "_law_counted" = true)
    (k105f : PySem.W.keepIn K (.ref f105) = true)
    (a106f : PySem.W.nsIn K mainGlobals "_law_turned" = some (some (.ref f106)))
    (l106f : K.lookup f106 = some ⟨oc106f, od106f, .func (PySem.W.fnOf "_law_turned" "_law_turned" (defArgs (top 23)) (defBody (top 23)) (defScope (top 23)) .none kV106f dc106f pm106f an106f cd106f ct106f), sl106f⟩)
    (c106f : PySem.W.codeIn K cd106f "_law_turned" = true)
    (k106f : PySem.W.keepIn K (.ref f106) = true)
    (a107f : PySem.W.nsIn K mainGlobals "_law_rewritten" = some (some (.ref f107)))
    (l107f : K.lookup f107 = some ⟨oc107f, od107f, .func (PySem.W.fnOf "_law_rewritten" "_law_rewritten" (defArgs (top 24)) (defBody (top 24)) (defScope (top 24)) .none kV107f dc107f pm107f an107f cd107f ct107f), sl107f⟩)
    (c107f : PySem.W.codeIn K cd107f "_law_rewritten" = true)
    (k107f : PySem.W.keepIn K (.ref f107) = true)
    (a108f : PySem.W.nsIn K mainGlobals "_law_listed" = some (some (.ref f108)))
    (l108f : K.lookup f108 = some ⟨oc108f, od108f, .func (PySem.W.fnOf "_law_listed" "_law_listed" (defArgs (top 25)) (defBody (top 25)) (defScope (top 25)) .none kV108f dc108f pm108f an108f cd108f ct108f), sl108f⟩)
    (c108f : PySem.W.codeIn K cd108f "_law_listed" = true)
    (k108f : PySem.W.keepIn K (.ref f108) = true)
    (a109f : PySem.W.nsIn K mainGlobals "law" = some (some (.ref f109)))
    (l109f : K.lookup f109 = some ⟨oc109f, od109f, .func (PySem.W.fnOf "law" "law" (defArgs (top 26)) (defBody (top 26)) (defScope (top 26)) .none kV109f dc109f pm109f an109f cd109f ct109f), sl109f⟩)
    (c109f : PySem.W.codeIn K cd109f "law" = true)
    (k109f : PySem.W.keepIn K (.ref f109) = true)
    (a4c : PySem.W.nsIn K mainGlobals "AHEAD" = some (some (.ref p1)))
    (l5d : K.lookup p1 = some ⟨.type "dict", none, .dict es2 n3, #[]⟩)
    (kl6 : PySem.W.KeysLit w.params es2.toList)
    (a8e : PySem.W.nsIn K p1 (⟨([119, 104, 111, 108, 101] : List Nat).toArray⟩ : Str) = some (some u7))
    (e9 : u7 = .int (3) tk10)
    (a12e : PySem.W.nsIn K p1 (⟨([116, 114, 117, 116, 104] : List Nat).toArray⟩ : Str) = some (some u11))
    (e13 : u11 = .int (3) tk14)
    (a16e : PySem.W.nsIn K p1 (⟨([103, 105, 118, 101, 110] : List Nat).toArray⟩ : Str) = some (some u15))
    (e17 : u15 = .int (3) tk18)
    (a20e : PySem.W.nsIn K p1 (⟨([110, 97, 109, 101] : List Nat).toArray⟩ : Str) = some (some u19))
    (e21 : u19 = .int (3) tk22)
    (a24e : PySem.W.nsIn K p1 (⟨([102, 110] : List Nat).toArray⟩ : Str) = some (some u23))
    (e25 : u23 = .int (4) tk26)
    (a28e : PySem.W.nsIn K p1 (⟨([115, 101, 108, 102] : List Nat).toArray⟩ : Str) = some (some u27))
    (e29 : u27 = .int (6) tk30)
    (a32e : PySem.W.nsIn K p1 (⟨([99, 97, 108, 108] : List Nat).toArray⟩ : Str) = some (some u31))
    (e33 : u31 = .int (2) tk34)
    (a36e : PySem.W.nsIn K p1 (⟨([108, 101, 116] : List Nat).toArray⟩ : Str) = some (some u35))
    (e37 : u35 = .int (3) tk38)
    (a40e : PySem.W.nsIn K p1 (⟨([105, 102] : List Nat).toArray⟩ : Str) = some (some u39))
    (e41 : u39 = .int (2) tk42)
    (a44e : PySem.W.nsIn K p1 (⟨([100, 111] : List Nat).toArray⟩ : Str) = some (some u43))
    (e45 : u43 = .int (3) tk46)
    (a48e : PySem.W.nsIn K p1 (⟨([97, 116] : List Nat).toArray⟩ : Str) = some (some u47))
    (e49 : u47 = .int (2) tk50)
    (a52e : PySem.W.nsIn K p1 (⟨([115, 105, 122, 101] : List Nat).toArray⟩ : Str) = some (some u51))
    (e53 : u51 = .int (2) tk54)
    (a56e : PySem.W.nsIn K p1 (⟨([112, 97, 105, 114] : List Nat).toArray⟩ : Str) = some (some u55))
    (e57 : u55 = .int (2) tk58)
    (a60e : PySem.W.nsIn K p1 (⟨([111, 110, 101] : List Nat).toArray⟩ : Str) = some (some u59))
    (e61 : u59 = .int (2) tk62)
    (a64e : PySem.W.nsIn K p1 (⟨([116, 119, 111] : List Nat).toArray⟩ : Str) = some (some u63))
    (e65 : u63 = .int (2) tk66)
    (a68e : PySem.W.nsIn K p1 (⟨([97, 115] : List Nat).toArray⟩ : Str) = some (some u67))
    (e69 : u67 = .int (3) tk70)
    (a72e : PySem.W.nsIn K p1 (⟨([108, 111, 111, 107] : List Nat).toArray⟩ : Str) = some (some u71))
    (e73 : u71 = .int (4) tk74)
    (z0 : PySem.W.nsIn K mainGlobals "bool" = some none)
    (z1 : PySem.W.nsIn K mainGlobals "int" = some none)
    (z2 : PySem.W.nsIn K mainGlobals "isinstance" = some none)
    (z3 : PySem.W.nsIn K mainGlobals "len" = some none)
    (z4 : PySem.W.nsIn K mainGlobals "list" = some none)
    (z5 : PySem.W.nsIn K mainGlobals "max" = some none)
    (z6 : PySem.W.nsIn K mainGlobals "range" = some none)
    (z7 : PySem.W.nsIn K mainGlobals "reversed" = some none)
    (z8 : PySem.W.nsIn K mainGlobals "str" = some none)
    (z9 : PySem.W.nsIn K mainGlobals "tuple" = some none)
    (m : ∀ ns : List Int, ns.length ≤ 63 → (∀ z ∈ ns, Builtin.Int.intBits z ≤ 1048576) → wF T 101 109 [.sc (ns.map W.int)] (fun _ => none) (fun w _ => w = .bl true) (fun _ _ => False)) :
    ∃ fd : FuncData, (∀ (s : Shared) (v : Value), BindsTo s fd ⟨[v], []⟩ [("_law_script", v)]) ∧ ∀ base : Heap, K.In base → base.Ns mainGlobals mg → FnOk l.prog w K mg base (L2.CX l.prog w) 206 fa fd ["_law_script"] (spL K) := by
  have e := hfa.symm.trans (PySem.W.mg_of X G a109f)
  cases e
  refine ⟨PySem.W.fnOf "law" "law" (defArgs (top 26)) (defBody (top 26)) (defScope (top 26)) .none kV109f dc109f pm109f an109f cd109f ct109f, fun s v => .of_eq rfl, fun base _ _ => ?_⟩
  let Γ : Gm := ⟨K, fun i => match i with | 8 => f8 | 87 => f87 | 88 => f88 | 89 => f89 | 90 => f90 | 91 => f91 | 92 => f92 | 93 => f93 | 94 => f94 | 95 => f95 | 96 => f96 | 97 => f97 | 98 => f98 | 99 => f99 | 100 => f100 | 101 => f101 | 102 => f102 | 103 => f103 | 104 => f104 | 105 => f105 | 106 => f106 | 107 => f107 | 108 => f108 | 109 => fa | _ => 0, fun i => match i with  | _ => 0⟩
  let fd : Nat → FuncData := fun i => match i with
    | 8 => PySem.W.fnOf "_law_cell_at" "_law_cell_at" (defArgs (top 9)) (defBody (top 9)) (defScope (top 9)) .none kV8f dc8f pm8f an8f cd8f ct8f
    | 87 => PySem.W.fnOf "parts" "parts" (defArgs (top 2)) (defBody (top 2)) (defScope (top 2)) .none kV87f dc87f pm87f an87f cd87f ct87f
    | 88 => PySem.W.fnOf "with_parts" "with_parts" (defArgs (top 3)) (defBody (top 3)) (defScope (top 3)) .none kV88f dc88f pm88f an88f cd88f ct88f
    | 89 => PySem.W.fnOf "written" "written" (defArgs (top 4)) (defBody (top 4)) (defScope (top 4)) .none kV89f dc89f pm89f an89f cd89f ct89f
    | 90 => PySem.W.fnOf "with_written" "with_written" (defArgs (top 5)) (defBody (top 5)) (defScope (top 5)) .none kV90f dc90f pm90f an90f cd90f ct90f
    | 91 => PySem.W.fnOf "places" "places" (defArgs (top 6)) (defBody (top 6)) (defScope (top 6)) .none kV91f dc91f pm91f an91f cd91f ct91f
    | 92 => PySem.W.fnOf "nest" "nest" (defArgs (top 7)) (defBody (top 7)) (defScope (top 7)) .none kV92f dc92f pm92f an92f cd92f ct92f
    | 93 => PySem.W.fnOf "_law_alike" "_law_alike" (defArgs (top 10)) (defBody (top 10)) (defScope (top 10)) .none kV93f dc93f pm93f an93f cd93f ct93f
    | 94 => PySem.W.fnOf "_law_next" "_law_next" (defArgs (top 11)) (defBody (top 11)) (defScope (top 11)) .none kV94f dc94f pm94f an94f cd94f ct94f
    | 95 => PySem.W.fnOf "_law_place" "_law_place" (defArgs (top 12)) (defBody (top 12)) (defScope (top 12)) .none kV95f dc95f pm95f an95f cd95f ct95f
    | 96 => PySem.W.fnOf "_law_name" "_law_name" (defArgs (top 13)) (defBody (top 13)) (defScope (top 13)) .none kV96f dc96f pm96f an96f cd96f ct96f
    | 97 => PySem.W.fnOf "_law_number" "_law_number" (defArgs (top 14)) (defBody (top 14)) (defScope (top 14)) .none kV97f dc97f pm97f an97f cd97f ct97f
    | 98 => PySem.W.fnOf "_law_kind" "_law_kind" (defArgs (top 15)) (defBody (top 15)) (defScope (top 15)) .none kV98f dc98f pm98f an98f cd98f ct98f
    | 99 => PySem.W.fnOf "_law_many" "_law_many" (defArgs (top 16)) (defBody (top 16)) (defScope (top 16)) .none kV99f dc99f pm99f an99f cd99f ct99f
    | 100 => PySem.W.fnOf "_law_front" "_law_front" (defArgs (top 17)) (defBody (top 17)) (defScope (top 17)) .none kV100f dc100f pm100f an100f cd100f ct100f
    | 101 => PySem.W.fnOf "_law_kinds" "_law_kinds" (defArgs (top 18)) (defBody (top 18)) (defScope (top 18)) .none kV101f dc101f pm101f an101f cd101f ct101f
    | 102 => PySem.W.fnOf "_law_put" "_law_put" (defArgs (top 19)) (defBody (top 19)) (defScope (top 19)) .none kV102f dc102f pm102f an102f cd102f ct102f
    | 103 => PySem.W.fnOf "_law_word" "_law_word" (defArgs (top 20)) (defBody (top 20)) (defScope (top 20)) .none kV103f dc103f pm103f an103f cd103f ct103f
    | 104 => PySem.W.fnOf "_law_tree" "_law_tree" (defArgs (top 21)) (defBody (top 21)) (defScope (top 21)) .none kV104f dc104f pm104f an104f cd104f ct104f
    | 105 => PySem.W.fnOf "_law_counted" "_law_counted" (defArgs (top 22)) (defBody (top 22)) (defScope (top 22)) .none kV105f dc105f pm105f an105f cd105f ct105f
    | 106 => PySem.W.fnOf "_law_turned" "_law_turned" (defArgs (top 23)) (defBody (top 23)) (defScope (top 23)) .none kV106f dc106f pm106f an106f cd106f ct106f
    | 107 => PySem.W.fnOf "_law_rewritten" "_law_rewritten" (defArgs (top 24)) (defBody (top 24)) (defScope (top 24)) .none kV107f dc107f pm107f an107f cd107f ct107f
    | 108 => PySem.W.fnOf "_law_listed" "_law_listed" (defArgs (top 25)) (defBody (top 25)) (defScope (top 25)) .none kV108f dc108f pm108f an108f cd108f ct108f
    | 109 => PySem.W.fnOf "law" "law" (defArgs (top 26)) (defBody (top 26)) (defScope (top 26)) .none kV109f dc109f pm109f an109f cd109f ct109f
    | _ => PySem.W.fnOf "law" "law" (defArgs (top 26)) (defBody (top 26)) (defScope (top 26)) .none kV109f dc109f pm109f an109f cd109f ct109f
  have F8 := fun_mk (st := top 9) l8f c8f k8f
  have b8 := F8.binds (ps := ["_law_script", "_law_k"]) fun _ _ _ _ _ _ us hl => match us, hl with | [_, _], _ => rfl
  have F87 := fun_mk (st := top 2) l87f c87f k87f
  have b87 := F87.binds (ps := ["tree"]) fun _ _ _ _ _ _ us hl => match us, hl with | [_], _ => rfl
  have F88 := fun_mk (st := top 3) l88f c88f k88f
  have b88 := F88.binds (ps := ["tree", "some"]) fun _ _ _ _ _ _ us hl => match us, hl with | [_, _], _ => rfl
  have F89 := fun_mk (st := top 4) l89f c89f k89f
  have b89 := F89.binds (ps := ["tree"]) fun _ _ _ _ _ _ us hl => match us, hl with | [_], _ => rfl
  have F90 := fun_mk (st := top 5) l90f c90f k90f
  have b90 := F90.binds (ps := ["tree", "some"]) fun _ _ _ _ _ _ us hl => match us, hl with | [_, _], _ => rfl
  have F91 := fun_mk (st := top 6) l91f c91f k91f
  have b91 := F91.binds (ps := ["tree"]) fun _ _ _ _ _ _ us hl => match us, hl with | [_], _ => rfl
  have F92 := fun_mk (st := top 7) l92f c92f k92f
  have b92 := F92.binds (ps := ["tree"]) fun _ _ _ _ _ _ us hl => match us, hl with | [_], _ => rfl
  have F93 := fun_mk (st := top 10) l93f c93f k93f
  have b93 := F93.binds (ps := ["_law_found", "_law_due"]) fun _ _ _ _ _ _ us hl => match us, hl with | [_, _], _ => rfl
  have F94 := fun_mk (st := top 11) l94f c94f k94f
  have b94 := F94.binds (ps := ["_law_xs", "_law_many_here"]) fun _ _ _ _ _ _ us hl => match us, hl with | [_, _], _ => rfl
  have F95 := fun_mk (st := top 12) l95f c95f k95f
  have b95 := F95.binds (ps := ["_law_used", "_law_base"]) fun _ _ _ _ _ _ us hl => match us, hl with | [_, _], _ => rfl
  have F96 := fun_mk (st := top 13) l96f c96f k96f
  have b96 := F96.binds (ps := ["_law_xs"]) fun _ _ _ _ _ _ us hl => match us, hl with | [_], _ => rfl
  have F97 := fun_mk (st := top 14) l97f c97f k97f
  have b97 := F97.binds (ps := ["_law_xs"]) fun _ _ _ _ _ _ us hl => match us, hl with | [_], _ => rfl
  have F98 := fun_mk (st := top 15) l98f c98f k98f
  have b98 := F98.binds (ps := ["_law_xs", "_law_room"]) fun _ _ _ _ _ _ us hl => match us, hl with | [_, _], _ => rfl
  have F99 := fun_mk (st := top 16) l99f c99f k99f
  have b99 := F99.binds (ps := ["_law_xs", "_law_word_here"]) fun _ _ _ _ _ _ us hl => match us, hl with | [_, _], _ => rfl
  have F100 := fun_mk (st := top 17) l100f c100f k100f
  have b100 := F100.binds (ps := ["_law_xs", "_law_word_here"]) fun _ _ _ _ _ _ us hl => match us, hl with | [_, _], _ => rfl
  have F101 := fun_mk (st := top 18) l101f c101f k101f
  have b101 := F101.binds (ps := ["_law_xs", "_law_word_here"]) fun _ _ _ _ _ _ us hl => match us, hl with | [_, _], _ => rfl
  have F102 := fun_mk (st := top 19) l102f c102f k102f
  have b102 := F102.binds (ps := ["_law_word_here", "_law_place_here", "_law_front_here", "_law_kinds_here", "_law_some"]) fun _ _ _ _ _ _ us hl => match us, hl with | [_, _, _, _, _], _ => rfl
  have F103 := fun_mk (st := top 20) l103f c103f k103f
  have b103 := F103.binds (ps := ["_law_number_here"]) fun _ _ _ _ _ _ us hl => match us, hl with | [_], _ => rfl
  have F104 := fun_mk (st := top 21) l104f c104f k104f
  have b104 := F104.binds (ps := ["_law_xs", "_law_used", "_law_base", "_law_room"]) fun _ _ _ _ _ _ us hl => match us, hl with | [_, _, _, _], _ => rfl
  have F105 := fun_mk (st := top 22) l105f c105f k105f
  have b105 := F105.binds (ps := ["_law_node", "_law_used", "_law_high"]) fun _ _ _ _ _ _ us hl => match us, hl with | [_, _, _], _ => rfl
  have F106 := fun_mk (st := top 23) l106f c106f k106f
  have b106 := F106.binds (ps := ["_law_node", "_law_others", "_law_due"]) fun _ _ _ _ _ _ us hl => match us, hl with | [_, _, _], _ => rfl
  have F107 := fun_mk (st := top 24) l107f c107f k107f
  have b107 := F107.binds (ps := ["_law_node", "_law_kinds_here", "_law_due", "_law_some"]) fun _ _ _ _ _ _ us hl => match us, hl with | [_, _, _, _], _ => rfl
  have F108 := fun_mk (st := top 25) l108f c108f k108f
  have b108 := F108.binds (ps := ["_law_node", "_law_some", "_law_kinds_here"]) fun _ _ _ _ _ _ us hl => match us, hl with | [_, _, _], _ => rfl
  have F109 := fun_mk (st := top 26) l109f c109f k109f
  have b109 := F109.binds (ps := ["_law_script"]) fun _ _ _ _ _ _ us hl => match us, hl with | [_], _ => rfl
  have W : Wd Γ Bw.k11_parts_and_places.G T l.prog w base mg dd fd := {
    hot := rfl
    fns := fun i d h => by
      unfold T at h
      split at h
      · cases h; exact ⟨F8.y, sc8, rfl, rfl, ch8, b8⟩
      · cases h; exact ⟨F87.y, sc87, rfl, rfl, ch87, b87⟩
      · cases h; exact ⟨F88.y, sc88, rfl, rfl, ch88, b88⟩
      · cases h; exact ⟨F89.y, sc89, rfl, rfl, ch89, b89⟩
      · cases h; exact ⟨F90.y, sc90, rfl, rfl, ch90, b90⟩
      · cases h; exact ⟨F91.y, sc91, rfl, rfl, ch91, b91⟩
      · cases h; exact ⟨F92.y, sc92, rfl, rfl, ch92, b92⟩
      · cases h; exact ⟨F93.y, sc93, rfl, rfl, ch93, b93⟩
      · cases h; exact ⟨F94.y, sc94, rfl, rfl, ch94, b94⟩
      · cases h; exact ⟨F95.y, sc95, rfl, rfl, ch95, b95⟩
      · cases h; exact ⟨F96.y, sc96, rfl, rfl, ch96, b96⟩
      · cases h; exact ⟨F97.y, sc97, rfl, rfl, ch97, b97⟩
      · cases h; exact ⟨F98.y, sc98, rfl, rfl, ch98, b98⟩
      · cases h; exact ⟨F99.y, sc99, rfl, rfl, ch99, b99⟩
      · cases h; exact ⟨F100.y, sc100, rfl, rfl, ch100, b100⟩
      · cases h; exact ⟨F101.y, sc101, rfl, rfl, ch101, b101⟩
      · cases h; exact ⟨F102.y, sc102, rfl, rfl, ch102, b102⟩
      · cases h; exact ⟨F103.y, sc103, rfl, rfl, ch103, b103⟩
      · cases h; exact ⟨F104.y, sc104, rfl, rfl, ch104, b104⟩
      · cases h; exact ⟨F105.y, sc105, rfl, rfl, ch105, b105⟩
      · cases h; exact ⟨F106.y, sc106, rfl, rfl, ch106, b106⟩
      · cases h; exact ⟨F107.y, sc107, rfl, rfl, ch107, b107⟩
      · cases h; exact ⟨F108.y, sc108, rfl, rfl, ch108, b108⟩
      · cases h; exact ⟨F109.y, sc109, rfl, rfl, ch109, b109⟩
      · cases h
    fnv := fun x f ar h => AllL.mem (l := Bw.k11_parts_and_places.G.fns) (φ := fun p : Str × Nat × Nat => (∃ d, T p.2.1 = some d) ∧ mg p.1 = some (.ref (Γ.fa p.2.1)) ∧ PySem.W.keepIn Γ.K (.ref (Γ.fa p.2.1)) = true) (.cons ⟨⟨_, rfl⟩, PySem.W.mg_of X G a8f, k8f⟩ (.cons ⟨⟨_, rfl⟩, PySem.W.mg_of X G a87f, k87f⟩ (.cons ⟨⟨_, rfl⟩, PySem.W.mg_of X G a88f, k88f⟩ (.cons ⟨⟨_, rfl⟩, PySem.W.mg_of X G a89f, k89f⟩ (.cons ⟨⟨_, rfl⟩, PySem.W.mg_of X G a90f, k90f⟩ (.cons ⟨⟨_, rfl⟩, PySem.W.mg_of X G a91f, k91f⟩ (.cons ⟨⟨_, rfl⟩, PySem.W.mg_of X G a92f, k92f⟩ (.cons ⟨⟨_, rfl⟩, PySem.W.mg_of X G a93f, k93f⟩ (.cons ⟨⟨_, rfl⟩, PySem.W.mg_of X G a94f, k94f⟩ (.cons ⟨⟨_, rfl⟩, PySem.W.mg_of X G a95f, k95f⟩ (.cons ⟨⟨_, rfl⟩, PySem.W.mg_of X G a96f, k96f⟩ (.cons ⟨⟨_, rfl⟩, PySem.W.mg_of X G a97f, k97f⟩ (.cons ⟨⟨_, rfl⟩, PySem.W.mg_of X G a98f, k98f⟩ (.cons ⟨⟨_, rfl⟩, PySem.W.mg_of X G a99f, k99f⟩ (.cons ⟨⟨_, rfl⟩, PySem.W.mg_of X G a100f, k100f⟩ (.cons ⟨⟨_, rfl⟩, PySem.W.mg_of X G a101f, k101f⟩ (.cons ⟨⟨_, rfl⟩, PySem.W.mg_of X G a102f, k102f⟩ (.cons ⟨⟨_, rfl⟩, PySem.W.mg_of X G a103f, k103f⟩ (.cons ⟨⟨_, rfl⟩, PySem.W.mg_of X G a104f, k104f⟩ (.cons ⟨⟨_, rfl⟩, PySem.W.mg_of X G a105f, k105f⟩ (.cons ⟨⟨_, rfl⟩, PySem.W.mg_of X G a106f, k106f⟩ (.cons ⟨⟨_, rfl⟩, PySem.W.mg_of X G a107f, k107f⟩ (.cons ⟨⟨_, rfl⟩, PySem.W.mg_of X G a108f, k108f⟩ .nil))))))))))))))))))))))) h
    dfl := fun x f ar ws h1 h2 => by cases h2
    cls := fun x c fi h => by cases h
    mth := fun m tb c f h h2 => by cases h
    fld := fun c fs f h h2 => by cases h
    xcl := fun x c h => by cases h
    xin := fun x c fs h h2 => by cases h
    isC := fun y yes no h => by cases h
    exm := fun x yes no h => by cases h
    bi := fun x h => AllL.mem (φ := fun x : Str => mg x = none) (.cons (PySem.W.mg_none_of X G z0) (.cons (PySem.W.mg_none_of X G z1) (.cons (PySem.W.mg_none_of X G z2) (.cons (PySem.W.mg_none_of X G z3) (.cons (PySem.W.mg_none_of X G z4) (.cons (PySem.W.mg_none_of X G z5) (.cons (PySem.W.mg_none_of X G z6) (.cons (PySem.W.mg_none_of X G z7) (.cons (PySem.W.mg_none_of X G z8) (.cons (PySem.W.mg_none_of X G z9) .nil)))))))))) (List.contains_iff_mem.mp h)
    con := fun x w h => AllL.mem (φ := fun p : Str × W => ∃ v u, mg p.1 = some u ∧ RelV v u ∧ ∀ S H, rep Γ S H p.2 v) .nil (PySem.mem_of_lookup h)
    tab := fun x kvs h => AllL.mem (φ := fun t : Str × List (List Nat × W) => ∃ p, mg t.1 = some (.ref p) ∧ ∀ k w', t.2.lookup k = some w' → ∃ v, KDct Γ.K w p ⟨k.toArray⟩ v ∧ ∀ S H, rep Γ S H w' v) (.cons ⟨p1, PySem.W.mg_of X G a4c, fun k w' h => AllL.mem (φ := fun q : List Nat × W => ∃ v, KDct Γ.K w p1 ⟨q.1.toArray⟩ v ∧ ∀ S H, rep Γ S H q.2 v) (.cons ⟨(.int (3) : V), ⟨_, _, _, l5d, kl6, a8e, by (rw [e9]; exact ⟨_, rfl⟩)⟩, fun S H => (show rep Γ S H (.int 3) (.int (3) : V) from rfl)⟩ (.cons ⟨(.int (3) : V), ⟨_, _, _, l5d, kl6, a12e, by (rw [e13]; exact ⟨_, rfl⟩)⟩, fun S H => (show rep Γ S H (.int 3) (.int (3) : V) from rfl)⟩ (.cons ⟨(.int (3) : V), ⟨_, _, _, l5d, kl6, a16e, by (rw [e17]; exact ⟨_, rfl⟩)⟩, fun S H => (show rep Γ S H (.int 3) (.int (3) : V) from rfl)⟩ (.cons ⟨(.int (3) : V), ⟨_, _, _, l5d, kl6, a20e, by (rw [e21]; exact ⟨_, rfl⟩)⟩, fun S H => (show rep Γ S H (.int 3) (.int (3) : V) from rfl)⟩ (.cons ⟨(.int (4) : V), ⟨_, _, _, l5d, kl6, a24e, by (rw [e25]; exact ⟨_, rfl⟩)⟩, fun S H => (show rep Γ S H (.int 4) (.int (4) : V) from rfl)⟩ (.cons ⟨(.int (6) : V), ⟨_, _, _, l5d, kl6, a28e, by (rw [e29]; exact ⟨_, rfl⟩)⟩, fun S H => (show rep Γ S H (.int 6) (.int (6) : V) from rfl)⟩ (.cons ⟨(.int (2) : V), ⟨_, _, _, l5d, kl6, a32e, by (rw [e33]; exact ⟨_, rfl⟩)⟩, fun S H => (show rep Γ S H (.int 2) (.int (2) : V) from rfl)⟩ (.cons ⟨(.int (3) : V), ⟨_, _, _, l5d, kl6, a36e, by (rw [e37]; exact ⟨_, rfl⟩)⟩, fun S H => (show rep Γ S H (.int 3) (.int (3) : V) from rfl)⟩ (.cons ⟨(.int (2) : V), ⟨_, _, _, l5d, kl6, a40e, by (rw [e41]; exact ⟨_, rfl⟩)⟩, fun S H => (show rep Γ S H (.int 2) (.int (2) : V) from rfl)⟩ (.cons ⟨(.int (3) : V), ⟨_, _, _, l5d, kl6, a44e, by (rw [e45]; exact ⟨_, rfl⟩)⟩, fun S H => (show rep Γ S H (.int 3) (.int (3) : V) from rfl)⟩ (.cons ⟨(.int (2) : V), ⟨_, _, _, l5d, kl6, a48e, by (rw [e49]; exact ⟨_, rfl⟩)⟩, fun S H => (show rep Γ S H (.int 2) (.int (2) : V) from rfl)⟩ (.cons ⟨(.int (2) : V), ⟨_, _, _, l5d, kl6, a52e, by (rw [e53]; exact ⟨_, rfl⟩)⟩, fun S H => (show rep Γ S H (.int 2) (.int (2) : V) from rfl)⟩ (.cons ⟨(.int (2) : V), ⟨_, _, _, l5d, kl6, a56e, by (rw [e57]; exact ⟨_, rfl⟩)⟩, fun S H => (show rep Γ S H (.int 2) (.int (2) : V) from rfl)⟩ (.cons ⟨(.int (2) : V), ⟨_, _, _, l5d, kl6, a60e, by (rw [e61]; exact ⟨_, rfl⟩)⟩, fun S H => (show rep Γ S H (.int 2) (.int (2) : V) from rfl)⟩ (.cons ⟨(.int (2) : V), ⟨_, _, _, l5d, kl6, a64e, by (rw [e65]; exact ⟨_, rfl⟩)⟩, fun S H => (show rep Γ S H (.int 2) (.int (2) : V) from rfl)⟩ (.cons ⟨(.int (3) : V), ⟨_, _, _, l5d, kl6, a68e, by (rw [e69]; exact ⟨_, rfl⟩)⟩, fun S H => (show rep Γ S H (.int 3) (.int (3) : V) from rfl)⟩ (.cons ⟨(.int (4) : V), ⟨_, _, _, l5d, kl6, a72e, by (rw [e73]; exact ⟨_, rfl⟩)⟩, fun S H => (show rep Γ S H (.int 4) (.int (4) : V) from rfl)⟩ .nil))))))))))))))))) (mem_of_lookupN h)⟩ .nil) (PySem.mem_of_lookup h) }
  exact law_end W (n := 101) (li := 109) rfl m
theorem walk {l : PySem.W.OpenLaw} {q : Program} {loose : List Str} {XP : (Str → Option Value) → Heap → Prop} {YP : World → Heap → Prop} {d : DefRec} {K : Params → PySem.W.Frag} (hn : l.most = some 63) (hdf : d.params.defaults = [])
    (hY : ∀ (w : World) (h : Heap), YP w h → (K w.params).In h)
    (F : ∀ (w : World) (mg : Str → Option Value) (fa : Addr) (h : Heap), (K w.params).In h → h.Ns mainGlobals mg → mg d.name = some (.ref fa) →
      ∃ fd : FuncData, (∀ (s : Shared) (u : Value), BindsTo s fd ⟨[u], []⟩ [("_law_script", u)]) ∧ ∀ base : Heap, (K w.params).In base → base.Ns mainGlobals mg → FnOk l.prog w (K w.params) mg base (L2.CX l.prog w) 206 fa fd ["_law_script"] (spL (K w.params))) :
    PySem.W.WalkO q loose XP YP l.row.toRowW d [] (fun f vs => PySem.call f vs) :=
  L2.walk_ofB (n := 63) (k := 206) (x := "_law_script") (CX := fun w => L2.CX l.prog w) (sp := fun w => spL (K w.params)) hn (by decide) hdf ⟨rfl, by decide, by decide⟩ hY F (fun _ _ a ns hl hb _ hS => ⟨a, ns, rfl, hS, hl, hb, fun _ => rfl⟩) fun _ _ _ _ _ z => by
    obtain ⟨_, _, _, _, _, _, _, _, _, _, _, _, z⟩ := z
    exact z
end Bw.k11_parts_and_places
open PySem PySem.W PyProof.Rows
set_option maxRecDepth 100000 in
set_option maxHeartbeats 0 in
theorem PySem.Challenge.cw_blamewise_k11_parts_and_places_holds : PySem.Challenge.rw_blamewise_k11_parts_and_places.Holds := by
  w_on; o_law; k_head; (case hw => w_witness2)
  k_fill
  refine Bw.k11_parts_and_places.walk (l := PySem.Challenge.rw_blamewise_k11_parts_and_places) rfl rfl (fun w h Y => PySem.W.kIn_of Y) ?F
  case F =>
    intro w mg fa h KX G hmg
    refine' Bw.k11_parts_and_places.all_mk KX G hmg ?a8f ?l8f ?c8f ?k8f ?a87f ?l87f ?c87f ?k87f ?a88f ?l88f ?c88f ?k88f ?a89f ?l89f ?c89f ?k89f ?a90f ?l90f ?c90f ?k90f ?a91f ?l91f ?c91f ?k91f ?a92f ?l92f ?c92f ?k92f ?a93f ?l93f ?c93f ?k93f ?a94f ?l94f ?c94f ?k94f ?a95f ?l95f ?c95f ?k95f ?a96f ?l96f ?c96f ?k96f ?a97f ?l97f ?c97f ?k97f ?a98f ?l98f ?c98f ?k98f ?a99f ?l99f ?c99f ?k99f ?a100f ?l100f ?c100f ?k100f ?a101f ?l101f ?c101f ?k101f ?a102f ?l102f ?c102f ?k102f ?a103f ?l103f ?c103f ?k103f ?a104f ?l104f ?c104f ?k104f ?a105f ?l105f ?c105f ?k105f ?a106f ?l106f ?c106f ?k106f ?a107f ?l107f ?c107f ?k107f ?a108f ?l108f ?c108f ?k108f ?a109f ?l109f ?c109f ?k109f ?a4c ?l5d ?kl6 ?a8e ?e9 ?a12e ?e13 ?a16e ?e17 ?a20e ?e21 ?a24e ?e25 ?a28e ?e29 ?a32e ?e33 ?a36e ?e37 ?a40e ?e41 ?a44e ?e45 ?a48e ?e49 ?a52e ?e53 ?a56e ?e57 ?a60e ?e61 ?a64e ?e65 ?a68e ?e69 ?a72e ?e73 ?z0 ?z1 ?z2 ?z3 ?z4 ?z5 ?z6 ?z7 ?z8 ?z9 Bw.k11_parts_and_places.law_holds
    (case a8f => k_is)
    (case l8f => k_is)
    (case c8f => k_is)
    (case k8f => k_is)
    (case a87f => k_is)
    (case l87f => k_is)
    (case c87f => k_is)
    (case k87f => k_is)
    (case a88f => k_is)
    (case l88f => k_is)
    (case c88f => k_is)
    (case k88f => k_is)
    (case a89f => k_is)
    (case l89f => k_is)
    (case c89f => k_is)
    (case k89f => k_is)
    (case a90f => k_is)
    (case l90f => k_is)
    (case c90f => k_is)
    (case k90f => k_is)
    (case a91f => k_is)
    (case l91f => k_is)
    (case c91f => k_is)
    (case k91f => k_is)
    (case a92f => k_is)
    (case l92f => k_is)
    (case c92f => k_is)
    (case k92f => k_is)
    (case a93f => k_is)
    (case l93f => k_is)
    (case c93f => k_is)
    (case k93f => k_is)
    (case a94f => k_is)
    (case l94f => k_is)
    (case c94f => k_is)
    (case k94f => k_is)
    (case a95f => k_is)
    (case l95f => k_is)
    (case c95f => k_is)
    (case k95f => k_is)
    (case a96f => k_is)
    (case l96f => k_is)
    (case c96f => k_is)
    (case k96f => k_is)
    (case a97f => k_is)
    (case l97f => k_is)
    (case c97f => k_is)
    (case k97f => k_is)
    (case a98f => k_is)
    (case l98f => k_is)
    (case c98f => k_is)
    (case k98f => k_is)
    (case a99f => k_is)
    (case l99f => k_is)
    (case c99f => k_is)
    (case k99f => k_is)
    (case a100f => k_is)
    (case l100f => k_is)
    (case c100f => k_is)
    (case k100f => k_is)
    (case a101f => k_is)
    (case l101f => k_is)
    (case c101f => k_is)
    (case k101f => k_is)
    (case a102f => k_is)
    (case l102f => k_is)
    (case c102f => k_is)
    (case k102f => k_is)
    (case a103f => k_is)
    (case l103f => k_is)
    (case c103f => k_is)
    (case k103f => k_is)
    (case a104f => k_is)
    (case l104f => k_is)
    (case c104f => k_is)
    (case k104f => k_is)
    (case a105f => k_is)
    (case l105f => k_is)
    (case c105f => k_is)
    (case k105f => k_is)
    (case a106f => k_is)
    (case l106f => k_is)
    (case c106f => k_is)
    (case k106f => k_is)
    (case a107f => k_is)
    (case l107f => k_is)
    (case c107f => k_is)
    (case k107f => k_is)
    (case a108f => k_is)
    (case l108f => k_is)
    (case c108f => k_is)
    (case k108f => k_is)
    (case a109f => k_is)
    (case l109f => k_is)
    (case c109f => k_is)
    (case k109f => k_is)
    (case a4c => k_is)
    (case l5d => k_is)
    (case kl6 => exact ⟨⟨_, _, rfl, rfl⟩, ⟨_, _, rfl, rfl⟩, ⟨_, _, rfl, rfl⟩, ⟨_, _, rfl, rfl⟩, ⟨_, _, rfl, rfl⟩, ⟨_, _, rfl, rfl⟩, ⟨_, _, rfl, rfl⟩, ⟨_, _, rfl, rfl⟩, ⟨_, _, rfl, rfl⟩, ⟨_, _, rfl, rfl⟩, ⟨_, _, rfl, rfl⟩, ⟨_, _, rfl, rfl⟩, ⟨_, _, rfl, rfl⟩, ⟨_, _, rfl, rfl⟩, ⟨_, _, rfl, rfl⟩, ⟨_, _, rfl, rfl⟩, ⟨_, _, rfl, rfl⟩, trivial⟩)
    (case a8e => k_is)
    (case e9 => rfl)
    (case a12e => k_is)
    (case e13 => rfl)
    (case a16e => k_is)
    (case e17 => rfl)
    (case a20e => k_is)
    (case e21 => rfl)
    (case a24e => k_is)
    (case e25 => rfl)
    (case a28e => k_is)
    (case e29 => rfl)
    (case a32e => k_is)
    (case e33 => rfl)
    (case a36e => k_is)
    (case e37 => rfl)
    (case a40e => k_is)
    (case e41 => rfl)
    (case a44e => k_is)
    (case e45 => rfl)
    (case a48e => k_is)
    (case e49 => rfl)
    (case a52e => k_is)
    (case e53 => rfl)
    (case a56e => k_is)
    (case e57 => rfl)
    (case a60e => k_is)
    (case e61 => rfl)
    (case a64e => k_is)
    (case e65 => rfl)
    (case a68e => k_is)
    (case e69 => rfl)
    (case a72e => k_is)
    (case e73 => rfl)
    (case z0 => k_is)
    (case z1 => k_is)
    (case z2 => k_is)
    (case z3 => k_is)
    (case z4 => k_is)
    (case z5 => k_is)
    (case z6 => k_is)
    (case z7 => k_is)
    (case z8 => k_is)
    (case z9 => k_is)

