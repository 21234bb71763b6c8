import PyProof.Rows.All
import Wide.All
import OpenK.AllK
import Wide.FinOn
import HandS.TupMul
import HandS.List
import HandS.Exc
import HandS.ExcOwn
import HandS.ExcInit
import HandS.ExcValue
import HandS.ExcField
import HandS.IsInst
import HandS.TryMany
import KE.KExcIs
import KE.KDictKeyed
import HandS.ExcSuper
import HandS.Dict
import HandS.More
import HandS.Codes
import PyProof.DictCopy
import PyProof.TupleKey
import HandS.ForMost
import HandS.Wide
import HandS.TupAny
import HandS.Zip
import HandS.Rev
import HandS.CallSlots
import HandS.TupLe
import HandS.Text
import HandS.RevTup
import KE.DatumOrd
import HandS.Flt
import PyProof.DictTruth
import HandS.NoneIn
import KE.KEqNest
import HandS.Style
import HandS.EndBits
import HandS.Head0
import HandS.Head1
import HandS.Head2
import HandS.HeadHook1
import HandS.HeadHook2
import HandS.HeadHook3
import KE.KStateDown
import PySem.Challenge.RW_blamewise_k62_plain_functions
set_option Elab.async false
set_option linter.all false
set_option maxRecDepth 100000
set_option maxHeartbeats 4000000
namespace L2
open PySem PySem.Spec PyProof.Rows
theorem tuple_mul1 (l : Addr) (items : Array Value) (n : Nat) (dd : Option Addr) (sl : Array (Option Value)) (x : Int) (u : Tok) (c0 : (decide (x < -(2 ^ 63)) || decide (x ≥ 2 ^ 63)) = false) (c1 : (items.isEmpty || x == 1) = true) :
    Meets (Builtin.«tuple.__mul__» ⟨[.ref l, .int x u], []⟩) (fun _ R s => s.heap.get? l = some { cls := .type "tuple", dict := dd, data := .seq items n, slots := sl } ∧
      R (.ok (.ret (Value.ref l))) s) :=
  .of_wp fun prog w A R s h => by
    obtain ⟨hp, g, d, tk, os⟩ := s
    obtain ⟨hl, h⟩ := h
    have f1 := AutoSeq1.idx_int
    wp_walk using wpAny_loadPart' hl
    repeat (first
      | (refine wpAny_ite_false (decide_eq_false (by rw [c0]; exact Bool.false_ne_true)) ?_; wp_walk using wpAny_loadPart' hl)
      | (refine wpAny_ite_true (decide_eq_true (by rw [c1])) ?_; wp_walk using wpAny_loadPart' hl))
    exact ⟨_, rfl, h⟩
theorem tuple_mul0 (l : Addr) (items : Array Value) (n : Nat) (dd : Option Addr) (sl : Array (Option Value)) (x : Int) (u : Tok) (c0 : (decide (x < -(2 ^ 63)) || decide (x ≥ 2 ^ 63)) = false) (c1 : (items.isEmpty || x == 1) = false) (c2 : (decide (x ≤ 0) || items.isEmpty) = true) :
    Meets (Builtin.«tuple.__mul__» ⟨[.ref l, .int x u], []⟩) (fun _ R s => s.heap.get? l = some { cls := .type "tuple", dict := dd, data := .seq items n, slots := sl } ∧
      R (.ok (.ret (Value.ref s.heap.objs.size))) { s with heap := s.heap.push { cls := Value.type "tuple", data := Data.seq #[] }, toks := s.toks }) :=
  .of_wp fun prog w A R s h => by
    obtain ⟨hp, g, d, tk, os⟩ := s
    obtain ⟨hl, h⟩ := h
    have f1 := AutoSeq1.idx_int
    wp_walk using wpAny_loadPart' hl
    repeat (first
      | (refine wpAny_ite_false (decide_eq_false (by rw [c0]; exact Bool.false_ne_true)) ?_; wp_walk using wpAny_loadPart' hl)
      | (refine wpAny_ite_false (decide_eq_false (by rw [c1]; exact Bool.false_ne_true)) ?_; wp_walk using wpAny_loadPart' hl)
      | (refine wpAny_ite_true (decide_eq_true (by rw [c2])) ?_; wp_walk using wpAny_loadPart' hl))
    exact ⟨_, rfl, h⟩
def rRepA (K : PySem.W.Frag) : R2 := fun x y H Q => ∃ l k xs, x = .ref l ∧ y = .int k ∧ SqT K H l xs ∧ xs ≠ [] ∧ 0 ≤ k ∧ k ≤ 1000 ∧ xs.length ≤ 1000 ∧ (k = 1 → Q (.ref l) H) ∧ (k ≠ 1 → ∀ p, H p = none → Q (.ref p) (upd H p (.tup (List.replicate k.toNat xs).flatten)))
section
variable {X : Cx}
theorem op_repA : OpR X (binaryOp .Mult) (rRepA X.K) := by
  intro pins s σ H x y v u Q I rx ry h
  obtain ⟨l, k, xs, rfl, rfl, hT, hne, h1, h2, hz, q1, q⟩ := h
  by_cases hk2 : 2 ≤ k
  · exact op_repT pins s σ H _ _ v u Q I rx ry ⟨l, k, xs, rfl, rfl, hT, hne, hk2, h2, hz, q (by omega)⟩
  cases rx
  obtain ⟨t, rfl⟩ := ry
  obtain ⟨its, r, ⟨⟨cls, dd, data, sl⟩, ho, hc, n, hd⟩, hs⟩ := I.tuple hT
  simp only at hc hd
  subst hc hd
  have hle : its.length = xs.length := r.length.symm
  have hn : its ≠ [] := fun e => hne (by
    rw [e] at hle
    exact List.eq_nil_of_length_eq_zero hle.symm)
  have hi : its.toArray.isEmpty = false := by
    cases its with
    | nil => exact absurd rfl hn
    | cons a b => rfl
  have c0 : (decide (k < -(2 ^ 63)) || decide (k ≥ 2 ^ 63)) = false := by
    rw [decide_eq_false (by omega), decide_eq_false (by omega)] <;> rfl
  by_cases hk : k = 1
  · have c1 : (its.toArray.isEmpty || k == 1) = true := by rw [hk]; simp
    refine wpAny_binaryOp_repeat_ref (T := "tuple") (U := "int") (by decide) ⟨_, ho, rfl⟩ (fun s' => typeIs_int s' k t) noFill_tuple_mul F.fills_int_mul F.slot_int_rmul repeat_tuple F.slot_int_index.lookup
      (call_meets F.slot_int_rmul (typeIs_int s k t) F.entry_int_rmul (F.args_int_rmul_2 _ _) (int_rmul_tuple k t l its.toArray n dd sl)
        ⟨ho, rfl, ⟨_, ho, rfl⟩, call_meets F.slot_tuple_mul ⟨_, ho, rfl⟩ F.entry_tuple_mul (F.args_tuple_mul_2 _ _) (tuple_mul1 l its.toArray n dd sl k t c0 c1) ⟨ho, ?_⟩⟩)
    exact ⟨.ref l, H, I, rfl, q1 hk⟩
  · have hk0 : k = 0 := by omega
    have c1 : (its.toArray.isEmpty || k == 1) = false := by
      rw [hi, Bool.false_or]
      exact beq_eq_false_iff_ne.mpr hk
    have c2 : (decide (k ≤ 0) || its.toArray.isEmpty) = true := by
      rw [decide_eq_true (by omega)]; rfl
    refine wpAny_binaryOp_repeat_ref (T := "tuple") (U := "int") (by decide) ⟨_, ho, rfl⟩ (fun s' => typeIs_int s' k t) noFill_tuple_mul F.fills_int_mul F.slot_int_rmul repeat_tuple F.slot_int_index.lookup
      (call_meets F.slot_int_rmul (typeIs_int s k t) F.entry_int_rmul (F.args_int_rmul_2 _ _) (int_rmul_tuple k t l its.toArray n dd sl)
        ⟨ho, rfl, ⟨_, ho, rfl⟩, call_meets F.slot_tuple_mul ⟨_, ho, rfl⟩ F.entry_tuple_mul (F.args_tuple_mul_2 _ _) (tuple_mul0 l its.toArray n dd sl k t c0 c1 c2) ⟨ho, ?_⟩⟩)
    have q := q hk
    rw [hk0] at q
    refine ⟨.ref s.heap.objs.size, _, I.laid (t' := s.toks) (o := .tup []) (fun b ob q => Heap.get?_push_of_some _ q) (Nat.le_refl _) ?_, rfl, q _ (I.hok.fresh (Nat.le_refl _))⟩
    exact ⟨by rw [sizeLine_eq]; exact Nat.zero_le _, [], .nil, IsTup.new _ _⟩
theorem count_eqU {x : V} : ∀ {xs : List V} {us : List Value}, Vals xs us → xs.all flatV = true → us.countP (eqU x) = xs.countP fun y => eqV y x
  | _, _, .nil, _ => rfl
  | y :: xs, u :: us, .cons r t, f => by
    rw [List.all_cons, Bool.and_eq_true] at f
    rw [List.countP_cons, List.countP_cons, eqU_of r f.1, count_eqU t f.2]
/-- list.count, flat items -/
def rCntF (K : PySem.W.Frag) : V → List V → Hp → VK → Prop := fun x xs H Q => ∃ (a : Addr) (ys : List V) (y : V), x = V.ref a ∧ xs = [y] ∧ SqL K H a ys ∧ flatV y = true ∧ ys.all flatV = true ∧ Q (.int ((ys.countP fun z => eqV z y : Nat) : Int)) H
theorem mt_lcntF : MtR X "list.count" (rCntF X.K) := by
  intro pins s σ H x xs v us Q I rx rxs h
  obtain ⟨a, ys, y, rfl, rfl, hs, fy, fys, q⟩ := h
  cases rx
  cases rxs with
  | cons ry rt =>
    rename_i uy ut
    cases rt
    obtain ⟨its, rv, ⟨⟨cls, dd, data, sl⟩, n, ho, hc, hdn, hd⟩, hlen⟩ := I.list hs
    simp only at hc hd
    subst hc hd
    refine call_meets PySem.F.slot_list_count ⟨_, ho, rfl⟩ PySem.F.entry_list_count (PySem.F.args_list_count_2 _ _)
      (SeqAt.list_countAt a its.toArray n dd sl uy (eqU y)) ⟨ho, fun u' hu' => mem_eqAt ry fy rv fys u' (by simpa using hu'), ?_⟩
    have ec : its.toArray.toList.countP (eqU y) = ys.countP fun z => eqV z y := count_eqU rv fys
    refine ⟨.int ((ys.countP fun z => eqV z y : Nat) : Int), H, I.tok _, ⟨s.toks, ?_⟩, q⟩
    show Value.int ((its.toArray.toList.countP (eqU y) : Nat) : Int) s.toks = Value.int ((ys.countP fun z => eqV z y : Nat) : Int) s.toks
    rw [ec]
end
end L2

/-! Ex1: a try with any clauses, names and else; the caught exception is tracked from there on. -/
namespace Bw
open PySem L2 PySem.Spec PyProof.Rows
/-- a caught exception of the class cls, its dict at d -/
def ExT (cls : Value) (d : Option Addr) (e : Addr) : HO := .ext fun h => ∃ (ob : Obj) (us : Array Value), h.get? e = some ob ∧ Zc cls d ob ∧ ob.data = .fields us
theorem exT_ok {P : Program} {w : World} {H : Hp} {h : Heap} {e : Addr} {cls : Value} {d : Option Addr} {ob : Obj} {us : Array Value} (q : h.get? e = some ob) (z : Zc cls d ob) (dd : ob.data = .fields us) : ObjOk P w H h e (ExT cls d e) :=
  ⟨⟨ob, us, q, z, dd⟩, ⟨ob, q⟩, fun _ _ ⟨o, v, q1, q2⟩ k => ⟨o, v, k o q1, q2⟩⟩
theorem exT_at {P : Program} {w : World} {H : Hp} {h : Heap} {e : Addr} {cls : Value} {d : Option Addr} (hok : HOk P w H h) (q : H e = some (ExT cls d e)) : ∃ (ob : Obj) (us : Array Value), h.get? e = some ob ∧ Zc cls d ob ∧ ob.data = .fields us := by
  have x : ObjOk P w H h e (.ext fun h => ∃ (ob : Obj) (us : Array Value), h.get? e = some ob ∧ Zc cls d ob ∧ ob.data = .fields us) := hok e _ q
  exact x.1
structure Hc where
  c : Value
  nm : Option Nat
  ts : TS
def endH (nm : Option Nat) (D : Ends) : Ends := match nm with
  | none => D
  | some i => { nx := fun σ' H' => D.nx (σ'.set i none) H', rt := D.rt, bk := fun σ' H' => D.bk (σ'.set i none) H', ct := fun σ' H' => D.ct (σ'.set i none) H' }
def setH (nm : Option Nat) (σ : L2.St) (a : Addr) : L2.St := match nm with
  | none => σ
  | some i => σ.set i (some (.ref a))
/-- what the clauses wish of an exception of the body -/
def wHc (K : PySem.W.Frag) (Wo : WX) (D : Ends) : List Hc → WX
  | [] => Wo
  | q :: r => fun cls d σ H => ∃ b, PySem.W.exmOne K cls q.c = some b ∧ (b = true → ∀ a, H a = none → q.ts (endH q.nm D) (setH q.nm σ a) (upd H a (ExT cls d a))) ∧ (b = false → wHc K Wo D r cls d σ H)
inductive HcOk (X : Cx) : List ExceptHandler → List Hc → Prop
  | nil : HcOk X [] []
  | cons {x : Str} {c : Value} {ts : TS} {st0 : Stmt} {sts : List Stmt} {np np2 : Pos} {hds : List ExceptHandler} {l : List Hc} (hc : Names X x c) (hsu : ∀ (a : Addr) (pn : List (Addr × Obj)), PSs (X.suite a pn) (st0 :: sts) ts) (r : HcOk X hds l) :
      HcOk X (.ExceptHandler (some (.Name x np)) none (st0 :: sts) np2 :: hds) (⟨c, none, ts⟩ :: l)
  | consN {x n : Str} {i : Nat} {c : Value} {ts : TS} {st0 : Stmt} {sts : List Stmt} {np np2 : Pos} {hds : List ExceptHandler} {l : List Hc} (hN : X.N.Nodup) (hi : X.N[i]? = some n) (hln : X.env.kindOf n = some .local) (hc : Names X x c)
      (hsu : ∀ (a : Addr) (pn : List (Addr × Obj)), PSs (X.suite a pn) (st0 :: sts) ts) (r : HcOk X hds l) :
      HcOk X (.ExceptHandler (some (.Name x np)) (some n) (st0 :: sts) np2 :: hds) (⟨c, some i, ts⟩ :: l)
section
variable {X : Cx} {pins : List (Addr × Obj)} {σ : L2.St} {H : Hp} {s : Shared}
theorem Inv.toSuite (I : Inv X pins σ H s) (a : Addr) : Inv (X.suite a (X.pn ++ pins)) [] σ H s :=
  ⟨I.ok.suite _ _, I.os, I.bare, I.base, I.loc, I.cell, I.free, I.freeC, fun p hp => I.pin p (by rw [List.append_nil] at hp; exact hp), I.hok, I.len⟩
theorem Inv.ofSuite {a : Addr} {pn' : List (Addr × Obj)} (I : Inv (X.suite a (X.pn ++ pins)) pn' σ H s) (ok : X.Ok) : Inv X pins σ H s :=
  ⟨ok, I.os, I.bare, I.base, I.loc, I.cell, I.free, I.freeC, fun p hp => I.pin p (List.mem_append_left _ hp), I.hok, I.len⟩
/-- the exception that landed is tracked from now on -/
theorem Inv.catch {sI : Shared} {B : Heap} {l : List Env} {e : Addr} {cls : Value} {d : Option Addr} {h3 : Heap} (J : Inv X pins σ H sI) (nb : ∀ b o, sI.heap.get? b = some o → b ∉ frs X.stack → B.get? b = some o) (fl : HandSPX.FlyingZ B l e (Zc cls d) h3)
    (up : sI.heap.UpToSlots h3) (os : s.os = sI.os) (ag : AllBare s.gens) (na : H e = none) (nfr : e ∉ frs X.stack) : Inv X pins σ (upd H e (ExT cls d e)) { s with heap := h3 } := by
  obtain ⟨ob, us, he, hz, hd⟩ := fl.there
  obtain ⟨G, g1, g2⟩ := restrict h3 fun b => decide (b ≠ e)
  have ge : G.get? e = none := g2 e (decide_eq_false fun z => z rfl)
  have gk : ∀ b, b ≠ e → G.get? b = h3.get? b := fun b hb => g1 b (decide_eq_true hb)
  have sIe : sI.heap.get? e = none := by
    cases q : sI.heap.get? e with
    | none => rfl
    | some o =>
      have q2 := nb e o q nfr
      rw [fl.2.1] at q2
      cases q2
  have st : B.StaysIn G := fun b o q => by
    have hb : b ≠ e := fun z => by rw [z, fl.2.1] at q; cases q
    exact (gk b hb).trans (fl.1 b o q)
  have up2 : sI.heap.UpToSlots G := fun b o q nf => by
    have hb : b ≠ e := fun z => by rw [z, sIe] at q; cases q
    obtain ⟨sl, q2⟩ := up b o q nf
    exact ⟨sl, (gk b hb).trans q2⟩
  have J2 : Inv X pins σ H { s with heap := G } := J.landed nb st up2 os ag
  exact J2.laidN (t' := s.toks) (fun b o q => by
    have hb : b ≠ e := fun z => by
      have q' : G.get? b = some o := q
      rw [z, ge] at q'
      cases q'
    exact (gk b hb).symm.trans q) ge na (exT_ok he hz hd)
end
section
variable {X : Cx} {body : List Stmt} {h0 : ExceptHandler} {hds : List ExceptHandler} {l : List Hc} {pos : Pos} {tb : WX → TS} {Wo : WX}
theorem ps_try_all {orelse : List Stmt} {u : TS} (ho : PSs X orelse u) (hst : X.stack = X.env :: X.outer) (hfm : X.env.frame = some X.env.locals) (tk : Takes X Wo)
    (hb : ∀ (W : WX) (pn : List (Addr × Obj)) (xe : Value → Shared → Prop), Takes (X.tr pn xe) W → PassesOwn (model X.prog X.w) X.A X.env xe → PSs (X.tr pn xe) body (tb W))
    (hh : HcOk X (h0 :: hds) l) : PS X (.Try body (h0 :: hds) orelse [] pos) (fun D σ H => tb (wHc X.K Wo D l) { D with nx := u D } σ H) := by
  refine ⟨fun pins s σ H D I hq => ?_⟩
  have okX := I.ok
  have frm : X.A.frames = some (X.env :: X.outer) := by rw [okX.frames, hst]
  refine wpAny_Try_except ?_
  have caught : ∀ (v : Value) (s' : Shared), XE (X.tr (X.pn ++ pins) (fun e s1 => wpAny (model X.prog X.w) X.A (noteFrame e X.env) (fun _ s2 => wpAny (model X.prog X.w) X.A (setFlight e none) (fun _ s3 => wpAny (model X.prog X.w) X.A (handleBy e X.env (h0 :: hds)) (SP X pins D) X.xe s3) X.xe s2) X.xe s1)) (wHc X.K Wo D l) v s' →
      wpAny (model X.prog X.w) X.A (noteFrame v X.env) (fun _ s2 => wpAny (model X.prog X.w) X.A (setFlight v none) (fun _ s3 => wpAny (model X.prog X.w) X.A (handleBy v X.env (h0 :: hds)) (SP X pins D) X.xe s3) X.xe s2) X.xe s' := by
    intro v s' xx
    obtain ⟨e, B, sI, pins', σ', H', cls, d, rfl, J', nb, up, sky, na, os, ag, w⟩ := xx
    have J : Inv X pins σ' H' sI := J'.ofTry okX
    have skyX : Sky B (X.env :: X.outer) e (Zc cls d) X.env.locals s'.heap := by rw [← hst]; exact sky
    refine Sky.land Zc.steady frm hfm skyX fun hA flA upA => ?_
    have JA : Inv X pins σ' H' { s' with heap := hA } := J.landed nb flA.1 (up.trans upA) os ag
    obtain ⟨obA, usA, heA, hzA, hdA⟩ := flA.there
    have nfr : e ∉ frs (X.env :: X.outer) := fun hm => by
      obtain ⟨_, o2, q2, hnf⟩ := flA.2.2.1.mem hm
      rw [heA] at q2
      cases q2
      exact hnf _ hdA
    have nL : e ≠ X.env.locals := fun z => nfr (List.mem_filterMap.mpr ⟨X.env, List.mem_cons_self, by rw [hfm, z]⟩)
    have nF : e ∉ X.fs := fun hm => by
      obtain ⟨en, hen, q⟩ := List.mem_filterMap.mp hm
      exact nfr (List.mem_filterMap.mpr ⟨en, List.mem_cons_of_mem _ hen, q⟩)
    have SA := JA.suite heA hdA na nL nF
    have LT : PySem.W.Looks (model X.prog X.w) hA (typeOf (.ref e)) cls := fun A Q E s k q => wpAny_typeOf_ref (k _ _ heA) (by rw [hzA.1]; exact q)
    have named : ∀ {x : Str} {c : Value} {np : Pos} {Q : Value → Shared → Prop} {E : Value → Shared → Prop}, Names X x c → Q c { s' with heap := hA } → wpAny (model X.prog X.w) (X.A.mark (some (.ref e))) (eval (.Name x np) X.env) Q E { s' with heap := hA } := fun {x c np Q E} hc q => by
      obtain ⟨hg, hdb, hm | ⟨hm, hv, hnn⟩⟩ := hc
      · exact ld_glob (X := X.suite e ((e, obA) :: (X.pn ++ pins))) SA hg hm q hdb
      · exact ld_blt (X := X.suite e ((e, obA) :: (X.pn ++ pins))) SA hg hm hv q hnn hdb
    have nst : e ∉ frs X.stack := by rw [hst]; exact nfr
    have go : ∀ {hs2 : List ExceptHandler} {l2 : List Hc}, HcOk X hs2 l2 → wHc X.K Wo D l2 cls d σ' H' → wpAny (model X.prog X.w) X.A (handleBy (.ref e) X.env hs2) (SP X pins D) X.xe { s' with heap := hA } := by
      intro hs2 l2 hk
      induction hk with
      | nil =>
        intro w
        refine wpAny_handleBy_nil ?_
        obtain ⟨_, _, _, ob2, us2, T2, oT2, ts2, g1, _, g3, g4, _⟩ := id flA
        unfold PySem.passOn
        refine wpAny_bind (wpAny_field g1 g3 g4 ?_)
        rw [if_neg (show ¬ ((Value.ref T2 == Value.none) = true) from by simp)]
        have up1 : wpAny (model X.prog X.w) X.A (setFlight (.ref e) X.env.frame) (fun _ s4 => wpAny (model X.prog X.w) X.A (throw (.ref e) : Sem Flow) (SP X pins D) X.xe s4) X.xe { s' with heap := hA } := by
          rw [hfm]
          refine HandSPX.setFlight_upZ flA fun hB hh4 upB => wpAny_throw (tk _ _ ?_)
          exact ⟨e, B, sI, pins, σ', H', cls, d, rfl, J, nb, (up.trans upA).trans upB, .inr (.inr (by rw [hst]; exact hh4)), na, os, ag, w⟩
        first
          | exact wpAny_bind (wpAny_pure (wpAny_bind up1))
          | exact wpAny_bind up1
      | @cons x c ts st0 sts np np2 hds2 l3 hc hsu r ih =>
        intro w
        obtain ⟨b, hb1, hyes, hno⟩ := w
        refine wpAny_handleBy_cons (codeAny_handlers_test ?_) (by intro q; cases q)
        have LM := PySem.W.exm_one (M := model X.prog X.w) JA.kIn LT hb1
        refine named hc (LM.here ?_)
        cases b with
        | true =>
          refine codeAny_handlers_suite ?_
          refine HandSPX.lands_againZ flA fun hB flB upB => ?_
          have JB := Inv.catch (s := s') J nb flB ((up.trans upA).trans upB) os ag na nst
          refine wpAny_mono ((hsu e (X.pn ++ pins)).run [] _ _ _ _ (Inv.toSuite JB e) (hyes rfl e na)) (fun f s6 hsp => ?_) (fun _ _ z => False.elim z)
          cases f with
          | next => obtain ⟨σ6, H6, S6, q6⟩ := hsp; exact ⟨_, _, Inv.ofSuite S6 okX, q6⟩
          | brk => obtain ⟨σ6, H6, S6, q6⟩ := hsp; exact ⟨_, _, Inv.ofSuite S6 okX, q6⟩
          | cont => obtain ⟨σ6, H6, S6, q6⟩ := hsp; exact ⟨_, _, Inv.ofSuite S6 okX, q6⟩
          | ret u => obtain ⟨v6, σ6, H6, S6, r6, q6⟩ := hsp; exact ⟨_, _, _, Inv.ofSuite S6 okX, r6, q6⟩
        | false =>
          show wpAny _ X.A (handleBy (.ref e) X.env hds2) _ _ _
          exact ih (hno rfl)
      | @consN x n i c ts st0 sts np np2 hds2 l3 hN hi hln hc hsu r ih =>
        intro w
        obtain ⟨b, hb1, hyes, hno⟩ := w
        refine wpAny_handleBy_cons (codeAny_handlers_test ?_) (by intro q; cases q)
        have LM := PySem.W.exm_one (M := model X.prog X.w) JA.kIn LT hb1
        refine named hc (LM.here ?_)
        cases b with
        | true =>
          refine codeAny_handlers_suite_as ?_
          refine HandSPX.lands_againZ flA fun hB flB upB => ?_
          have JB := Inv.catch (s := s') J nb flB ((up.trans upA).trans upB) os ag na nst
          refine store_ok (X := X.suite e (X.pn ++ pins)) (v := .ref e) (Inv.toSuite JB e) hN hi (.inl hln) rfl (fun s5 S5 => ?_) (.inr hln)
          refine wpAny_mono ((hsu e (X.pn ++ pins)).run [] s5 _ _ _ S5 (hyes rfl e na)) (fun f s6 hsp => ?_) (fun _ _ z => False.elim z)
          have fin : ∀ {σ6 : L2.St} {H6 : Hp} {Q : Shared → Prop}, Inv (X.suite e (X.pn ++ pins)) [] σ6 H6 s6 → (∀ s7, Inv X pins (σ6.set i none) H6 s7 → Q s7) →
              wpAny (model X.prog X.w) X.A (do bindName X.env n .none; unbindBehindTheSuite X.env n np2) (fun _ s7 => Q s7) X.xe s6 := fun {σ6 H6 Q} S6 k => gone_ok (Inv.ofSuite S6 okX) hN hi hln k
          cases f with
          | next => obtain ⟨σ6, H6, S6, q6⟩ := hsp; exact fin S6 fun s7 J7 => ⟨_, _, J7, q6⟩
          | brk => obtain ⟨σ6, H6, S6, q6⟩ := hsp; exact fin S6 fun s7 J7 => ⟨_, _, J7, q6⟩
          | cont => obtain ⟨σ6, H6, S6, q6⟩ := hsp; exact fin S6 fun s7 J7 => ⟨_, _, J7, q6⟩
          | ret u => obtain ⟨v6, σ6, H6, S6, r6, q6⟩ := hsp; exact fin S6 fun s7 J7 => ⟨_, _, _, J7, r6, q6⟩
        | false =>
          show wpAny _ X.A (handleBy (.ref e) X.env hds2) _ _ _
          exact ih (hno rfl)
    exact go hh w
  refine wpAny_mono ((hb (wHc X.K Wo D l) (X.pn ++ pins) _ caught PassesOwn.looking).run [] s σ H { D with nx := u D } (I.toTry _) hq) (fun f s1 hsp => ?_) (fun e s1 he => he)
  cases f with
  | next => obtain ⟨σ', H', J', q⟩ := hsp; exact ho.run pins s1 σ' H' D (J'.ofTry okX) q
  | brk => obtain ⟨σ', H', J', q⟩ := hsp; exact ⟨σ', H', J'.ofTry okX, q⟩
  | cont => obtain ⟨σ', H', J', q⟩ := hsp; exact ⟨σ', H', J'.ofTry okX, q⟩
  | ret u => obtain ⟨v, σ', H', J', r, q⟩ := hsp; exact ⟨v, σ', H', J'.ofTry okX, r, q⟩
end
end Bw

/-! Ex2: own exception classes over ValueError or over Exception: made by their __init__, their fields read, isinstance. -/
namespace Bw
open PySem L2 PySem.Spec PyProof.Rows
/-- what is asked of an own exception class that has an __init__; ve: over ValueError, else over Exception -/
structure OxC (K : PySem.W.Frag) (C : Addr) (ve : Bool) : Prop where
  cls : ∃ nm q N bs bm sn sub ab col dd k0 k1 k2 k3 k5, K.lookup C = some (excClassObj nm q C N bs bm true sn sub ab col dd k0 k1 k2 k3 k5 (if ve = true then "ValueError.__new__" else "Exception.__new__")) ∧ (if ve = true then PySem.HandSPX.refsVE bm = true else bm = PySem.ESX.exTail)
  sa : PySem.W.findIn K (.ref C) "__setattr__" = some (some (.builtin "object.__setattr__"))
  exC : PySem.W.subIn K (.ref C) (.type "BaseException") = some true
  tyC : PySem.W.typeIn K (.ref C) = some (.type "type")
  kC : PySem.W.keepIn K (.ref C) = true
section
variable {X : Cx} {pins : List (Addr × Obj)} {σ : L2.St} {H : Hp} {s : Shared} {a C dx : Addr} {ve : Bool} {f : Str} {y : V} {u : Value} {fs : List (Str × V)} {Q : Unit → Shared → Prop} {E : Value → Shared → Prop} {A : Around}
/-- self.f = y, the first one -/
theorem oxs_new (T : OxC X.K C ve) (I : Inv X pins σ H s) (ea : H a = some (exo a C none)) (hno : PySem.W.findIn X.K (.ref C) f = some none) (ry : RelV y u)
    (k : ∀ dx s', H dx = none → dx ≠ a → Inv X pins σ (upd (upd H dx (exd dx [(f, y)])) a (exo a C (some dx))) s' → Q () s') : wpAny (model X.prog X.w) A (setAttr (.ref a) f u) Q E s := by
  obtain ⟨nm, q, N, bs, bm, sn, sub, ab, col, dd, k0, k1, k2, k3, k5, hC, hbm⟩ := T.cls
  have clsC : PySem.W.clsIn X.K C = some { name := nm, bases := bs, mro := .ref C :: bm, ns := N, qualname := q, hasDict := true, slotNames := sn, subclasses := sub, abstract := ab, collection := col, hasDel := false } := by unfold PySem.W.clsIn; rw [hC] <;> rfl
  obtain ⟨t1, ho⟩ := exo_at I.hok ea
  obtain ⟨hp, g, d, t, os⟩ := s
  refine PySem.W.set_plain I.kIn (ox := { cls := .ref C, dict := none, data := .fields #[.ref t1, .none, .none, .none, .bool false, .none] }) (od := none) ⟨ho, rfl, rfl, trivial⟩ T.sa ?_
  have done : ∀ h' tk' dx, (∀ b o, b ≠ a → hp.get? b = some o → h'.get? b = some o) → hp.objs.size ≤ dx → dx ≠ a → h'.get? a = some ({ cls := .ref C, dict := some dx, data := .fields #[.ref t1, .none, .none, .none, .bool false, .none] } : Obj) →
      h'.Ns1 dx (fun z => if z = f then some u else none) → Q () ⟨h', g, d, tk', os⟩ := fun h' tk' dx kp dn dne hx hn => by
    have hnd : H dx = none := I.hok.fresh dn
    have nd : ∀ {b : Addr} {o : Obj}, hp.get? b = some o → b ≠ dx := fun {b o} q => Nat.ne_of_lt (Nat.lt_of_lt_of_le (Heap.lt_size q) dn)
    have nb : ∀ {b : Addr}, H b = none → b ≠ a := fun {b} n z => by rw [z, ea] at n; cases n
    refine k dx _ hnd dne ?_
    have U : Un X.fs [] H (upd (upd H dx (exd dx [(f, y)])) a (exo a C (some dx))) hp h' := {
      keep := fun b o q n _ _ => kp b o (nb n) q
      slot := fun b o q n _ _ => ⟨o.slots, kp b o (nb n) q⟩
      free := fun b o q n _ => by rw [upd_ne (nb n), upd_ne (nd q)]; exact n
      there := fun b o q _ => by
        by_cases z : b = a
        · rw [z]; exact ⟨_, hx⟩
        · exact ⟨o, kp b o z q⟩
      tups := fun b xs q => by rw [upd_ne (at_ne ea q exo_tup), upd_ne (ne_of_none q hnd)]; exact q
      frzs := fun b o v q => by rw [upd_ne (at_ne ea q exo_frz), upd_ne (ne_of_none q hnd)]; exact q
      tbls := fun b ps q => ⟨#[], by rw [upd_ne (at_ne ea q exo_tbl), upd_ne (ne_of_none q hnd), q]; simp⟩ }
    have hok2 : HOk X.prog X.w (upd (upd H dx (exd dx [(f, y)])) a (exo a C (some dx))) h' := fun b o q => by
      by_cases z : b = a
      · subst z
        rw [upd_same] at q
        cases q
        exact exo_ok hx
      · rw [upd_ne z] at q
        by_cases z2 : b = dx
        · subst z2
          rw [upd_same] at q
          cases q
          exact exd_ok hn (relO_put (fs := []) ry fun _ => trivial)
        · rw [upd_ne z2] at q
          refine (I.hok b o q).stay (fun c v hc w => kp c v ?_ w) (fun c hc => by rw [upd_ne (at_ne ea hc exo_own), upd_ne (ne_of_none hc hnd)]; exact hc) fun c xs hc => by rw [upd_ne (at_ne ea hc exo_tup), upd_ne (ne_of_none hc hnd)]; exact hc
          rcases hc with hc | hc
          · rw [hc]; exact z
          · exact at_ne ea hc exo_own
    exact I.un (t' := tk') U hok2
  cases ve with
  | true =>
    rw [if_pos rfl] at hbm
    exact PySem.HandSPX.exc_osa I.kIn ho clsC (show PySem.HandSPX.refsVE (.ref C :: bm) = true from hbm) rfl hno fun h' tk' dx kp dn dne hx hn => done h' tk' dx kp dn dne hx hn
  | false =>
    rw [if_neg (by decide)] at hbm
    exact PySem.ESX.osa_new I.kIn ho clsC (by rw [hbm]) rfl hno fun h' tk' dx kp dn dne hx hn => done h' tk' dx kp dn dne hx hn
/-- self.f = y, a further one -/
theorem oxs_old (T : OxC X.K C ve) (I : Inv X pins σ H s) (ea : H a = some (exo a C (some dx))) (ed : H dx = some (exd dx fs)) (hl : fs.length ≤ 900) (hno : PySem.W.findIn X.K (.ref C) f = some none) (ry : RelV y u)
    (k : ∀ s', Inv X pins σ (upd H dx (exd dx ((f, y) :: fs))) s' → Q () s') : wpAny (model X.prog X.w) A (setAttr (.ref a) f u) Q E s := by
  obtain ⟨nm, q, N, bs, bm, sn, sub, ab, col, dd, k0, k1, k2, k3, k5, hC, hbm⟩ := T.cls
  have clsC : PySem.W.clsIn X.K C = some { name := nm, bases := bs, mro := .ref C :: bm, ns := N, qualname := q, hasDict := true, slotNames := sn, subclasses := sub, abstract := ab, collection := col, hasDel := false } := by unfold PySem.W.clsIn; rw [hC] <;> rfl
  obtain ⟨t1, ho⟩ := exo_at I.hok ea
  obtain ⟨mA, hns, rel⟩ := exd_at I.hok ed
  have wi := within_of rel
  obtain ⟨hp, g, d, t, os⟩ := s
  obtain ⟨oD, _, _, hoD, _, _⟩ := hns.count wi
  refine PySem.W.set_plain I.kIn (ox := { cls := .ref C, dict := some dx, data := .fields #[.ref t1, .none, .none, .none, .bool false, .none] }) (od := some oD) ⟨ho, rfl, rfl, hoD⟩ T.sa ?_
  have done : ∀ h' tk', (∀ b o, b ≠ dx → hp.get? b = some o → h'.get? b = some o) → h'.Ns1 dx (fun z => if z = f then some u else mA z) → Q () ⟨h', g, d, tk', os⟩ := fun h' tk' kp hn => by
    have hd : ∃ o, h'.get? dx = some o := by
      obtain ⟨o, _, _, e', _⟩ := hn
      exact ⟨o, e'⟩
    exact k _ (I.write (t' := tk') (x := dx) (e := dx) (o := exd dx ((f, y) :: fs)) (by rw [ed]; exact True.intro) (.inl rfl) kp hd (exd_ok hn (relO_put ry rel)))
  cases ve with
  | true =>
    rw [if_pos rfl] at hbm
    exact PySem.OEX.osa_old I.kIn ho hns wi (by rw [List.length_map]; omega) clsC (show PySem.HandSPX.refsVE (.ref C :: bm) = true from hbm) rfl hno fun h' tk' kp hn => done h' tk' kp hn
  | false =>
    rw [if_neg (by decide)] at hbm
    exact PySem.ESX.osa_old I.kIn ho hns wi (by rw [List.length_map]; omega) clsC (by rw [hbm]) rfl hno fun h' tk' kp hn => done h' tk' kp hn
/-- the base's __init__, over ValueError -/
theorem oxi_ok {us : List Value} {Q : Value → Shared → Prop} (T : OxC X.K C true) (I : Inv X pins σ H s) (ea : H a = some (exo a C none)) (hl : us.length ≤ sizeLine) (k : ∀ s', Inv X pins σ H s' → Q .none s') :
    wpAny (model X.prog X.w) A (call (.builtin "ValueError.__init__") (.ref a :: us)) Q E s := by
  obtain ⟨nm, q, N, bs, bm, sn, sub, ab, col, dd, k0, k1, k2, k3, k5, hC, hbm⟩ := T.cls
  rw [if_pos rfl] at hbm
  rw [if_pos rfl] at hC
  obtain ⟨t1, ho⟩ := exo_at I.hok ea
  obtain ⟨hp, g, d, t, os⟩ := s
  refine wpAny_call (PySem.HandSPX.init_base F.excBase_ValueError (fun Y => PySem.HandSPX.refsVE_contains Y bm hbm) (I.kIn _ _ hC) ho hl fun h' t2 kp hx => ?_)
  have J := I.write (t' := t) (x := a) (e := a) (o := exo a C none) (by rw [ea]; exact True.intro) (.inl rfl) kp ⟨_, hx⟩ (exo_ok hx)
  have eu : upd H a (exo a C none) = H := by
    funext b
    by_cases hb : b = a
    · rw [hb, upd_same, ea]
    · rw [upd_ne hb]
  rw [eu] at J
  exact k _ J
end
/-- what is asked of a base class whose __init__ is called by its name -/
structure XbC (K : PySem.W.Frag) (B : Addr) : Prop where
  ga : PySem.W.specialIn K (.ref B) "__getattribute__" = some (some (.builtin "type.__getattribute__"))
  rd : PySem.W.readsIn K B (.type "type") = true
  fi : PySem.W.findCls K (.ref B) (.type "type") "__init__" = some (.val (.builtin "ValueError.__init__"))
section
variable {X : Cx} {C B : Addr} {ve : Bool} {f : Str} {o e : Expr} {es : List Expr} {to te : TE} {ta : TA} {p p1 p2 pos : Pos}
def tXi (K : PySem.W.Frag) (ta : TA) : TE := fun σ H Q => ta σ H fun vs H1 => ∃ (a C : Addr) (ws : List V), vs = .ref a :: ws ∧ ws.length ≤ 1000 ∧ OxC K C true ∧ H1 a = some (exo a C none) ∧ Q .non H1
/-- B.__init__(self, ..), B an own class over ValueError without an __init__ of its own -/
theorem pe_xinit {x : Str} {pl : Sem Bool} (Tb : XbC X.K B) (hg : Gl X x) (hm : X.mg x = some (.ref B)) (hdb : (x == ("__debug__" : Str)) = false) (ha : PA X (e :: es) ta)
    (hc : eval (.Call (.Attribute (.Name x p1) "__init__" p2) (e :: es) [] pos) X.env = (do
      let ov ← eval (.Name x p1) X.env
      standAt p2.atName
      let (f, first) ← holding [ov] (getMethod ov "__init__" pl)
      callWith pos f first (backTo pos (starEach (e :: es) X.env)) (backToKw pos (keywordEach [] X.env))) := by rfl)
    (he : starEach (e :: es) X.env = (false, eval e X.env) :: starEach es X.env := by rfl) (hpl : (backTo pos (starEach es X.env)).any (·.1) = false := by rfl) :
    PE X (.Call (.Attribute (.Name x p1) "__init__" p2) (e :: es) [] pos) (tXi X.K ta) := by
  refine ⟨fun pins s σ H Q I h => ?_⟩
  refine PySem.W.methodCall_KW (ld_glob I hg hm ?_ hdb) hc
  obtain ⟨m, fr⟩ := I.fr
  refine PySem.W.method_of_cls fr I.ok.mod.kin Tb.ga (PySem.W.cls_value I.kIn Tb.rd Tb.fi (by decide +kernel) ?_)
  show wpAny _ _ (callWith pos (Value.builtin "ValueError.__init__") [] (backTo pos (starEach (e :: es) X.env)) []) _ _ _
  refine PyProof.Rows.callWith_method1 (thn (ha.run pos pins _ σ H _ (I.tok _) h) fun us s1 ⟨vs, H1, I1, r1, a, C, ws, ev, hl, T, ea, q⟩ => ?_) he hpl
  subst ev
  cases r1 with
  | @cons _ u0 _ ur ra rw' =>
    obtain rfl : u0 = Value.ref a := ra
    have hlen : ur.length ≤ sizeLine := by
      rw [← Paired.length rw', sizeLine_eq]
      omega
    exact oxi_ok T I1 ea hlen fun s' J => ⟨.non, H1, J, rfl, q⟩
def tOxs (K : PySem.W.Frag) (f : Str) (to te : TE) : TS := fun D σ H => te σ H fun y H1 => to σ H1 fun x H2 => ∃ (a C : Addr) (ve : Bool), x = .ref a ∧ OxC K C ve ∧ PySem.W.findIn K (.ref C) f = some none ∧
  ((H2 a = some (exo a C none) ∧ ∀ dx, H2 dx = none → dx ≠ a → D.nx σ (upd (upd H2 dx (exd dx [(f, y)])) a (exo a C (some dx)))) ∨
    ∃ (dx : Addr) (fs : List (Str × V)), H2 a = some (exo a C (some dx)) ∧ H2 dx = some (exd dx fs) ∧ fs.length ≤ 900 ∧ D.nx σ (upd H2 dx (exd dx ((f, y) :: fs))))
theorem ps_oxs (ho : PE X o to) (he : PE X e te) (hs : swapsWith e (some (.Attribute o f p)) pos.line X.env = pure false := by rfl) : PS X (.Assign [.Attribute o f p] e pos) (tOxs X.K f to te) := by
  refine ⟨fun pins s σ H D I h => ?_⟩
  refine plainObj_wpAny_Assign_Attribute (thn (he.run pins s σ H _ I h) fun v s1 ⟨y, H1, I1, r1, q1⟩ => thn (ho.run pins s1 σ H1 _ I1 q1) fun u s2 ⟨x, H2, I2, r2, a, C, ve, ex, T, hno, q⟩ => ?_) hs
  subst ex
  obtain rfl : u = Value.ref a := r2
  rcases q with ⟨ea, q⟩ | ⟨dx, fs, ea, ed, hl, q⟩
  · exact oxs_new T I2 ea hno r1 fun dx s' n ne J => ⟨σ, _, J, q dx n ne⟩
  · exact oxs_old T I2 ea ed hl hno r1 fun s' J => ⟨σ, _, J, q⟩
def tMkX (C : Addr) (sp : Sp) (ta : TA) : L2.St → Hp → XK → Prop := fun σ H Q => ta σ H fun vs H1 => vs.length ≤ 1000 ∧ ∀ a, H1 a = none → sp (.ref a :: vs) (upd H1 a (exo a C none))
  (fun v H2 => v = .non ∧ ∃ (d : Addr) (fs : List (Str × V)), H2 a = some (exo a C (some d)) ∧ H2 d = some (exd d fs) ∧ H1 d = none ∧ Q (.ref C) (some d) (upd (L2.del H2 a) d (.xd fs))) (fun _ _ _ => False)
/-- C(e, ..), C an own exception class with an __init__ that keeps sp -/
theorem pmk_ox {CX : CXT} {x : Str} {fI : Addr} {k : Nat} {fd : FuncData} {ps : List Str} {sp : Sp} (T : OxC X.K C ve) (iC : PySem.W.findIn X.K (.ref C) "__init__" = some (some (.ref fI))) (tI : PySem.W.typeIn X.K (.ref fI) = some (.type "function"))
    (F1 : FnOk X.prog X.w X.K X.mg X.base CX k fI fd ps sp) (hr : Room (k + 1) X.A) (hb : Binds X.K fd ps []) (hx : Passes CX X (fun _ _ _ => False)) (hg : Gl X x) (hm : X.mg x = some (.ref C)) (ha : PA X (e :: es) ta)
    (hdb : (x == ("__debug__" : Str)) = false) (he : starEach (e :: es) X.env = (false, eval e X.env) :: starEach es X.env) (hpl : (backTo pos (starEach es X.env)).any (·.1) = false) :
    PMk X (.Call (.Name x p) (e :: es) [] pos) (tMkX C sp ta) := by
  intro pins s σ H Q I h
  obtain ⟨nm, q, N, bs, bm, sn, sub, ab, col, dd, k0, k1, k2, k3, k5, hC, hbm⟩ := T.cls
  refine wpAny_Call_Name_kw (ld_glob I hg hm ?_ hdb)
  refine PySem.W.callWith_K (h₀ := X.base) I.ok.mod.kin T.kC (thn (ha.run pos pins s σ H _ I h) fun us s1 ⟨vs, H1, I1, r1, hz, q1⟩ => ⟨I1.kIn, ?_⟩) he hpl
  show wpAny _ _ (call (.ref C) us) _ _ _
  obtain ⟨hp, g, dr, tk, os⟩ := s1
  have big : hp.objs.size ≤ hp.objs.size + 1 := Nat.le_succ _
  have hn : H1 (hp.objs.size + 1) = none := I1.hok.fresh big
  have hq := q1 (hp.objs.size + 1) hn
  have kk : ∀ b o, hp.get? b = some o → ((hp.push (PySem.W.kdv_tup us)).push (PySem.HandSPX.excO C hp.objs.size)).get? b = some o := fun b o z => Heap.get?_push_of_some _ (Heap.get?_push_of_some _ z)
  have there : ((hp.push (PySem.W.kdv_tup us)).push (PySem.HandSPX.excO C hp.objs.size)).get? (hp.objs.size + 1) = some (PySem.HandSPX.excO C hp.objs.size) := by heap_get
  have I2 : Inv X pins σ (upd H1 (hp.objs.size + 1) (exo (hp.objs.size + 1) C none)) ⟨(hp.push (PySem.W.kdv_tup us)).push (PySem.HandSPX.excO C hp.objs.size), g, dr, tk, os⟩ :=
    I1.laid (t' := tk) (a := hp.objs.size + 1) (o := exo (hp.objs.size + 1) C none) (h' := (hp.push (PySem.W.kdv_tup us)).push (PySem.HandSPX.excO C hp.objs.size)) kk big (exo_ok there)
  have r2 : Vals (V.ref (hp.objs.size + 1) :: vs) (Value.ref (hp.objs.size + 1) :: us) := .cons rfl r1
  have hl : (Value.ref (hp.objs.size + 1) :: us).length = ps.length := by
    have z := r2.length
    rw [F1.len _ _ _ _ hq] at z
    exact z.symm
  have hus : us.length ≤ sizeLine := by
    rw [← Paired.length r1, sizeLine_eq]
    omega
  have hb2 := hb _ (Value.ref (hp.objs.size + 1) :: us) I2.kIn (by rw [List.append_nil]; exact hl)
  rw [List.append_nil] at hb2
  have body : codeAny (model X.prog X.w) (X.A.under (.builtin "type.__call__" ⟨.ref C :: us, []⟩)) (.call (.ref fI) ⟨.ref (hp.objs.size + 1) :: us, []⟩)
      (PySem.W.InitBack (hp.objs.size + 1) fun r s' => match r with | .ok (.ret u) => MkP X pins σ Q u s' | .ok _ => False | .error u => X.xe u s') ⟨(hp.push (PySem.W.kdv_tup us)).push (PySem.HandSPX.excO C hp.objs.size), g, dr, tk, os⟩ := by
    refine codeAny_mono (F1.run _ X.stack _ _ ⟨Value.ref (hp.objs.size + 1) :: us, []⟩ (Value.ref (hp.objs.size + 1) :: us) _ _ (fun _ _ _ => False) (hr.make C us []) (I2.env0.make C us []) hb2 r2 hq) fun r s' hq' => ?_
    cases r with
    | error er => exact hx pins σ _ _ er s' I2 hq'
    | ok fl =>
      cases fl with
      | ret u =>
        obtain ⟨v, H2, os2, bare2, un2, hok2, rv, ev, d, fs, ea, ed, hd1, q2⟩ := hq'
        subst ev
        obtain ⟨h2, g2, d2, t2, os'⟩ := s'
        exact ⟨rv, mk_end (raises_own T.exC T.tyC) I1 big kk un2 hok2 os2 bare2 ea ed hd1 q2⟩
      | next => exact False.elim hq'
      | brk => exact False.elim hq'
      | cont => exact False.elim hq'
  cases ve with
  | true =>
    rw [if_pos rfl] at hbm
    rw [if_pos rfl] at hC
    exact wpAny_call (PySem.HandSPX.call_own F.excBase_ValueError (fun Y => PySem.HandSPX.refsVE_contains Y bm hbm) (I1.kIn _ _ hC) (PySem.W.looks_findIn I1.kIn iC) (fun self => PySem.W.bind_fn I1.kIn self tI) hus body)
  | false =>
    rw [if_neg (by decide)] at hbm
    rw [if_neg (by decide)] at hC
    exact wpAny_call (PySem.HandSPX.call_own F.excBase_Exception (fun Y => by rw [hbm]) (I1.kIn _ _ hC) (PySem.W.looks_findIn I1.kIn iC) (fun self => PySem.W.bind_fn I1.kIn self tI) hus body)
end
end Bw

/-! Ex3: dicts by values: d[k], k in d, d[k] = v, d.get, d.copy. -/
namespace Bw
open PySem L2 PySem.Spec PyProof.Rows
section
variable {X : Cx}
def rDIx : R2 := fun x y H Q => ∃ (a : Addr) (v : V), x = .ref a ∧ DGet H a y (some v) ∧ Q v H
theorem ix_dk (hu : X.A.units + 1 < cLine) : IxR X rDIx := by
  intro value slice pins s σ H x y v u Q I rx ry h hsub
  obtain ⟨a, w, rfl, g, q⟩ := h
  cases rx
  have hT := dict_typeIs I g
  unfold subscriptTail
  refine wpAny_bind ?_
  rw [getitemInPython_of_ne hT.not_modules]
  refine wpAny_bind (wpAny_specialOf hT PySem.F.slot_dict_getitem.lookup ?_)
  have rest : wpAny (model X.prog X.w) X.A (subscripted slice false (.ref a) u) (fun r s3 => wpAny (model X.prog X.w) X.A (letTemporaryGo value (.ref a) r >>= fun _ => pure r) (EP X pins σ Q) X.xe s3) X.xe s := by
    rw [hsub]
    exact wpAny_operating (d_getItem hu I g ry fun w' s3 I3 rw' => wpAny_bind (wpAny_letTemporaryGo (wpAny_pure ⟨w, H, I3, rw', q⟩)))
  first
    | exact wpAny_pure (wpAny_bind rest)
    | exact wpAny_bind (wpAny_pure (wpAny_bind rest))
    | exact wpAny_bind rest
def rDIn (neg : Bool) : R2 := fun y x H Q => ∃ (a : Addr) (o : Option V), x = .ref a ∧ DGet H a y o ∧ Q (.bl (o.isSome != neg)) H
theorem op_dkIn (hu : X.A.units + 1 < cLine) : OpR X (compareOp .In) (rDIn false) := by
  intro pins s σ H y x u v Q I ry rx h
  obtain ⟨a, o, rfl, g, q⟩ := h
  cases rx
  exact d_in hu I g ry fun s3 I3 => ⟨.bl o.isSome, H, I3, rfl, by simpa using q⟩
theorem op_dkNin (hu : X.A.units + 1 < cLine) : OpR X (compareOp .NotIn) (rDIn true) := by
  intro pins s σ H y x u v Q I ry rx h
  obtain ⟨a, o, rfl, g, q⟩ := h
  cases rx
  exact d_notIn hu I g ry fun s3 I3 => ⟨.bl (!o.isSome), H, I3, rfl, by simpa using q⟩
def rDSet : TSet := fun o i v H Q => ∃ (a : Addr) (H4 : Hp), o = .ref a ∧ DPut H a i v H4 ∧ Q H4
theorem set_dk (hu : X.A.units + 1 < cLine) : PSet X rDSet := by
  intro pins s σ H o i v ov iv u Q I ro ri rv h
  obtain ⟨a, H4, rfl, g, q⟩ := h
  cases ro
  exact d_setItem hu I g ri rv fun s4 I4 => ⟨H4, I4, q⟩
def rDGet1 : V → List V → Hp → VK → Prop := fun x ys H Q => ∃ (a : Addr) (y : V) (o : Option V), x = .ref a ∧ ys = [y] ∧ DGet H a y o ∧ Q (o.getD .non) H
theorem mt_dget1 (hu : X.A.units + 1 < cLine) : MtR X "dict.get" rDGet1 := by
  intro pins s σ H x xs v us Q I rx rxs h
  obtain ⟨a, y, o, rfl, rfl, g, q⟩ := h
  cases rx
  cases rxs with
  | cons r1 rt =>
    cases rt
    exact d_get1 hu I g r1 fun w' s4 I4 rw' => ⟨_, H, I4, rw', q⟩
def rDGet2 : V → List V → Hp → VK → Prop := fun x ys H Q => ∃ (a : Addr) (y z : V) (o : Option V), x = .ref a ∧ ys = [y, z] ∧ DGet H a y o ∧ Q (o.getD z) H
theorem mt_dget2 (hu : X.A.units + 1 < cLine) : MtR X "dict.get" rDGet2 := by
  intro pins s σ H x xs v us Q I rx rxs h
  obtain ⟨a, y, z, o, rfl, rfl, g, q⟩ := h
  cases rx
  cases rxs with
  | cons r1 rt =>
    cases rt with
    | cons r2 rt =>
      cases rt
      exact d_get2 hu I g r1 r2 fun w' s4 I4 rw' => ⟨_, H, I4, rw', q⟩
def rDCopy : V → List V → Hp → VK → Prop := fun x ys H Q => ∃ (a : Addr) (kvs : List (Key × V)), x = .ref a ∧ ys = [] ∧ Rd H a (.dK kvs) ∧ ∀ p, H p = none → Q (.ref p) (upd H p (.dK kvs))
theorem mt_dcopy : MtR X "dict.copy" rDCopy := by
  intro pins s σ H x xs v us Q I rx rxs h
  obtain ⟨a, kvs, rfl, rfl, e, q⟩ := h
  cases rx
  cases rxs
  obtain ⟨z, hd, vs, rel, dd⟩ := dk_rd I.hok e
  refine call_meetsIn PySem.F.slot_dict_copy dd.typeIs PySem.F.entry_dict_copy (PySem.F.args_dict_copy_1 _) (meets_dict_copy (mixKind X.prog X.w) a hd) ⟨vs, dd, by rw [← rel.length]; exact z, fun h' dd' _ k => ?_⟩
  refine ⟨.ref s.heap.objs.size, _, I.laid (a := s.heap.objs.size) (o := .dK kvs) (t' := s.toks) (fun b o hq => k b o hq) (Nat.le_refl _) (dk_new z (beq_eq_false_iff_ne.mpr (Ne.symm (Nat.ne_of_lt I.big))) rel dd'), rfl, q _ (I.hok.fresh (Nat.le_refl _))⟩
end
end Bw

/-! Ex4: calls with defaults, methods by the instance's class, new instances, fields, isinstance; what is raised is wished for at the caller's slots. -/
namespace Bw
open PySem L2 PySem.Spec PyProof.Rows
/-- not a call that might be super() -/
def plainO : Expr → Bool
  | .Call (.Name _ _) [] [] _ => false
  | _ => true
theorem base_of {o : Expr} {nm : Str} {env : PySem.Env} (h : plainO o = true) : attributeBase o nm env (eval o env) = eval o env := by
  cases o with
  | Call f as ks p => cases f <;> cases as <;> cases ks <;> first | rfl | (simp [plainO] at h)
  | _ => rfl
abbrev plOf (o : Expr) (env : PySem.Env) : Sem Bool := do return (← importBound o env).getD true
theorem mc_eq {o : Expr} {nm : Str} {apos pos : Pos} {args : List Expr} {env : PySem.Env} (h : plainO o = true) (hl : (apos.endLine == pos.line) = true) (hf : ((backTo pos (starEach args env)).all (fun x => !x.1)) = true) (hn : args.length < 30) :
    eval (.Call (.Attribute o nm apos) args [] pos) env = (do
      let ov ← eval o env
      standAt apos.atName
      let (f, first) ← holding [ov] (getMethod ov nm (plOf o env))
      callWith pos f first (backTo pos (starEach args env)) (backToKw pos (keywordEach [] env))) := by
  rw [PySem.arm_eval_Call, base_of h]
  have kz : backToKw pos (keywordEach [] env) = [] := rfl
  have form : methodCallForm (args.length + ([] : List Keyword).length) (backTo pos (starEach args env)) (backToKw pos (keywordEach [] env)) = true := by
    unfold methodCallForm
    rw [hf, kz]
    simp [hn]
  have hpos : methodCallPos true o env apos pos = pure pos := by unfold methodCallPos; simp [hl]
  unfold methodCall
  rw [form]
  unfold calleeOf
  simp only [hpos, if_true, pure_bind]
section
variable {X : Cx} {CX : CXT} {k : Nat} {f C : Addr} {fd : FuncData} {ps : List Str} {sp : Sp} {dvs : List V} {ds : List Value} {E : L2.St → XK} {x m : Str} {p pos apos : Pos} {e o : Expr} {es : List Expr} {ta : TE} {t : TA}
theorem run_fnD {pins : List (Addr × Obj)} {σ : L2.St} {H : Hp} {s : Shared} {Q : VK} {us : List Value} {vs : List V} (F : FnOk X.prog X.w X.K X.mg X.base CX k f fd ps sp) (hr : Room k X.A) (hb : Binds X.K fd ps ds) (hd : Vals dvs ds) (hx : PassesAt CX X σ (E σ))
    (I : Inv X pins σ H s) (r : Vals vs us) (h : sp (vs ++ dvs) H Q (E σ)) : wpAny (model X.prog X.w) X.A (call (.ref f) us) (EP X pins σ Q) X.xe s := by
  have r2 : Vals (vs ++ dvs) (us ++ ds) := r.append hd
  have hl : (us ++ ds).length = ps.length := by rw [← r2.length]; exact F.len _ _ _ _ h
  refine wpAny_call (codeAny_mono (F.run X.A X.stack s H ⟨us, []⟩ (us ++ ds) (vs ++ dvs) Q (E σ) hr I.env0 (hb s us I.kIn hl) r2 h) fun r s' hq => ?_)
  cases r with
  | error er => exact hx pins H s er s' I hq
  | ok fl => cases fl with
    | ret u => exact I.after hq
    | _ => exact False.elim hq
def tCallD (sp : Sp) (dvs : List V) (E : L2.St → XK) (t : TA) : TE := fun σ H Q => t σ H fun vs H1 => sp (vs ++ dvs) H1 Q (E σ)
theorem pe_callD (F : FnOk X.prog X.w X.K X.mg X.base CX k f fd ps sp) (hr : Room k X.A) (hg : Gl X x) (hm : X.mg x = some (.ref f)) (hk : PySem.W.keepIn X.K (.ref f) = true) (hb : Binds X.K fd ps ds) (hd : Vals dvs ds) (hx : ∀ σ, PassesAt CX X σ (E σ))
    (ha : PA X (e :: es) t) (hdb : (x == ("__debug__" : Str)) = false) (he : starEach (e :: es) X.env = (false, eval e X.env) :: starEach es X.env) (hpl : (backTo pos (starEach es X.env)).any (·.1) = false) :
    PE X (.Call (.Name x p) (e :: es) [] pos) (tCallD sp dvs E t) := by
  refine ⟨fun pins s σ H Q I h => ?_⟩
  refine wpAny_Call_Name_kw (ld_glob I hg hm ?_ hdb)
  refine PySem.W.callWith_K (h₀ := X.base) I.ok.mod.kin hk (thn (ha.run pos pins s σ H _ I h) fun us s1 ⟨vs, H1, I1, r, q⟩ => ⟨I1.kIn, ?_⟩) he hpl
  exact run_fnD F hr hb hd (hx σ) I1 r q
/-- a def that some names lead to: at f, at level k -/
def Fk (X : Cx) (CX : CXT) (k : Nat) (f : Addr) (sp : Sp) : Prop := ∃ fd ps, FnOk X.prog X.w X.K X.mg X.base CX k f fd ps sp ∧ Binds X.K fd ps []
/-- f(..), f a local name that holds a def -/
def tCallV (X : Cx) (CX : CXT) (i : Nat) (E : L2.St → XK) (t : TA) : TE := fun σ H Q => ∃ (k : Nat) (f : Addr) (sp : Sp), σ[i]? = some (some (.ref f)) ∧ Fk X CX k f sp ∧ Room k X.A ∧ PySem.W.keepIn X.K (.ref f) = true ∧ t σ H fun vs H1 => sp vs H1 Q (E σ)
theorem pe_callV {i : Nat} (hN : X.N[i]? = some x) (hv : Vis X.env.scope x) (hx : ∀ σ, PassesAt CX X σ (E σ)) (ha : PA X (e :: es) t) (hdb : (x == ("__debug__" : Str)) = false) (hcd : (x == ("__classdict__" : Str)) = false)
    (he : starEach (e :: es) X.env = (false, eval e X.env) :: starEach es X.env) (hpl : (backTo pos (starEach es X.env)).any (·.1) = false) : PE X (.Call (.Name x p) (e :: es) [] pos) (tCallV X CX i E t) := by
  refine ⟨fun pins s σ H Q I h => ?_⟩
  obtain ⟨k, f, sp, hs, ⟨fd, ps, F, hb⟩, hr, hk, ht⟩ := h
  refine wpAny_Call_Name_kw (thn ((pe_var (pos := p) hN hv hdb hcd).run pins s σ H (fun v H1 => v = .ref f ∧ H1 = H) I ⟨.ref f, hs, rfl, rfl⟩) fun u s1 ⟨v, H1, I1, r1, q1⟩ => ?_)
  obtain ⟨rfl, rfl⟩ := q1
  cases r1
  refine PySem.W.callWith_K (h₀ := X.base) I.ok.mod.kin hk (thn (ha.run pos pins s1 σ _ _ I1 ht) fun us s2 ⟨vs, H2, I2, r, q⟩ => ⟨I2.kIn, ?_⟩) he hpl
  exact run_fnD (dvs := []) F hr hb .nil (hx σ) I2 r (by rw [List.append_nil]; exact q)
/-- o.m(..): the def is found by the instance's class -/
def tMethD (X : Cx) (CX : CXT) (m : Str) (E : L2.St → XK) (ta : TE) (t : TA) : TE := fun σ H Q => ta σ H fun x H1 => ∃ (a C dx : Addr) (fs : List (Str × V)) (g : Addr) (k : Nat) (sp : Sp), x = .ref a ∧ H1 a = some (.ins C dx fs) ∧ Cls X.K C ∧ Meth X.K C m g ∧ fs.lookup m = none ∧
  Fk X CX k g sp ∧ Room k X.A ∧ t σ H1 fun vs H2 => sp (x :: vs) H2 Q (E σ)
theorem pe_methD (he : PE X o ta) (ho : plainO o = true) (hl : (apos.endLine == pos.line) = true) (hx : ∀ σ, PassesAt CX X σ (E σ)) (ha : PA X (e :: es) t) (hn : (e :: es).length < 30)
    (hst : starEach (e :: es) X.env = (false, eval e X.env) :: starEach es X.env) (hpl : (backTo pos (starEach es X.env)).any (·.1) = false) (hf : ((backTo pos (starEach (e :: es) X.env)).all (fun x => !x.1)) = true) :
    PE X (.Call (.Attribute o m apos) (e :: es) [] pos) (tMethD X CX m E ta t) := by
  refine ⟨fun pins s σ H Q I h => ?_⟩
  refine PySem.W.methodCall_KW (thn (he.run pins s σ H _ I h) fun u s1 ⟨x, H1, I1, rx, a, C, dx, fs, g, k, sp, ex, ea, c, hm, l, ⟨fd, ps, F, hb⟩, hr, q⟩ => ?_) (mc_eq ho hl hf hn)
  subst ex
  obtain rfl : u = Value.ref a := rx
  refine getmeth_ok I1 ea c hm l ?_
  refine PySem.W.callWith_K (first := [.ref a]) (h₀ := X.base) I1.ok.mod.kin hm.kp (thn (ha.run pos pins s1 σ H1 _ I1 q) fun us s2 ⟨vs, H2, I2, r, q2⟩ => ⟨I2.kIn, ?_⟩) hst hpl
  exact run_fnD (us := .ref a :: us) (vs := .ref a :: vs) (dvs := []) F hr hb .nil (hx σ) I2 (.cons rfl r) (by rw [List.append_nil]; exact q2)
theorem pe_methD0 (he : PE X o ta) (ho : plainO o = true) (hl : (apos.endLine == pos.line) = true) (hx : ∀ σ, PassesAt CX X σ (E σ)) :
    PE X (.Call (.Attribute o m apos) [] [] pos) (tMethD X CX m E ta tNil) := by
  refine ⟨fun pins s σ H Q I h => ?_⟩
  refine PySem.W.methodCall_KW (thn (he.run pins s σ H _ I h) fun u s1 ⟨x, H1, I1, rx, a, C, dx, fs, g, k, sp, ex, ea, c, hm, l, ⟨fd, ps, F, hb⟩, hr, q⟩ => ?_) (mc_eq ho hl rfl (by decide))
  subst ex
  obtain rfl : u = Value.ref a := rx
  refine getmeth_ok I1 ea c hm l ?_
  exact PySem.W.callWith_K0 (first := [.ref a]) I1.kIn hm.kp (run_fnD (us := [.ref a]) (vs := [.ref a]) (dvs := []) F hr hb .nil (hx σ) I1 (.cons rfl .nil) (by rw [List.append_nil]; exact q))
theorem run_makeD {pins : List (Addr × Obj)} {σ : L2.St} {H : Hp} {s : Shared} {Q : VK} {us : List Value} {vs : List V} (M : Mk X.K C f) (F : FnOk X.prog X.w X.K X.mg X.base CX k f fd ps sp) (hr : Room (k + 1) X.A) (hb : Binds X.K fd ps [])
    (hx : ∀ (H' : Hp) (s1 : Shared) (e : Value) (s' : Shared), Inv X pins σ H' s1 → CX X.stack H' s1 (E σ) e s' → X.xe e s') (I : Inv X pins σ H s) (r : Vals vs us)
    (h : ∀ x dx, H x = none → H dx = none → dx ≠ x → sp (.ref x :: vs) (upd (upd H dx (.own x)) x (.ins C dx [])) (fun v H2 => v = .non ∧ Q (.ref x) H2) (E σ)) :
    wpAny (model X.prog X.w) X.A (call (.ref C) us) (EP X pins σ Q) X.xe s := by
  have hq := h (s.heap.objs.size + 1) s.heap.objs.size (I.hok.fresh (Nat.le_succ _)) (I.hok.fresh (Nat.le_refl _)) (Nat.ne_of_lt (Nat.lt_succ_self _))
  have I2 := Inv.made (C := C) I
  have r2 : Vals (V.ref (s.heap.objs.size + 1) :: vs) (Value.ref (s.heap.objs.size + 1) :: us) := .cons rfl r
  have hl : (Value.ref (s.heap.objs.size + 1) :: us).length = ps.length := by
    have z := r2.length
    rw [F.len _ _ _ _ hq] at z
    exact z.symm
  have hb2 := hb _ (Value.ref (s.heap.objs.size + 1) :: us) I2.kIn (by rw [List.append_nil]; exact hl)
  rw [List.append_nil] at hb2
  refine wpAny_call (make_map (f := f) I.kIn M.makes M.init (beq_iff_eq.mp M.fn) (codeAny_mono (F.run _ X.stack _ _ ⟨Value.ref (s.heap.objs.size + 1) :: us, []⟩ (Value.ref (s.heap.objs.size + 1) :: us) _ _ (E σ) (hr.make C us [])
    (I2.env0.make C us []) hb2 r2 hq) fun r s' hq' => ?_))
  cases r with
  | error er => exact hx _ _ er s' I2 hq'
  | ok fl => cases fl with
    | ret u =>
      obtain ⟨v, H', I3, rv, ev, q3⟩ := I2.after hq'
      subst ev
      exact ⟨rv, ⟨V.ref (s.heap.objs.size + 1), H', I3, rfl, q3⟩⟩
    | _ => exact False.elim hq'
def tMakeD (C : Addr) (sp : Sp) (E : L2.St → XK) (t : TA) : TE := fun σ H Q => t σ H fun vs H1 => ∀ x dx, H1 x = none → H1 dx = none → dx ≠ x →
  sp (.ref x :: vs) (upd (upd H1 dx (.own x)) x (.ins C dx [])) (fun v H2 => v = .non ∧ Q (.ref x) H2) (E σ)
theorem pe_makeD (M : Mk X.K C f) (F : FnOk X.prog X.w X.K X.mg X.base CX k f fd ps sp) (hr : Room (k + 1) X.A) (hg : Gl X x) (hm : X.mg x = some (.ref C)) (hb : Binds X.K fd ps []) (hx : ∀ σ, PassesAt CX X σ (E σ)) (ha : PA X (e :: es) t)
    (hdb : (x == ("__debug__" : Str)) = false) (he : starEach (e :: es) X.env = (false, eval e X.env) :: starEach es X.env) (hpl : (backTo pos (starEach es X.env)).any (·.1) = false) : PE X (.Call (.Name x p) (e :: es) [] pos) (tMakeD C sp E t) := by
  refine ⟨fun pins s σ H Q I h => ?_⟩
  refine wpAny_Call_Name_kw (ld_glob I hg hm ?_ hdb)
  refine PySem.W.callWith_K (h₀ := X.base) I.ok.mod.kin M.kp (thn (ha.run pos pins s σ H _ I h) fun us s1 ⟨vs, H1, I1, r, q⟩ => ⟨I1.kIn, ?_⟩) he hpl
  exact run_makeD M F hr hb (fun H' s1 e s' I c => hx σ pins H' s1 e s' I c) I1 r q
theorem pe_makeD0 (M : Mk X.K C f) (F : FnOk X.prog X.w X.K X.mg X.base CX k f fd ps sp) (hr : Room (k + 1) X.A) (hg : Gl X x) (hm : X.mg x = some (.ref C)) (hb : Binds X.K fd ps []) (hx : ∀ σ, PassesAt CX X σ (E σ))
    (hdb : (x == ("__debug__" : Str)) = false) : PE X (.Call (.Name x p) [] [] pos) (tMakeD C sp E tNil) := by
  refine ⟨fun pins s σ H Q I h => ?_⟩
  refine wpAny_Call_Name_kw (ld_glob I hg hm ?_ hdb)
  exact PySem.W.callWith_K0 I.kIn M.kp (run_makeD (us := []) M F hr hb (fun H' s1 e s' I c => hx σ pins H' s1 e s' I c) I .nil h)
end
/-! ### fields, of an instance or of a caught exception -/
def rFldX (K : PySem.W.Frag) (f : Str) (x : V) (H : Hp) (Q : VK) : Prop :=
  (∃ a C dx fs v, x = .ref a ∧ H a = some (.ins C dx fs) ∧ Cls K C ∧ NoAttr K C f ∧ fs.lookup f = some v ∧ Q v H) ∨
  ∃ (a C dd : Addr) (fs : List (Str × V)) (v : V), x = .ref a ∧ H a = some (ExT (.ref C) (some dd) a) ∧ XfC K C ∧ PySem.W.findIn K (.ref C) f = some none ∧ H dd = some (.xd fs) ∧ fs.lookup f = some v ∧ Q v H
section
variable {X : Cx} {o e : Expr} {f : Str} {pos : Pos} {ta : TE}
theorem ext_inst {pins : List (Addr × Obj)} {σ : L2.St} {H : Hp} {s : Shared} {a C : Addr} {d : Option Addr} (I : Inv X pins σ H s) (ha : H a = some (ExT (.ref C) d a)) (od : Option Obj) (hd : match d, od with | none, none => True | some dd, some o => s.heap.get? dd = some o | _, _ => False) :
    ∃ ob, PySem.W.InstAt s.heap a ob C od := by
  obtain ⟨ob, us, h1, h2, h3⟩ := exT_at I.hok ha
  refine ⟨ob, h1, h2.1, by unfold PySem.W.notCls; rw [h3] <;> rfl, ?_⟩
  rw [h2.2]
  cases d <;> cases od <;> first | trivial | exact hd | exact hd.elim
theorem fldX_ok {pins : List (Addr × Obj)} {σ : L2.St} {H : Hp} {s : Shared} {x : V} {u : Value} {Q : VK} (I : Inv X pins σ H s) (rx : RelV x u) (h : rFldX X.K f x H Q) : wpAny (model X.prog X.w) X.A (getAttr u f true) (EP X pins σ Q) X.xe s := by
  rcases h with ⟨a, C, dx, fs, v, ex, ea, c, n, l, q⟩ | ⟨a, C, dd, fs, v, ex, ea, T, hno, ed, l, q⟩
  · subst ex
    obtain rfl : u = Value.ref a := rx
    exact getattr_ok I ea c n l fun u' s2 I2 ru => ⟨v, H, I2, ru, q⟩
  · subst ex
    obtain rfl : u = Value.ref a := rx
    obtain ⟨mA, hns, hr⟩ := (show ObjOk X.prog X.w H s.heap dd (.xd fs) from I.hok dd _ ed)
    obtain ⟨od, ho, hl⟩ := lookIn_ns hns
    obtain ⟨w, hw, rw⟩ := RelO.some_of (v := v) (o := mA f) (by rw [← l]; exact hr f)
    obtain ⟨ob, J⟩ := ext_inst I ea (some od) ho
    exact HandSPX.exc_get I.kIn J T.ga T.gg T.exC (PySem.W.findObj_own T.hdC hno rfl (by rw [hl, hw])) (handed_of rw) ⟨v, H, I.tok _, rw, q⟩
def tFldX (K : PySem.W.Frag) (ta : TE) (f : Str) : TE := fun σ H Q => ta σ H fun x H1 => rFldX K f x H1 Q
theorem pe_fldX (he : PE X e ta) (hb : attributeBase e f X.env (eval e X.env) = eval e X.env) : PE X (.Attribute e f pos) (tFldX X.K ta f) := by
  refine ⟨fun pins s σ H Q I h => ?_⟩
  exact attr_of hb (thn (he.run pins s σ H _ I h) fun u s1 ⟨x, H1, I1, rx, q⟩ => fldX_ok I1 rx q)
/-! ### isinstance -/
structure XisC (K : PySem.W.Frag) (C : Addr) : Prop where
  xf : XfC K C
  ha : PySem.W.findIn K (.ref C) "__class__" = some (some (.builtin "object.__class__"))
  hn : PySem.W.specialIn K (.builtin "object.__class__") "__get__" = some (some (.builtin "getset_descriptor.__get__"))
  ht : PySem.W.takesIn K (.builtin "object.__class__") = some true
  hm : PySem.W.mroIn K C (.type "object") = some true
/-- isinstance(x, c), x any value that is known, or a caught exception -/
def rIsX (K : PySem.W.Frag) : List V → Hp → VK → Prop := fun xs H Q => ∃ (x c : V) (u : Value) (b : Bool), xs = [x, c] ∧ ClsV c u ∧ Q (.bl b) H ∧
  ((∃ t, TyX K H x t ∧ PySem.W.kitOne K t u = some b) ∨ ∃ (a C : Addr) (d : Option Addr), x = .ref a ∧ H a = some (ExT (.ref C) d a) ∧ (∀ dd, d = some dd → ∃ fs, H dd = some (.xd fs)) ∧ XisC K C ∧ PySem.W.kitOne K (.ref C) u = some b)
theorem call_isX : CallR X (.builtin "isinstance") (rIsX X.K) := by
  intro pins s σ H xs us Q I r h
  obtain ⟨x, c, u, b, rfl, k, q, h⟩ := h
  rcases h with ⟨t, ty, e⟩ | ⟨a, C, d, ex, ea, hd, T, e⟩
  · exact call_isi pins s σ H _ us Q I r ⟨x, c, t, u, b, rfl, k, ty, e, q⟩
  · subst ex
    obtain ⟨u1, u2, rfl, r1, r2⟩ := vals2 r
    have e2 := k.eq r2
    subst e2
    obtain rfl : u1 = Value.ref a := r1
    have J : ∃ ob od, PySem.W.InstAt s.heap a ob C od := by
      cases d with
      | none =>
        obtain ⟨ob, J⟩ := ext_inst I ea none trivial
        exact ⟨ob, none, J⟩
      | some dd =>
        obtain ⟨fs, ed⟩ := hd dd rfl
        obtain ⟨mA, hns, hr⟩ := (show ObjOk X.prog X.w H s.heap dd (.xd fs) from I.hok dd _ ed)
        obtain ⟨od, ho, hl⟩ := lookIn_ns hns
        obtain ⟨ob, J⟩ := ext_inst I ea (some od) ho
        exact ⟨ob, some od, J⟩
    obtain ⟨ob, od, J⟩ := J
    have hc : (PySem.W.clsIn X.K C).isSome = true := by
      obtain ⟨cd, hc, _⟩ := PySem.W.any_some T.xf.hdC
      rw [hc]; rfl
    exact PySem.W.kia_one (PySem.W.kitx_exc hc T.xf.ga T.xf.gg T.xf.exC T.ha T.hn T.ht T.hm) I.kIn J e (fun z => nomatch z) fun tk => ⟨.bl b, H, I.tok tk, rfl, q⟩
/-! ### an exception made with a text, as a value -/
def tMkT (C : Addr) : TE := fun _ H Q => ∀ a, H a = none → Q (.ref a) (upd H a (ExT (.ref C) none a))
theorem pe_mkT {C : Addr} {bmB : List Value} {B newId initId : String} {x y : Str} {j : Nat} {p p2 pos : Pos} (F : ExcBaseFacts B newId initId bmB) (q : PySem.W.excIn X.K C bmB newId = true) (gC : X.mg x = some (.ref C)) (kC : PySem.W.keepIn X.K (.ref C) = true) (hg : Gl X x)
    (hdb : (x == ("__debug__" : Str)) = false) : PE X (.Call (.Name x p) [.Constant (.str y) j p2] [] pos) (tMkT C) := by
  refine ⟨fun pins s σ H Q I h => ?_⟩
  refine wpAny_Call_Name_kw (ld_glob I hg gC ?_ hdb)
  have ha : PA X [.Constant (.str y) j p2] (tCons (tC (.str y)) tNil) := pa_cons pe_str pa_nil
  refine PySem.W.callWith_K (h₀ := X.base) I.ok.mod.kin kC (thn (ha.run pos pins s σ H (fun vs H1 => vs = [V.str y] ∧ H = H1) I ⟨rfl, rfl⟩) fun us s1 hh => ?_) rfl rfl
  obtain ⟨vs, H1, I1, r1, ev, eH⟩ := hh
  subst ev
  rw [← eH] at I1
  refine ⟨I1.kIn, ?_⟩
  cases r1 with
  | cons ru rn =>
    rename_i u us'
    cases rn
    show wpAny _ _ (call (.ref C) [u]) _ _ _
    obtain ⟨bm, N, nm, qn, bs, hdct, sn, sub, ab, col, dd, k0, k1, k2, k3, k5, mN, hC, hN, hni, T⟩ := exc_obj I1.kIn q
    refine wpAny_call_exc_subT F T hC hN hni (fun h' a hm => ?_) (by show 1 ≤ sizeLine; rw [sizeLine_eq]; omega)
    have hn : H a = none := I1.hok.gone hm.new
    obtain ⟨t, ht, _, _⟩ := hm.there
    exact ⟨.ref a, upd H a (ExT (.ref C) none a), I1.laidN hm.keeps hm.new hn (exT_ok ht ⟨rfl, rfl⟩ rfl), rfl, h a hn⟩
end
end Bw

/-! Ex5: a dict of the module whose keys are tuples: D.get((a, b)). -/
namespace Bw
open PySem L2 PySem.Spec PyProof.Rows
structure KDT (K : PySem.W.Frag) (prog : Program) (w : World) (a : Addr) (xs : List (List L2.Key × Addr × Value)) : Prop where
  big : (a == sysModules) = false
  dct : ∃ es n, K.lookup a = some ⟨.type "dict", none, .dict es n, #[]⟩ ∧ es.toList = xs.map (entryOfKey (tupleKind (mixKind prog w)))
  key : ∀ x ∈ xs, ∃ o its n, K.lookup x.2.1 = some o ∧ o.cls = .type "tuple" ∧ o.data = .seq its n ∧ ItemsAre (mixKind prog w) x.1 its.toList
  nd : (xs.map (·.1)).Nodup
section
variable {X : Cx}
theorem KDT.heap {pins : List (Addr × Obj)} {σ : L2.St} {H : Hp} {s : Shared} {a : Addr} {xs : List (List L2.Key × Addr × Value)} (k : KDT X.K X.prog X.w a xs) (I : Inv X pins σ H s) : s.heap.DictOfH (tupleKind (mixKind X.prog X.w)) a xs := by
  obtain ⟨es, n, h1, h2⟩ := k.dct
  refine ⟨_, es, n, I.kIn _ _ h1, ⟨rfl, rfl, rfl⟩, rfl, h2, fun x hx => ?_, k.nd⟩
  obtain ⟨o, its, n, h3, h4, h5, h6⟩ := k.key x hx
  exact ⟨o, its, n, I.kIn _ _ h3, h4, h5, h6⟩
def kGetQ (xs : List (List L2.Key × Addr × Value)) (Q : VK) : List V → Hp → Prop := fun vs H => ∃ (p : Addr) (ks : List L2.Key), vs = [.ref p] ∧ H p = some (.tup (ks.map kV)) ∧
  ∃ r, (match atKey xs ks with | none => r = V.non | some q => RelV r q.2) ∧ Q r H
def tKGetT (xs : List (List L2.Key × Addr × Value)) (t : TA) : TE := fun σ H Q => tCons (tTup t) tNil σ H (kGetQ xs Q)
theorem pe_kgetT {x : Str} {a : Addr} {xs : List (List L2.Key × Addr × Value)} {es : List Expr} {t : TA} {k : Nat} {p p2 apos cpos : Pos} (hu : X.A.units + 1 < cLine) (hg : Gl X x) (hm : X.mg x = some (.ref a)) (hdb : (x == ("__debug__" : Str)) = false) (K : KDT X.K X.prog X.w a xs) (ha : PA X es t)
    (hline : (apos.endLine == cpos.line) = true) (hbase : attributeBase (.Name x p) "get" X.env (eval (.Name x p) X.env) = eval (.Name x p) X.env) :
    PE X (.Call (.Attribute (.Name x p) "get" apos) [.Tuple es k p2] [] cpos) (tKGetT xs t) := by
  have ho : PE X (.Name x p) (tC (.ref a)) := pe_glob (v := .ref a) hg hm rfl hdb
  have pt : PA X [.Tuple es k p2] (tCons (tTup t) tNil) := pa_cons (pe_tup (x1 := k) (pos := p2) ha) pa_nil
  refine ⟨fun pins s σ H Q I h => ?_⟩
  refine wpAny_Call_method_late hbase (by rfl) hline rfl (thn (ho.run pins s σ H (fun x1 H1 => x1 = .ref a ∧ H1 = H) I ⟨rfl, rfl⟩) fun v s1 ⟨x1, H1, I1, r1, e1, e2⟩ => ?_)
  subst e1 e2
  obtain rfl : v = Value.ref a := r1
  have dd := K.heap I1
  refine ⟨"dict", _, PySem.F.plainAttrs_dict, PySem.F.slot_dict_get, PySem.F.type_dict_get, dd.typeIs, fun b e => ?_, ?_⟩
  · cases e
    obtain ⟨o, es, ep, h1, h2, _⟩ := dd
    exact ⟨o, h1, h2.2.1⟩
  have hA := pt.run cpos pins s1 σ _ _ I1 h
  have hs : starEach [.Tuple es k p2] X.env = (false, eval (.Tuple es k p2) X.env) :: starEach [] X.env := rfl
  rw [hs] at hA ⊢
  refine Calls.callWith_builtin (by rfl) (Calls.evalArgs_plain ?_)
  refine thn hA fun us s2 ⟨vs, H2, I2, r2, pp, ks, ev, hp, r, hr, q⟩ => ?_
  subst ev
  cases r2 with
  | cons r3 rt =>
    cases rt
    rename_i u us'
    cases (show u = Value.ref pp from r3)
    have dd2 := K.heap I2
    refine call_meetsIn PySem.F.slot_dict_get dd2.typeIs PySem.F.entry_dict_get (PySem.F.args_dict_get_2 _ _) (meetsH_dict_get (tupleKind (mixKind X.prog X.w)) a pp K.big) ⟨tupleKind_room_in1 hu, ks, xs, key_of I2.hok hp, dd2, ?_⟩
    refine ⟨r, _, I2.tok _, ?_, q⟩
    revert hr
    cases atKey xs ks with
    | none => intro hr; subst hr; rfl
    | some q => intro hr; exact hr
end
end Bw

/-! Ev1: a small evaluator of Python by weakest preconditions: values by content, a store of lists. No model in it. -/
namespace Bw
open PySem (Addr)

/-- values: tuples (tup) and lists that nobody changes (rl, sc) by their content; ref: a list, a dict, an instance in the store; fn: a def -/
abbrev Ky := Sum Int (List Nat)
/-- obj: an instance that nobody changes; exn: a caught exception -/
inductive W where
  | non | bl (b : Bool) | int (i : Int) | str (x : List Nat) | tup (ws : List W) | rl (ws : List W) | sc (ws : List W) | ref (a : Addr) | fn (i : Nat) | dct (ks : List Ky) (ws : List W)
  | obj (c : Nat) (ks : List (List Nat)) (ws : List W) | exn (c : Nat) (ks : List (List Nat)) (ws : List W)
inductive O where
  | lst (ws : List W) | dic (ks : List Ky) (ws : List W) | ins (c : Nat) (ks : List (List Nat)) (ws : List W) | hid
abbrev Sto := Addr → Option O
def Sto.set (S : Sto) (a : Addr) (o : O) : Sto := fun b => if b = a then some o else S b
def Sto.del (S : Sto) (a : Addr) : Sto := fun b => if b = a then none else S b
/-- an exception: its class, its fields -/
structure Xn where
  c : Nat
  ks : List (List Nat)
  ws : List W
abbrev VQ := W → Sto → Prop
abbrev XQ := Xn → Sto → Prop
abbrev Env := List (Option W)

inductive BOp where
  | add (fz : Bool) | sub | mul (fz : Bool) | fdiv | mod | pow | shl | shr | band | bor | bxor
inductive COp where
  | eq | ne | lt | le | gt | ge | isin | notin | is | isnot
inductive Bi where
  | len | int1 | str1 | abs | max2 | max3 | min2 | max1 | maxd | min1 | sum1 | all1 | any1 | tuple1 | list1 (fz : Bool) | listrev (fz : Bool) | dict1 | ord1 | lenset
/-- methods of built-in types -/
inductive MB where
  | count | index | dget1 | dget2 | dcopy | join | find | starts | isdig | split | clear | insert
  deriving DecidableEq
inductive Ty where
  | int | bool | str | tuple | list | dict
  deriving DecidableEq
inductive IK where
  | seq | rng1 | rng2 | enum | zip | rev
inductive Tg where
  | nm (i : Nat) | pr (is : List Nat)

inductive E where
  | var (i : Nat) | cst (w : W) | tup (es : List E) | lst (fz : Bool) (es : List E)
  | bin (o : BOp) (a b : E) | cmp (o : COp) (a b : E) | chain (o o' : COp) (a b c : E) | isN (neg : Bool) (a : E)
  | and (es : List E) | or (es : List E) | not (a : E) | neg (a : E) | ite (c a b : E)
  | idx (a i : E) | sl (fz : Bool) (a : E) (lo hi : List E)
  | call (f : Nat) (es : List E) | bi (b : Bi) (es : List E) | isi (t : Ty) (a : E)
  | comp (fz : Bool) (tg : Tg) (ik : IK) (its : List E) (cond : List E) (elt : E) (own : List Nat)
  | tab (kvs : List (List Nat × W)) (i : E) | app (a e : E) | pop (a : E)
  | dic (ks : List (List Nat)) (es : List E) | dicV (kvs : List E) | dEq (a b : E) | dNe (a b : E) | ext (a b : E) | dnew | fzv (e : E) | fits (i j k : Nat) | keysOf (i k : Nat)
  | meb (m : MB) (a : E) (es : List E) | fld (cs : List Nat) (a : E) (f : List Nat) | meth (tb : List (Nat × Nat)) (m : List Nat) (a : E) (es : List E)
  | mk (c fi : Nat) (es : List E) | mkx (c : Nat) (z : List Nat) | isC (yes no : List Nat) (a : E) | callV (i : Nat) (fs : List Nat) (es : List E) | callD (f : Nat) (es : List E) (ds : List W)
  | tabT (kvs : List (List Ky × W)) (es : List E) | isiL (ts : List Ty) (a : E) | isCL (l : List (List Nat × List Nat)) (a : E) | stp (fz : Bool) (a : E) (lo hi : List E) (st : E) | wnew (c : Nat) (fs : List (List Nat)) (e : E)

mutual
inductive St where
  | pass | ex (e : E) | ret (e : E) | retN | asg (i : Nat) (e : E) | asgT (is : List Nat) (e : E) | par (i j : Nat) (a b : E) | setIx (o i e : E)
  | ite (c : E) (a b : List St) | for (tg : Tg) (ik : IK) (its : List E) (body : List St) | whl (c : E) (body : List St) | brk | cnt
  | fldS (cs : List Nat) (o : E) (f : List Nat) (e : E) | augF (cs : List Nat) (o : E) (f : List Nat) (e : E) | rse (c : Nat) (fs : List (List Nat)) (es : List E) | trys (body : List St) (hs : List Hn) (orelse : List St)
/-- a clause: the classes that it takes, those that it lets by, its name's slot -/
inductive Hn where
  | mk (yes no : List Nat) (nm : Option Nat) (suite : List St)
end

/-! ### values -/
mutual
def eqv : W → W → Bool
  | .non, .non => true
  | .bl a, .bl b => a == b
  | .bl a, .int j => (if a then 1 else 0) == j
  | .int i, .bl b => i == (if b then 1 else 0)
  | .int i, .int j => i == j
  | .str x, .str y => x == y
  | .tup xs, .tup ys => eqvs xs ys
  | .rl xs, .rl ys => eqvs xs ys
  | .rl xs, .sc ys => eqvs xs ys
  | .sc xs, .rl ys => eqvs xs ys
  | .sc xs, .sc ys => eqvs xs ys
  | _, _ => false
def eqvs : List W → List W → Bool
  | [], [] => true
  | x :: xs, y :: ys => eqv x y && eqvs xs ys
  | _, _ => false
end
mutual
/-- plain data: nothing that stands in the store -/
def dataW : W → Bool
  | .non => true
  | .bl _ => true
  | .int _ => true
  | .str _ => true
  | .tup ws => dataWs ws
  | .rl ws => dataWs ws
  | .sc ws => dataWs ws
  | .ref _ => false
  | .fn _ => false
  | .dct _ _ => false
  | .obj _ _ _ => false
  | .exn _ _ _ => false
def dataWs : List W → Bool
  | [] => true
  | w :: ws => dataW w && dataWs ws
end
mutual
def depW : W → Nat
  | .tup ws => depWs ws + 1
  | .rl ws => depWs ws + 1
  | .sc ws => depWs ws + 1
  | _ => 0
def depWs : List W → Nat
  | [] => 0
  | w :: ws => max (depW w) (depWs ws)
end
def flatW : W → Bool
  | .non => true
  | .bl _ => true
  | .int _ => true
  | .str _ => true
  | _ => false
def deref (S : Sto) : W → W
  | .ref a => match S a with
    | some (.lst ws) => .rl ws
    | _ => .ref a
  | w => w
/-- what is walked or asked by places: the items -/
def seqOf (S : Sto) (w : W) : Option (List W) :=
  match deref S w with
  | .tup ws => some ws
  | .rl ws => some ws
  | .sc ws => some ws
  | _ => none
/-- a list's items -/
def lstOf (S : Sto) (w : W) : Option (List W) :=
  match deref S w with
  | .rl ws => some ws
  | _ => none
def intsOf : List W → Option (List Int)
  | [] => some []
  | .int i :: ws => (intsOf ws).map (i :: ·)
  | _ => none
def blsOf : List W → Option (List Bool)
  | [] => some []
  | .bl b :: ws => (blsOf ws).map (b :: ·)
  | _ => none
/-- a place, of either sign -/
def ixW (n : Nat) (i : Int) : Option Nat := if 0 ≤ i then (if i < n then some i.toNat else none) else if -(n : Int) ≤ i then some (i + n).toNat else none
def atW {α : Type} (xs : List α) (i : Int) : Option α := (ixW xs.length i).bind fun j => xs[j]?
def cutW {α : Type} (xs : List α) (lo hi : Option Int) : List α := (xs.drop (HT.sIx xs.length 0 lo)).take (HT.sIx xs.length xs.length hi - HT.sIx xs.length 0 lo)
def decW (i : Int) : List Nat := (toString i).toList.map Char.toNat
def inW (x : W) (xs : List W) : Bool := xs.any fun y => eqv y x

/-- a new list: known by content, or in the store -/
def mkL (fz : Bool) (ws : List W) (S : Sto) (Q : VQ) : Prop := if fz = true then Q (.rl ws) S else ∀ p, S p = none → Q (.ref p) (S.set p (.lst ws))

def wAdd (fz : Bool) (x y : W) (S : Sto) (Q : VQ) : Prop :=
  match x, y with
  | .int i, .int j => Q (.int (i + j)) S
  | .str a, .str b => a.length + b.length ≤ PySem.sizeLine ∧ Q (.str (a ++ b)) S
  | .tup a, .tup b => a.length + b.length ≤ PySem.sizeLine ∧ Q (.tup (a ++ b)) S
  | x, y => match lstOf S x, lstOf S y with
    | some a, some b => a.length + b.length ≤ PySem.sizeLine ∧ mkL fz (a ++ b) S Q
    | _, _ => False
def wInts (x y : W) (P : Int → Int → Prop) : Prop :=
  match x, y with
  | .int i, .int j => P i j
  | _, _ => False
def wMul (x y : W) (S : Sto) (Q : VQ) : Prop :=
  match x with
  | .tup ws => match y with
    | .int k => ws ≠ [] ∧ 0 ≤ k ∧ k ≤ 1000 ∧ ws.length ≤ 1000 ∧ Q (.tup (List.replicate k.toNat ws).flatten) S
    | _ => False
  | x => wInts x y fun i j => (L2.CMul i j ∨ L2.CMulW i j) ∧ Q (.int (i * j)) S
def wBin (o : BOp) (x y : W) (S : Sto) (Q : VQ) : Prop :=
  match o with
  | .add fz => wAdd fz x y S Q
  | .sub => wInts x y fun i j => Q (.int (i - j)) S
  | .mul _ => wMul x y S Q
  | .fdiv => wInts x y fun i j => (0 < j ∧ j.natAbs.log2 < 9000) ∧ Q (.int (i / j)) S
  | .mod => wInts x y fun i j => 0 < j ∧ Q (.int (i % j)) S
  | .pow => wInts x y fun i j => L2.CPow i j ∧ Q (.int (i ^ j.toNat)) S
  | .shl => wInts x y fun i j => L2.CPow i j ∧ Q (.int (i * 2 ^ j.toNat)) S
  | .shr => wInts x y fun i j => 0 ≤ j ∧ Q (.int (i / 2 ^ j.toNat)) S
  | .band => wInts x y fun i j => Q (.int (PySem.Builtin.bitAnd i j)) S
  | .bor => wInts x y fun i j => Q (.int (PySem.Builtin.bitOr i j)) S
  | .bxor => wInts x y fun i j => Q (.int (PySem.Builtin.bitXor i j)) S
def wEq (neg : Bool) (x y : W) (S : Sto) (Q : VQ) : Prop :=
  dataW (deref S x) = true ∧ dataW (deref S y) = true ∧ min (depW (deref S x)) (depW (deref S y)) ≤ 60 ∧ Q (.bl (eqv (deref S x) (deref S y) != neg)) S
/-! dicts, instances -/
def kyOf : W → Option Ky
  | .int i => some (.inl i)
  | .str z => some (.inr z)
  | _ => none
def lookD : List Ky → List W → Ky → Option W
  | k :: ks, w :: ws, z => if k = z then some w else lookD ks ws z
  | _, _, _ => none
def repD : List Ky → List W → Ky → W → List W
  | k :: ks, w :: ws, z, x => (if k = z then x else w) :: repD ks ws z x
  | _, _, _, _ => []
def putD (ks : List Ky) (ws : List W) (z : Ky) (x : W) : List Ky × List W := if (ks.any fun k => decide (k = z)) = true then (ks, repD ks ws z x) else (ks ++ [z], ws ++ [x])
def lookF : List (List Nat) → List W → List Nat → Option W
  | k :: ks, w :: ws, z => if k = z then some w else lookF ks ws z
  | _, _, _ => none
def putW : List (List Nat) → List W → List Nat → W → List (List Nat) × List W
  | k :: ks, w :: ws, z, x => if k = z then (k :: ks, x :: ws) else (k :: (putW ks ws z x).1, w :: (putW ks ws z x).2)
  | _, _, z, x => ([z], [x])
def dicOf (S : Sto) (x : W) : Option (List Ky × List W) :=
  match x with
  | .dct ks ws => some (ks, ws)
  | .ref a => match S a with
    | some (.dic ks ws) => some (ks, ws)
    | _ => none
  | _ => none
/-- an instance: its class, its fields -/
def objOf (S : Sto) (x : W) : Option (Nat × List (List Nat) × List W) :=
  match x with
  | .obj c ks ws => some (c, ks, ws)
  | .ref a => match S a with
    | some (.ins c ks ws) => some (c, ks, ws)
    | _ => none
  | _ => none
/-- an instance or a caught exception -/
def fldOf (S : Sto) (x : W) : Option (Nat × List (List Nat) × List W) :=
  match x with
  | .exn c ks ws => some (c, ks, ws)
  | x => objOf S x
/-- keys and values by turns -/
def pairUp : List W → Option (List Ky × List W)
  | [] => some ([], [])
  | k :: v :: r => (kyOf k).bind fun k => (pairUp r).map fun p => (k :: p.1, v :: p.2)
  | _ => none
/-- two dicts by their items -/
def dEqv (p q : List Ky × List W) : Bool := p.1.length == q.1.length && (p.1.zip p.2).all fun kw => match lookD q.1 q.2 kw.1 with
  | some w => eqv kw.2 w
  | none => false
/-- two dicts with like data -/
def wDPr (S : Sto) (x y : W) : Prop :=
  match dicOf S x with
  | some p => match dicOf S y with
    | some q => dataWs p.2 = true ∧ dataWs q.2 = true ∧ depWs p.2 ≤ 40 ∧ dEqv p q = true
    | none => False
  | none => False
def wDEq (x y : W) (S : Sto) (Q : VQ) : Prop :=
  match dicOf S x with
  | some p => match dicOf S y with
    | some q => dataWs p.2 = true ∧ dataWs q.2 = true ∧ depWs p.2 ≤ 40 ∧ Q (.bl (dEqv p q)) S
    | none => False
  | none => match x, y with
    | .tup [x1, x2], .tup [y1, y2] => wDPr S x1 y1 ∧ wDPr S x2 y2 ∧ Q (.bl true) S
    | _, _ => False
/-- two dicts held to be unlike -/
def wDNe (x y : W) (S : Sto) (Q : VQ) : Prop :=
  match dicOf S x with
  | some p => match dicOf S y with
    | some q => dataWs p.2 = true ∧ dataWs q.2 = true ∧ depWs p.2 ≤ 40 ∧ Q (.bl (!dEqv p q)) S
    | none => False
  | none => False
/-- what may be sought: plain things, or data -/
def inOk (S : Sto) (x : W) (ws : List W) : Bool := (flatW x && ws.all flatW) || (dataW (deref S x) && (dataWs ws && decide (min (depWs ws) (depW (deref S x)) ≤ 60)))
def wIn (neg : Bool) (x y : W) (S : Sto) (Q : VQ) : Prop :=
  match dicOf S y with
  | some p => match kyOf x with
    | some k => Q (.bl ((lookD p.1 p.2 k).isSome != neg)) S
    | none => False
  | none => match x, y with
    | .str [c], .str z => Q (.bl (decide (c ∈ z) != neg)) S
    | x, y => match seqOf S y with
      | some ws => inOk S x ws = true ∧ Q (.bl (inW (deref S x) ws != neg)) S
      | none => False
/-- is: two truths -/
def wIs (neg : Bool) (x y : W) (S : Sto) (Q : VQ) : Prop :=
  match x, y with
  | .bl a, .bl b => Q (.bl ((a == b) != neg)) S
  | _, _ => False
def wCmp (o : COp) (x y : W) (S : Sto) (Q : VQ) : Prop :=
  match o with
  | .eq => wEq false x y S Q
  | .ne => wEq true x y S Q
  | .lt => wInts x y fun i j => Q (.bl (decide (i < j))) S
  | .le => wInts x y fun i j => Q (.bl (decide (i ≤ j))) S
  | .gt => wInts x y fun i j => Q (.bl (decide (j < i))) S
  | .ge => wInts x y fun i j => Q (.bl (decide (j ≤ i))) S
  | .isin => wIn false x y S Q
  | .notin => wIn true x y S Q
  | .is => wIs false x y S Q
  | .isnot => wIs true x y S Q
def wIdx (x y : W) (S : Sto) (Q : VQ) : Prop :=
  match dicOf S x with
  | some p => match kyOf y with
    | some k => match lookD p.1 p.2 k with
      | some w => Q w S
      | none => False
    | none => False
  | none => match y with
    | .int i => match x with
      | .str z => z.length ≤ PySem.sizeLine ∧ match atW z i with
        | some c => Q (.str [c]) S
        | none => False
      | x => match seqOf S x with
        | some ws => match atW ws i with
          | some w => Q w S
          | none => False
        | none => False
    | _ => False
def optInt : List W → Option (Option Int)
  | [] => some none
  | [.int i] => some (some i)
  | _ => none
def wSl (fz : Bool) (x : W) (lo hi : List W) (S : Sto) (Q : VQ) : Prop :=
  match optInt lo, optInt hi with
  | some l, some h => match deref S x with
    | .tup ws => Q (.tup (cutW ws l h)) S
    | .rl ws => mkL fz (cutW ws l h) S Q
    | .sc ws => mkL fz (cutW ws l h) S Q
    | .str z => z.length ≤ PySem.sizeLine ∧ Q (.str (cutW z l h)) S
    | _ => False
  | _, _ => False
/-- xs[lo:hi:st], by the library's places -/
def cut3W {α : Type} (xs : List α) (lo hi : Option Int) (st : Int) : List α :=
  (PySem.sliceRange (PySem.sliceBounds lo hi (some st) xs.length).1 (PySem.sliceBounds lo hi (some st) xs.length).2.1 (PySem.sliceBounds lo hi (some st) xs.length).2.2).filterMap (xs[·]?)
def wStp (fz : Bool) (x : W) (lo hi : List W) (st : W) (S : Sto) (Q : VQ) : Prop :=
  match optInt lo, optInt hi, st with
  | some l, some h, .int k => k ≠ 0 ∧ match lstOf S x with
    | some ws => mkL fz (cut3W ws l h k) S Q
    | none => match x with
      | .sc ws => mkL fz (cut3W ws l h k) S Q
      | _ => False
  | _, _, _ => False
def isiW (t : Ty) (S : Sto) (w : W) : Option Bool :=
  match deref S w with
  | .ref a => match S a with
    | some (.dic _ _) => some (t == .dict)
    | some (.ins _ _ _) => some false
    | _ => none
  | .dct _ _ => some (t == .dict)
  | .obj _ _ _ => some false
  | .exn _ _ _ => none
  | .non => some false
  | .bl _ => some (t == .int || t == .bool)
  | .int _ => some (t == .int)
  | .str _ => some (t == .str)
  | .tup _ => some (t == .tuple)
  | .rl _ => some (t == .list)
  | .sc _ => some (t == .list)
  | .fn _ => none
def isiLW : List Ty → Sto → W → Option Bool
  | [], _, _ => some false
  | t :: ts, S, w => (isiW t S w).bind fun b => if b = true then some true else isiLW ts S w
def maxL : List Int → Int
  | [] => 0
  | [i] => i
  | i :: r => max i (maxL r)
def minL : List Int → Int
  | [] => 0
  | [i] => i
  | i :: r => min i (minL r)
/-! ### walks: the items, and the lists that stay locked meanwhile -/
abbrev Lk := List (Addr × List W)
/-- the lists that are walked stand as they stood -/
def liveS : Lk → Sto → Prop
  | [], _ => True
  | p :: r, S => S p.1 = some (.lst p.2) ∧ liveS r S
def walkOf (S : Sto) (w : W) : Option (List W × Lk) :=
  match w with
  | .tup ws => some (ws, [])
  | .rl ws => some (ws, [])
  | .sc ws => some (ws, [])
  | .str z => some (z.map fun c => .str [c], [])
  | .ref a => match S a with
    | some (.lst ws) => some (ws, [(a, ws)])
    | _ => none
  | _ => none
/-- list-like alone -/
def walkL (S : Sto) (w : W) : Option (List W × Lk) :=
  match w with
  | .rl ws => some (ws, [])
  | .sc ws => some (ws, [])
  | .ref a => match S a with
    | some (.lst ws) => some (ws, [(a, ws)])
    | _ => none
  | _ => none
def w1 (ws : List W) (P : W → Prop) : Prop :=
  match ws with
  | [x] => P x
  | _ => False
def wSome {α : Type} (o : Option α) (P : α → Prop) : Prop :=
  match o with
  | some x => P x
  | none => False
def wLen (x : W) (S : Sto) (Q : VQ) : Prop :=
  match x with
  | .str z => z.length ≤ PySem.sizeLine ∧ Q (.int z.length) S
  | x => match dicOf S x with
    | some p => Q (.int p.1.length) S
    | none => wSome (seqOf S x) fun ws => Q (.int ws.length) S
def wIntOf (x : W) (S : Sto) (Q : VQ) : Prop :=
  match x with
  | .int i => Q (.int i) S
  | .bl b => Q (.int (if b then 1 else 0)) S
  | .str z => z.length ≤ 640 ∧ ∃ n, PySem.intText? ⟨z.toArray⟩ = some n ∧ Q (.int n) S
  | _ => False
def wI1 (x : W) (P : Int → Prop) : Prop :=
  match x with
  | .int i => P i
  | _ => False
def wInts3 (ws : List W) (P : Int → Int → Int → Prop) : Prop :=
  match ws with
  | [.int i, .int j, .int k] => P i j k
  | _ => False
def wInts2 (ws : List W) (P : Int → Int → Prop) : Prop :=
  match ws with
  | [.int i, .int j] => P i j
  | _ => False
def wMaxd (ws : List W) (S : Sto) (Q : VQ) : Prop :=
  match ws with
  | [x, .int d] => wSome ((lstOf S x).bind intsOf) fun ns => Q (.int (if ns = [] then d else maxL ns)) S
  | _ => False
def wOrd (x : W) (S : Sto) (Q : VQ) : Prop :=
  match x with
  | .str [c] => Q (.int (c : Int)) S
  | _ => False
def wBi (b : Bi) (ws : List W) (S : Sto) (Q : VQ) : Prop :=
  match b with
  | .len => w1 ws fun x => wLen x S Q
  | .int1 => w1 ws fun x => wIntOf x S Q
  | .str1 => w1 ws fun x => wI1 x fun i => i.natAbs.log2 < 1920 ∧ Q (.str (decW i)) S
  | .abs => w1 ws fun x => wI1 x fun i => Q (.int (if i < 0 then -i else i)) S
  | .max2 => wInts2 ws fun i j => Q (.int (max i j)) S
  | .max3 => wInts3 ws fun i j k => Q (.int (max (max i j) k)) S
  | .min2 => wInts2 ws fun i j => Q (.int (min i j)) S
  | .max1 => w1 ws fun x => wSome ((lstOf S x).bind intsOf) fun ns => 0 < ns.length ∧ Q (.int (maxL ns)) S
  | .maxd => wMaxd ws S Q
  | .min1 => w1 ws fun x => wSome ((lstOf S x).bind intsOf) fun ns => 0 < ns.length ∧ Q (.int (minL ns)) S
  | .sum1 => w1 ws fun x => wSome ((lstOf S x).bind intsOf) fun ns => Q (.int ns.sum) S
  | .all1 => w1 ws fun x => wSome ((lstOf S x).bind blsOf) fun bs => Q (.bl (bs.all id)) S
  | .any1 => w1 ws fun x => wSome ((lstOf S x).bind blsOf) fun bs => Q (.bl (bs.any id)) S
  | .tuple1 => w1 ws fun x => wSome (seqOf S x) fun us => Q (.tup us) S
  | .list1 fz => w1 ws fun x => wSome (seqOf S x) fun us => mkL fz us S Q
  | .listrev fz => w1 ws fun x => wSome (walkL S x) fun p => mkL fz p.1.reverse S Q
  | .lenset => w1 ws fun x => wSome ((lstOf S x).bind intsOf) fun ns => ns.Nodup ∧ ns.length ≤ 4000 ∧ Q (.int (ns.length : Nat)) S
  | .ord1 => w1 ws fun x => wOrd x S Q
  | .dict1 => w1 ws fun x => wSome (dicOf S x) fun p => ∀ a, S a = none → Q (.ref a) (S.set a (.dic p.1 p.2))
/-- a dict's keys, those alone whose value is like another one -/
def kyW : Ky → W
  | .inl i => .int i
  | .inr z => .str z
def okKy : Ky → Bool
  | .inl _ => true
  | .inr z => z.all (· < 0x110000)
def fitB (ks : List Ky) (ws : List W) (y : W) (k : Ky) : Bool := match lookD ks ws k with
  | some w => eqv w y
  | none => false
def wFits (d y : W) (S : Sto) (Q : VQ) : Prop :=
  match d with
  | .dct ks ws => dataWs ws = true ∧ dataW y = true ∧ depW y ≤ 60 ∧ ks.all okKy = true ∧ ks.length ≤ PySem.sizeLine ∧ Q (.rl ((ks.filter (fitB ks ws y)).map kyW)) S
  | _ => False
def wKeys (d : W) (S : Sto) (Q : VQ) : Prop :=
  match d with
  | .dct ks ws => ks.all okKy = true ∧ ks.length ≤ PySem.sizeLine ∧ Q (.rl (ks.map kyW)) S
  | _ => False
def wTab (kvs : List (List Nat × W)) (x : W) (S : Sto) (Q : VQ) : Prop :=
  match x with
  | .str k => match kvs.lookup k with
    | some w => Q w S
    | none => False
  | _ => False
/-- a table whose keys are tuples -/
def kysOf : List W → Option (List Ky)
  | [] => some []
  | w :: ws => (kyOf w).bind fun k => (kysOf ws).map (k :: ·)
def lookTT : List (List Ky × W) → List Ky → Option W
  | [], _ => none
  | p :: r, k => if p.1 = k then some p.2 else lookTT r k
def wApp (x w : W) (S : Sto) (Q : VQ) : Prop :=
  match x with
  | .ref a => match S a with
    | some (.lst ws) => ws.length < PySem.sizeLine ∧ Q .non (S.set a (.lst (ws ++ [w])))
    | _ => False
  | _ => False
def wPop (x : W) (S : Sto) (Q : VQ) : Prop :=
  match x with
  | .ref a => match S a with
    | some (.lst ws) => match ws.getLast? with
      | some w => Q w (S.set a (.lst ws.dropLast))
      | none => False
    | _ => False
  | _ => False
def wExt (x y : W) (S : Sto) (Q : VQ) : Prop :=
  match x with
  | .ref a => match S a with
    | some (.lst ws) => match lstOf S y with
      | some us => ws.length + us.length ≤ PySem.sizeLine ∧ Q .non (S.set a (.lst (ws ++ us)))
      | none => False
    | _ => False
  | _ => False
def wSetIx (x y w : W) (S : Sto) (Q : Sto → Prop) : Prop :=
  match x with
  | .ref a => match S a with
    | some (.lst ws) => match y with
      | .int i => match ixW ws.length i with
        | some j => Q (S.set a (.lst (ws.set j w)))
        | none => False
      | _ => False
    | some (.dic ks ws) => match kyOf y with
      | some k => ws.length < PySem.sizeLine ∧ Q (S.set a (.dic (putD ks ws k w).1 (putD ks ws k w).2))
      | none => False
    | _ => False
  | _ => False
/-- from here on nobody changes it -/
def wFz (x : W) (S : Sto) (Q : VQ) : Prop :=
  match x with
  | .ref a => match S a with
    | some (.lst ws) => Q (.rl ws) (S.del a)
    | some (.dic ks ws) => Q (.dct ks ws) (S.del a)
    | some (.ins c ks ws) => Q (.obj c ks ws) (S.del a)
    | _ => Q (.ref a) S
  | x => Q x S
def strsOf : List W → Option (List (List Nat))
  | [] => some []
  | .str z :: ws => (strsOf ws).map (z :: ·)
  | _ => none
/-- the receiver's kind, before the arguments are reckoned -/
def recvOf (m : MB) (S : Sto) (x : W) : Bool :=
  match m with
  | .count => (lstOf S x).isSome
  | .index => (lstOf S x).isSome
  | .dget1 => (dicOf S x).isSome
  | .dget2 => (dicOf S x).isSome
  | .dcopy => (dicOf S x).isSome
  | .clear => (lstOf S x).isSome
  | .insert => (lstOf S x).isSome
  | _ => match x with
    | .str _ => true
    | _ => false
def ixOf (z : List Nat) : List (List Nat) → Option Nat
  | [] => none
  | y :: ys => if y = z then some 0 else (ixOf z ys).map (· + 1)
def joinZ (z : List Nat) : List (List Nat) → List Nat
  | [] => []
  | [y] => y
  | y :: ys => y ++ z ++ joinZ z ys
/-- brackets with blanks about them -/
def repZ (z : List Nat) : List Nat := z.flatMap fun c => if c = 40 then [32, 40, 32] else if c = 41 then [32, 41, 32] else [c]
/-- the words of a text -/
def wordsZ (z : List Nat) : List (List Nat) := (TL.spl [32] 0 [] (repZ z)).filter fun y => !y.isEmpty
def wStr (x : W) (P : List Nat → Prop) : Prop :=
  match x with
  | .str z => P z
  | _ => False
def w2 (ws : List W) (P : W → W → Prop) : Prop :=
  match ws with
  | [x, y] => P x y
  | _ => False
def wMeb (m : MB) (x : W) (ws : List W) (S : Sto) (Q : VQ) : Prop :=
  match m with
  | .count => w1 ws fun y => wStr y fun z => wSome ((lstOf S x).bind strsOf) fun zs => Q (.int ((zs.countP (· == z) : Nat) : Int)) S
  | .index => w1 ws fun y => wStr y fun z => wSome ((lstOf S x).bind strsOf) fun zs => wSome (ixOf z zs) fun i => Q (.int (i : Nat)) S
  | .dget1 => w1 ws fun y => wSome (dicOf S x) fun p => wSome (kyOf y) fun k => Q ((lookD p.1 p.2 k).getD .non) S
  | .dget2 => w2 ws fun y d => wSome (dicOf S x) fun p => wSome (kyOf y) fun k => Q ((lookD p.1 p.2 k).getD d) S
  | .dcopy => ws = [] ∧ wSome (dicOf S x) fun p => ∀ a, S a = none → Q (.ref a) (S.set a (.dic p.1 p.2))
  | .join => w1 ws fun y => wStr x fun z => wSome ((seqOf S y).bind strsOf) fun zs => (zs.map (·.length)).sum + zs.length * z.length ≤ 16777216 ∧ Q (.str (joinZ z zs)) S
  | .find => w1 ws fun y => wStr x fun z => wStr y fun u => Q (.int (PySem.Txt.find ⟨z.toArray⟩ ⟨u.toArray⟩)) S
  | .starts => w1 ws fun y => wStr x fun z => wStr y fun u => Q (.bl (PySem.Txt.startswith ⟨z.toArray⟩ ⟨u.toArray⟩)) S
  | .isdig => ws = [] ∧ wStr x fun z => Q (.bl (PySem.Txt.isdigit ⟨z.toArray⟩)) S
  | .split => w1 ws fun y => wStr x fun z => wStr y fun u => u ≠ [] ∧ u.all (· < 256) = true ∧ z.length + 2 ≤ PySem.sizeLine ∧ Q (.rl ((TL.spl u 0 [] z).map W.str)) S
  | .clear => ws = [] ∧ match x with
    | .ref a => match S a with
      | some (.lst _) => Q .non (S.set a (.lst []))
      | _ => False
    | _ => False
  | .insert => match ws with
    | [.int i, w] => match x with
      | .ref a => match S a with
        | some (.lst us) => us.length < PySem.sizeLine ∧ 0 ≤ i ∧ i < 2 ^ 63 ∧ Q .non (S.set a (.lst (us.take i.toNat ++ [w] ++ us.drop i.toNat)))
        | _ => False
      | _ => False
    | _ => False
def wFld (cs : List Nat) (x : W) (f : List Nat) (S : Sto) (Q : VQ) : Prop :=
  wSome (fldOf S x) fun p => wSome (lookF p.2.1 p.2.2 f) fun w => Q w S
def wFldS (cs : List Nat) (x : W) (f : List Nat) (w : W) (S : Sto) (Q : Sto → Prop) : Prop :=
  match x with
  | .ref a => match S a with
    | some (.ins c ks ws) => c ∈ cs ∧ ws.length < 900 ∧ Q (S.set a (.ins c (putW ks ws f w).1 (putW ks ws f w).2))
    | _ => False
  | _ => False
def clsOf (S : Sto) (x : W) : Option Nat := (fldOf S x).map (·.1)
/-- isinstance(x, an own class): by the instance's class; a number, a truth, None is none -/
def isCW (yes no : List Nat) (S : Sto) (x : W) : Option Bool :=
  match x with
  | .non => some false
  | .bl _ => some false
  | .int _ => some false
  | x => (clsOf S x).bind fun c => if c ∈ yes then some true else if c ∈ no then some false else none

/-- isinstance(e, (A, B, ..)), e a caught exception -/
def isCLc (c : Nat) : List (List Nat × List Nat) → Option Bool
  | [] => some false
  | p :: ps => if c ∈ p.1 then some true else if c ∈ p.2 then isCLc c ps else none
def isCLW (l : List (List Nat × List Nat)) : W → Option Bool
  | .exn c _ _ => isCLc c l
  | _ => none
def rngW (lo : Int) (n : Nat) : List W := (List.range n).map fun (i : Nat) => .int (lo + (i : Int))
def enumW : Nat → List W → List W
  | _, [] => []
  | i, w :: ws => .tup [.int i, w] :: enumW (i + 1) ws
def zipW : List W → List W → List W
  | x :: xs, y :: ys => .tup [x, y] :: zipW xs ys
  | _, _ => []
def fits (i : Int) : Bool := decide (-(2 ^ 62) ≤ i ∧ i < 2 ^ 62)
def o1 {α : Type} (ws : List W) (f : W → Option α) : Option α :=
  match ws with
  | [x] => f x
  | _ => none
def oI {α : Type} (x : W) (f : Int → Option α) : Option α :=
  match x with
  | .int i => f i
  | _ => none
def oRng2 (ws : List W) : Option (List W × Lk) :=
  match ws with
  | [.int a, .int b] => if (fits a && fits b) = true then some (rngW a (b - a).toNat, []) else none
  | _ => none
def oZip (ws : List W) (S : Sto) : Option (List W × Lk) :=
  match ws with
  | [.tup xs, .tup ys] => some (zipW xs ys, [])
  | [x, y] => (walkL S x).bind fun p => (walkL S y).map fun q => (zipW p.1 q.1, p.2 ++ q.2)
  | _ => none
def itemsOf (ik : IK) (ws : List W) (S : Sto) : Option (List W × Lk) :=
  match ik with
  | .seq => o1 ws (walkOf S)
  | .rng1 => o1 ws fun x => oI x fun n => if fits n = true then some (rngW 0 n.toNat, []) else none
  | .rng2 => oRng2 ws
  | .enum => o1 ws fun x => (walkL S x).map fun p => (enumW 0 p.1, p.2)
  | .zip => oZip ws S
  | .rev => o1 ws fun x => (walkL S x).map fun p => (p.1.reverse, p.2)
def bindIs : List Nat → List W → Env → Option Env
  | [], [], env => some env
  | i :: is, w :: ws, env => bindIs is ws (env.set i (some w))
  | _, _, _ => none
def bindTg (tg : Tg) (w : W) (env : Env) : Option Env :=
  match tg with
  | .nm i => some (env.set i (some w))
  | .pr is => match w with
    | .tup ws => bindIs is ws env
    | .rl ws => bindIs is ws env
    | _ => none
def wipeE (env : Env) : List Nat → Env
  | [] => env
  | v :: vs => (wipeE env vs).set v none
def wMap (lk : Lk) (f : W → Sto → (List W → Sto → Prop) → Prop) : List W → Sto → (List W → Sto → Prop) → Prop
  | [], S, Q => liveS lk S ∧ Q [] S
  | x :: xs, S, Q => liveS lk S ∧ f x S fun o S1 => wMap lk f xs S1 fun ys S2 => Q (o ++ ys) S2

def wB (x : W) (t f : Prop) : Prop :=
  match x with
  | .bl true => t
  | .bl false => f
  | _ => False
def wVar (o : Option (Option W)) (P : W → Prop) : Prop :=
  match o with
  | some (some w) => P w
  | _ => False
def wWalk (o : Option (List W × Lk)) (P : List W → Lk → Prop) : Prop :=
  match o with
  | some p => P p.1 p.2
  | none => False
def wNon (x : W) (t f : Prop) : Prop :=
  match x with
  | .non => t
  | _ => f
def wNot (x : W) (P : Bool → Prop) : Prop :=
  match x with
  | .bl b => P (!b)
  | _ => False
abbrev CT := Nat → List W → Sto → VQ → XQ → Prop
section
variable (C : CT)
mutual
def wE : E → Env → Sto → VQ → XQ → Prop
  | .var i, env, S, Q, _ => wVar env[i]? fun w => Q w S
  | .cst w, _, S, Q, _ => Q w S
  | .tup es, env, S, Q, X => wEs es env S (fun ws S1 => ws.length ≤ PySem.sizeLine ∧ Q (.tup ws) S1) X
  | .lst fz es, env, S, Q, X => wEs es env S (fun ws S1 => ws.length ≤ PySem.sizeLine ∧ mkL fz ws S1 Q) X
  | .bin o a b, env, S, Q, X => wE a env S (fun x S1 => wE b env S1 (fun y S2 => wBin o x y S2 Q) X) X
  | .cmp o a b, env, S, Q, X => wE a env S (fun x S1 => wE b env S1 (fun y S2 => wCmp o x y S2 Q) X) X
  | .chain o o' a b c, env, S, Q, X => wE a env S (fun x S1 => wE b env S1 (fun y S2 => wCmp o x y S2 fun z S3 => wB z (wE c env S3 (fun u S4 => wCmp o' y u S4 Q) X) (Q (.bl false) S3)) X) X
  | .isN neg a, env, S, Q, X => wE a env S (fun x S1 => wNon x (Q (.bl (!neg)) S1) (Q (.bl neg) S1)) X
  | .and es, env, S, Q, X => wAnd es env S Q X
  | .or es, env, S, Q, X => wOr es env S Q X
  | .not a, env, S, Q, X => wE a env S (fun x S1 => wNot x fun b => Q (.bl b) S1) X
  | .neg a, env, S, Q, X => wE a env S (fun x S1 => wI1 x fun i => Q (.int (-i)) S1) X
  | .ite c a b, env, S, Q, X => wE c env S (fun x S1 => wB x (wE a env S1 Q X) (wE b env S1 Q X)) X
  | .idx a i, env, S, Q, X => wE a env S (fun x S1 => wE i env S1 (fun y S2 => wIdx x y S2 Q) X) X
  | .sl fz a lo hi, env, S, Q, X => wE a env S (fun x S1 => wEs lo env S1 (fun l S2 => (optInt l).isSome = true ∧ wEs hi env S2 (fun h S3 => wSl fz x l h S3 Q) X) X) X
  | .call f es, env, S, Q, X => wEs es env S (fun ws S1 => C f ws S1 Q X) X
  | .bi b es, env, S, Q, X => wEs es env S (fun ws S1 => wBi b ws S1 Q) X
  | .isi t a, env, S, Q, X => wE a env S (fun x S1 => wSome (isiW t S1 x) fun b => Q (.bl b) S1) X
  | .comp fz tg ik its cond elt own, env, S, Q, X => wEs its env S (fun args S1 => wWalk (itemsOf ik args S1) fun items lk =>
      items.length ≤ PySem.sizeLine ∧ ∀ D, S1 D = none → wMap lk (fun w S2 R => wSome (bindTg tg w (wipeE env own)) fun env' =>
        wAnd cond env' S2 (fun b S3 => wB b (wE elt env' S3 (fun y S4 => R [y] S4) (fun _ _ => False)) (R [] S3)) (fun _ _ => False)) items (S1.set D .hid) (fun ys S2 => mkL fz ys (S2.del D) Q)) X
  | .tab kvs i, env, S, Q, X => wE i env S (fun x S1 => wTab kvs x S1 Q) X
  | .app a e, env, S, Q, X => wE a env S (fun x S1 => (lstOf S1 x).isSome = true ∧ wE e env S1 (fun w S2 => wApp x w S2 Q) X) X
  | .pop a, env, S, Q, X => wE a env S (fun x S1 => wPop x S1 Q) X
  | .dic ks es, env, S, Q, X => ∀ p, S p = none → wEs es env (S.set p .hid) (fun ws S1 => ks.length = ws.length ∧ Q (.dct (ks.map Sum.inr) ws) (S1.del p)) (fun _ _ => False)
  | .dicV kvs, env, S, Q, X => ∀ p, S p = none → wEs kvs env (S.set p .hid) (fun ws S1 => wSome (pairUp ws) fun d => d.1.Nodup ∧ d.1.length ≤ 15 ∧ Q (.dct d.1 d.2) (S1.del p)) (fun _ _ => False)
  | .dEq a b, env, S, Q, X => wE a env S (fun x S1 => wE b env S1 (fun y S2 => wDEq x y S2 Q) X) X
  | .dNe a b, env, S, Q, X => wE a env S (fun x S1 => wE b env S1 (fun y S2 => wDNe x y S2 Q) X) X
  | .dnew, _, S, Q, _ => ∀ a, S a = none → Q (.ref a) (S.set a (.dic [] []))
  | .fzv e, env, S, Q, X => wE e env S (fun x S1 => wFz x S1 Q) X
  | .fits i j k, env, S, Q, _ => k < env.length ∧ wVar env[i]? fun d => wVar env[j]? fun y => wFits d y S Q
  | .keysOf i k, env, S, Q, _ => k < env.length ∧ wVar env[i]? fun d => wKeys d S Q
  | .meb m a es, env, S, Q, X => wE a env S (fun x S1 => recvOf m S1 x = true ∧ wEs es env S1 (fun ws S2 => wMeb m x ws S2 Q) X) X
  | .fld cs a f, env, S, Q, X => wE a env S (fun x S1 => wFld cs x f S1 Q) X
  | .meth tb m a es, env, S, Q, X => wE a env S (fun x S1 => wSome (objOf S1 x) fun p => lookF p.2.1 p.2.2 m = none ∧ wSome (tb.lookup p.1) fun f => wEs es env S1 (fun ws S2 => C f (x :: ws) S2 Q X) X) X
  | .mk c fi es, env, S, Q, X => wEs es env S (fun ws S1 => ∀ a, S1 a = none → C fi (.ref a :: ws) (S1.set a (.ins c [] [])) (fun w S2 => w = .non ∧ Q (.ref a) S2) X) X
  | .mkx c _, _, S, Q, _ => Q (.exn c [] []) S
  | .isC yes no a, env, S, Q, X => wE a env S (fun x S1 => wSome (isCW yes no S1 x) fun b => Q (.bl b) S1) X
  | .callD f es ds, env, S, Q, X => wEs es env S (fun ws S1 => C f (ws ++ ds) S1 Q X) X
  | .callV i fs es, env, S, Q, X => wVar env[i]? fun v => match v with
    | .fn f => f ∈ fs ∧ wEs es env S (fun ws S1 => C f ws S1 Q X) X
    | _ => False
  | .wnew c fs e, env, S, Q, X => wE e env S (fun x S1 => wStr x fun z => z.length ≤ 2000 ∧ ∀ b, S1 b = none → ∀ a, (S1.set b (.lst ((wordsZ z).map W.str))) a = none → Q (.ref a) ((S1.set b (.lst ((wordsZ z).map W.str))).set a (.ins c fs [.ref b, .int 0, .int 0]))) X
  | .tabT kvs es, env, S, Q, X => wEs es env S (fun ws S1 => ws.length ≤ PySem.sizeLine ∧ wSome (kysOf ws) fun k => Q ((lookTT kvs k).getD .non) S1) X
  | .isiL ts a, env, S, Q, X => wE a env S (fun x S1 => wSome (isiLW ts S1 x) fun b => Q (.bl b) S1) X
  | .isCL l a, env, S, Q, X => wE a env S (fun x S1 => wSome (isCLW l x) fun b => Q (.bl b) S1) X
  | .stp fz a lo hi st, env, S, Q, X => wE a env S (fun x S1 => wEs lo env S1 (fun l S2 => (optInt l).isSome = true ∧ wEs hi env S2 (fun h S3 => (optInt h).isSome = true ∧ wE st env S3 (fun k S4 => wStp fz x l h k S4 Q) X) X) X) X
  | .ext a b, env, S, Q, X => wE a env S (fun x S1 => (lstOf S1 x).isSome = true ∧ wE b env S1 (fun y S2 => wExt x y S2 Q) X) X
def wEs : List E → Env → Sto → (List W → Sto → Prop) → XQ → Prop
  | [], _, S, Q, _ => Q [] S
  | e :: es, env, S, Q, X => wE e env S (fun w S1 => wEs es env S1 (fun ws S2 => Q (w :: ws) S2) X) X
/-- and: no item is yes -/
def wAnd : List E → Env → Sto → VQ → XQ → Prop
  | [], _, S, Q, _ => Q (.bl true) S
  | [e], env, S, Q, X => wE e env S Q X
  | e :: es, env, S, Q, X => wE e env S (fun x S1 => wB x (wAnd es env S1 Q X) (Q (.bl false) S1)) X
def wOr : List E → Env → Sto → VQ → XQ → Prop
  | [], _, _, _, _ => False
  | [e], env, S, Q, X => wE e env S Q X
  | e :: es, env, S, Q, X => wE e env S (fun x S1 => wB x (Q (.bl true) S1) (wOr es env S1 Q X)) X
end

structure Dn where
  nx : Env → Sto → Prop
  rt : VQ
  bk : Env → Sto → Prop
  ct : Env → Sto → Prop
  xc : Xn → Env → Sto → Prop
/-- a suite's slot, and how it ends -/
def bindH (nm : Option Nat) (x : Xn) (env : Env) : Env :=
  match nm with
  | none => env
  | some i => env.set i (some (.exn x.c x.ks x.ws))
def goneH (nm : Option Nat) (env : Env) : Env :=
  match nm with
  | none => env
  | some i => env.set i none
def sutD (nm : Option Nat) (D : Dn) : Dn where
  nx := fun e S => D.nx (goneH nm e) S
  rt := D.rt
  bk := fun e S => D.bk (goneH nm e) S
  ct := fun e S => D.ct (goneH nm e) S
  xc := fun _ _ _ => False
def wFor (lk : Lk) (tg : Tg) (body : Env → Sto → Dn → Prop) : List W → Env → Sto → Dn → Prop
  | [], env, S, D => liveS lk S ∧ D.nx env S
  | w :: ws, env, S, D => liveS lk S ∧ wSome (bindTg tg w env) fun env' =>
      body env' S { D with nx := fun e S => wFor lk tg body ws e S D, ct := fun e S => wFor lk tg body ws e S D, bk := D.nx }
def wWhl (c : Env → Sto → VQ → XQ → Prop) (body : Env → Sto → Dn → Prop) : Nat → Env → Sto → Dn → Prop
  | 0, _, _, _ => False
  | n + 1, env, S, D => c env S (fun x S1 => wB x (body env S1 { D with nx := fun e S => wWhl c body n e S D, ct := fun e S => wWhl c body n e S D, bk := D.nx }) (D.nx env S1)) (fun x S1 => D.xc x env S1)
mutual
def wS : St → Env → Sto → Dn → Prop
  | .pass, env, S, D => D.nx env S
  | .ex e, env, S, D => wE C e env S (fun _ S1 => D.nx env S1) (fun x S1 => D.xc x env S1)
  | .ret e, env, S, D => wE C e env S D.rt (fun x S1 => D.xc x env S1)
  | .retN, _, S, D => D.rt .non S
  | .asg i e, env, S, D => wE C e env S (fun w S1 => D.nx (env.set i (some w)) S1) (fun x S1 => D.xc x env S1)
  | .asgT is e, env, S, D => wE C e env S (fun w S1 => wSome (bindTg (.pr is) w env) fun env' => D.nx env' S1) (fun x S1 => D.xc x env S1)
  | .par i j a b, env, S, D => wE C a env S (fun v S1 => wE C b env S1 (fun w S2 => D.nx ((env.set i (some v)).set j (some w)) S2) (fun x S1 => D.xc x env S1)) (fun x S1 => D.xc x env S1)
  | .setIx o i e, env, S, D => wE C e env S (fun w S1 => wE C o env S1 (fun x S2 => wE C i env S2 (fun y S3 => wSetIx x y w S3 fun S4 => D.nx env S4) (fun x S1 => D.xc x env S1)) (fun x S1 => D.xc x env S1)) (fun x S1 => D.xc x env S1)
  | .ite c a b, env, S, D => wE C c env S (fun x S1 => wB x (wSs a env S1 D) (wSs b env S1 D)) (fun x S1 => D.xc x env S1)
  | .for tg ik its body, env, S, D => wEs C its env S (fun args S1 => wWalk (itemsOf ik args S1) fun items lk => wFor lk tg (fun e S D => wSs body e S D) items env S1 D) (fun x S1 => D.xc x env S1)
  | .whl c body, env, S, D => ∃ n, wWhl (fun e S Q X => wE C c e S Q X) (fun e S D => wSs body e S D) n env S D
  | .brk, env, S, D => D.bk env S
  | .cnt, env, S, D => D.ct env S
  | .fldS cs o f e, env, S, D => wE C e env S (fun w S1 => wE C o env S1 (fun x S2 => wFldS cs x f w S2 fun S3 => D.nx env S3) (fun x S1 => D.xc x env S1)) (fun x S1 => D.xc x env S1)
  | .augF cs o f e, env, S, D => wE C o env S (fun x S1 => wSome (objOf S1 x) fun p => p.1 ∈ cs ∧ wSome (lookF p.2.1 p.2.2 f) fun v => wE C e env S1 (fun w S3 => wInts v w fun i j => wFldS [p.1] x f (.int (i + j)) S3 fun S4 => D.nx env S4) (fun x S1 => D.xc x env S1)) (fun x S1 => D.xc x env S1)
  | .rse c fs es, env, S, D => wEs C es env S (fun ws S1 => ws.length ≤ 20 ∧ (fs ≠ [] → fs.length = ws.length) ∧ D.xc ⟨c, fs.reverse, if fs = [] then [] else ws.reverse⟩ env S1) (fun x S1 => D.xc x env S1)
  | .trys body hs orelse, env, S, D => wSs body env S { D with nx := fun e S => wSs orelse e S D, xc := fun x e S => wHs hs x e S D }
def wSs : List St → Env → Sto → Dn → Prop
  | [], env, S, D => D.nx env S
  | s :: ss, env, S, D => wS s env S { D with nx := fun e S1 => wSs ss e S1 D }
def wHn : Hn → Xn → Env → Sto → Dn → Prop → Prop
  | .mk yes no nm suite, x, env, S, D, r => if x.c ∈ yes then wSs suite (bindH nm x env) S (sutD nm D) else x.c ∈ no ∧ r
def wHs : List Hn → Xn → Env → Sto → Dn → Prop
  | [], x, env, S, D => D.xc x env S
  | h :: hs, x, env, S, D => wHn h x env S D (wHs hs x env S D)
end
end

/-! ### calls -/
structure FD where
  ar : Nat
  slots : Nat
  body : List St
def Sub (S' S : Sto) : Prop := (∀ a o, S' a = some o → S a = some o) ∧ ∀ a, S a = some .hid → S' a = some .hid
/-- behind a return: what the caller needn't know is let go; a list may be known by content from there on -/
def Fz (S : Sto) (w w' : W) (S' : Sto) : Prop := Sub S' S ∧ (w' = w ∨ ∃ a, w = .ref a ∧ S' a = none ∧ ((∃ ws, S a = some (.lst ws) ∧ w' = .rl ws) ∨ (∃ ks ws, S a = some (.dic ks ws) ∧ w' = .dct ks ws) ∨ ∃ c ks ws, S a = some (.ins c ks ws) ∧ w' = .obj c ks ws))
def entry (d : FD) (ws : List W) : Env := ws.map some ++ List.replicate (d.slots - ws.length) none
def dnOf (Q : VQ) (X : XQ) : Dn where
  nx := fun _ S => ∃ S', Sub S' S ∧ Q .non S'
  rt := fun w S => ∃ w' S', Fz S w w' S' ∧ Q w' S'
  bk := fun _ _ => False
  ct := fun _ _ => False
  xc := fun x _ S => ∃ S', Sub S' S ∧ X x S'
def wF (T : Nat → Option FD) : Nat → CT
  | 0, _, _, _, _, _ => False
  | n + 1, f, ws, S, Q, X => wSome (T f) fun d => ws.length = d.ar ∧ wSs (wF T n) d.body (entry d ws) S (dnOf Q X)
end Bw

/-! Ev2: what a value and a store of the evaluator stand for in HandS's heap. -/
namespace Bw
open PySem L2 PySem.Spec PyProof.Rows

structure Gm where
  K : PySem.W.Frag
  fa : Nat → Addr
  ca : Nat → Addr

def KTup (K : PySem.W.Frag) (a : Addr) (xs : List V) : Prop :=
  ∃ (o : Obj) (its : Array Value) (n : Nat), K.lookup a = some o ∧ o.cls = .type "tuple" ∧ o.data = .seq its n ∧ its.size ≤ sizeLine ∧ Vals xs its.toList
def KLst (K : PySem.W.Frag) (a : Addr) (xs : List V) : Prop :=
  ∃ (o : Obj) (its : Array Value) (n : Nat), K.lookup a = some o ∧ o.cls = .type "list" ∧ o.dict = none ∧ o.data = .seq its n ∧ its.size ≤ sizeLine ∧ Vals xs its.toList
def TupA (Γ : Gm) (S : Sto) (H : Hp) (a : Addr) (vs : List V) : Prop := (S a = none ∧ Rd H a (.tup vs)) ∨ KTup Γ.K a vs
def RlA (S : Sto) (H : Hp) (a : Addr) (vs : List V) : Prop := S a = none ∧ H a = some (.lst vs)
def ScA (Γ : Gm) (S : Sto) (H : Hp) (a : Addr) (vs : List V) : Prop := (S a = none ∧ Rd H a (.lst vs)) ∨ KLst Γ.K a vs
def okStr (x : List Nat) : Bool := x.all (· < 0x110000)
def keyV : Ky → Key
  | .inl j => .inl j
  | .inr x => .inr ⟨x.toArray⟩
def strV (x : List Nat) : V := .str ⟨x.toArray⟩

def dkz (ks : List Ky) (vs : List V) : List (Key × V) := (ks.zip vs).map fun p => (keyV p.1, p.2)
def insz (ks : List (List Nat)) (vs : List V) : List (Str × V) := (ks.zip vs).map fun p => ((⟨p.1.toArray⟩ : Str), p.2)
/-- an exception's own dict -/
def xdR (S : Sto) (H : Hp) (ks : List (List Nat)) (d : Option Addr) (vs : List V) : Prop := (ks = [] ∧ d = none) ∨ ∃ dd, d = some dd ∧ S dd = none ∧ H dd = some (.xd (insz ks vs))
def tyAll : List String := ["int", "bool", "str", "tuple", "list", "dict"]
/-- what is asked of an own class whose instances are made -/
structure InsC (K : PySem.W.Frag) (C : Addr) : Prop where
  cl : Cls K C
  ha : PySem.W.findIn K (.ref C) "__class__" = some (some (.builtin "object.__class__"))
  hn : PySem.W.specialIn K (.builtin "object.__class__") "__get__" = some (some (.builtin "getset_descriptor.__get__"))
  ht : PySem.W.takesIn K (.builtin "object.__class__") = some true
  hm : PySem.W.mroIn K C (.type "object") = some true
  kt : ∀ n ∈ tyAll, PySem.W.kitOne K (.ref C) (.type n) = some false
abbrev XkC := XisC
def IC (Γ : Gm) (c : Nat) (ks : List (List Nat)) : Prop := InsC Γ.K (Γ.ca c) ∧ ∀ k ∈ ks, NoAttr Γ.K (Γ.ca c) ⟨k.toArray⟩
def XC (Γ : Gm) (c : Nat) (ks : List (List Nat)) : Prop := XkC Γ.K (Γ.ca c) ∧ ∀ k ∈ ks, PySem.W.findIn Γ.K (.ref (Γ.ca c)) ⟨k.toArray⟩ = some none
mutual
def rep (Γ : Gm) (S : Sto) (H : Hp) : W → V → Prop
  | .non, v => v = .non
  | .bl b, v => v = .bl b
  | .int i, v => v = .int i
  | .str x, v => v = strV x ∧ okStr x = true
  | .tup ws, v => ∃ a vs, v = .ref a ∧ TupA Γ S H a vs ∧ reps Γ S H ws vs
  | .rl ws, v => ∃ a vs, v = .ref a ∧ RlA S H a vs ∧ reps Γ S H ws vs
  | .sc ws, v => ∃ a vs, v = .ref a ∧ ScA Γ S H a vs ∧ reps Γ S H ws vs
  | .ref a, v => v = .ref a
  | .fn i, v => v = .ref (Γ.fa i)
  | .dct ks ws, v => ∃ a vs, v = .ref a ∧ (S a = none ∧ H a = some (.dK (dkz ks vs))) ∧ ks.length = ws.length ∧ reps Γ S H ws vs
  | .obj c ks ws, v => ∃ a dx vs, v = .ref a ∧ (S a = none ∧ H a = some (.ins (Γ.ca c) dx (insz ks vs))) ∧ (ks.length = ws.length ∧ IC Γ c ks) ∧ reps Γ S H ws vs
  | .exn c ks ws, v => ∃ a d vs, v = .ref a ∧ (S a = none ∧ H a = some (ExT (.ref (Γ.ca c)) d a)) ∧ xdR S H ks d vs ∧ (ks.length = ws.length ∧ XC Γ c ks) ∧ reps Γ S H ws vs
def reps (Γ : Gm) (S : Sto) (H : Hp) : List W → List V → Prop
  | [], vs => vs = []
  | w :: ws, vs => ∃ v r, vs = v :: r ∧ rep Γ S H w v ∧ reps Γ S H ws r
end

def Fr0 (S : Sto) (H : Hp) (S' : Sto) (H' : Hp) : Prop := ∀ a o, S a = none → H a = some o → S' a = none ∧ H' a = some o
/-- what the store doesn't know, and what it hides, stays -/
def Fr (S : Sto) (H : Hp) (S' : Sto) (H' : Hp) : Prop := Fr0 S H S' H' ∧ ∀ a o, S a = some .hid → H a = some o → S' a = some .hid ∧ H' a = some o
theorem Fr0.refl (S : Sto) (H : Hp) : Fr0 S H S H := fun _ _ h1 h2 => ⟨h1, h2⟩
theorem Fr.refl (S : Sto) (H : Hp) : Fr S H S H := ⟨Fr0.refl S H, fun _ _ h1 h2 => ⟨h1, h2⟩⟩
theorem Fr0.trans {S S1 S2 : Sto} {H H1 H2 : Hp} (a : Fr0 S H S1 H1) (b : Fr0 S1 H1 S2 H2) : Fr0 S H S2 H2 := fun p o h1 h2 => by
  obtain ⟨q1, q2⟩ := a p o h1 h2
  exact b p o q1 q2
theorem Fr.trans {S S1 S2 : Sto} {H H1 H2 : Hp} (a : Fr S H S1 H1) (b : Fr S1 H1 S2 H2) : Fr S H S2 H2 := ⟨a.1.trans b.1, fun p o h1 h2 => by
  obtain ⟨q1, q2⟩ := a.2 p o h1 h2
  exact b.2 p o q1 q2⟩

section
variable {Γ : Gm} {S S' S1 : Sto} {H H' H1 : Hp} {a p : Addr} {vs : List V}
theorem Rd.fr0 (f : Fr0 S H S' H') {u : HO} (h : S a = none ∧ Rd H a u) : S' a = none ∧ Rd H' a u := by
  obtain ⟨h0, h | ⟨o, h⟩⟩ := h
  · obtain ⟨q1, q2⟩ := f a _ h0 h
    exact ⟨q1, .inl q2⟩
  · obtain ⟨q1, q2⟩ := f a _ h0 h
    exact ⟨q1, .inr ⟨o, q2⟩⟩
theorem TupA.fr0 (f : Fr0 S H S' H') (h : TupA Γ S H a vs) : TupA Γ S' H' a vs := h.imp (Rd.fr0 f) id
theorem ScA.fr0 (f : Fr0 S H S' H') (h : ScA Γ S H a vs) : ScA Γ S' H' a vs := h.imp (Rd.fr0 f) id
theorem RlA.fr0 (f : Fr0 S H S' H') (h : RlA S H a vs) : RlA S' H' a vs := f a _ h.1 h.2
theorem Rd.fr (f : Fr S H S' H') {u : HO} (h : S a = none ∧ Rd H a u) : S' a = none ∧ Rd H' a u := Rd.fr0 f.1 h
theorem TupA.fr (f : Fr S H S' H') (h : TupA Γ S H a vs) : TupA Γ S' H' a vs := h.fr0 f.1
theorem ScA.fr (f : Fr S H S' H') (h : ScA Γ S H a vs) : ScA Γ S' H' a vs := h.fr0 f.1
theorem RlA.fr (f : Fr S H S' H') (h : RlA S H a vs) : RlA S' H' a vs := h.fr0 f.1
theorem TupA.sq (h : TupA Γ S H a vs) : SqT Γ.K H a vs := h.imp (fun q => q.2) id
theorem ScA.sq (h : ScA Γ S H a vs) : SqL Γ.K H a vs := h.imp (fun q => q.2) id
theorem RlA.sq (h : RlA S H a vs) : SqL Γ.K H a vs := .inl (.inl h.2)
theorem xdR.fr0 (f : Fr0 S H S' H') {ks : List (List Nat)} {d : Option Addr} (h : xdR S H ks d vs) : xdR S' H' ks d vs := by
  rcases h with h | ⟨dd, e, h1, h2⟩
  · exact .inl h
  · obtain ⟨q1, q2⟩ := f dd _ h1 h2
    exact .inr ⟨dd, e, q1, q2⟩
mutual
theorem rep.fr0 (f : Fr0 S H S' H') : ∀ (w : W) (v : V), rep Γ S H w v → rep Γ S' H' w v
  | .non, _, h => h
  | .bl _, _, h => h
  | .int _, _, h => h
  | .str _, _, h => h
  | .tup ws, v, ⟨a, vs, e, q, r⟩ => ⟨a, vs, e, q.fr0 f, reps.fr0 f ws vs r⟩
  | .rl ws, v, ⟨a, vs, e, q, r⟩ => ⟨a, vs, e, q.fr0 f, reps.fr0 f ws vs r⟩
  | .sc ws, v, ⟨a, vs, e, q, r⟩ => ⟨a, vs, e, q.fr0 f, reps.fr0 f ws vs r⟩
  | .ref _, _, h => h
  | .fn _, _, h => h
  | .dct ks ws, v, ⟨a, vs, e, q, l, r⟩ => ⟨a, vs, e, f a _ q.1 q.2, l, reps.fr0 f ws vs r⟩
  | .obj c ks ws, v, ⟨a, dx, vs, e, q, l, r⟩ => ⟨a, dx, vs, e, f a _ q.1 q.2, l, reps.fr0 f ws vs r⟩
  | .exn c ks ws, v, ⟨a, d, vs, e, q, x, l, r⟩ => ⟨a, d, vs, e, f a _ q.1 q.2, x.fr0 f, l, reps.fr0 f ws vs r⟩
theorem reps.fr0 (f : Fr0 S H S' H') : ∀ (ws : List W) (vs : List V), reps Γ S H ws vs → reps Γ S' H' ws vs
  | [], _, h => h
  | w :: ws, vs, ⟨v, r, e, q, t⟩ => ⟨v, r, e, rep.fr0 f w v q, reps.fr0 f ws r t⟩
end
theorem rep.fr (f : Fr S H S' H') (w : W) (v : V) (h : rep Γ S H w v) : rep Γ S' H' w v := rep.fr0 f.1 w v h
theorem reps.fr (f : Fr S H S' H') (ws : List W) (vs : List V) (h : reps Γ S H ws vs) : reps Γ S' H' ws vs := reps.fr0 f.1 ws vs h
theorem reps.len : ∀ {ws : List W} {vs : List V}, reps Γ S H ws vs → ws.length = vs.length
  | [], _, h => by cases h; rfl
  | w :: ws, _, ⟨v, r, rfl, _, t⟩ => by simp [reps.len t]
theorem reps.get : ∀ {ws : List W} {vs : List V} {i : Nat} {w : W}, reps Γ S H ws vs → ws[i]? = some w → ∃ v, vs[i]? = some v ∧ rep Γ S H w v
  | [], _, _, _, _, h => by simp at h
  | w :: ws, _, 0, w', ⟨v, r, rfl, q, t⟩, h => by simp at h; subst h; exact ⟨v, rfl, q⟩
  | w :: ws, _, i + 1, w', ⟨v, r, rfl, q, t⟩, h => by
    obtain ⟨u, h1, h2⟩ := reps.get (i := i) t (by simpa using h)
    exact ⟨u, by simpa using h1, h2⟩
theorem reps.app : ∀ {ws us : List W} {vs xs : List V}, reps Γ S H ws vs → reps Γ S H us xs → reps Γ S H (ws ++ us) (vs ++ xs)
  | [], _, _, _, h, q => by cases h; exact q
  | w :: ws, _, _, _, ⟨v, r, rfl, q, t⟩, h => ⟨v, _, rfl, q, reps.app t h⟩
theorem reps.one {w : W} {v : V} (h : rep Γ S H w v) : reps Γ S H [w] [v] := ⟨v, [], rfl, h, rfl⟩
theorem reps.take : ∀ (n : Nat) {ws : List W} {vs : List V}, reps Γ S H ws vs → reps Γ S H (ws.take n) (vs.take n)
  | 0, _, _, _ => rfl
  | n + 1, [], _, h => by cases h; rfl
  | n + 1, w :: ws, _, ⟨v, r, rfl, q, t⟩ => ⟨v, _, rfl, q, reps.take n t⟩
theorem reps.drop : ∀ (n : Nat) {ws : List W} {vs : List V}, reps Γ S H ws vs → reps Γ S H (ws.drop n) (vs.drop n)
  | 0, _, _, h => h
  | n + 1, [], _, h => by cases h; rfl
  | n + 1, w :: ws, _, ⟨v, r, rfl, q, t⟩ => reps.drop n t
theorem reps.cut {ws : List W} {vs : List V} (h : reps Γ S H ws vs) (lo hi : Option Int) : reps Γ S H (cutW ws lo hi) (cutV vs lo hi) := by
  unfold cutW cutV
  rw [h.len]
  exact reps.take _ (reps.drop _ h)
theorem reps.rev : ∀ {ws : List W} {vs : List V}, reps Γ S H ws vs → reps Γ S H ws.reverse vs.reverse
  | [], _, h => by cases h; rfl
  | w :: ws, _, ⟨v, r, rfl, q, t⟩ => by
    rw [List.reverse_cons, List.reverse_cons]
    exact (reps.rev t).app (reps.one q)
theorem reps.set : ∀ {ws : List W} {vs : List V} (i : Nat) {w : W} {v : V}, reps Γ S H ws vs → rep Γ S H w v → reps Γ S H (ws.set i w) (vs.set i v)
  | [], _, _, _, _, h, _ => by cases h; rfl
  | x :: ws, _, 0, w, v, ⟨u, r, rfl, q, t⟩, h => ⟨v, r, rfl, h, t⟩
  | x :: ws, _, i + 1, w, v, ⟨u, r, rfl, q, t⟩, h => ⟨u, _, rfl, q, reps.set i t h⟩
theorem reps.dropLast {ws : List W} {vs : List V} (h : reps Γ S H ws vs) : reps Γ S H ws.dropLast vs.dropLast := by
  rw [List.dropLast_eq_take, List.dropLast_eq_take, h.len]
  exact reps.take _ h

/-- an object of the store -/
def orep (Γ : Gm) (S : Sto) (H : Hp) (a : Addr) : O → Prop
  | .lst ws => ∃ vs, H a = some (.lst vs) ∧ reps Γ S H ws vs
  | .dic ks ws => ∃ vs, H a = some (.dK (dkz ks vs)) ∧ ks.length = ws.length ∧ reps Γ S H ws vs
  | .ins c ks ws => ∃ (dx : Addr) (vs : List V), H a = some (.ins (Γ.ca c) dx (insz ks vs)) ∧ (ks.length = ws.length ∧ IC Γ c ks) ∧ reps Γ S H ws vs
  | .hid => ∃ o, H a = some o
def SR (Γ : Gm) (S : Sto) (H : Hp) : Prop := ∀ a o, S a = some o → orep Γ S H a o
theorem orep.fr0 (f : Fr0 S H S' H') (e : H' a = H a) : ∀ {o : O}, orep Γ S H a o → orep Γ S' H' a o
  | .lst ws, ⟨vs, h, r⟩ => ⟨vs, e.trans h, reps.fr0 f ws vs r⟩
  | .dic ks ws, ⟨vs, h, l, r⟩ => ⟨vs, e.trans h, l, reps.fr0 f ws vs r⟩
  | .ins c ks ws, ⟨dx, vs, h, l, r⟩ => ⟨dx, vs, e.trans h, l, reps.fr0 f ws vs r⟩
  | .hid, ⟨vs, h⟩ => ⟨vs, e.trans h⟩
theorem orep.there : ∀ {o : O}, orep Γ S H a o → H a ≠ none
  | .lst ws, ⟨vs, h, r⟩ => by rw [h]; simp
  | .dic ks ws, ⟨vs, h, _⟩ => by rw [h]; simp
  | .ins c ks ws, ⟨dx, vs, h, _⟩ => by rw [h]; simp
  | .hid, ⟨vs, h⟩ => by rw [h]; simp
theorem SR.nil (h : SR Γ S H) (e : H p = none) : S p = none := by
  cases q : S p with
  | none => rfl
  | some o => exact absurd e (h p o q).there
theorem SR.step0 (h : SR Γ S H) (f : Fr0 S H S' H') (k : ∀ a o, S' a = some o → (S a = some o ∧ H' a = H a) ∨ orep Γ S' H' a o) : SR Γ S' H' := fun a o e => by
  rcases k a o e with ⟨e1, e2⟩ | q
  · exact (h a o e1).fr0 f e2
  · exact q
theorem SR.step (h : SR Γ S H) (f : Fr S H S' H') (k : ∀ a o, S' a = some o → (S a = some o ∧ H' a = H a) ∨ orep Γ S' H' a o) : SR Γ S' H' := h.step0 f.1 k
theorem Sto.set_same {o : O} : Sto.set S a o a = some o := by unfold Sto.set; rw [if_pos rfl]
theorem Sto.set_ne {o : O} {b : Addr} (h : b ≠ a) : Sto.set S a o b = S b := by unfold Sto.set; rw [if_neg h]
theorem Sto.set_set {o u : O} : Sto.set (Sto.set S a o) a u = Sto.set S a u := by funext b; unfold Sto.set; split <;> rfl
/-- a new object that the store doesn't know -/
theorem Fr.new {o : HO} (e : H p = none) : Fr S H S (upd H p o) := ⟨fun a u h1 h2 => ⟨h1, by rw [upd_ne (ne_of_none h2 e)]; exact h2⟩, fun a u h1 h2 => ⟨h1, by rw [upd_ne (ne_of_none h2 e)]; exact h2⟩⟩
theorem SR.new {o : HO} (h : SR Γ S H) (e : H p = none) : SR Γ S (upd H p o) := h.step (Fr.new e) fun a u q => .inl ⟨q, upd_ne fun z => by subst z; exact (h _ u q).there e⟩
/-- a new list in the store -/
theorem Fr.newS {o : HO} {u : O} (e : H p = none) : Fr S H (S.set p u) (upd H p o) := by
  refine ⟨fun a x h1 h2 => ?_, fun a x h1 h2 => ?_⟩
  · have n := ne_of_none h2 e
    exact ⟨by rw [Sto.set_ne n]; exact h1, by rw [upd_ne n]; exact h2⟩
  · have n := ne_of_none h2 e
    exact ⟨by rw [Sto.set_ne n]; exact h1, by rw [upd_ne n]; exact h2⟩
theorem SR.newL {ws : List W} (h : SR Γ S H) (e : H p = none) (r : reps Γ S H ws vs) : SR Γ (S.set p (.lst ws)) (upd H p (.lst vs)) := h.step (Fr.newS e) fun a u q => by
  by_cases n : a = p
  · subst n
    rw [Sto.set_same] at q
    cases q
    exact .inr ⟨vs, upd_same, reps.fr (Fr.newS e) _ _ r⟩
  · rw [Sto.set_ne n] at q
    exact .inl ⟨q, upd_ne n⟩
/-- a list of the store is changed -/
theorem Fr0.wr {o : HO} {u u' : O} (e : S p = some u) : Fr0 S H (S.set p u') (upd H p o) := fun a x h1 h2 => by
  have n : a ≠ p := fun z => by subst z; rw [e] at h1; cases h1
  exact ⟨by rw [Sto.set_ne n]; exact h1, by rw [upd_ne n]; exact h2⟩
theorem Fr.wr {o : HO} {u u' : O} (e : S p = some u) (hu : u ≠ .hid := by intro h; cases h) : Fr S H (S.set p u') (upd H p o) := ⟨Fr0.wr e, fun a x h1 h2 => by
  have n : a ≠ p := fun z => by subst z; rw [e] at h1; cases h1; exact hu rfl
  exact ⟨by rw [Sto.set_ne n]; exact h1, by rw [upd_ne n]; exact h2⟩⟩
theorem SR.wrL {u : O} {ws : List W} (h : SR Γ S H) (e : S p = some u) (r : reps Γ S H ws vs) : SR Γ (S.set p (.lst ws)) (upd H p (.lst vs)) := h.step0 (Fr0.wr e) fun a x q => by
  by_cases n : a = p
  · subst n
    rw [Sto.set_same] at q
    cases q
    exact .inr ⟨vs, upd_same, reps.fr0 (Fr0.wr e) _ _ r⟩
  · rw [Sto.set_ne n] at q
    exact .inl ⟨q, upd_ne n⟩
theorem orep.new {o : HO} {u : O} (h : SR Γ S H) (e : H p = none) (r : orep Γ (S.set p u) (upd H p o) p u) : SR Γ (S.set p u) (upd H p o) := h.step (Fr.newS e) fun a x q => by
  by_cases n : a = p
  · subst n
    rw [Sto.set_same] at q
    cases q
    exact .inr r
  · rw [Sto.set_ne n] at q
    exact .inl ⟨q, upd_ne n⟩
theorem orep.wr {o : HO} {u u' : O} (h : SR Γ S H) (e : S p = some u) (r : orep Γ (S.set p u') (upd H p o) p u') : SR Γ (S.set p u') (upd H p o) := h.step0 (Fr0.wr e) fun a x q => by
  by_cases n : a = p
  · subst n
    rw [Sto.set_same] at q
    cases q
    exact .inr r
  · rw [Sto.set_ne n] at q
    exact .inl ⟨q, upd_ne n⟩
/-- a list that is made meanwhile -/
theorem SR.hide {o : HO} (h : SR Γ S H) (e : H p = none) : SR Γ (S.set p .hid) (upd H p o) := h.step (Fr.newS e) fun a u q => by
  by_cases n : a = p
  · subst n
    rw [Sto.set_same] at q
    cases q
    exact .inr ⟨_, upd_same⟩
  · rw [Sto.set_ne n] at q
    exact .inl ⟨q, upd_ne n⟩
theorem Fr0.hid {o : HO} (e : S p = some .hid) : Fr0 S H S (upd H p o) := fun a x h1 h2 => by
  have n : a ≠ p := fun z => by subst z; rw [e] at h1; cases h1
  exact ⟨h1, by rw [upd_ne n]; exact h2⟩
theorem SR.hid {o : HO} (h : SR Γ S H) (e : S p = some .hid) : SR Γ S (upd H p o) := h.step0 (Fr0.hid e) fun a x q => by
  by_cases n : a = p
  · subst n
    rw [e] at q
    cases q
    exact .inr ⟨_, upd_same⟩
  · exact .inl ⟨q, upd_ne n⟩
theorem Sto.del_same : Sto.del S p p = none := by unfold Sto.del; rw [if_pos rfl]
/-- what is let go -/
theorem Fr.sub (s : Sub S' S) : Fr S H S' H := by
  refine ⟨fun a o h1 h2 => ⟨?_, h2⟩, fun a o h1 h2 => ⟨s.2 a h1, h2⟩⟩
  cases q : S' a with
  | none => rfl
  | some u => rw [s.1 a u q] at h1; cases h1
theorem SR.sub (h : SR Γ S H) (s : Sub S' S) : SR Γ S' H := h.step (Fr.sub s) fun a o q => .inl ⟨s.1 a o q, rfl⟩
theorem Fz.rep {w w' : W} {v : V} (z : Fz S w w' S') (h : SR Γ S H) (r : rep Γ S H w v) : rep Γ S' H w' v ∧ SR Γ S' H ∧ Fr S H S' H := by
  obtain ⟨s, e⟩ := z
  refine ⟨?_, h.sub s, Fr.sub s⟩
  rcases e with rfl | ⟨a, rfl, e2, ⟨ws, e1, rfl⟩ | ⟨ks, ws, e1, rfl⟩ | ⟨c, ks, ws, e1, rfl⟩⟩
  · exact rep.fr (Fr.sub s) _ _ r
  · obtain ⟨vs, h1, h2⟩ := h a _ e1
    exact ⟨a, vs, r, ⟨e2, h1⟩, reps.fr (Fr.sub s) _ _ h2⟩
  · obtain ⟨vs, h1, hl, h2⟩ := h a _ e1
    exact ⟨a, vs, r, ⟨e2, h1⟩, hl, reps.fr (Fr.sub s) _ _ h2⟩
  · obtain ⟨dx, vs, h1, hl, h2⟩ := h a _ e1
    exact ⟨a, dx, vs, r, ⟨e2, h1⟩, hl, reps.fr (Fr.sub s) _ _ h2⟩

/-! ### the names' values -/
def envR (Γ : Gm) (S : Sto) (H : Hp) (env : Env) (σ : L2.St) : Prop := env.length = σ.length ∧ ∀ (i : Nat) (w : W), env[i]? = some (some w) → ∃ v, σ[i]? = some (some v) ∧ rep Γ S H w v
variable {env : Env} {σ : L2.St}
theorem envR.fr (f : Fr S H S' H') (h : envR Γ S H env σ) : envR Γ S' H' env σ := ⟨h.1, fun i w e => let ⟨v, h1, h2⟩ := h.2 i w e; ⟨v, h1, rep.fr f _ _ h2⟩⟩
theorem envR.set (h : envR Γ S H env σ) (i : Nat) {w : W} {v : V} (r : rep Γ S H w v) : envR Γ S H (env.set i (some w)) (σ.set i (some v)) := by
  refine ⟨by simp [h.1], fun j x e => ?_⟩
  by_cases hj : i = j
  · subst hj
    have hi : i < env.length := by
      by_cases hi : i < env.length
      · exact hi
      · rw [List.getElem?_eq_none (by simpa using hi)] at e; cases e
    rw [List.getElem?_set_self hi] at e
    cases e
    exact ⟨v, by rw [List.getElem?_set_self (by rw [← h.1]; exact hi)], r⟩
  · rw [List.getElem?_set_ne hj] at e
    obtain ⟨u, h1, h2⟩ := h.2 j x e
    exact ⟨u, by rw [List.getElem?_set_ne hj]; exact h1, h2⟩
theorem envR.clr (h : envR Γ S H env σ) (i : Nat) : envR Γ S H (env.set i none) (σ.set i none) := by
  refine ⟨by simp [h.1], fun j x e => ?_⟩
  by_cases hj : i = j
  · subst hj
    by_cases hi : i < env.length
    · rw [List.getElem?_set_self hi] at e; cases e
    · rw [List.getElem?_eq_none (by simpa using hi)] at e; cases e
  · rw [List.getElem?_set_ne hj] at e
    obtain ⟨u, h1, h2⟩ := h.2 j x e
    exact ⟨u, by rw [List.getElem?_set_ne hj]; exact h1, h2⟩
theorem envR.wipe (h : envR Γ S H env σ) : ∀ vs : List Nat, envR Γ S H (wipeE env vs) (L2.wipe σ vs)
  | [] => h
  | v :: vs => (envR.wipe h vs).clr v
theorem reps.getS : ∀ {ws : List W} {vs : List V} {i : Nat} {w : W}, reps Γ S H ws vs → (ws.map some)[i]? = some (some w) → ∃ v, (vs.map some)[i]? = some (some v) ∧ rep Γ S H w v := fun {ws vs i w} h e => by
  rw [List.getElem?_map] at e
  cases q : ws[i]? with
  | none => rw [q] at e; cases e
  | some x =>
    rw [q] at e
    cases e
    obtain ⟨v, h1, h2⟩ := h.get q
    exact ⟨v, by rw [List.getElem?_map, h1]; rfl, h2⟩

/-! ### what is wanted behind -/
def KQ (Γ : Gm) (S : Sto) (H : Hp) (QW : VQ) (Q : VK) : Prop := ∀ w S' v H', rep Γ S' H' w v → SR Γ S' H' → Fr S H S' H' → QW w S' → Q v H'
def xrep (Γ : Gm) (S : Sto) (H : Hp) (x : Xn) (cls : Value) (d : Option Addr) : Prop :=
  cls = .ref (Γ.ca x.c) ∧ (x.ks.length = x.ws.length ∧ XC Γ x.c x.ks) ∧ ∃ vs, xdR S H x.ks d vs ∧ reps Γ S H x.ws vs
def KX (Γ : Gm) (S : Sto) (H : Hp) (XW : XQ) (X : XK) : Prop := ∀ x S' cls d H', xrep Γ S' H' x cls d → SR Γ S' H' → Fr S H S' H' → XW x S' → X cls d H'
theorem KQ.fr {QW : VQ} {Q : VK} (f : Fr S H S' H') (k : KQ Γ S H QW Q) : KQ Γ S' H' QW Q := fun w S2 v H2 r s f2 q => k w S2 v H2 r s (f.trans f2) q
theorem KX.fr {XW : XQ} {X : XK} (f : Fr S H S' H') (k : KX Γ S H XW X) : KX Γ S' H' XW X := fun x S2 c d H2 r s f2 q => k x S2 c d H2 r s (f.trans f2) q
end
end Bw

/-! Ev3: the operators, by HandS's rules. -/
namespace Bw
open PySem L2 PySem.Spec PyProof.Rows

theorem str_app (a b : List Nat) : ((⟨a.toArray⟩ : Str) ++ (⟨b.toArray⟩ : Str)) = ⟨(a ++ b).toArray⟩ := by
  show Str.append _ _ = _
  unfold Str.append
  simp
theorem str_len (a : List Nat) : (⟨a.toArray⟩ : Str).length = a.length := by simp [Str.length]
theorem okStr_app {a b : List Nat} (h : okStr a = true) (k : okStr b = true) : okStr (a ++ b) = true := by
  unfold okStr at *
  rw [List.all_append, h, k]; rfl

section
variable {X : Cx} {Γ : Gm} {S : Sto} {H : Hp} {QW : VQ} {Q : VK}

theorem mkL_ok {fz : Bool} {ws : List W} {vs : List V} (h : mkL fz ws S QW) (r : reps Γ S H ws vs) (s : SR Γ S H) (k : KQ Γ S H QW Q) : ∀ p, H p = none → Q (.ref p) (upd H p (.lst vs)) := fun p e => by
  unfold mkL at h
  split at h
  · exact k (.rl ws) S (.ref p) _ ⟨p, vs, rfl, ⟨s.nil e, upd_same⟩, reps.fr (Fr.new e) _ _ r⟩ (s.new e) (Fr.new e) h
  · exact k (.ref p) _ (.ref p) _ rfl (s.newL e r) (Fr.newS e) (h p (s.nil e))
theorem tup_ok {ws : List W} {vs : List V} (h : QW (.tup ws) S) (r : reps Γ S H ws vs) (s : SR Γ S H) (k : KQ Γ S H QW Q) : ∀ p, H p = none → Q (.ref p) (upd H p (.tup vs)) := fun p e =>
  k (.tup ws) S (.ref p) _ ⟨p, vs, rfl, .inl ⟨s.nil e, .inl upd_same⟩, reps.fr (Fr.new e) _ _ r⟩ (s.new e) (Fr.new e) h
theorem KQ.here {w : W} {v : V} (k : KQ Γ S H QW Q) (s : SR Γ S H) (r : rep Γ S H w v) (h : QW w S) : Q v H := k w S v H r s (Fr.refl _ _) h

theorem deref_ref {a : Addr} : deref S (.ref a) = (match S a with | some (.lst ws) => W.rl ws | _ => .ref a) := rfl
theorem lst_rep {x : W} {v : V} {ws : List W} (h : lstOf S x = some ws) (r : rep Γ S H x v) (s : SR Γ S H) : ∃ p vs, v = .ref p ∧ H p = some (.lst vs) ∧ reps Γ S H ws vs := by
  unfold lstOf at h
  cases x with
  | rl ws' =>
    simp only [deref] at h
    cases h
    obtain ⟨a, vs, e, q, t⟩ := r
    exact ⟨a, vs, e, q.2, t⟩
  | ref a =>
    rw [deref_ref] at h
    cases q : S a with
    | none => rw [q] at h; simp at h
    | some o =>
      cases o with
      | lst us =>
        rw [q] at h
        simp at h
        subst h
        obtain ⟨vs, h1, h2⟩ := s a _ q
        exact ⟨a, vs, r, h1, h2⟩
      | dic _ _ => rw [q] at h; simp at h
      | ins _ _ _ => rw [q] at h; simp at h
      | hid => rw [q] at h; simp at h
  | _ => simp [deref] at h
theorem seq_rep {x : W} {v : V} {ws : List W} (h : seqOf S x = some ws) (r : rep Γ S H x v) (s : SR Γ S H) : ∃ p vs, v = .ref p ∧ (SqL Γ.K H p vs ∨ SqT Γ.K H p vs) ∧ reps Γ S H ws vs := by
  unfold seqOf at h
  cases x with
  | tup ws' =>
    simp only [deref] at h
    cases h
    obtain ⟨a, vs, e, q, t⟩ := r
    exact ⟨a, vs, e, .inr q.sq, t⟩
  | sc ws' =>
    simp only [deref] at h
    cases h
    obtain ⟨a, vs, e, q, t⟩ := r
    exact ⟨a, vs, e, .inl q.sq, t⟩
  | rl ws' =>
    simp only [deref] at h
    cases h
    obtain ⟨a, vs, e, q, t⟩ := r
    exact ⟨a, vs, e, .inl q.sq, t⟩
  | ref a =>
    rw [deref_ref] at h
    cases q : S a with
    | none => rw [q] at h; simp at h
    | some o =>
      cases o with
      | lst us =>
        rw [q] at h
        simp at h
        subst h
        obtain ⟨vs, h1, h2⟩ := s a _ q
        exact ⟨a, vs, r, .inl (.inl (.inl h1)), h2⟩
      | dic _ _ => rw [q] at h; simp at h
      | ins _ _ _ => rw [q] at h; simp at h
      | hid => rw [q] at h; simp at h
  | _ => simp [deref] at h

/-! ### dicts -/
theorem keyV_inj {a b : Ky} (h : keyV a = keyV b) : a = b := by
  cases a with
  | inl i => cases b with
    | inl j => injection h with h; rw [h]
    | inr z => cases h
  | inr y => cases b with
    | inl j => cases h
    | inr z =>
      have h : (Sum.inr (⟨y.toArray⟩ : Str) : Key) = Sum.inr ⟨z.toArray⟩ := h
      injection h with h
      injection h with h
      have : y = z := by simpa using h
      rw [this]
theorem key_rep {y : W} {u : V} {k : Ky} (h : kyOf y = some k) (r : rep Γ S H y u) : u = kV (keyV k) := by
  cases y with
  | int i => cases h; cases r; rfl
  | str z => cases h; exact r.1
  | _ => cases h
theorem dkz_val : ∀ {ks : List Ky} {ws : List W} {vs : List V} {S : Sto} {H : Hp} (z : Ky), ks.length = ws.length → reps Γ S H ws vs →
    (∀ w, lookD ks ws z = some w → ∃ v, valV (dkz ks vs) (keyV z) = some v ∧ rep Γ S H w v) ∧ (lookD ks ws z = none → valV (dkz ks vs) (keyV z) = none)
  | [], [], vs, S, H, z, _, r => by cases r; exact ⟨fun w h => by simp [lookD] at h, fun _ => rfl⟩
  | [], _ :: _, _, _, _, _, h, _ => by simp at h
  | _ :: _, [], _, _, _, _, h, _ => by simp at h
  | k :: ks, w :: ws, _, S, H, z, hl, ⟨v, vr, rfl, q, t⟩ => by
    have ih := dkz_val (ks := ks) (ws := ws) z (by simpa using hl) t
    by_cases e : k = z
    · subst e
      refine ⟨fun w' h => ?_, fun h => ?_⟩
      · simp only [lookD, if_pos rfl] at h
        cases h
        exact ⟨v, valV_pos rfl, q⟩
      · simp [lookD] at h
    · have e2 : ¬ keyV k = keyV z := fun h => e (keyV_inj h)
      refine ⟨fun w' h => ?_, fun h => ?_⟩
      · simp only [lookD, if_neg e] at h
        obtain ⟨v', h1, h2⟩ := ih.1 w' h
        exact ⟨v', (valV_neg e2).trans h1, h2⟩
      · simp only [lookD, if_neg e] at h
        exact (valV_neg e2).trans (ih.2 h)
theorem dic_rep {x : W} {v : V} {p : List Ky × List W} (h : dicOf S x = some p) (r : rep Γ S H x v) (s : SR Γ S H) : ∃ a vs, v = .ref a ∧ H a = some (.dK (dkz p.1 vs)) ∧ p.1.length = p.2.length ∧ reps Γ S H p.2 vs := by
  cases x with
  | dct ks ws =>
    cases h
    obtain ⟨a, vs, e, q, l, t⟩ := r
    exact ⟨a, vs, e, q.2, l, t⟩
  | ref a =>
    cases q : S a with
    | none => simp only [dicOf, q] at h; cases h
    | some o =>
      cases o with
      | dic ks ws =>
        simp only [dicOf, q] at h
        cases h
        obtain ⟨vs, h1, l, h2⟩ := s a _ q
        exact ⟨a, vs, r, h1, l, h2⟩
      | _ => simp only [dicOf, q] at h; cases h
  | _ => cases h
theorem dic_get {x y : W} {v u : V} {p : List Ky × List W} {k : Ky} (h : dicOf S x = some p) (hk : kyOf y = some k) (r : rep Γ S H x v) (q : rep Γ S H y u) (s : SR Γ S H) :
    ∃ a o, v = .ref a ∧ DGet H a u o ∧ (∀ w, lookD p.1 p.2 k = some w → ∃ t, o = some t ∧ rep Γ S H w t) ∧ (lookD p.1 p.2 k = none → o = none) := by
  obtain ⟨a, vs, rfl, hh, hl, rr⟩ := dic_rep h r s
  obtain ⟨h1, h2⟩ := dkz_val (Γ := Γ) k hl rr
  rw [key_rep hk q]
  exact ⟨a, valV (dkz p.1 vs) (keyV k), rfl, DGet.k (k := keyV k) hh, h1, h2⟩
theorem repD_rep : ∀ {ks : List Ky} {ws : List W} {vs : List V} {z : Ky} {w : W} {v : V}, ks.length = ws.length → reps Γ S H ws vs → rep Γ S H w v →
    ∃ vs', ((dkz ks vs).map fun kv => if kv.1 = keyV z then (kv.1, v) else kv) = dkz ks vs' ∧ ks.length = (repD ks ws z w).length ∧ reps Γ S H (repD ks ws z w) vs'
  | [], [], vs, z, w, v, _, r, _ => by cases r; exact ⟨[], rfl, rfl, rfl⟩
  | [], _ :: _, _, _, _, _, h, _, _ => by simp at h
  | _ :: _, [], _, _, _, _, h, _, _ => by simp at h
  | k :: ks, x :: ws, _, z, w, v, hl, ⟨u, vr, rfl, q, t⟩, rw => by
    obtain ⟨vs', h1, h2, h3⟩ := repD_rep (ks := ks) (ws := ws) (z := z) (by simpa using hl) t rw
    by_cases e : k = z
    · subst e
      refine ⟨v :: vs', ?_, by simp [repD, h2], ⟨v, vs', rfl, by rw [if_pos rfl]; exact rw, h3⟩⟩
      show (if keyV k = keyV k then (keyV k, v) else (keyV k, u)) :: (dkz ks vr).map _ = (keyV k, v) :: dkz ks vs'
      rw [if_pos rfl, h1]
    · refine ⟨u :: vs', ?_, by simp [repD, h2], ⟨u, vs', rfl, by rw [if_neg e]; exact q, h3⟩⟩
      show (if keyV k = keyV z then (keyV k, v) else (keyV k, u)) :: (dkz ks vr).map _ = (keyV k, u) :: dkz ks vs'
      rw [if_neg (fun h => e (keyV_inj h)), h1]
theorem dkz_keys : ∀ {ks : List Ky} {vs : List V}, ks.length = vs.length → (dkz ks vs).map (·.1) = ks.map keyV
  | [], [], _ => rfl
  | [], _ :: _, h => by simp at h
  | _ :: _, [], h => by simp at h
  | k :: ks, v :: vs, h => by
    show keyV k :: (dkz ks vs).map (·.1) = _
    rw [dkz_keys (by simpa using h)]; rfl
theorem dkz_len {ks : List Ky} {vs : List V} (h : ks.length = vs.length) : (dkz ks vs).length = ks.length := by
  have := congrArg List.length (dkz_keys h)
  simpa using this
theorem dkz_snoc : ∀ {ks : List Ky} {vs : List V} {z : Ky} {v : V}, ks.length = vs.length → dkz ks vs ++ [(keyV z, v)] = dkz (ks ++ [z]) (vs ++ [v])
  | [], [], _, _, _ => rfl
  | [], _ :: _, _, _, h => by simp at h
  | _ :: _, [], _, _, h => by simp at h
  | k :: ks, v :: vs, z, u, h => by
    show (keyV k, v) :: (dkz ks vs ++ [(keyV z, u)]) = _
    rw [dkz_snoc (by simpa using h)]; rfl
theorem putD_rep {ks : List Ky} {ws : List W} {vs : List V} {z : Ky} {w : W} {v : V} (hl : ks.length = ws.length) (r : reps Γ S H ws vs) (rw : rep Γ S H w v) :
    ∃ vs', putK (dkz ks vs) (keyV z) v = dkz (putD ks ws z w).1 vs' ∧ (putD ks ws z w).1.length = (putD ks ws z w).2.length ∧ reps Γ S H (putD ks ws z w).2 vs' := by
  have hv : ks.length = vs.length := hl.trans r.len
  have any : ((dkz ks vs).any fun kv => decide (kv.1 = keyV z)) = ks.any fun k => decide (k = z) := by
    have e : ((dkz ks vs).any fun kv => decide (kv.1 = keyV z)) = ((dkz ks vs).map (·.1)).any fun k => decide (k = keyV z) := by rw [List.any_map]; rfl
    rw [e, dkz_keys hv, List.any_map]
    congr 1
    funext k
    show decide (keyV k = keyV z) = decide (k = z)
    by_cases h : k = z
    · rw [h, decide_eq_true rfl, decide_eq_true rfl]
    · rw [decide_eq_false h, decide_eq_false fun q => h (keyV_inj q)]
  unfold putK putD
  rw [any]
  by_cases h : (ks.any fun k => decide (k = z)) = true
  · rw [if_pos h, if_pos h]
    obtain ⟨vs', h1, h2, h3⟩ := repD_rep (z := z) hl r rw
    exact ⟨vs', h1, h2, h3⟩
  · rw [if_neg h, if_neg h]
    exact ⟨vs ++ [v], dkz_snoc hv, by simp [hl], r.app (reps.one rw)⟩
/-! ### binary operators -/
def bopOf : BOp → Operator
  | .add _ => .Add
  | .sub => .Sub
  | .mul _ => .Mult
  | .fdiv => .FloorDiv
  | .mod => .Mod
  | .pow => .Pow
  | .shl => .LShift
  | .shr => .RShift
  | .band => .BitAnd
  | .bor => .BitOr
  | .bxor => .BitXor
def rB (Γ : Gm) (o : BOp) : R2 := fun v u H Q => ∃ x y S QW, rep Γ S H x v ∧ rep Γ S H y u ∧ SR Γ S H ∧ wBin o x y S QW ∧ KQ Γ S H QW Q
theorem wInts_el {x y : W} {P : Int → Int → Prop} (h : wInts x y P) : ∃ i j, x = .int i ∧ y = .int j ∧ P i j := by
  unfold wInts at h
  split at h
  · exact ⟨_, _, rfl, rfl, h⟩
  · exact h.elim
theorem opI_of {f : Value → Value → Sem Value} {Cd : Int → Int → Prop} {g : Int → Int → V} {g' : Int → Int → W} (op : OpR X f (rI Cd g)) {pins : List (Addr × Obj)} {s : Shared} {σ : L2.St} {x y : V} {v u : Value} (I : Inv X pins σ H s) (rx : RelV x v) (ry : RelV y u)
    {a b : W} (ra : rep Γ S H a x) (rb : rep Γ S H b y) (hs : SR Γ S H) (k : KQ Γ S H QW Q) (hg : ∀ i j, rep Γ S H (g' i j) (g i j)) (h : wInts a b fun i j => Cd i j ∧ QW (g' i j) S) :
    wpAny (model X.prog X.w) X.A (f v u) (EP X pins σ Q) X.xe s := by
  obtain ⟨i, j, rfl, rfl, hc, q⟩ := wInts_el h
  exact op pins s σ H x y v u Q I rx ry ⟨i, j, ra, rb, hc, k.here hs (hg i j) q⟩
theorem opI0_of {f : Value → Value → Sem Value} {g : Int → Int → V} {g' : Int → Int → W} (op : OpR X f (rI0 g)) {pins : List (Addr × Obj)} {s : Shared} {σ : L2.St} {x y : V} {v u : Value} (I : Inv X pins σ H s) (rx : RelV x v) (ry : RelV y u)
    {a b : W} (ra : rep Γ S H a x) (rb : rep Γ S H b y) (hs : SR Γ S H) (k : KQ Γ S H QW Q) (hg : ∀ i j, rep Γ S H (g' i j) (g i j)) (h : wInts a b fun i j => QW (g' i j) S) :
    wpAny (model X.prog X.w) X.A (f v u) (EP X pins σ Q) X.xe s := by
  obtain ⟨i, j, rfl, rfl, q⟩ := wInts_el h
  exact op pins s σ H x y v u Q I rx ry ⟨i, j, ra, rb, k.here hs (hg i j) q⟩
theorem op_mul2 : OpR X (binaryOp .Mult) (rI (fun i j => CMul i j ∨ CMulW i j) fun i j => .int (i * j)) := by
  intro pins s σ H x y v u Q I rx ry h
  obtain ⟨i, j, rfl, rfl, hc | hc, q⟩ := h
  · exact op_mul pins s σ H _ _ v u Q I rx ry ⟨i, j, rfl, rfl, hc, q⟩
  · exact op_mulW pins s σ H _ _ v u Q I rx ry ⟨i, j, rfl, rfl, hc, q⟩
theorem reps.flat {ws : List W} {vs : List V} : ∀ (m : Nat), reps Γ S H ws vs → reps Γ S H (List.replicate m ws).flatten (List.replicate m vs).flatten
  | 0, _ => rfl
  | m + 1, r => by
    rw [List.replicate_succ, List.replicate_succ, List.flatten_cons, List.flatten_cons]
    exact r.app (reps.flat m r)
theorem op_B (hK : X.K = Γ.K) (o : BOp) : OpR X (binaryOp (bopOf o)) (rB Γ o) := by
  intro pins s σ H x y v u Q I rx ry h
  obtain ⟨a, b, S, QW, ra, rb, hs, h, k⟩ := h
  cases o with
  | add fz =>
    simp only [wBin, wAdd] at h
    split at h
    · exact op_add pins s σ H x y v u Q I rx ry ⟨_, _, ra, rb, k.here hs (w := .int _) rfl h⟩
    · rename_i p q
      obtain ⟨ra, oa⟩ := ra
      obtain ⟨rb, ob⟩ := rb
      subst ra rb
      refine op_add_str pins s σ H _ _ v u Q I rx ry ⟨_, _, rfl, rfl, ?_, ?_⟩
      · rw [str_len, str_len]; exact h.1
      · rw [str_app]; exact k.here hs (w := .str _) ⟨rfl, okStr_app oa ob⟩ h.2
    · rename_i p q
      obtain ⟨a1, xs, rfl, ta, rra⟩ := ra
      obtain ⟨b1, ys, rfl, tb, rrb⟩ := rb
      have l1 := rra.len
      have l2 := rrb.len
      refine op_catA pins s σ H _ _ v u Q I rx ry ⟨a1, b1, xs, ys, rfl, rfl, hK ▸ ta.sq, hK ▸ tb.sq, by rw [← l1, ← l2]; exact h.1, fun e => ?_, fun n e => ?_, fun n1 n2 p e => ?_⟩
      · subst e
        have z : p = [] := List.length_eq_zero_iff.mp (by rw [l1]; rfl)
        subst z
        exact k.here hs (w := .tup q) ⟨b1, ys, rfl, tb, rrb⟩ h.2
      · subst e
        have z : q = [] := List.length_eq_zero_iff.mp (by rw [l2]; rfl)
        subst z
        have h2 := h.2
        rw [List.append_nil] at h2
        exact k.here hs (w := .tup p) ⟨a1, xs, rfl, ta, rra⟩ h2
      · exact tup_ok h.2 (rra.app rrb) hs k p e
    · split at h
      · rename_i p q e1 e2
        obtain ⟨p1, xs, rfl, h1, r1⟩ := lst_rep e1 ra hs
        obtain ⟨p2, ys, rfl, h2, r2⟩ := lst_rep e2 rb hs
        exact op_cat pins s σ H _ _ v u Q I rx ry ⟨p1, p2, xs, ys, rfl, rfl, h1, h2, by rw [← r1.len, ← r2.len]; exact h.1, mkL_ok h.2 (r1.app r2) hs k⟩
      · exact h.elim
  | sub => exact opI0_of op_sub I rx ry ra rb hs k (g' := fun i j => .int (i - j)) (fun _ _ => rfl) h
  | mul fz =>
    simp only [wBin, wMul] at h
    split at h
    · rename_i p
      split at h
      · rename_i i
        obtain ⟨a1, xs, rfl, ta, rra⟩ := ra
        cases rb
        obtain ⟨h1, h2, h3, h4, h5⟩ := h
        refine op_repA pins s σ H _ _ v u Q I rx ry ⟨a1, i, xs, rfl, rfl, hK ▸ ta.sq, fun e => h1 ?_, h2, h3, by rw [← rra.len]; exact h4, fun e => ?_, fun e => ?_⟩
        · subst e
          exact List.length_eq_zero_iff.mp (by rw [rra.len]; rfl)
        · subst e
          rw [show (List.replicate (Int.toNat 1) p).flatten = p by simp [List.replicate]] at h5
          exact k.here hs (w := .tup p) ⟨a1, xs, rfl, ta, rra⟩ h5
        · exact tup_ok h5 (reps.flat i.toNat rra) hs k
      · exact h.elim
    · exact opI_of op_mul2 I rx ry ra rb hs k (g' := fun i j => .int (i * j)) (fun _ _ => rfl) h
  | fdiv => exact opI_of op_fdivW I rx ry ra rb hs k (g' := fun i j => .int (i / j)) (fun _ _ => rfl) h
  | mod => exact opI_of op_mod I rx ry ra rb hs k (g' := fun i j => .int (i % j)) (fun _ _ => rfl) h
  | pow => exact opI_of op_pow I rx ry ra rb hs k (g' := fun i j => .int (i ^ j.toNat)) (fun _ _ => rfl) h
  | shl => exact opI_of op_shl I rx ry ra rb hs k (g' := fun i j => .int (i * 2 ^ j.toNat)) (fun _ _ => rfl) h
  | shr => exact opI_of op_shr I rx ry ra rb hs k (g' := fun i j => .int (i / 2 ^ j.toNat)) (fun _ _ => rfl) h
  | band => exact opI0_of op_and I rx ry ra rb hs k (g' := fun i j => .int (Builtin.bitAnd i j)) (fun _ _ => rfl) h
  | bor => exact opI0_of op_or I rx ry ra rb hs k (g' := fun i j => .int (Builtin.bitOr i j)) (fun _ _ => rfl) h
  | bxor => exact opI0_of op_xor I rx ry ra rb hs k (g' := fun i j => .int (Builtin.bitXor i j)) (fun _ _ => rfl) h

/-! ### comparisons -/
def copOf : COp → CmpOp
  | .eq => .Eq
  | .ne => .NotEq
  | .lt => .Lt
  | .le => .LtE
  | .gt => .Gt
  | .ge => .GtE
  | .isin => .In
  | .notin => .NotIn
  | .is => .Is
  | .isnot => .IsNot
mutual
def toD : W → PyData
  | .non => .none
  | .bl b => .bool b
  | .int i => .int i
  | .str x => .str ⟨x.toArray⟩
  | .tup ws => .tuple (toDs ws)
  | .rl ws => .list (toDs ws)
  | .sc ws => .list (toDs ws)
  | .ref _ => .none
  | .fn _ => .none
  | .dct _ _ => .none
  | .obj _ _ _ => .none
  | .exn _ _ _ => .none
def toDs : List W → List PyData
  | [] => []
  | w :: ws => toD w :: toDs ws
end
theorem str_eq {x y : List Nat} : ((⟨x.toArray⟩ : Str) == ⟨y.toArray⟩) = (x == y) := by
  by_cases h : x = y
  · subst h; rw [beq_self_eq_true, beq_self_eq_true]
  · have n : (⟨x.toArray⟩ : Str) ≠ ⟨y.toArray⟩ := fun e => h (by injection e with e; simpa using e)
    rw [beq_eq_false_iff_ne.mpr n, beq_eq_false_iff_ne.mpr h]
mutual
theorem toD_eqv : ∀ (x y : W), dataW x = true → dataW y = true → PyData.eqv (toD x) (toD y) = eqv x y
  | .non, y, hx, hy => by cases y <;> first | rfl | (simp [dataW] at hy) 
  | .bl _, y, hx, hy => by cases y <;> first | rfl | (simp [dataW] at hy) 
  | .int _, y, hx, hy => by cases y <;> first | rfl | (simp [dataW] at hy) 
  | .str x, y, hx, hy => by
    cases y with
    | str z =>
      show ((⟨x.toArray⟩ : Str) == ⟨z.toArray⟩) = (x == z)
      exact str_eq
    | _ => first | rfl | (simp [dataW] at hy)
  | .tup xs, y, hx, hy => by
    cases y with
    | tup ys => exact toDs_eqv xs ys hx hy
    | _ => first | rfl | (simp [dataW] at hy)
  | .rl xs, y, hx, hy => by
    cases y with
    | rl ys => exact toDs_eqv xs ys hx hy
    | sc ys => exact toDs_eqv xs ys hx hy
    | _ => first | rfl | (simp [dataW] at hy)
  | .sc xs, y, hx, hy => by
    cases y with
    | rl ys => exact toDs_eqv xs ys hx hy
    | sc ys => exact toDs_eqv xs ys hx hy
    | _ => first | rfl | (simp [dataW] at hy)
  | .ref _, y, hx, hy => by simp [dataW] at hx
  | .fn _, y, hx, hy => by simp [dataW] at hx
  | .dct _ _, y, hx, hy => by simp [dataW] at hx
  | .obj _ _ _, y, hx, hy => by simp [dataW] at hx
  | .exn _ _ _, y, hx, hy => by simp [dataW] at hx
theorem toDs_eqv : ∀ (xs ys : List W), dataWs xs = true → dataWs ys = true → PyData.eqvAll (toDs xs) (toDs ys) = eqvs xs ys
  | [], [], _, _ => rfl
  | [], _ :: _, _, _ => rfl
  | _ :: _, [], _, _ => rfl
  | x :: xs, y :: ys, hx, hy => by
    simp only [dataWs, Bool.and_eq_true] at hx hy
    show (PyData.eqv (toD x) (toD y) && PyData.eqvAll (toDs xs) (toDs ys)) = (eqv x y && eqvs xs ys)
    rw [toD_eqv x y hx.1 hy.1, toDs_eqv xs ys hx.2 hy.2]
end
mutual
theorem toD_dep : ∀ x : W, (toD x).depth = depW x
  | .non => rfl
  | .bl _ => rfl
  | .int _ => rfl
  | .str _ => rfl
  | .tup ws => by show PyData.depthAll (toDs ws) + 1 = depWs ws + 1; rw [toDs_dep ws]
  | .rl ws => by show PyData.depthAll (toDs ws) + 1 = depWs ws + 1; rw [toDs_dep ws]
  | .sc ws => by show PyData.depthAll (toDs ws) + 1 = depWs ws + 1; rw [toDs_dep ws]
  | .ref _ => rfl
  | .fn _ => rfl
  | .dct _ _ => rfl
  | .obj _ _ _ => rfl
  | .exn _ _ _ => rfl
theorem toDs_dep : ∀ xs : List W, PyData.depthAll (toDs xs) = depWs xs
  | [] => rfl
  | x :: xs => by show max (toD x).depth (PyData.depthAll (toDs xs)) = max (depW x) (depWs xs); rw [toD_dep x, toDs_dep xs]
end
mutual
theorem toD_dp : ∀ (x : W) (v : V), dataW x = true → rep Γ S H x v → Dp Γ.K H v (toD x) ∧ (toD x).canLay0 = true
  | .non, _, _, rfl => ⟨.non, rfl⟩
  | .bl _, _, _, rfl => ⟨.bl _, rfl⟩
  | .int _, _, _, rfl => ⟨.int _, rfl⟩
  | .str x, _, _, ⟨rfl, o⟩ => ⟨.str _, by
      show PyData.strOk (⟨x.toArray⟩ : Str) = true
      unfold PyData.strOk
      unfold okStr at o
      simpa using o⟩
  | .tup ws, _, d, ⟨a, vs, rfl, q, r⟩ => let ⟨h1, h2⟩ := toDs_dp ws vs d r; ⟨.tup q.sq h1, h2⟩
  | .rl ws, _, d, ⟨a, vs, rfl, q, r⟩ => let ⟨h1, h2⟩ := toDs_dp ws vs d r; ⟨.lst q.sq h1, h2⟩
  | .sc ws, _, d, ⟨a, vs, rfl, q, r⟩ => let ⟨h1, h2⟩ := toDs_dp ws vs d r; ⟨.lst q.sq h1, h2⟩
  | .ref _, _, d, _ => by simp [dataW] at d
  | .fn _, _, d, _ => by simp [dataW] at d
  | .dct _ _, _, d, _ => by simp [dataW] at d
  | .obj _ _ _, _, d, _ => by simp [dataW] at d
  | .exn _ _ _, _, d, _ => by simp [dataW] at d
theorem toDs_dp : ∀ (xs : List W) (vs : List V), dataWs xs = true → reps Γ S H xs vs → DpAll Γ.K H vs (toDs xs) ∧ PyData.canLayAll0 (toDs xs) = true
  | [], _, _, rfl => ⟨.nil, rfl⟩
  | x :: xs, _, d, ⟨v, r, rfl, q, t⟩ => by
    simp only [dataWs, Bool.and_eq_true] at d
    obtain ⟨h1, h2⟩ := toD_dp x v d.1 q
    obtain ⟨h3, h4⟩ := toDs_dp xs r d.2 t
    exact ⟨.cons h1 h3, by show (PyData.canLay0 (toD x) && PyData.canLayAll0 (toDs xs)) = true; rw [h2, h4]; rfl⟩
end
theorem deref_dp {x : W} {v : V} (h : dataW (deref S x) = true) (r : rep Γ S H x v) (s : SR Γ S H) : Dp Γ.K H v (toD (deref S x)) ∧ (toD (deref S x)).canLay0 = true := by
  cases x with
  | ref a =>
    rw [deref_ref] at h ⊢
    cases q : S a with
    | none => rw [q] at h; simp [dataW] at h
    | some o =>
      cases o with
      | lst us =>
        rw [q] at h
        obtain ⟨vs, h1, h2⟩ := s a _ q
        obtain ⟨h3, h4⟩ := toDs_dp us vs h h2
        subst r
        exact ⟨.lst (.inl (.inl h1)) h3, h4⟩
      | dic _ _ => rw [q] at h; simp [dataW] at h
      | ins _ _ _ => rw [q] at h; simp [dataW] at h
      | hid => rw [q] at h; simp [dataW] at h
  | _ => exact toD_dp _ v h r
def rC (Γ : Gm) (o : COp) : R2 := fun v u H Q => ∃ x y S QW, rep Γ S H x v ∧ rep Γ S H y u ∧ SR Γ S H ∧ wCmp o x y S QW ∧ KQ Γ S H QW Q
theorem eqC (hK : X.K = Γ.K) (hu : X.A.units + 64 < cLine) {pins : List (Addr × Obj)} {s : Shared} {σ : L2.St} {x y : V} {v u : Value} (I : Inv X pins σ H s) (rx : RelV x v) (ry : RelV y u)
    {a b : W} (ra : rep Γ S H a x) (rb : rep Γ S H b y) (hs : SR Γ S H) (k : KQ Γ S H QW Q) :
    (wEq false a b S QW → wpAny (model X.prog X.w) X.A (compareOp .Eq v u) (EP X pins σ Q) X.xe s) ∧ (wEq true a b S QW → wpAny (model X.prog X.w) X.A (compareOp .NotEq v u) (EP X pins σ Q) X.xe s) := by
  refine ⟨fun h => ?_, fun h => ?_⟩ <;>
  · obtain ⟨d1, d2, dp, q⟩ := h
    obtain ⟨h1, c1⟩ := deref_dp d1 ra hs
    obtain ⟨h2, c2⟩ := deref_dp d2 rb hs
    rw [← hK] at h1 h2
    obtain ⟨as, r1⟩ := Dp.reads I _ x v h1 rx
    obtain ⟨bs, r2⟩ := Dp.reads I _ y u h2 ry
    have q' := k.here hs (w := .bl _) rfl q
    have room : X.A.units + min (toD (deref S a)).depth (toD (deref S b)).depth < cLine := by rw [toD_dep, toD_dep]; omega
    first
      | (refine SeqAt.compareEq_reads r1 r2 c1 c2 room ?_
         rw [toD_eqv _ _ d1 d2]
         exact ⟨.bl _, H, I, rfl, by simpa using q'⟩)
      | (refine SeqAt.compareNe_reads r1 r2 c1 c2 room ?_
         rw [toD_eqv _ _ d1 d2]
         exact ⟨.bl _, H, I, rfl, by simpa using q'⟩)
theorem flat_rep {x : W} {v : V} (f : flatW x = true) (r : rep Γ S H x v) : flatV v = true := by
  cases x with
  | non => cases r; rfl
  | bl _ => cases r; rfl
  | int _ => cases r; rfl
  | str _ => obtain ⟨rfl, _⟩ := r; rfl
  | _ => simp [flatW] at f
theorem eqv_rep {x y : W} {v u : V} (f : flatW x = true) (g : flatW y = true) (r : rep Γ S H x v) (q : rep Γ S H y u) : eqV v u = eqv x y := by
  cases x with
  | non => cases r; cases y <;> first | (cases q; rfl) | (obtain ⟨rfl, _⟩ := q; rfl) | (simp [flatW] at g)
  | bl _ => cases r; cases y <;> first | (cases q; rfl) | (obtain ⟨rfl, _⟩ := q; rfl) | (simp [flatW] at g)
  | int _ => cases r; cases y <;> first | (cases q; rfl) | (obtain ⟨rfl, _⟩ := q; rfl) | (simp [flatW] at g)
  | str _ =>
    obtain ⟨rfl, _⟩ := r
    cases y with
    | str _ => obtain ⟨rfl, _⟩ := q; exact str_eq
    | non => cases q; rfl
    | bl _ => cases q; rfl
    | int _ => cases q; rfl
    | _ => simp [flatW] at g
  | _ => simp [flatW] at f
theorem all_flat : ∀ {ws : List W} {vs : List V}, reps Γ S H ws vs → ws.all flatW = true → vs.all flatV = true
  | [], _, h, _ => by cases h; rfl
  | w :: ws, _, ⟨v, r, rfl, q, t⟩, h => by
    simp only [List.all_cons, Bool.and_eq_true] at h ⊢
    exact ⟨flat_rep h.1 q, all_flat t h.2⟩
theorem in_rep {x : W} {v : V} (f : flatW x = true) (r : rep Γ S H x v) : ∀ {ws : List W} {vs : List V}, reps Γ S H ws vs → ws.all flatW = true → inV v vs = inW x ws
  | [], _, h, _ => by cases h; rfl
  | w :: ws, _, ⟨u, t, rfl, q, rr⟩, h => by
    simp only [List.all_cons, Bool.and_eq_true] at h
    have ih := in_rep f r rr h.2
    unfold inV inW at ih ⊢
    rw [List.any_cons, List.any_cons, ih, eqv_rep h.1 f q r]
theorem deref_flat {x : W} (f : flatW x = true) : deref S x = x := by cases x <;> first | rfl | (simp [flatW] at f)
theorem in_toDs {x : W} (hx : dataW x = true) : ∀ {ws : List W}, dataWs ws = true → ((toDs ws).any fun y => PyData.eqv y (toD x)) = inW x ws
  | [], _ => rfl
  | w :: ws, h => by
    simp only [dataWs, Bool.and_eq_true] at h
    have ih := in_toDs hx h.2
    unfold inW at ih ⊢
    show (PyData.eqv (toD w) (toD x) || (toDs ws).any fun y => PyData.eqv y (toD x)) = _
    rw [List.any_cons, ih, toD_eqv _ _ h.1 hx]
theorem inC (hK : X.K = Γ.K) (hu : X.A.units + 64 < cLine) {pins : List (Addr × Obj)} {s : Shared} {σ : L2.St} {x y : V} {v u : Value} (I : Inv X pins σ H s) (rx : RelV x v) (ry : RelV y u)
    {a b : W} (ra : rep Γ S H a x) (rb : rep Γ S H b y) (hs : SR Γ S H) (k : KQ Γ S H QW Q) :
    (wIn false a b S QW → wpAny (model X.prog X.w) X.A (compareOp .In v u) (EP X pins σ Q) X.xe s) ∧ (wIn true a b S QW → wpAny (model X.prog X.w) X.A (compareOp .NotIn v u) (EP X pins σ Q) X.xe s) := by
  have u1 : X.A.units + 1 < cLine := by omega
  cases hd : dicOf S b with
  | some p =>
    cases hk : kyOf a with
    | none => refine ⟨fun h => ?_, fun h => ?_⟩ <;> (unfold wIn at h; rw [hd, hk] at h; exact h.elim)
    | some kk =>
      obtain ⟨t, o, rfl, g, g1, g2⟩ := dic_get hd hk rb ra hs
      have eo : o.isSome = (lookD p.1 p.2 kk).isSome := by
        cases e : lookD p.1 p.2 kk with
        | none => rw [g2 e]; rfl
        | some w => obtain ⟨v, rfl, _⟩ := g1 w e; rfl
      refine ⟨fun h => ?_, fun h => ?_⟩
      · unfold wIn at h
        rw [hd, hk] at h
        exact op_dkIn u1 pins s σ H _ _ v u Q I rx ry ⟨t, o, rfl, g, by rw [eo]; exact k.here hs (w := .bl _) rfl h⟩
      · unfold wIn at h
        rw [hd, hk] at h
        exact op_dkNin u1 pins s σ H _ _ v u Q I rx ry ⟨t, o, rfl, g, by rw [eo]; exact k.here hs (w := .bl _) rfl h⟩
  | none =>
    refine ⟨fun h => ?_, fun h => ?_⟩
    all_goals
      unfold wIn at h
      rw [hd] at h
      simp only at h
      split at h
    · rename_i c z
      obtain ⟨rfl, _⟩ := ra
      obtain ⟨rfl, _⟩ := rb
      have q' := k.here hs (w := .bl _) rfl h
      refine op_in_sign pins s σ H _ _ v u Q I rx ry ⟨c, ⟨z.toArray⟩, rfl, rfl, ?_⟩
      simpa using q'
    · split at h
      · rename_i ws e
        obtain ⟨ok, q⟩ := h
        have q' := k.here hs (w := .bl _) rfl q
        unfold inOk at ok
        rw [Bool.or_eq_true] at ok
        rcases ok with ok | ok
        · rw [Bool.and_eq_true] at ok
          obtain ⟨f1, f2⟩ := ok
          obtain ⟨p, vs, rfl, hq, rr⟩ := seq_rep e rb hs
          rw [deref_flat f1] at q'
          refine op_in_seq pins s σ H _ _ v u Q I rx ry ⟨p, vs, rfl, hK ▸ hq, flat_rep f1 ra, all_flat rr f2, ?_⟩
          rw [in_rep f1 ra rr f2]
          simpa using q'
        · simp only [Bool.and_eq_true, decide_eq_true_eq] at ok
          obtain ⟨d1, d2, dp⟩ := ok
          obtain ⟨h1, c1⟩ := deref_dp d1 ra hs
          have room : X.A.units + 1 + min (PyData.depthAll (toDs ws)) (toD (deref S a)).depth < cLine := by rw [toD_dep, toDs_dep]; omega
          have go : ∀ z : W, deref S b = z → dataW z = true → (toD z = .list (toDs ws) ∨ toD z = .tuple (toDs ws)) → PyData.canLayAll0 (toDs ws) = (toD z).canLay0 → wpAny (model X.prog X.w) X.A (compareOp .In v u) (EP X pins σ Q) X.xe s := fun z ez dz tz cz => by
            obtain ⟨h2, c2⟩ := deref_dp (x := b) (by rw [ez]; exact dz) rb hs
            rw [ez] at h2 c2
            rw [← hK] at h1 h2
            obtain ⟨as, r1⟩ := Dp.reads I _ x v h1 rx
            obtain ⟨bs, r2⟩ := Dp.reads I _ y u h2 ry
            rcases tz with tz | tz
            · rw [tz] at r2
              refine SeqAt.in_list_reads r2 r1 (cz.trans c2) c1 room ?_
              rw [in_toDs d1 d2]
              exact ⟨.bl _, H, I, rfl, by simpa using q'⟩
            · rw [tz] at r2
              refine SeqAt.in_tuple_reads r2 r1 (cz.trans c2) c1 room ?_
              rw [in_toDs d1 d2]
              exact ⟨.bl _, H, I, rfl, by simpa using q'⟩
          unfold seqOf at e
          split at e
          · rename_i us ez; cases e; exact go _ ez d2 (.inr rfl) rfl
          · rename_i us ez; cases e; exact go _ ez d2 (.inl rfl) rfl
          · rename_i us ez; cases e; exact go _ ez d2 (.inl rfl) rfl
          · cases e
      · exact h.elim
    · rename_i c z
      obtain ⟨rfl, _⟩ := ra
      obtain ⟨rfl, _⟩ := rb
      have q' := k.here hs (w := .bl _) rfl h
      refine op_notIn_sign pins s σ H _ _ v u Q I rx ry ⟨c, ⟨z.toArray⟩, rfl, rfl, ?_⟩
      simpa using q'
    · split at h
      · rename_i ws e
        obtain ⟨ok, q⟩ := h
        have q' := k.here hs (w := .bl _) rfl q
        unfold inOk at ok
        rw [Bool.or_eq_true] at ok
        rcases ok with ok | ok
        · rw [Bool.and_eq_true] at ok
          obtain ⟨f1, f2⟩ := ok
          obtain ⟨p, vs, rfl, hq, rr⟩ := seq_rep e rb hs
          rw [deref_flat f1] at q'
          refine op_notIn_seq pins s σ H _ _ v u Q I rx ry ⟨p, vs, rfl, hK ▸ hq, flat_rep f1 ra, all_flat rr f2, ?_⟩
          rw [in_rep f1 ra rr f2]
          simpa using q'
        · simp only [Bool.and_eq_true, decide_eq_true_eq] at ok
          obtain ⟨d1, d2, dp⟩ := ok
          obtain ⟨h1, c1⟩ := deref_dp d1 ra hs
          have room : X.A.units + 1 + min (PyData.depthAll (toDs ws)) (toD (deref S a)).depth < cLine := by rw [toD_dep, toDs_dep]; omega
          have go : ∀ z : W, deref S b = z → dataW z = true → (toD z = .list (toDs ws) ∨ toD z = .tuple (toDs ws)) → PyData.canLayAll0 (toDs ws) = (toD z).canLay0 → wpAny (model X.prog X.w) X.A (compareOp .NotIn v u) (EP X pins σ Q) X.xe s := fun z ez dz tz cz => by
            obtain ⟨h2, c2⟩ := deref_dp (x := b) (by rw [ez]; exact dz) rb hs
            rw [ez] at h2 c2
            rw [← hK] at h1 h2
            obtain ⟨as, r1⟩ := Dp.reads I _ x v h1 rx
            obtain ⟨bs, r2⟩ := Dp.reads I _ y u h2 ry
            rcases tz with tz | tz
            · rw [tz] at r2
              refine SeqAt.notIn_list_reads r2 r1 (cz.trans c2) c1 room ?_
              rw [in_toDs d1 d2]
              exact ⟨.bl _, H, I, rfl, by simpa using q'⟩
            · rw [tz] at r2
              refine SeqAt.notIn_tuple_reads r2 r1 (cz.trans c2) c1 room ?_
              rw [in_toDs d1 d2]
              exact ⟨.bl _, H, I, rfl, by simpa using q'⟩
          unfold seqOf at e
          split at e
          · rename_i us ez; cases e; exact go _ ez d2 (.inr rfl) rfl
          · rename_i us ez; cases e; exact go _ ez d2 (.inl rfl) rfl
          · rename_i us ez; cases e; exact go _ ez d2 (.inl rfl) rfl
          · cases e
      · exact h.elim
theorem wIs_el {neg : Bool} {x y : W} {S : Sto} {QW : VQ} (h : wIs neg x y S QW) : ∃ c d, x = .bl c ∧ y = .bl d ∧ QW (.bl ((c == d) != neg)) S := by
  unfold wIs at h
  split at h
  · exact ⟨_, _, rfl, rfl, h⟩
  · exact h.elim
theorem op_C (hK : X.K = Γ.K) (hu : X.A.units + 64 < cLine) (o : COp) : OpR X (compareOp (copOf o)) (rC Γ o) := by
  intro pins s σ H x y v u Q I rx ry h
  obtain ⟨a, b, S, QW, ra, rb, hs, h, k⟩ := h
  cases o with
  | eq => exact (eqC hK hu I rx ry ra rb hs k).1 h
  | ne => exact (eqC hK hu I rx ry ra rb hs k).2 h
  | lt => exact opI0_of op_lt I rx ry ra rb hs k (g' := fun i j => .bl (decide (i < j))) (fun _ _ => rfl) h
  | le => exact opI0_of op_le I rx ry ra rb hs k (g' := fun i j => .bl (decide (i ≤ j))) (fun _ _ => rfl) h
  | gt => exact opI0_of op_gt I rx ry ra rb hs k (g' := fun i j => .bl (decide (j < i))) (fun _ _ => rfl) h
  | ge => exact opI0_of op_ge I rx ry ra rb hs k (g' := fun i j => .bl (decide (j ≤ i))) (fun _ _ => rfl) h
  | isin => exact (inC hK hu I rx ry ra rb hs k).1 h
  | notin => exact (inC hK hu I rx ry ra rb hs k).2 h
  | is =>
    obtain ⟨c, d, rfl, rfl, h⟩ := wIs_el h
    cases ra
    cases rb
    refine op_is_bl pins s σ H _ _ v u Q I rx ry ⟨c, d, rfl, rfl, k.here hs (w := .bl _) rfl ?_⟩
    cases c <;> cases d <;> exact h
  | isnot =>
    obtain ⟨c, d, rfl, rfl, h⟩ := wIs_el h
    cases ra
    cases rb
    refine op_isnot_bl pins s σ H _ _ v u Q I rx ry ⟨c, d, rfl, rfl, k.here hs (w := .bl _) rfl ?_⟩
    cases c <;> cases d <;> exact h
end
end Bw

/-! Ev4: list(reversed(list)), max(list, default=d) at the library's level; then built-ins, subscripts, methods by HandS's rules. -/
namespace Bw
open PySem L2 PySem.Spec PyProof.Rows RT
section
variable {prog : Program} {w : World} {A : Around} {E : Value → Shared → Prop} {s : Shared}
theorem extend_rev {it l : Addr} {items : Array Value} {R : Result → Shared → Prop} (hh : A.handled = none) (hit : s.heap.IsRevIter it l ((items.size : Int) - 1)) (hl : s.heap.IsList l items) (hne : l ≠ it) (hn : items.size ≤ sizeLine)
    (S : Addr) (res : Value) (c₀ : Nat) (hSi : S ≠ it) (hSl : S ≠ l) (hS : s.heap.get? S = some { cls := .type "list", data := .seq #[] c₀ })
    (hR : ∀ h' tk acc' c', (∀ b o, b ≠ it → b ≠ S → s.heap.get? b = some o → h'.get? b = some o) → h'.get? S = some { cls := .type "list", dict := none, data := .seq acc' c', slots := #[] } →
      ItemsOf (fun i v => items[items.size - 1 - i]? = some v) acc' items.size → R (.ok (.ret res)) { s with heap := h', toks := tk }) :
    wpAny (model prog w) A.in1 (Builtin.List.listExtendWith (.ref S) (.ref it) res)
      (fun fin s' => match fin with | .done f => R (.ok f) s' | .again c' => c'.quiet = true ∧ codeAny (model prog w) A c' R s') (fun e s' => R (.error e) s') s := by
  have W := (Walks.listRev (prog := prog) (w := w) (A := A.in1) hh it l hne items).toS
  have hSf : S ∉ [it, l] := by simp only [List.mem_cons, List.not_mem_nil, or_false, not_or]; exact ⟨hSi, hSl⟩
  have hT : s.TypeIs (.ref it) "list_reverseiterator" := hit.typeIs
  have h1 : Builtin.List.listSameRef (.ref S) (.ref it) = false := by simp [Builtin.List.listSameRef, hSi]
  unfold Builtin.List.listExtendWith
  refine wpAny_bind (wpAny_typeOf hT ?_)
  rw [if_neg (by rw [h1]; decide)]
  refine wpAny_bind (wpAny_pyIter_revIter hit ?_)
  refine wpAny_bind (wpAny_holding ?_)
  unfold Builtin.List.listLengthHint
  refine wpAny_bind (wpAny_specialOf hT nolen_lri ?_)
  show wpAny _ A.in1 (specialOf (Value.ref it) (Str.ofString "__length_hint__") >>= _) _ _ _
  refine wpAny_bind (wpAny_specialOf hT hint_lri ?_)
  generalize hid : ("list_reverseiterator.__length_hint__" : String) = id0
  wp_delta
  rw [show splitId id0 = some ("list_reverseiterator", "__length_hint__") from by subst hid; decide +kernel]
  subst hid
  refine wpAny_bind (wpAny_isInstance (b := true) hT (by rw [isSubtype_type]; kernel_rfl) ?_)
  refine wpAny_pure ?_
  rw [if_neg (by decide)]
  have e0 : ((items.size : Nat) : Int) - 1 - ((0 : Nat) : Int) = (items.size : Int) - 1 := by omega
  refine wpAny_pure ⟨plainId_quiet F.plain_extend_loop _, codeAny_extend_loopS W hn _ hSf _ items.size 0 _ _ _ rfl (Nat.zero_le _) ⟨Nat.zero_le _, by rw [e0]; exact hit, hl⟩ hS (ItemsOf.nil _) fun s' acc' c' hm hS' hacc => ?_⟩
  rw [Moved.eq_with hm]
  refine hR s'.heap s'.toks acc' c' (fun b o hb hb2 e => hm.heap b o (fun hmem => ?_) e) hS' hacc
  rcases List.mem_cons.mp hmem with e' | hmem
  · exact hb2 e'
  · exact hb (List.mem_singleton.mp hmem)
theorem call_list_rev {it l : Addr} {items : Array Value} {Q : Value → Shared → Prop} (hh : A.handled = none) (hit : s.heap.IsRevIter it l ((items.size : Int) - 1)) (hl : s.heap.IsList l items) (hne : l ≠ it) (hn : items.size ≤ sizeLine)
    (hQ : ∀ (h' : Heap) (tk : Nat) (acc : Array Value) (c : Nat), (∀ b o, b ≠ it → s.heap.get? b = some o → h'.get? b = some o) → h'.get? s.heap.objs.size = some { cls := .type "list", dict := none, data := .seq acc c, slots := #[] } →
      ItemsOf (fun i v => items[items.size - 1 - i]? = some v) acc items.size → Q (.ref s.heap.objs.size) { s with heap := h', toks := tk }) :
    wpAny (model prog w) A (call (.type "list") [.ref it]) Q E s := by
  obtain ⟨oi, hoi, _⟩ := id hit
  obtain ⟨ol, hol, _⟩ := id hl
  have hSi : s.heap.objs.size ≠ it := Nat.ne_of_gt (Heap.lt_size hoi)
  have hSl : s.heap.objs.size ≠ l := Nat.ne_of_gt (Heap.lt_size hol)
  refine callType_codes (Q₁ := fun obj s₁ => obj = .ref s.heap.objs.size ∧ s₁ = { s with heap := s.heap.push { cls := .type "list", data := .seq #[] } }) F.called_list (F.typeCall_list_1 _) F.entry_list_init
    (code_list_new _ ⟨rfl, rfl⟩) fun obj s₁ h₁ => ?_
  obtain ⟨rfl, rfl⟩ := h₁
  have hS : (s.heap.push { cls := .type "list", data := .seq #[] }).get? s.heap.objs.size = some { cls := .type "list", data := .seq #[] } := Heap.get?_push_size _ rfl
  refine ⟨⟨_, hS, rfl⟩, F.args_list_init_2 _ _, ?_⟩
  show wpAny _ _ (do let old ← Builtin.List.listItems (.ref s.heap.objs.size); Builtin.List.listUpdate (.ref s.heap.objs.size) (fun _ => #[]); letGo old.toList.reverse; Builtin.List.listExtendWith (.ref s.heap.objs.size) (.ref it) .none) _ _ _
  refine wpAny_bind ?_
  unfold Builtin.List.listItems
  refine wpAny_bind (wpAny_seqItems hS rfl (wpAny_pure ?_))
  show wpAny _ _ (updateSeq s.heap.objs.size (fun _ => #[]) >>= fun _ => letGo (#[] : Array Value).toList.reverse >>= fun _ => Builtin.List.listExtendWith (.ref s.heap.objs.size) (.ref it) .none) _ _ _
  refine wpAny_bind (wpAny_updateSeq hS rfl ?_)
  have hS₂ := Heap.get?_update_self (Obj.mapSeq (fun _ => (#[] : Array Value))) hS rfl
  have oth : ∀ b o, b ≠ s.heap.objs.size → s.heap.get? b = some o → ((s.heap.push { cls := .type "list", data := .seq #[] }).update s.heap.objs.size (Obj.mapSeq (fun _ => (#[] : Array Value)))).get? b = some o :=
    fun b o hb e => (Heap.get?_update_other _ _ (Ne.symm hb)).trans (Heap.get?_push_of_some _ e)
  refine wpAny_bind (wpAny_letGo ?_)
  have hit2 : ((s.heap.push { cls := .type "list", data := .seq #[] }).update s.heap.objs.size (Obj.mapSeq (fun _ => (#[] : Array Value)))).IsRevIter it l ((items.size : Int) - 1) := hit.at fun o e => oth it o (Ne.symm hSi) e
  have hl2 : ((s.heap.push { cls := .type "list", data := .seq #[] }).update s.heap.objs.size (Obj.mapSeq (fun _ => (#[] : Array Value)))).IsList l items := by
    obtain ⟨o, ho, hc⟩ := hl
    exact ⟨o, oth l o (Ne.symm hSl) ho, hc⟩
  refine extend_rev (A := A.in1) (s := { s with heap := (s.heap.push { cls := .type "list", data := .seq #[] }).update s.heap.objs.size (Obj.mapSeq (fun _ => (#[] : Array Value))) }) hh hit2 hl2 hne hn s.heap.objs.size .none _ hSi hSl hS₂ fun h' tk acc' c' hk hS' hacc => ?_
  exact ⟨rfl, hQ h' tk acc' c' (fun b o hb e => hk b o hb (Nat.ne_of_lt (Heap.lt_size e)) (oth b o (Nat.ne_of_lt (Heap.lt_size e)) e)) hS' hacc⟩
end
section
variable {X : Cx}
/-- list(reversed(x)), x a list: a new list -/
def tLstRev (K : PySem.W.Frag) (te : TE) : TE := fun σ H Q => te σ H fun v H1 => ∃ (a : Addr) (xs : List V), v = .ref a ∧ SqL K H1 a xs ∧ ∀ q, H1 q = none → Q (.ref q) (upd H1 q (.lst xs.reverse))
theorem pe_lstRev {e : Expr} {te : TE} {p p2 pos pos2 : Pos} (hc : X.calm = true) (hg : Gl X "list") (hm : X.mg "list" = none) (hg2 : Gl X "reversed") (hm2 : X.mg "reversed" = none) (he : PE X e te)
    (hs : starEach [e] X.env = (false, eval e X.env) :: starEach [] X.env)
    (hs2 : starEach [.Call (.Name "reversed" p2) [e] [] pos2] X.env = (false, eval (.Call (.Name "reversed" p2) [e] [] pos2) X.env) :: starEach [] X.env := by rfl) :
    PE X (.Call (.Name "list" p) [.Call (.Name "reversed" p2) [e] [] pos2] [] pos) (tLstRev X.K te) := by
  refine ⟨fun pins s σ H Q I h => ?_⟩
  refine Call_ (ld_blt I hg hm boot_list (PyProof.Rows.callWith_type1 (args_cons (Call_ (ld_blt I hg2 hm2 PyProof.Rows.boot_reversed (PyProof.Rows.callWith_type1 (args_cons (thn (he.run pins s σ H _ I h) fun u s1 ⟨v, H1, I1, r1, q1⟩ => args_nil ?_) hs) hs rfl))) hs2) hs2 rfl))
  obtain ⟨a, xs, ev, hq, q⟩ := q1
  subst ev
  obtain rfl : u = Value.ref a := r1
  obtain ⟨its, rv, p', hz⟩ := I1.list hq
  refine call_reversed_list p'.isList (args_nil ?_)
  have k0 : ∀ b o, s1.heap.get? b = some o → (s1.heap.push (revObj a ((its.toArray.size : Int) - 1))).get? b = some o := fun b o e => Heap.get?_push_of_some _ e
  have I2 : Inv X pins σ H1 { s1 with heap := s1.heap.push (revObj a ((its.toArray.size : Int) - 1)) } := I1.kept (t' := s1.toks) k0
  obtain ⟨f0, f1, f2, f3, f4, f5⟩ := I1.fpOk (H' := H1) (b := s1.heap.objs.size) (Nat.le_refl _) (I1.hok.fresh (Nat.le_refl _))
  have hl := p'.isList
  obtain ⟨ol, hol, _⟩ := id hl
  have hne : a ≠ s1.heap.objs.size := Nat.ne_of_lt (Heap.lt_size hol)
  have hn : its.toArray.size ≤ sizeLine := by rw [List.size_toArray, ← rv.length]; exact hz
  refine call_list_rev (s := { s1 with heap := s1.heap.push (revObj a ((its.toArray.size : Int) - 1)) }) (I1.ok.hd hc) ⟨_, Heap.get?_push_size _ rfl, rfl, rfl⟩ (hl.push _) hne hn fun h' tk acc c hk hS hi => ?_
  generalize hD : (s1.heap.push (revObj a ((its.toArray.size : Int) - 1))).objs.size = D at hS ⊢
  have hfr : H1 D = none := by rw [← hD]; exact I2.hok.fresh (Nat.le_refl _)
  have I3 : Inv X pins σ H1 { s1 with heap := h', toks := tk } := I2.turned (t' := tk) (fun b o hb e => hk b o hb e) f0 f1 f3 f4 f5
  refine ⟨.ref D, upd H1 D (.lst xs.reverse), ?_, rfl, q _ hfr⟩
  have hx : ObjOk X.prog X.w (upd H1 D (.lst xs.reverse)) h' D (.lst xs.reverse) := ⟨by rw [List.length_reverse]; exact hz, acc.toList, c, vals_rev rv hi, by rw [Array.toArray_toList]; exact hS⟩
  have nD : D ≠ s1.heap.objs.size := by rw [← hD, Heap.size_push]; exact Nat.ne_of_gt (Nat.lt_succ_self _)
  have bD : ∀ b o, (s1.heap.push (revObj a ((its.toArray.size : Int) - 1))).get? b = some o → b ≠ D := fun b o e z => by subst z; rw [← hD] at e; exact absurd (Heap.lt_size e) (Nat.lt_irrefl _)
  refine I2.step (H' := upd H1 D (.lst xs.reverse)) (g' := s1.gens) (d' := s1.drawn) (t' := tk) (ch := [s1.heap.objs.size]) (fun b hb => ?_) (fun b o _ _ hc e _ => hk b o (fun z => hc (by simp [z])) e) (fun b o _ _ hc e _ => ⟨o.slots, hk b o (fun z => hc (by simp [z])) e⟩)
    (fun b o _ e n => by rw [upd_ne (bD b o e)]; exact n) (fun b o hc e => ⟨o, hk b o (fun z => hc (by simp [z])) e⟩) (fun b ys e => ?_) (fun b o u e => ?_) (fun b ps e => ⟨#[], ?_⟩) (fun m hm => ?_) (fun b u e => ?_) I2.bare
  · have e : b = s1.heap.objs.size := by simpa using hb
    subst e
    exact ⟨f3, f1, f4, f5⟩
  · rw [upd_ne (ne_of_none e hfr)]; exact e
  · rw [upd_ne (ne_of_none e hfr)]; exact e
  · rw [upd_ne (ne_of_none e hfr)]; rw [e]; simp
  · obtain ⟨o, es, ep, ho, r⟩ := hm
    exact ⟨o, es, ep, hk _ o (Ne.symm f1) ho, r⟩
  · by_cases hb : b = D
    · subst hb
      rw [upd_same] at e
      cases e
      exact hx
    · rw [upd_ne hb] at e
      have nit : ∀ c v, H1 c = some v → c ≠ s1.heap.objs.size := fun c v e z => by rw [z, f0] at e; cases e
      refine (I2.hok b u e).stay (fun c v hc q => hk c v ?_ q) (fun c q => by rw [upd_ne (ne_of_none q hfr)]; exact q) fun c ys q => by rw [upd_ne (ne_of_none q hfr)]; exact q
      rcases hc with z | z
      · rw [z]; exact nit b u e
      · exact nit c _ z
end
end Bw

/-! Ev5: built-ins, subscripts, methods by HandS's rules. -/
namespace Bw
open PySem L2 PySem.Spec PyProof.Rows
section
variable {X : Cx} {Γ : Gm} {S : Sto} {H : Hp} {QW : VQ} {Q : VK}

theorem reps.l1 {x : W} {vs : List V} (h : reps Γ S H [x] vs) : ∃ v, vs = [v] ∧ rep Γ S H x v := by
  obtain ⟨v, r, rfl, q, t⟩ := h
  cases t
  exact ⟨v, rfl, q⟩
theorem reps.l2 {x y : W} {vs : List V} (h : reps Γ S H [x, y] vs) : ∃ v u, vs = [v, u] ∧ rep Γ S H x v ∧ rep Γ S H y u := by
  obtain ⟨v, r, rfl, q, t⟩ := h
  obtain ⟨u, rfl, q2⟩ := reps.l1 t
  exact ⟨v, u, rfl, q, q2⟩
theorem ints_rep : ∀ {ws : List W} {vs : List V} {ns : List Int}, intsOf ws = some ns → reps Γ S H ws vs → vs = ns.map V.int
  | [], _, _, e, h => by cases e; cases h; rfl
  | w :: ws, _, ns, e, ⟨v, r, rfl, q, t⟩ => by
    cases w with
    | int i =>
      simp only [intsOf] at e
      cases hq : intsOf ws with
      | none => rw [hq] at e; cases e
      | some ms =>
        rw [hq] at e
        cases e
        cases q
        rw [ints_rep hq t]
        rfl
    | _ => simp [intsOf] at e
theorem bls_rep : ∀ {ws : List W} {vs : List V} {bs : List Bool}, blsOf ws = some bs → reps Γ S H ws vs → vs = bs.map V.bl
  | [], _, _, e, h => by cases e; cases h; rfl
  | w :: ws, _, bs, e, ⟨v, r, rfl, q, t⟩ => by
    cases w with
    | bl i =>
      simp only [blsOf] at e
      cases hq : blsOf ws with
      | none => rw [hq] at e; cases e
      | some ms =>
        rw [hq] at e
        cases e
        cases q
        rw [bls_rep hq t]
        rfl
    | _ => simp [blsOf] at e
theorem lstInts {x : W} {v : V} {ns : List Int} (h : (lstOf S x).bind intsOf = some ns) (r : rep Γ S H x v) (s : SR Γ S H) : ∃ p, v = .ref p ∧ H p = some (.lst (ns.map V.int)) := by
  cases q : lstOf S x with
  | none => rw [q] at h; cases h
  | some ws =>
    rw [q] at h
    obtain ⟨p, vs, rfl, h1, h2⟩ := lst_rep q r s
    rw [ints_rep h h2] at h1
    exact ⟨p, rfl, h1⟩
theorem lstBls {x : W} {v : V} {bs : List Bool} (h : (lstOf S x).bind blsOf = some bs) (r : rep Γ S H x v) (s : SR Γ S H) : ∃ p, v = .ref p ∧ H p = some (.lst (bs.map V.bl)) := by
  cases q : lstOf S x with
  | none => rw [q] at h; cases h
  | some ws =>
    rw [q] at h
    obtain ⟨p, vs, rfl, h1, h2⟩ := lst_rep q r s
    rw [bls_rep h h2] at h1
    exact ⟨p, rfl, h1⟩
theorem maxL_mem : ∀ (ns : List Int), 0 < ns.length → maxL ns ∈ ns ∧ ∀ y ∈ ns, y ≤ maxL ns
  | [], h => by simp at h
  | [i], _ => by simp [maxL]
  | i :: j :: r, _ => by
    obtain ⟨h1, h2⟩ := maxL_mem (j :: r) (by simp)
    have e : maxL (i :: j :: r) = max i (maxL (j :: r)) := rfl
    rw [e]
    refine ⟨?_, fun y hy => ?_⟩
    · by_cases hc : i ≤ maxL (j :: r)
      · rw [Int.max_eq_right hc]; exact List.mem_cons_of_mem _ h1
      · rw [Int.max_eq_left (by omega)]; exact List.mem_cons_self
    · rcases List.mem_cons.mp hy with rfl | hy
      · exact Int.le_max_left _ _
      · exact Int.le_trans (h2 y hy) (Int.le_max_right _ _)
theorem minL_mem : ∀ (ns : List Int), 0 < ns.length → minL ns ∈ ns ∧ ∀ y ∈ ns, minL ns ≤ y
  | [], h => by simp at h
  | [i], _ => by simp [minL]
  | i :: j :: r, _ => by
    obtain ⟨h1, h2⟩ := minL_mem (j :: r) (by simp)
    have e : minL (i :: j :: r) = min i (minL (j :: r)) := rfl
    rw [e]
    refine ⟨?_, fun y hy => ?_⟩
    · by_cases hc : i ≤ minL (j :: r)
      · rw [Int.min_eq_left hc]; exact List.mem_cons_self
      · rw [Int.min_eq_right (by omega)]; exact List.mem_cons_of_mem _ h1
    · rcases List.mem_cons.mp hy with rfl | hy
      · exact Int.min_le_left _ _
      · exact Int.le_trans (Int.min_le_right _ _) (h2 y hy)
theorem maxL_uniq {ns : List Int} {m : Int} (h1 : m ∈ ns) (h2 : ∀ y ∈ ns, y ≤ m) : m = maxL ns := by
  have hp : 0 < ns.length := List.length_pos_of_mem h1
  obtain ⟨q1, q2⟩ := maxL_mem ns hp
  have a := q2 m h1
  have b := h2 _ q1
  omega
theorem minL_uniq {ns : List Int} {m : Int} (h1 : m ∈ ns) (h2 : ∀ y ∈ ns, m ≤ y) : m = minL ns := by
  have hp : 0 < ns.length := List.length_pos_of_mem h1
  obtain ⟨q1, q2⟩ := minL_mem ns hp
  have a := q2 m h1
  have b := h2 _ q1
  omega

theorem w1_el {ws : List W} {P : W → Prop} (h : w1 ws P) : ∃ x, ws = [x] ∧ P x := by
  unfold w1 at h
  split at h
  · exact ⟨_, rfl, h⟩
  · exact h.elim
theorem wSome_el {α : Type} {o : Option α} {P : α → Prop} (h : wSome o P) : ∃ x, o = some x ∧ P x := by
  unfold wSome at h
  split at h
  · exact ⟨_, rfl, h⟩
  · exact h.elim
theorem wB_el {x : W} {t f : Prop} (h : wB x t f) : (x = .bl true ∧ t) ∨ (x = .bl false ∧ f) := by
  unfold wB at h
  split at h
  · exact .inl ⟨rfl, h⟩
  · exact .inr ⟨rfl, h⟩
  · exact h.elim
theorem wNot_el {x : W} {P : Bool → Prop} (h : wNot x P) : ∃ b, x = .bl b ∧ P (!b) := by
  unfold wNot at h
  split at h
  · exact ⟨_, rfl, h⟩
  · exact h.elim
theorem wWalk_el {o : Option (List W × Lk)} {P : List W → Lk → Prop} (h : wWalk o P) : ∃ p, o = some p ∧ P p.1 p.2 := by
  unfold wWalk at h
  split at h
  · exact ⟨_, rfl, h⟩
  · exact h.elim
theorem wVar_el {o : Option (Option W)} {P : W → Prop} (h : wVar o P) : ∃ w, o = some (some w) ∧ P w := by
  unfold wVar at h
  split at h
  · exact ⟨_, rfl, h⟩
  · exact h.elim
theorem wI1_el {x : W} {P : Int → Prop} (h : wI1 x P) : ∃ i, x = .int i ∧ P i := by
  unfold wI1 at h
  split at h
  · exact ⟨_, rfl, h⟩
  · exact h.elim
theorem wInts3_el {ws : List W} {P : Int → Int → Int → Prop} (h : wInts3 ws P) : ∃ i j k, ws = [.int i, .int j, .int k] ∧ P i j k := by
  unfold wInts3 at h
  split at h
  · exact ⟨_, _, _, rfl, h⟩
  · exact h.elim
theorem wInts2_el {ws : List W} {P : Int → Int → Prop} (h : wInts2 ws P) : ∃ i j, ws = [.int i, .int j] ∧ P i j := by
  unfold wInts2 at h
  split at h
  · exact ⟨_, _, rfl, h⟩
  · exact h.elim
/-- a list, or the tuple itself -/
theorem seq_rep2 {x : W} {v : V} {ws : List W} (h : seqOf S x = some ws) (r : rep Γ S H x v) (s : SR Γ S H) :
    (∃ p vs, v = .ref p ∧ SqL Γ.K H p vs ∧ reps Γ S H ws vs) ∨ (x = .tup ws ∧ ∃ p vs, v = .ref p ∧ SqT Γ.K H p vs ∧ reps Γ S H ws vs) := by
  unfold seqOf at h
  cases x with
  | tup ws' =>
    simp only [deref] at h
    cases h
    obtain ⟨a, vs, e, q, t⟩ := r
    exact .inr ⟨rfl, a, vs, e, q.sq, t⟩
  | sc ws' =>
    simp only [deref] at h
    cases h
    obtain ⟨a, vs, e, q, t⟩ := r
    exact .inl ⟨a, vs, e, q.sq, t⟩
  | rl ws' =>
    simp only [deref] at h
    cases h
    obtain ⟨a, vs, e, q, t⟩ := r
    exact .inl ⟨a, vs, e, q.sq, t⟩
  | ref a =>
    rw [deref_ref] at h
    cases q : S a with
    | none => rw [q] at h; simp at h
    | some o =>
      cases o with
      | lst us =>
        rw [q] at h
        simp at h
        subst h
        obtain ⟨vs, h1, h2⟩ := s a _ q
        exact .inl ⟨a, vs, r, .inl (.inl h1), h2⟩
      | dic _ _ => rw [q] at h; simp at h
      | ins _ _ _ => rw [q] at h; simp at h
      | hid => rw [q] at h; simp at h
  | _ => simp [deref] at h

/-! ### built-in functions -/
theorem str_of (s : String) : Str.ofString s = ⟨(s.toList.map Char.toNat).toArray⟩ := by
  unfold Str.ofString
  rw [cpsOfBytes_string]
theorem okStr_map (l : List Char) : okStr (l.map Char.toNat) = true := by
  unfold okStr
  rw [List.all_eq_true]
  intro n hn
  obtain ⟨c, _, rfl⟩ := List.mem_map.mp hn
  have h := c.valid
  simp only [UInt32.isValidChar, Nat.isValidChar] at h
  have : c.toNat = c.val.toNat := rfl
  simp
  omega
def fnB : Bi → Value
  | .len => .builtin "len"
  | .int1 => .type "int"
  | .str1 => .type "str"
  | .abs => .builtin "abs"
  | .max2 => .builtin "max"
  | .max3 => .builtin "max"
  | .min2 => .builtin "min"
  | .max1 => .builtin "max"
  | .min1 => .builtin "min"
  | .sum1 => .builtin "sum"
  | .all1 => .builtin "all"
  | .any1 => .builtin "any"
  | .tuple1 => .type "tuple"
  | .list1 _ => .type "list"
  | .maxd => .none
  | .listrev _ => .none
  | .lenset => .none
  | .dict1 => .type "dict"
  | .ord1 => .builtin "ord"
def rBi (Γ : Gm) (b : Bi) : List V → Hp → VK → Prop := fun vs H Q => ∃ ws S QW, reps Γ S H ws vs ∧ SR Γ S H ∧ wBi b ws S QW ∧ KQ Γ S H QW Q
theorem wLen_n {x : W} (n : ∀ z, x ≠ .str z) : wLen x S QW = (match dicOf S x with
    | some p => QW (.int p.1.length) S
    | none => wSome (seqOf S x) fun ws => QW (.int ws.length) S) := by
  cases x with
  | str z => exact absurd rfl (n z)
  | _ => rfl
/-- the length of a dict -/
theorem call_len_dic : CallR X (.builtin "len") (fun xs H Q => ∃ (p : Addr) (kvs : List (Key × V)), xs = [.ref p] ∧ H p = some (.dK kvs) ∧ Q (.int kvs.length) H) := by
  intro pins s σ H xs us Q I r h
  obtain ⟨p, kvs, rfl, hd, q⟩ := h
  obtain ⟨u, rfl, rx⟩ := vals1 r
  cases rx
  have hn := line63
  obtain ⟨z, ne, vs, kv, hm⟩ := dk_of I.hok hd
  have hlen := kv.length
  exact call_len_dict ne hm (by omega) ⟨.int kvs.length, H, I.tok _, ⟨s.toks + 1, by rw [hlen]⟩, q⟩
/-- what may be called while an exception is handled -/
def coolB : Bi → Bool
  | .str1 => true
  | .len => true
  | _ => false
theorem call_Bi (hK : X.K = Γ.K) (b : Bi) (hc : coolB b = false → X.calm = true) (hb : fnB b ≠ .none) : CallR X (fnB b) (rBi Γ b) := by
  intro pins s σ H vs us Q I r h
  obtain ⟨ws, S, QW, rr, hs, h, k⟩ := h
  cases b with
  | len =>
    obtain ⟨x, rfl, h⟩ := w1_el h
    obtain ⟨v, rfl, rv⟩ := rr.l1
    replace h : wLen x S QW := h
    have gen : (∀ z, x ≠ .str z) → wpAny (model X.prog X.w) X.A (call (.builtin "len") us) (EP X pins σ Q) X.xe s := fun n => by
      cases ed : dicOf S x with
      | some p =>
        rw [wLen_n n, ed] at h
        have h2 : QW (.int p.1.length) S := h
        obtain ⟨a, vs, rfl, ha, hl, rr⟩ := dic_rep ed rv hs
        refine call_len_dic pins s σ H _ us Q I r ⟨a, _, rfl, ha, ?_⟩
        rw [dkz_len (hl.trans rr.len)]
        exact k.here hs (w := .int _) rfl h2
      | none =>
      rw [wLen_n n, ed] at h
      have h2 : wSome (seqOf S x) fun ws => QW (.int ws.length) S := h
      obtain ⟨ws, e, h⟩ := wSome_el h2
      obtain ⟨p, vs, rfl, hq, rr⟩ := seq_rep e rv hs
      refine call_len_seq pins s σ H _ us Q I r ⟨p, vs, rfl, hK ▸ hq, ?_⟩
      rw [← rr.len]
      exact k.here hs (w := .int _) rfl h
    cases x with
    | str z =>
      obtain ⟨rfl, _⟩ := rv
      refine call_len_str pins s σ H _ us Q I r ⟨⟨z.toArray⟩, rfl, by rw [str_len]; exact h.1, ?_⟩
      rw [str_len]
      exact k.here hs (w := .int _) rfl h.2
    | _ => exact gen (fun z e => by cases e)
  | int1 =>
    obtain ⟨x, rfl, h⟩ := w1_el h
    obtain ⟨v, rfl, rv⟩ := rr.l1
    replace h : wIntOf x S QW := h
    unfold wIntOf at h
    split at h
    · cases rv
      exact call_int1 pins s σ H _ us Q I r (.inl ⟨_, rfl, k.here hs (w := .int _) rfl h⟩)
    · cases rv
      exact call_int1 pins s σ H _ us Q I r (.inr ⟨_, rfl, k.here hs (w := .int _) rfl h⟩)
    · obtain ⟨rfl, _⟩ := rv
      obtain ⟨hl, n, hn, h⟩ := h
      exact call_int_str pins s σ H _ us Q I r ⟨_, n, rfl, hn, by rw [str_len]; exact hl, k.here hs (w := .int _) rfl h⟩
    · exact h.elim
  | ord1 =>
    obtain ⟨x, rfl, h⟩ := w1_el h
    obtain ⟨v, rfl, rv⟩ := rr.l1
    replace h : wOrd x S QW := h
    cases x with
    | str z =>
      cases z with
      | nil => exact h.elim
      | cons c t =>
        cases t with
        | cons _ _ => exact h.elim
        | nil =>
          obtain ⟨rfl, _⟩ := rv
          exact call_ord pins s σ H _ us Q I r ⟨⟨[c].toArray⟩, rfl, rfl, k.here hs (w := .int _) rfl h⟩
    | _ => exact h.elim
  | str1 =>
    obtain ⟨x, rfl, h⟩ := w1_el h
    obtain ⟨v, rfl, rv⟩ := rr.l1
    obtain ⟨i, rfl, h⟩ := wI1_el h
    cases rv
    refine call_str_int pins s σ H _ us Q I r ⟨_, rfl, h.1, ?_⟩
    refine k.here hs (w := .str _) ⟨?_, okStr_map _⟩ h.2
    exact congrArg V.str (str_of _)
  | abs =>
    obtain ⟨x, rfl, h⟩ := w1_el h
    obtain ⟨v, rfl, rv⟩ := rr.l1
    obtain ⟨i, rfl, h⟩ := wI1_el h
    cases rv
    exact call_abs pins s σ H _ us Q I r ⟨_, rfl, k.here hs (w := .int _) rfl h⟩
  | max2 =>
    obtain ⟨i, j, rfl, h⟩ := wInts2_el h
    obtain ⟨v, u, rfl, rv, ru⟩ := rr.l2
    cases rv
    cases ru
    refine call_max2 (hc rfl) pins s σ H _ us Q I r ⟨_, _, rfl, ?_⟩
    have e : (if j > i then j else i) = max i j := by omega
    rw [e]
    exact k.here hs (w := .int _) rfl h
  | max3 =>
    obtain ⟨i, j, l, rfl, h⟩ := wInts3_el h
    obtain ⟨v, r1, rfl, rv, rr⟩ := rr
    obtain ⟨u, t, rfl, ru, rt⟩ := rr.l2
    cases rv
    cases ru
    cases rt
    refine call_max3Nu (hc rfl) pins s σ H _ us Q I r ⟨_, _, _, .int (max (max i j) l), rfl, ?_, k.here hs (w := .int _) rfl h⟩
    have m2 : ∀ a b : Int, nuMax2 (.int a) (.int b) = some (.int (max a b)) := fun a b => by
      show some (if decide (a < b) = true then V.int b else V.int a) = _
      by_cases e : a < b
      · rw [decide_eq_true e, if_pos rfl, Int.max_eq_right (by omega)]
      · rw [decide_eq_false e, if_neg (by simp), Int.max_eq_left (by omega)]
    show (nuMax2 (.int i) (.int j)).bind _ = _
    rw [m2]
    exact m2 _ _
  | min2 =>
    obtain ⟨i, j, rfl, h⟩ := wInts2_el h
    obtain ⟨v, u, rfl, rv, ru⟩ := rr.l2
    cases rv
    cases ru
    refine call_min2 (hc rfl) pins s σ H _ us Q I r ⟨_, _, rfl, ?_⟩
    have e : (if j < i then j else i) = min i j := by omega
    rw [e]
    exact k.here hs (w := .int _) rfl h
  | max1 =>
    obtain ⟨x, rfl, h⟩ := w1_el h
    obtain ⟨v, rfl, rv⟩ := rr.l1
    obtain ⟨ns, e, h⟩ := wSome_el h
    obtain ⟨p, rfl, h1⟩ := lstInts e rv hs
    refine cr_max (hc rfl) pins s σ H _ us Q I r ⟨p, ns, rfl, SqL.of h1, h.1, fun m m1 m2 => ?_⟩
    rw [maxL_uniq m1 m2]
    exact k.here hs (w := .int _) rfl h.2
  | min1 =>
    obtain ⟨x, rfl, h⟩ := w1_el h
    obtain ⟨v, rfl, rv⟩ := rr.l1
    obtain ⟨ns, e, h⟩ := wSome_el h
    obtain ⟨p, rfl, h1⟩ := lstInts e rv hs
    refine cr_min (hc rfl) pins s σ H _ us Q I r ⟨p, ns, rfl, SqL.of h1, h.1, fun m m1 m2 => ?_⟩
    rw [minL_uniq m1 m2]
    exact k.here hs (w := .int _) rfl h.2
  | sum1 =>
    obtain ⟨x, rfl, h⟩ := w1_el h
    obtain ⟨v, rfl, rv⟩ := rr.l1
    obtain ⟨ns, e, h⟩ := wSome_el h
    obtain ⟨p, rfl, h1⟩ := lstInts e rv hs
    exact cr_sum (hc rfl) pins s σ H _ us Q I r ⟨p, ns, rfl, SqL.of h1, k.here hs (w := .int _) rfl h⟩
  | all1 =>
    obtain ⟨x, rfl, h⟩ := w1_el h
    obtain ⟨v, rfl, rv⟩ := rr.l1
    obtain ⟨ns, e, h⟩ := wSome_el h
    obtain ⟨p, rfl, h1⟩ := lstBls e rv hs
    exact cr_all (hc rfl) pins s σ H _ us Q I r ⟨p, ns, rfl, SqL.of h1, k.here hs (w := .bl _) rfl h⟩
  | any1 =>
    obtain ⟨x, rfl, h⟩ := w1_el h
    obtain ⟨v, rfl, rv⟩ := rr.l1
    obtain ⟨ns, e, h⟩ := wSome_el h
    obtain ⟨p, rfl, h1⟩ := lstBls e rv hs
    exact cr_any (hc rfl) pins s σ H _ us Q I r ⟨p, ns, rfl, SqL.of h1, k.here hs (w := .bl _) rfl h⟩
  | tuple1 =>
    obtain ⟨x, rfl, h⟩ := w1_el h
    obtain ⟨v, rfl, rv⟩ := rr.l1
    obtain ⟨ws, e, h⟩ := wSome_el h
    rcases seq_rep2 e rv hs with ⟨p, vs, rfl, hq, rw1⟩ | ⟨rfl, p, vs, rfl, hq, rw1⟩
    · exact call_tuple_of pins s σ H _ us Q I r ⟨p, vs, rfl, .inl ⟨hK ▸ hq, tup_ok h rw1 hs k⟩⟩
    · exact call_tuple_of pins s σ H _ us Q I r ⟨p, vs, rfl, .inr ⟨hK ▸ hq, k.here hs (w := .tup _) rv h⟩⟩
  | list1 fz =>
    obtain ⟨x, rfl, h⟩ := w1_el h
    obtain ⟨v, rfl, rv⟩ := rr.l1
    obtain ⟨ws, e, h⟩ := wSome_el h
    obtain ⟨p, vs, rfl, hq, rw1⟩ := seq_rep e rv hs
    exact call_list_of pins s σ H _ us Q I r ⟨p, vs, rfl, hK ▸ hq, mkL_ok h rw1 hs k⟩
  | maxd => exact absurd rfl hb
  | listrev _ => exact absurd rfl hb
  | lenset => exact absurd rfl hb
  | dict1 =>
    obtain ⟨x, rfl, h⟩ := w1_el h
    obtain ⟨v, rfl, rv⟩ := rr.l1
    obtain ⟨p, e, h⟩ := wSome_el h
    obtain ⟨a, vs, rfl, hh, hl, rr2⟩ := dic_rep e rv hs
    refine call_dictD pins s σ H _ us Q I r ⟨a, _, rfl, .inl hh, fun q hq => ?_⟩
    exact k (.ref q) (S.set q (.dic p.1 p.2)) (.ref q) _ rfl (orep.new (u := .dic p.1 p.2) hs hq ⟨vs, upd_same, hl, reps.fr (Fr.newS hq) _ _ rr2⟩) (Fr.newS hq) (h q (hs.nil hq))

/-! ### isinstance -/
def tyN : Ty → String
  | .int => "int"
  | .bool => "bool"
  | .str => "str"
  | .tuple => "tuple"
  | .list => "list"
  | .dict => "dict"
theorem isi_ty {t : Ty} {x : W} {v : V} {b : Bool} (h : isiW t S x = some b) (r : rep Γ S H x v) (s : SR Γ S H) : ∃ T, TyX Γ.K H v T ∧ PySem.W.kitOne Γ.K T (.type (tyN t)) = some b := by
  unfold isiW at h
  have kl : ∀ (t : Ty), kitB "list" (tyN t) = some (t == .list) := fun t => by cases t <;> decide +kernel
  have kd : ∀ (t : Ty), kitB "dict" (tyN t) = some (t == .dict) := fun t => by cases t <;> decide +kernel
  have ki : ∀ {C : Addr} (_ : InsC Γ.K C) (t : Ty), PySem.W.kitOne Γ.K (.ref C) (.type (tyN t)) = some false := fun k t => k.kt _ (by cases t <;> simp [tyN, tyAll])
  have kt : ∀ (t : Ty), kitB "tuple" (tyN t) = some (t == .tuple) := fun t => by cases t <;> decide +kernel
  cases x with
  | non => cases r; cases h; exact ⟨_, .base .non, kit_ty (by cases t <;> decide +kernel)⟩
  | bl y => cases r; cases h; exact ⟨_, .base (.bl y), kit_ty (by cases t <;> decide +kernel)⟩
  | int y => cases r; cases h; exact ⟨_, .base (.int y), kit_ty (by cases t <;> decide +kernel)⟩
  | str y => obtain ⟨rfl, _⟩ := r; cases h; exact ⟨_, .base (.str _), kit_ty (by cases t <;> decide +kernel)⟩
  | tup ws =>
    obtain ⟨a, vs, rfl, q, _⟩ := r
    cases h
    rcases q with ⟨_, q | ⟨o, q⟩⟩ | ⟨o, its, n, q1, q2, _⟩
    · exact ⟨_, .base (.tup q), kit_ty (kt t)⟩
    · exact ⟨_, .fTuple q, kit_ty (kt t)⟩
    · exact ⟨_, .kTuple q1 q2, kit_ty (kt t)⟩
  | rl ws =>
    obtain ⟨a, vs, rfl, q, _⟩ := r
    cases h
    exact ⟨_, .base (.lst q.2), kit_ty (kl t)⟩
  | sc ws =>
    obtain ⟨a, vs, rfl, q, _⟩ := r
    cases h
    rcases q with ⟨_, q | ⟨o, q⟩⟩ | ⟨o, its, n, q1, q2, _⟩
    · exact ⟨_, .base (.lst q), kit_ty (kl t)⟩
    · exact ⟨_, .base (.frz q), kit_ty (kl t)⟩
    · exact ⟨_, .kList q1 q2, kit_ty (kl t)⟩
  | ref a =>
    cases r
    rw [deref_ref] at h
    cases q : S a with
    | none => simp only [q] at h; cases h
    | some o =>
      cases o with
      | lst us =>
        rw [q] at h
        cases h
        obtain ⟨vs, h1, _⟩ := s a _ q
        exact ⟨_, .base (.lst h1), kit_ty (kl t)⟩
      | dic _ _ =>
        simp only [q] at h
        cases h
        obtain ⟨vs, h1, _⟩ := s a _ q
        exact ⟨_, .base (.dK h1), kit_ty (kd t)⟩
      | ins _ _ _ =>
        simp only [q] at h
        cases h
        obtain ⟨dx, vs, h1, ⟨_, k, _⟩, _⟩ := s a _ q
        exact ⟨_, .base (.ins h1 k.cl k.ha k.hn k.ht k.hm), ki k t⟩
      | hid => simp only [q] at h; cases h
  | fn _ => cases h
  | dct _ _ =>
    obtain ⟨a, vs, rfl, q, _⟩ := r
    cases h
    exact ⟨_, .base (.dK q.2), kit_ty (kd t)⟩
  | obj _ _ _ =>
    obtain ⟨a, dx, vs, rfl, q, ⟨_, k, _⟩, _⟩ := r
    cases h
    exact ⟨_, .base (.ins q.2 k.cl k.ha k.hn k.ht k.hm), ki k t⟩
  | exn _ _ _ => cases h

/-! ### subscripts -/
theorem at_rep {ws : List W} {vs : List V} {i : Int} {w : W} (h : atW ws i = some w) (r : reps Γ S H ws vs) : ∃ v, atI vs i = some v ∧ rep Γ S H w v := by
  unfold atW at h
  have e : ixW ws.length i = ixN vs.length i := by rw [r.len]; rfl
  unfold atI
  rw [e] at h
  cases q : ixN vs.length i with
  | none => rw [q] at h; cases h
  | some j =>
    rw [q] at h
    obtain ⟨v, h1, h2⟩ := r.get (i := j) h
    exact ⟨v, h1, h2⟩
def rIxW (Γ : Gm) : R2 := fun v u H Q => ∃ x y S QW, rep Γ S H x v ∧ rep Γ S H y u ∧ SR Γ S H ∧ wIdx x y S QW ∧ KQ Γ S H QW Q
theorem ix_W (hK : X.K = Γ.K) (hu : X.A.units + 64 < cLine) : IxR X (rIxW Γ) := by
  intro value slice pins s σ H x y v u Q I rx ry h hsub
  obtain ⟨a, b, S, QW, ra, rb, hs, h, k⟩ := h
  unfold wIdx at h
  cases hd : dicOf S a with
  | some p =>
    rw [hd] at h
    simp only at h
    cases hk : kyOf b with
    | none => rw [hk] at h; exact h.elim
    | some kk =>
      rw [hk] at h
      simp only at h
      obtain ⟨t, o, rfl, g, g1, g2⟩ := dic_get hd hk ra rb hs
      cases e : lookD p.1 p.2 kk with
      | none => rw [e] at h; exact h.elim
      | some w =>
        rw [e] at h
        obtain ⟨z, rfl, rz⟩ := g1 w e
        exact ix_dk (by omega) value slice pins s σ H _ _ v u Q I rx ry ⟨t, z, rfl, g, k.here hs rz h⟩ hsub
  | none =>
  rw [hd] at h
  simp only at h
  split at h
  · rename_i i
    cases rb
    split at h
    · rename_i z
      obtain ⟨rfl, oz⟩ := ra
      obtain ⟨hl, h⟩ := h
      split at h
      · rename_i c e
        refine ix_str value slice pins s σ H _ _ v u Q I rx ry ⟨⟨z.toArray⟩, i, c, rfl, rfl, by rw [str_len]; exact hl, ?_, ?_⟩ hsub
        · exact (show atW z i = some c from e)
        · refine k.here hs (w := .str [c]) ⟨rfl, ?_⟩ h
          unfold okStr at oz ⊢
          have hm : c ∈ z := by
            unfold atW at e
            cases q : ixW z.length i with
            | none => rw [q] at e; cases e
            | some j => rw [q] at e; exact List.mem_of_getElem? e
          simpa using List.all_eq_true.mp oz c hm
      · exact h.elim
    · split at h
      · rename_i ws e
        obtain ⟨p, vs, rfl, hq, rr⟩ := seq_rep e ra hs
        split at h
        · rename_i w2 e2
          obtain ⟨v2, h1, h2⟩ := at_rep e2 rr
          have q := k.here hs h2 h
          refine ix_seq value slice pins s σ H _ _ v u Q I rx ry ?_ hsub
          rcases hq with hq | hq
          · exact .inl ⟨p, vs, i, v2, rfl, rfl, hK ▸ hq, h1, q⟩
          · exact .inr (.inl ⟨p, vs, i, v2, rfl, rfl, hK ▸ hq, h1, q⟩)
        · exact h.elim
      · exact h.elim
  · exact h.elim
def rSlW (Γ : Gm) (fz : Bool) : V → Option Int → Option Int → Hp → VK → Prop := fun v lo hi H Q => ∃ x S QW, rep Γ S H x v ∧ SR Γ S H ∧ (∃ l h : List W, optInt l = some lo ∧ optInt h = some hi ∧ wSl fz x l h S QW) ∧ KQ Γ S H QW Q
theorem sl_W (hK : X.K = Γ.K) (fz : Bool) : SlR X (rSlW Γ fz) := by
  intro pins s σ H x v vl vu lo hi sl Q I rx hsl pl pu h
  obtain ⟨a, S, QW, ra, hs, ⟨l, hh, el, eh, h⟩, k⟩ := h
  unfold wSl at h
  rw [el, eh] at h
  simp only at h
  cases a with
  | tup ws =>
    simp only [deref] at h
    obtain ⟨p, vs, rfl, hq, rr⟩ := ra
    have hc := rr.cut lo hi
    refine sl_tupA pins s σ H _ v vl vu lo hi sl Q I rx hsl pl pu ⟨p, vs, rfl, hK ▸ hq.sq, fun e => ?_, fun _ p e => tup_ok h hc hs k p e⟩
    refine k.here hs (w := .tup _) ⟨p, vs, rfl, hq, ?_⟩ h
    have e2 : cutV vs lo hi = vs := by unfold cutV; rw [e.1, e.2]; simp
    rw [e2] at hc
    exact hc
  | rl ws =>
    simp only [deref] at h
    obtain ⟨p, vs, rfl, hq, rr⟩ := ra
    exact sl_list pins s σ H _ v vl vu lo hi sl Q I rx hsl pl pu ⟨p, vs, rfl, hK ▸ hq.sq, mkL_ok h (rr.cut lo hi) hs k⟩
  | sc ws =>
    simp only [deref] at h
    obtain ⟨p, vs, rfl, hq, rr⟩ := ra
    exact sl_list pins s σ H _ v vl vu lo hi sl Q I rx hsl pl pu ⟨p, vs, rfl, hK ▸ hq.sq, mkL_ok h (rr.cut lo hi) hs k⟩
  | str z =>
    simp only [deref] at h
    obtain ⟨rfl, oz⟩ := ra
    refine sl_str pins s σ H _ v vl vu lo hi sl Q I rx hsl pl pu ⟨⟨z.toArray⟩, rfl, by rw [str_len]; exact h.1, ?_⟩
    refine k.here hs (w := .str _) ⟨?_, ?_⟩ h.2
    · unfold strV cutS cutW
      simp [Str.length]
    · unfold okStr at oz ⊢
      rw [List.all_eq_true] at oz ⊢
      intro c hc
      unfold cutW at hc
      exact oz c (List.mem_of_mem_drop (List.mem_of_mem_take hc))
  | ref p =>
    cases ra
    rw [deref_ref] at h
    cases q : S p with
    | none => rw [q] at h; exact h.elim
    | some o =>
      cases o with
      | lst us =>
        rw [q] at h
        obtain ⟨vs, h1, rr⟩ := hs p _ q
        exact sl_list pins s σ H _ v vl vu lo hi sl Q I rx hsl pl pu ⟨p, vs, rfl, SqL.of h1, mkL_ok h (rr.cut lo hi) hs k⟩
      | dic _ _ => rw [q] at h; exact h.elim
      | ins _ _ _ => rw [q] at h; exact h.elim
      | hid => rw [q] at h; exact h.elim
  | _ => exact h.elim
end
end Bw

/-! Ev6: what is walked. -/
namespace Bw
open PySem L2 PySem.Spec PyProof.Rows
/-- the turns J yield the items, where P stays and the lists lk stand -/
structure Wk (Γ : Gm) (J : It) (items : List W) (lk : Lk) (P : Sto → Hp → Prop) : Prop where
  st : ∀ S H S' H', Fr S H S' H' → P S H → P S' H'
  go : ∀ i S H, SR Γ S H → P S H → liveS lk S → i < items.length → J.go i H
  stop : ∀ i S H, SR Γ S H → P S H → liveS lk S → items.length ≤ i → J.stop i H
  yld : ∀ i S H x H', SR Γ S H → P S H → liveS lk S → i < items.length → J.yld i H x H' → ∃ w, items[i]? = some w ∧ SR Γ S H' ∧ Fr S H S H' ∧ rep Γ S H' w x
section
variable {Γ : Gm} {S : Sto} {H : Hp} {lk lk2 : Lk} {P P2 : Sto → Hp → Prop} {a b : Addr} {ws us : List W}
theorem liveS_app : ∀ {lk lk2 : Lk} {S : Sto}, liveS (lk ++ lk2) S ↔ liveS lk S ∧ liveS lk2 S
  | [], _, _ => by simp [liveS]
  | p :: r, lk2, S => by
    simp only [List.cons_append, liveS]
    rw [liveS_app (lk := r)]
    exact and_assoc.symm
theorem SR.tup2 {T : Addr} {vs : List V} (s : SR Γ S H) (e : H T = none) (r : reps Γ S H ws vs) : SR Γ S (upd H T (.tup vs)) ∧ Fr S H S (upd H T (.tup vs)) ∧ rep Γ S (upd H T (.tup vs)) (.tup ws) (.ref T) :=
  ⟨s.new e, Fr.new e, T, vs, rfl, .inl ⟨s.nil e, .inl upd_same⟩, reps.fr (Fr.new e) _ _ r⟩
/-- a list at a -/
def BaseL (Γ : Gm) (a : Addr) (ws : List W) (lk : Lk) (P : Sto → Hp → Prop) : Prop := ∀ S H, SR Γ S H → P S H → liveS lk S → ∃ vs, SqL Γ.K H a vs ∧ reps Γ S H ws vs
def BaseT (Γ : Gm) (a : Addr) (ws : List W) (lk : Lk) (P : Sto → Hp → Prop) : Prop := ∀ S H, SR Γ S H → P S H → liveS lk S → ∃ vs, SqT Γ.K H a vs ∧ reps Γ S H ws vs
def Stb (P : Sto → Hp → Prop) : Prop := ∀ S H S' H', Fr S H S' H' → P S H → P S' H'
theorem reps.getV {vs : List V} (r : reps Γ S H ws vs) {i : Nat} (h : i < ws.length) : ∃ w v, ws[i]? = some w ∧ vs[i]? = some v ∧ rep Γ S H w v := by
  have e : ws[i]? = some ws[i] := List.getElem?_eq_getElem h
  obtain ⟨v, h1, h2⟩ := r.get e
  exact ⟨_, v, e, h1, h2⟩
theorem wk_list (st : Stb P) (B : BaseL Γ a ws lk P) : Wk Γ (Itl Γ.K a) ws lk P where
  st := st
  go := fun i S H s p l h => by
    obtain ⟨vs, hq, r⟩ := B S H s p l
    obtain ⟨w, v, e1, e2, _⟩ := r.getV h
    exact ⟨vs, v, hq, e2⟩
  stop := fun i S H s p l h => by
    obtain ⟨vs, hq, r⟩ := B S H s p l
    exact ⟨vs, hq, by rw [← r.len]; exact h⟩
  yld := fun i S H x H' s p l h y => by
    obtain ⟨vs, hq, r⟩ := B S H s p l
    obtain ⟨w, v, e1, e2, e3⟩ := r.getV h
    obtain ⟨rfl, y⟩ := y
    have := y vs hq
    rw [e2] at this
    cases this
    exact ⟨w, e1, s, Fr.refl _ _, e3⟩
theorem wk_tup (st : Stb P) (B : BaseT Γ a ws lk P) : Wk Γ (Itt Γ.K a) ws lk P where
  st := st
  go := fun i S H s p l h => by
    obtain ⟨vs, hq, r⟩ := B S H s p l
    obtain ⟨w, v, e1, e2, _⟩ := r.getV h
    exact ⟨vs, v, hq, e2⟩
  stop := fun i S H s p l h => by
    obtain ⟨vs, hq, r⟩ := B S H s p l
    exact ⟨vs, hq, by rw [← r.len]; exact h⟩
  yld := fun i S H x H' s p l h y => by
    obtain ⟨vs, hq, r⟩ := B S H s p l
    obtain ⟨w, v, e1, e2, e3⟩ := r.getV h
    obtain ⟨rfl, y⟩ := y
    have := y vs hq
    rw [e2] at this
    cases this
    exact ⟨w, e1, s, Fr.refl _ _, e3⟩
theorem wk_rev (st : Stb P) (B : BaseL Γ a ws lk P) : Wk Γ (Itv Γ.K a ws.length) ws.reverse lk P where
  st := st
  go := fun i S H s p l h => by
    rw [List.length_reverse] at h
    obtain ⟨vs, hq, r⟩ := B S H s p l
    obtain ⟨w, v, e1, e2, _⟩ := r.getV (i := ws.length - 1 - i) (by omega)
    exact ⟨h, vs, v, hq, e2⟩
  stop := fun i S H s p l h => by rw [List.length_reverse] at h; exact h
  yld := fun i S H x H' s p l h y => by
    rw [List.length_reverse] at h
    obtain ⟨vs, hq, r⟩ := B S H s p l
    obtain ⟨w, v, e1, e2, e3⟩ := r.getV (i := ws.length - 1 - i) (by omega)
    obtain ⟨rfl, y⟩ := y
    have := y vs hq
    rw [e2] at this
    cases this
    exact ⟨w, by rw [List.getElem?_reverse h]; exact e1, s, Fr.refl _ _, e3⟩
theorem enumW_get : ∀ {ws : List W} {k i : Nat}, (enumW k ws)[i]? = (ws[i]?).map fun w => .tup [.int ((k + i : Nat) : Int), w]
  | [], k, i => by simp [enumW]
  | w :: ws, k, 0 => by simp [enumW]
  | w :: ws, k, i + 1 => by
    simp only [enumW, List.getElem?_cons_succ]
    rw [enumW_get]
    have e : k + 1 + i = k + (i + 1) := by omega
    rw [e]
theorem enumW_len : ∀ {ws : List W} {k : Nat}, (enumW k ws).length = ws.length
  | [], _ => rfl
  | w :: ws, k => by simp [enumW, enumW_len]
theorem wk_enum (st : Stb P) (B : BaseL Γ a ws lk P) : Wk Γ (Ite Γ.K a) (enumW 0 ws) lk P where
  st := st
  go := fun i S H s p l h => by
    rw [enumW_len] at h
    obtain ⟨vs, hq, r⟩ := B S H s p l
    obtain ⟨w, v, e1, e2, _⟩ := r.getV h
    exact ⟨vs, v, hq, e2⟩
  stop := fun i S H s p l h => by
    rw [enumW_len] at h
    obtain ⟨vs, hq, r⟩ := B S H s p l
    exact ⟨vs, hq, by rw [← r.len]; exact h⟩
  yld := fun i S H x H' s p l h y => by
    rw [enumW_len] at h
    obtain ⟨vs, hq, r⟩ := B S H s p l
    obtain ⟨w, v, e1, e2, e3⟩ := r.getV h
    obtain ⟨T, z, rfl, eT, rfl, y⟩ := y
    have := y vs hq
    rw [e2] at this
    cases this
    obtain ⟨q1, q2, q3⟩ := s.tup2 (ws := [.int (i : Nat), w]) (vs := [.int (i : Nat), v]) eT ⟨_, _, rfl, rfl, reps.one e3⟩
    refine ⟨_, ?_, q1, q2, q3⟩
    rw [enumW_get, e1]
    simp
theorem zipW_get : ∀ {ws us : List W} {i : Nat}, (zipW ws us)[i]? = (match ws[i]?, us[i]? with | some x, some y => some (.tup [x, y]) | _, _ => none)
  | [], us, i => by simp [zipW]
  | w :: ws, [], i => by simp only [zipW]; cases (w :: ws)[i]? <;> simp
  | w :: ws, u :: us, 0 => by simp [zipW]
  | w :: ws, u :: us, i + 1 => by
    simp only [zipW, List.getElem?_cons_succ]
    exact zipW_get
theorem zipW_len : ∀ {ws us : List W}, (zipW ws us).length = min ws.length us.length
  | [], us => by simp [zipW]
  | w :: ws, [] => by simp [zipW]
  | w :: ws, u :: us => by simp only [zipW, List.length_cons]; rw [zipW_len]; omega
theorem wk_zip (st : Stb P) (B : BaseL Γ a ws lk P) (B2 : BaseL Γ b us lk P) : Wk Γ (Itz Γ.K a b) (zipW ws us) lk P where
  st := st
  go := fun i S H s p l h => by
    rw [zipW_len] at h
    obtain ⟨vs, hq, r⟩ := B S H s p l
    obtain ⟨vs2, hq2, r2⟩ := B2 S H s p l
    obtain ⟨w, v, e1, e2, _⟩ := r.getV (i := i) (by omega)
    obtain ⟨w2, v2, e12, e22, _⟩ := r2.getV (i := i) (by omega)
    exact ⟨vs, vs2, v, v2, hq, hq2, e2, e22⟩
  stop := fun i S H s p l h => by
    rw [zipW_len] at h
    obtain ⟨vs, hq, r⟩ := B S H s p l
    obtain ⟨vs2, hq2, r2⟩ := B2 S H s p l
    have l1 := r.len
    have l2 := r2.len
    exact ⟨vs, vs2, hq, hq2, by omega⟩
  yld := fun i S H x H' s p l h y => by
    rw [zipW_len] at h
    obtain ⟨vs, hq, r⟩ := B S H s p l
    obtain ⟨vs2, hq2, r2⟩ := B2 S H s p l
    obtain ⟨w, v, e1, e2, e3⟩ := r.getV (i := i) (by omega)
    obtain ⟨w2, v2, e12, e22, e32⟩ := r2.getV (i := i) (by omega)
    obtain ⟨T, z, z2, rfl, eT, rfl, y, y2⟩ := y
    have t1 := y vs hq
    rw [e2] at t1
    cases t1
    have t2 := y2 vs2 hq2
    rw [e22] at t2
    cases t2
    obtain ⟨q1, q2, q3⟩ := s.tup2 (ws := [w, w2]) (vs := [v, v2]) eT ⟨_, _, rfl, e3, reps.one e32⟩
    refine ⟨_, ?_, q1, q2, q3⟩
    rw [zipW_get, e1, e12]
theorem wk_zipT (st : Stb P) (B : BaseT Γ a ws lk P) (B2 : BaseT Γ b us lk P) : Wk Γ (RZ.ItzT Γ.K a b) (zipW ws us) lk P where
  st := st
  go := fun i S H s p l h => by
    rw [zipW_len] at h
    obtain ⟨vs, hq, r⟩ := B S H s p l
    obtain ⟨vs2, hq2, r2⟩ := B2 S H s p l
    obtain ⟨w, v, e1, e2, _⟩ := r.getV (i := i) (by omega)
    obtain ⟨w2, v2, e12, e22, _⟩ := r2.getV (i := i) (by omega)
    exact ⟨vs, vs2, v, v2, hq, hq2, e2, e22⟩
  stop := fun i S H s p l h => by
    rw [zipW_len] at h
    obtain ⟨vs, hq, r⟩ := B S H s p l
    obtain ⟨vs2, hq2, r2⟩ := B2 S H s p l
    have l1 := r.len
    have l2 := r2.len
    exact ⟨vs, vs2, hq, hq2, by omega⟩
  yld := fun i S H x H' s p l h y => by
    rw [zipW_len] at h
    obtain ⟨vs, hq, r⟩ := B S H s p l
    obtain ⟨vs2, hq2, r2⟩ := B2 S H s p l
    obtain ⟨w, v, e1, e2, e3⟩ := r.getV (i := i) (by omega)
    obtain ⟨w2, v2, e12, e22, e32⟩ := r2.getV (i := i) (by omega)
    obtain ⟨T, z, z2, rfl, eT, rfl, y, y2⟩ := y
    have t1 := y vs hq
    rw [e2] at t1
    cases t1
    have t2 := y2 vs2 hq2
    rw [e22] at t2
    cases t2
    obtain ⟨q1, q2, q3⟩ := s.tup2 (ws := [w, w2]) (vs := [v, v2]) eT ⟨_, _, rfl, e3, reps.one e32⟩
    refine ⟨_, ?_, q1, q2, q3⟩
    rw [zipW_get, e1, e12]
theorem rngW_get {lo : Int} {n i : Nat} (h : i < n) : (rngW lo n)[i]? = some (.int (lo + (i : Int))) := by
  unfold rngW
  rw [List.getElem?_map, List.getElem?_range h]
  rfl
theorem rngW_len {lo : Int} {n : Nat} : (rngW lo n).length = n := by unfold rngW; simp
theorem wk_rng {lo : Int} {n : Nat} : Wk Γ (Itr lo n) (rngW lo n) [] (fun _ _ => True) where
  st := fun _ _ _ _ _ _ => trivial
  go := fun i S H s p l h => by rw [rngW_len] at h; exact h
  stop := fun i S H s p l h => by rw [rngW_len] at h; exact h
  yld := fun i S H x H' s p l h y => by
    rw [rngW_len] at h
    obtain ⟨rfl, rfl⟩ := y
    exact ⟨_, rngW_get h, s, Fr.refl _ _, rfl⟩
theorem wk_str {z : List Nat} (oz : okStr z = true) : Wk Γ (Its ⟨z.toArray⟩) (z.map fun c => W.str [c]) [] (fun _ _ => True) where
  st := fun _ _ _ _ _ _ => trivial
  go := fun i S H s p l h => by simpa [Its] using h
  stop := fun i S H s p l h => by simpa [Its] using h
  yld := fun i S H x H' s p l h y => by
    obtain ⟨rfl, c, hc, rfl⟩ := y
    have hc : z[i]? = some c := by simpa using hc
    refine ⟨.str [c], by rw [List.getElem?_map, hc]; rfl, s, Fr.refl _ _, rfl, ?_⟩
    unfold okStr at oz ⊢
    simpa using List.all_eq_true.mp oz c (List.mem_of_getElem? hc)

/-- a list's value as a base -/
theorem walkL_base {x : W} {v : V} (h : walkL S x = some (ws, lk)) (r : rep Γ S H x v) : ∃ a P, v = .ref a ∧ Stb P ∧ P S H ∧ BaseL Γ a ws lk P := by
  cases x with
  | rl ws' =>
    cases h
    obtain ⟨a, vs, rfl, q, t⟩ := r
    exact ⟨a, fun S H => ∃ vs, RlA S H a vs ∧ reps Γ S H ws vs, rfl, fun S H S' H' f ⟨vs, q, t⟩ => ⟨vs, q.fr f, reps.fr f _ _ t⟩, ⟨vs, q, t⟩, fun S H s ⟨vs, q, t⟩ _ => ⟨vs, q.sq, t⟩⟩
  | sc ws' =>
    cases h
    obtain ⟨a, vs, rfl, q, t⟩ := r
    exact ⟨a, fun S H => ∃ vs, ScA Γ S H a vs ∧ reps Γ S H ws vs, rfl, fun S H S' H' f ⟨vs, q, t⟩ => ⟨vs, q.fr f, reps.fr f _ _ t⟩, ⟨vs, q, t⟩, fun S H s ⟨vs, q, t⟩ _ => ⟨vs, q.sq, t⟩⟩
  | ref a =>
    cases r
    simp only [walkL] at h
    cases q : S a with
    | none => rw [q] at h; cases h
    | some o =>
      cases o with
      | lst us =>
        rw [q] at h
        cases h
        refine ⟨a, fun _ _ => True, rfl, fun _ _ _ _ _ _ => trivial, trivial, fun S H s _ l => ?_⟩
        obtain ⟨vs, h1, h2⟩ := s a _ l.1
        exact ⟨vs, .inl (.inl h1), h2⟩
      | dic _ _ => rw [q] at h; cases h
      | ins _ _ _ => rw [q] at h; cases h
      | hid => rw [q] at h; cases h
  | _ => cases h
theorem tup_base {v : V} (r : rep Γ S H (.tup ws) v) : ∃ a P, v = .ref a ∧ Stb P ∧ P S H ∧ BaseT Γ a ws lk P := by
  obtain ⟨a, vs, rfl, q, t⟩ := r
  exact ⟨a, fun S H => ∃ vs, TupA Γ S H a vs ∧ reps Γ S H ws vs, rfl, fun S H S' H' f ⟨vs, q, t⟩ => ⟨vs, q.fr f, reps.fr f _ _ t⟩, ⟨vs, q, t⟩, fun S H s ⟨vs, q, t⟩ _ => ⟨vs, q.sq, t⟩⟩
theorem walkOf_cases {x : W} (h : walkOf S x = some (ws, lk)) : (x = .tup ws ∧ lk = []) ∨ (∃ z, x = .str z ∧ ws = (z.map fun c => W.str [c]) ∧ lk = []) ∨ walkL S x = some (ws, lk) := by
  cases x with
  | tup _ => cases h; exact .inl ⟨rfl, rfl⟩
  | str z => cases h; exact .inr (.inl ⟨z, rfl, rfl, rfl⟩)
  | rl _ => exact .inr (.inr h)
  | sc _ => exact .inr (.inr h)
  | ref _ => exact .inr (.inr h)
  | _ => cases h
end

/-! ### iterables -/
section
variable {X : Cx} {tg : Expr}
/-- a value that is walked: a list, a tuple, a text -/
def iSeq (K : PySem.W.Frag) (tl : TE) : TI := fun σ H R => tl σ H fun x H1 => (∃ a, x = .ref a ∧ (∃ xs, SqL K H1 a xs) ∧ R (Itl K a) H1) ∨ (∃ a, x = .ref a ∧ (∃ xs, SqT K H1 a xs) ∧ R (Itt K a) H1) ∨ ∃ z, x = .str z ∧ R (Its z) H1
theorem pi_seq {l : Expr} {tl : TE} (hl : PE X l tl) : PI X tg l (iSeq X.K tl) := by
  refine ⟨fun pins s σ H R I h => ?_⟩
  refine thn (hl.run pins s σ H _ I h) fun v s1 ⟨x, H1, I1, r1, q1⟩ => ?_
  rcases q1 with ⟨a, e, ⟨xs, hq⟩, q⟩ | ⟨a, e, ⟨xs, hq⟩, q⟩ | ⟨z, e, q⟩
  · subst e
    cases r1
    obtain ⟨its, rv, p, hz⟩ := I1.list hq
    refine wpAny_pyIter_list p.isList ?_
    refine ⟨s1.heap.objs.size, [s1.heap.objs.size], _, _, H1, rfl, I1.kept (t' := s1.toks) fun b o e => Heap.get?_push_of_some _ e, turn_list a _, ⟨_, Heap.get?_push_size _ rfl, rfl, rfl⟩, fun b hb => ?_, q⟩
    have e : b = s1.heap.objs.size := by simpa using hb
    subst e
    exact I1.fpOk (Nat.le_refl _) (I1.hok.fresh (Nat.le_refl _))
  · subst e
    cases r1
    obtain ⟨its, rv, p, hz⟩ := I1.tuple hq
    refine wpAny_pyIter_tuple (show s1.heap.IsTuple a its.toArray from p) ?_
    refine ⟨s1.heap.objs.size, [s1.heap.objs.size], _, _, H1, rfl, I1.kept (t' := s1.toks) fun b o e => Heap.get?_push_of_some _ e, turn_tuple a _, ⟨_, Heap.get?_push_size _ rfl, rfl, rfl⟩, fun b hb => ?_, q⟩
    have e : b = s1.heap.objs.size := by simpa using hb
    subst e
    exact I1.fpOk (Nat.le_refl _) (I1.hok.fresh (Nat.le_refl _))
  · subst e
    obtain ⟨t, rfl⟩ := r1
    cases ha : z.cps.all (· < 128)
    · exact wpAny_pyIter_wide ha (pi_one (tk := s1.toks) I1 _ (turn_str _ z t "str_iterator" (.inr rfl)) ⟨_, Heap.get?_push_size _ rfl, rfl, rfl⟩ q)
    · exact wpAny_pyIter_ascii ha (pi_one (tk := s1.toks) I1 _ (turn_str _ z t "str_ascii_iterator" (.inl rfl)) ⟨_, Heap.get?_push_size _ rfl, rfl, rfl⟩ q)
end
end Bw

/-! Ev7: which expressions of the text an expression of the evaluator stands for (checked by computation). -/
namespace Bw
open PySem L2 PySem.Spec PyProof.Rows

mutual
def eqB : W → W → Bool
  | .non, .non => true
  | .bl a, .bl b => a == b
  | .int a, .int b => a == b
  | .str a, .str b => a == b
  | .tup a, .tup b => eqBs a b
  | .fn a, .fn b => a == b
  | _, _ => false
def eqBs : List W → List W → Bool
  | [], [] => true
  | a :: r, b :: t => eqB a b && eqBs r t
  | _, _ => false
end
mutual
theorem eqB_eq : ∀ {a b : W}, eqB a b = true → a = b
  | .non, b, h => by cases b <;> first | rfl | simp [eqB] at h
  | .bl x, b, h => by cases b <;> simp [eqB] at h; rw [h]
  | .int x, b, h => by cases b <;> simp [eqB] at h; rw [h]
  | .str x, b, h => by cases b <;> simp [eqB] at h; rw [h]
  | .fn x, b, h => by cases b <;> simp [eqB] at h; rw [h]
  | .tup x, b, h => by
    cases b with
    | tup y => rw [eqBs_eq (show eqBs x y = true from h)]
    | _ => simp [eqB] at h
  | .rl x, b, h => by cases b <;> simp [eqB] at h
  | .sc x, b, h => by cases b <;> simp [eqB] at h
  | .ref x, b, h => by cases b <;> simp [eqB] at h
  | .dct _ _, b, h => by cases b <;> simp [eqB] at h
  | .obj _ _ _, b, h => by cases b <;> simp [eqB] at h
  | .exn _ _ _, b, h => by cases b <;> simp [eqB] at h
theorem eqBs_eq : ∀ {a b : List W}, eqBs a b = true → a = b
  | [], b, h => by cases b <;> first | rfl | simp [eqBs] at h
  | x :: r, b, h => by
    cases b with
    | nil => simp [eqBs] at h
    | cons y t =>
      have h : (eqB x y && eqBs r t) = true := h
      rw [Bool.and_eq_true] at h
      rw [eqB_eq h.1, eqBs_eq h.2]
end

/-- the names of the module that a text may use -/
structure GT where
  fns : List (Str × Nat × Nat)
  cons : List (Str × W)
  tabs : List (Str × List (List Nat × W))
  bis : List Str
  tabT : List (Str × List (List Ky × W)) := []
  /-- within an except suite -/
  hot : Bool := false
  /-- own classes: their names, indices, __init__ -/
  cls : List (Str × Nat × Nat) := []
  /-- own exception classes: their names, indices, fields ([]: made with a text) -/
  xcl : List (Str × Nat × List (List Nat)) := []
  mth : List (List Nat × List (Nat × Nat)) := []
  /-- the fields that a class's instances may have -/
  fld : List (Nat × List (List Nat)) := []
  isC : List (Str × List Nat × List Nat) := []
  exm : List (Str × List Nat × List Nat) := []
  /-- the defaults of a def, the last parameters' -/
  dfl : List (Str × List W) := []
def visB (sc : Scope) (x : Str) : Bool :=
  match sc.names.lookup x with
  | some .local => true
  | some .cell => true
  | some .free => true
  | _ => false
def locB (sc : Scope) (x : Str) : Bool :=
  match sc.names.lookup x with
  | some .local => true
  | some .cell => true
  | _ => false
def gloB (sc : Scope) (x : Str) : Bool :=
  match sc.names.lookup x with
  | some .globalImplicit => true
  | _ => false
def nodbg (x : Str) : Bool := !(x == ("__debug__" : Str)) && !(x == ("__classdict__" : Str)) && !(x == ("__name__" : Str))
def nameB : Bi → Str
  | .len => "len"
  | .int1 => "int"
  | .str1 => "str"
  | .abs => "abs"
  | .max2 => "max"
  | .max3 => "max"
  | .min2 => "min"
  | .max1 => "max"
  | .maxd => "max"
  | .min1 => "min"
  | .sum1 => "sum"
  | .all1 => "all"
  | .any1 => "any"
  | .tuple1 => "tuple"
  | .list1 _ => "list"
  | .listrev _ => "list"
  | .lenset => "len"
  | .dict1 => "dict"
  | .ord1 => "ord"
def tyS : Ty → Str
  | .int => "int"
  | .bool => "bool"
  | .str => "str"
  | .tuple => "tuple"
  | .list => "list"
  | .dict => "dict"
def biB (G : GT) (sc : Scope) (nm x : Str) : Bool := x == nm && gloB sc x && nodbg x && G.bis.contains x
def chL {α β : Type} (f : α → β → Bool) : List α → List β → Bool
  | [], [] => true
  | a :: r, b :: t => f a b && chL f r t
  | _, _ => false
def chO (f : Expr → E → Bool) : Option Expr → List E → Bool
  | none, [] => true
  | some a, [b] => f a b
  | _, _ => false
def ownOf (N : List Str) (own : List Nat) : List (Str × Nat) := own.filterMap fun i => (N[i]?).map fun x => (x, i)
def chNm (N : List Str) (sc : Scope) : Expr → Nat → Bool
  | .Name x _, i => decide (N[i]? = some x) && locB sc x
  | _, _ => false
def chTg (N : List Str) (sc : Scope) (e : Expr) (tg : Tg) : Bool :=
  match tg with
  | .nm i => chNm N sc e i
  | .pr is => match e with
    | .Tuple es _ _ => chL (chNm N sc) es is
    | _ => false
def tgIs : Tg → List Nat
  | .nm i => [i]
  | .pr is => is
def chV (N : List Str) (sc : Scope) : Expr → Nat → Bool
  | .Name x _, i => decide (N[i]? = some x) && visB sc x && nodbg x
  | _, _ => false
/-- a call, a name, a display: no test of its own kind -/
def fzE : Expr → Bool
  | .Call _ _ _ _ => true
  | .Name _ _ => true
  | .Dict _ _ _ => true
  | .List _ _ => true
  | .BinOp _ _ _ _ => true
  | .Subscript _ _ _ => true
  | _ => false
def nameM : MB → Str
  | .count => "count"
  | .index => "index"
  | .dget1 => "get"
  | .dget2 => "get"
  | .dcopy => "copy"
  | .join => "join"
  | .find => "find"
  | .starts => "startswith"
  | .isdig => "isdigit"
  | .split => "split"
  | .clear => "clear"
  | .insert => "insert"
def arM : MB → Nat
  | .dget2 => 2
  | .dcopy => 0
  | .isdig => 0
  | .clear => 0
  | .insert => 2
  | _ => 1
def sZ (f : List Nat) : Str := ⟨f.toArray⟩
def okE : Expr → Bool
  | .Starred _ _ => false
  | .Slice _ _ _ _ => false
  | .Set _ _ _ => false
  | _ => true
def okT : Expr → Bool
  | .IfExp _ _ _ _ => false
  | _ => true
def isTup : Expr → Bool
  | .Tuple _ _ _ => true
  | _ => false
section
variable (G : GT) (N : List Str)
def chI (ch : Expr → E → Bool) (sc : Scope) (tg : Expr) (iter : Expr) (ik : IK) (its : List E) : Bool :=
  match ik with
  | .seq => (match its with
    | [x'] => ch iter x'
    | _ => false)
  | .rng1 => (match iter with
    | .Call (.Name f _) [x] [] _ => biB G sc "range" f && chL ch [x] its
    | _ => false)
  | .rng2 => (match iter with
    | .Call (.Name f _) [x, y] [] _ => biB G sc "range" f && chL ch [x, y] its
    | _ => false)
  | .enum => (match iter with
    | .Call (.Name f _) [x] [] _ => isTup tg && biB G sc "enumerate" f && chL ch [x] its
    | _ => false)
  | .zip => (match iter with
    | .Call (.Name f _) [x, y] [] _ => isTup tg && biB G sc "zip" f && chL ch [x, y] its
    | _ => false)
  | .rev => (match iter with
    | .Call (.Name f _) [x] [] _ => biB G sc "reversed" f && chL ch [x] its
    | _ => false)
/-- keys and values by turns -/
def chA (ch : Expr → E → Bool) : List (Option Expr) → List Expr → List E → Bool
  | [], [], [] => true
  | some k :: ks, v :: vs, a :: b :: r => ch k a && ch v b && chA ch ks vs r
  | _, _, _ => false
def chK1 : Option Expr → List Nat → Bool
  | some (.Constant (.str x) _ _), k => decide (x.cps.toList = k)
  | _, _ => false
def chK (keys : List (Option Expr)) (ks : List (List Nat)) : Bool := chL chK1 keys ks
def chTy (sc : Scope) (e : Expr) (t : Ty) : Bool :=
  match e with
  | .Name y _ => biB G sc (tyS t) y
  | _ => false
def chCl (sc : Scope) (e : Expr) (p : List Nat × List Nat) : Bool :=
  match e with
  | .Name y _ => gloB sc y && nodbg y && decide (G.isC.lookup y = some p)
  | _ => false
def chE : Nat → Scope → Expr → E → Bool
  | 0, _, _, _ => false
  | n + 1, sc, e, e' => okE e &&
    match e' with
    | .var i => (match e with
      | .Name x _ => decide (N[i]? = some x) && visB sc x && nodbg x
      | _ => false)
    | .cst w => (match e with
      | .Constant (.int j) _ _ => eqB w (.int j)
      | .Constant (.bool j) _ _ => eqB w (.bl j)
      | .Constant .none _ _ => eqB w .non
      | .Constant (.str x) _ _ => eqB w (.str x.cps.toList) && okStr x.cps.toList
      | .Name x _ => gloB sc x && nodbg x && (match G.cons.lookup x with
        | some u => eqB w u
        | none => match G.fns.lookup x with
          | some p => eqB w (.fn p.1)
          | none => false)
      | _ => false)
    | .tup es' => (match e with
      | .Tuple es _ _ => chL (chE n sc) es es'
      | _ => false)
    | .lst _ es' => (match e with
      | .List es _ => chL (chE n sc) es es'
      | _ => false)
    | .bin o a b => (match e with
      | .BinOp x op y _ => decide (op = bopOf o) && chE n sc x a && chE n sc y b
      | _ => false)
    | .cmp o a b => (match e with
      | .Compare x [op] [y] _ => decide (op = copOf o) && chE n sc x a && chE n sc y b
      | _ => false)
    | .chain o o' a b c => (match e with
      | .Compare x [op, op'] [y, z] _ => decide (op = copOf o) && decide (op' = copOf o') && chE n sc x a && chE n sc y b && chE n sc z c
      | _ => false)
    | .isN neg a => (match e with
      | .Compare x [op] [.Constant .none _ _] _ => decide (op = if neg = true then .IsNot else .Is) && chE n sc x a
      | _ => false)
    | .and es' => (match e with
      | .BoolOp .And es _ => !es'.isEmpty && es.all okT && chL (chE n sc) es es'
      | _ => false)
    | .or es' => (match e with
      | .BoolOp .Or es _ => !es'.isEmpty && es.all okT && chL (chE n sc) es es'
      | _ => false)
    | .not a => (match e with
      | .UnaryOp .Not x _ => okT x && chE n sc x a
      | _ => false)
    | .neg a => (match e with
      | .UnaryOp .USub x _ => chE n sc x a
      | _ => false)
    | .ite c a b => (match e with
      | .IfExp z x y _ => okT z && chE n sc z c && chE n sc x a && chE n sc y b
      | _ => false)
    | .idx a i => (match e with
      | .Subscript x y _ => chE n sc x a && chE n sc y i
      | _ => false)
    | .sl _ a lo hi => (match e with
      | .Subscript x (.Slice l h none _) _ => chE n sc x a && chO (chE n sc) l lo && chO (chE n sc) h hi
      | _ => false)
    | .call f es' => !G.hot && (match e with
      | .Call (.Name x _) es [] _ => gloB sc x && nodbg x && G.fns.contains (x, f, es.length) && !es.isEmpty && chL (chE n sc) es es'
      | _ => false)
    | .callD f es' ds => !G.hot && (match e with
      | .Call (.Name x _) es [] _ => gloB sc x && nodbg x && G.fns.contains (x, f, es.length + ds.length) && !es.isEmpty && (match G.dfl.lookup x with
        | none => false
        | some ws => decide (ds.length ≤ ws.length) && eqBs (ws.drop (ws.length - ds.length)) ds) && chL (chE n sc) es es'
      | _ => false)
    | .dnew => (match e with
      | .Dict [] [] _ => true
      | _ => false)
    | .fzv a => fzE e && chE n sc e a
    | .meb m a es' => (match e with
      | .Call (.Attribute o nm apos) es [] cpos => decide (nm = nameM m) && plainO o && (apos.endLine == cpos.line) && decide (es.length = arM m) && chE n sc o a && chL (chE n sc) es es'
      | _ => false)
    | .fld _ a f => (match e with
      | .Attribute x nm _ => decide (nm = sZ f) && plainO x && chE n sc x a
      | _ => false)
    | .meth tb m a es' => !G.hot && (match e with
      | .Call (.Attribute o nm apos) es [] cpos => decide (nm = sZ m) && plainO o && (apos.endLine == cpos.line) && decide (es.length < 20) && decide (G.mth.lookup m = some tb) && chE n sc o a && chL (chE n sc) es es'
      | _ => false)
    | .mk c fi es' => !G.hot && (match e with
      | .Call (.Name x _) es [] _ => gloB sc x && nodbg x && decide (G.cls.lookup x = some (c, fi)) && chL (chE n sc) es es'
      | _ => false)
    | .mkx c z => !G.hot && (match e with
      | .Call (.Name x _) [.Constant (.str y) _ _] [] _ => gloB sc x && nodbg x && decide (G.xcl.lookup x = some (c, [])) && decide (y.cps.toList = z)
      | _ => false)
    | .isC yes no a => (match e with
      | .Call (.Name f _) [x, .Name y _] [] _ => biB G sc "isinstance" f && gloB sc y && nodbg y && decide (G.isC.lookup y = some (yes, no)) && chE n sc x a
      | _ => false)
    | .callV i fs es' => !G.hot && (match e with
      | .Call (.Name x _) es [] _ => decide (N[i]? = some x) && visB sc x && nodbg x && fs.all (fun f => G.fns.any fun p => p.2.1 == f && p.2.2 == es.length) && !es.isEmpty && chL (chE n sc) es es'
      | _ => false)
    | .bi b es' => (!G.hot || coolB b) && (match b with
      | .maxd => (match e with
        | .Call (.Name x _) [a] [⟨some k, d, _⟩] _ => biB G sc "max" x && k == ("default" : Str) && chL (chE n sc) [a, d] es'
        | _ => false)
      | .listrev _ => (match e with
        | .Call (.Name x _) [.Call (.Name y _) [a] [] _] [] _ => biB G sc "list" x && biB G sc "reversed" y && chL (chE n sc) [a] es'
        | _ => false)
      | .lenset => (match e with
        | .Call (.Name x _) [.Call (.Name y _) [a] [] _] [] _ => biB G sc "len" x && biB G sc "set" y && chL (chE n sc) [a] es'
        | _ => false)
      | b => (match e with
        | .Call (.Name x _) es [] _ => biB G sc (nameB b) x && !es.isEmpty && chL (chE n sc) es es'
        | _ => false))
    | .isi t a => (match e with
      | .Call (.Name f _) [x, .Name y _] [] _ => biB G sc "isinstance" f && biB G sc (tyS t) y && chE n sc x a
      | _ => false)
    | .comp _ tg ik its cond elt own => !G.hot && (match e with
      | .ListComp elt0 [⟨tg0, iter0, ifs0, 0⟩] scope _ =>
        decide ((ownOf N own).map (·.2) = own) && blkC N sc scope (ownOf N own) && chTg N scope tg0 tg && (tgIs tg).all (fun i => own.contains i) &&
          chI G (chE n sc) sc tg0 iter0 ik its && decide (ifs0.length ≤ 1) && ifs0.all okT && chL (chE n (relS scope sc)) ifs0 cond && chE n (relS scope sc) elt0 elt
      | _ => false)
    | .fits i j k => !G.hot && (match e with
      | .ListComp elt0 [⟨tg0, iter0, [.Compare (.Subscript d0 x0 _) [.Eq] [y0] _], 0⟩] scope _ =>
        decide ((ownOf N [k]).map (·.2) = [k]) && blkC N sc scope (ownOf N [k]) && chNm N scope tg0 k && decide (i ≠ k) && decide (j ≠ k) &&
          chV N sc iter0 i && chV N (relS scope sc) d0 i && chV N (relS scope sc) x0 k && chV N (relS scope sc) y0 j && chV N (relS scope sc) elt0 k
      | _ => false)
    | .keysOf i k => !G.hot && (match e with
      | .ListComp elt0 [⟨tg0, iter0, [], 0⟩] scope _ =>
        decide ((ownOf N [k]).map (·.2) = [k]) && blkC N sc scope (ownOf N [k]) && chNm N scope tg0 k && decide (i ≠ k) && chV N sc iter0 i && chV N (relS scope sc) elt0 k
      | _ => false)
    | .tab kvs i => (match e with
      | .Subscript (.Name x _) y _ => gloB sc x && nodbg x && (match G.tabs.lookup x with
        | some t => chL (fun p q => p.1 == q.1 && eqB p.2 q.2) t kvs
        | none => false) && chE n sc y i
      | _ => false)
    | .app a e1 => (match e with
      | .Call (.Attribute o nm apos) [x] [] cpos => nm == ("append" : Str) && plainO o && (apos.endLine == cpos.line) && chE n sc o a && chE n sc x e1
      | _ => false)
    | .dic ks es' => (match e with
      | .Dict keys vals _ => chK keys ks && decide (ks.Nodup) && !ks.isEmpty && decide (ks.length ≤ 15) && decide (vals.length = ks.length) && chL (chE n sc) vals es'
      | _ => false)
    | .dicV kvs => (match e with
      | .Dict keys vals _ => !keys.isEmpty && decide (keys.length ≤ 15) && chA (chE n sc) keys vals kvs
      | _ => false)
    | .dEq a b => (match e with
      | .Compare x [.Eq] [y] _ => chE n sc x a && chE n sc y b
      | _ => false)
    | .dNe a b => (match e with
      | .Compare x [.NotEq] [y] _ => chE n sc x a && chE n sc y b
      | _ => false)
    | .wnew _ _ _ => false
    | .tabT kvs es' => (match e with
      | .Call (.Attribute (.Name x _) nm apos) [.Tuple es _ _] [] cpos => nm == ("get" : Str) && gloB sc x && nodbg x && (apos.endLine == cpos.line) && (match G.tabT.lookup x with
        | some t => chL (fun p q => decide (p.1 = q.1) && eqB p.2 q.2) t kvs
        | none => false) && chL (chE n sc) es es'
      | _ => false)
    | .isiL ts a => (match e with
      | .Call (.Name f _) [x, .Tuple es _ _] [] _ => biB G sc "isinstance" f && !ts.isEmpty && decide (ts.length ≤ 9) && chL (chTy G sc) es ts && chE n sc x a
      | _ => false)
    | .isCL l a => (match e with
      | .Call (.Name f _) [x, .Tuple es _ _] [] _ => biB G sc "isinstance" f && decide (l.length ≤ 20) && chL (chCl G sc) es l && chE n sc x a
      | _ => false)
    | .stp _ a lo hi st => (match e with
      | .Subscript x (.Slice l h (some k) _) _ => chE n sc x a && chO (chE n sc) l lo && chO (chE n sc) h hi && chE n sc k st
      | _ => false)
    | .ext a b => (match e with
      | .Call (.Attribute o nm apos) [x] [] cpos => nm == ("extend" : Str) && plainO o && (apos.endLine == cpos.line) && chE n sc o a && chE n sc x b
      | _ => false)
    | .pop a => (match e with
      | .Call (.Attribute o nm apos) [] [] cpos => nm == ("pop" : Str) && plainO o && (apos.endLine == cpos.line) && chE n sc o a
      | _ => false)
end
end Bw

/-! Ev8: an expression that the checker takes is walked as the evaluator says. -/
namespace Bw
open PySem L2 PySem.Spec PyProof.Rows

def spF (Γ : Gm) (C : CT) (f : Nat) : Sp := fun vs H Q E => ∃ ws S QW XW, reps Γ S H ws vs ∧ SR Γ S H ∧ C f ws S QW XW ∧ KQ Γ S H QW Q ∧ KX Γ S H XW E
/-- a def by its name; its last defaults -/
def FnR (Γ : Gm) (G : GT) (C : CT) (X : Cx) (x : Str) (f : Nat) : Prop :=
  ∃ k fd ps, FnOk X.prog X.w X.K X.mg X.base (L2.CX X.prog X.w) k (Γ.fa f) fd ps (spF Γ C f) ∧ Room k X.A ∧ PySem.W.keepIn X.K (.ref (Γ.fa f)) = true ∧ Binds X.K fd ps [] ∧
    ∀ ws, G.dfl.lookup x = some ws → ∀ m, m ≤ ws.length → ∃ dvs ds, Binds X.K fd ps ds ∧ Vals dvs ds ∧ ∀ S H, reps Γ S H (ws.drop (ws.length - m)) dvs
/-- a written dict of the module, its keys texts -/
def TabR (Γ : Gm) (X : Cx) (x : Str) (kvs : List (List Nat × W)) : Prop :=
  ∃ p, X.mg x = some (.ref p) ∧ ∀ k w, kvs.lookup k = some w → ∃ v, KDct X.K X.w p ⟨k.toArray⟩ v ∧ ∀ S H, rep Γ S H w v
/-- a table of the module whose keys are tuples -/
def TabTR (Γ : Gm) (P : Program) (w : World) (p : Addr) (kvs : List (List Ky × W)) (xs : List (List L2.Key × Addr × Value)) : Prop :=
  KDT Γ.K P w p xs ∧ xs.length = kvs.length ∧ ∀ (i : Nat) (a : List Ky × W) (b : List L2.Key × Addr × Value), kvs[i]? = some a → xs[i]? = some b → b.1 = a.1.map keyV ∧ ∃ v, RelV v b.2.2 ∧ ∀ S H, rep Γ S H a.2 v
def ClR (Γ : Gm) (C : CT) (X : Cx) (x : Str) (c fi : Nat) : Prop :=
  ∃ k fd ps, FnOk X.prog X.w X.K X.mg X.base (L2.CX X.prog X.w) k (Γ.fa fi) fd ps (spF Γ C fi) ∧ Binds X.K fd ps [] ∧ Room (k + 1) X.A ∧ Mk X.K (Γ.ca c) (Γ.fa fi) ∧ X.mg x = some (.ref (Γ.ca c)) ∧ InsC X.K (Γ.ca c)
def MtH (Γ : Gm) (C : CT) (X : Cx) (m : List Nat) (c f : Nat) : Prop := ∃ k, Fk X (L2.CX X.prog X.w) k (Γ.fa f) (spF Γ C f) ∧ Room k X.A ∧ Meth X.K (Γ.ca c) (sZ m) (Γ.fa f)
/-- an exception class that is made with a text -/
def XmR (Γ : Gm) (X : Cx) (x : Str) (c : Nat) : Prop :=
  PySem.W.excIn X.K (Γ.ca c) [.type "ValueError", .type "Exception", .type "BaseException", .type "object"] "ValueError.__new__" = true ∧ X.mg x = some (.ref (Γ.ca c)) ∧ PySem.W.keepIn X.K (.ref (Γ.ca c)) = true ∧
    PySem.W.subIn X.K (.ref (Γ.ca c)) (.type "BaseException") = some true ∧ PySem.W.typeIn X.K (.ref (Γ.ca c)) = some (.type "type") ∧ XkC X.K (Γ.ca c)
/-- a class's value, by its name -/
def NmC (X : Cx) (y : Str) (D : Value) : Prop := X.mg y = some D ∧ (∃ a, D = .ref a) ∨ X.mg y = none ∧ ∃ n, D = .type n ∧ bootBuiltins y = some D ∧ y ≠ ("__name__" : Str)
def IsR (Γ : Gm) (X : Cx) (y : Str) (yes no : List Nat) : Prop :=
  ∃ D, NmC X y D ∧ (∀ c ∈ yes, PySem.W.kitOne X.K (.ref (Γ.ca c)) D = some true) ∧ (∀ c ∈ no, PySem.W.kitOne X.K (.ref (Γ.ca c)) D = some false) ∧ ∀ n ∈ ["NoneType", "bool", "int"], PySem.W.kitOne X.K (.type n) D = some false
structure XO (Γ : Gm) (G : GT) (C : CT) (N : List Str) (sc : Scope) (Wx : WX) (X : Cx) : Prop where
  hN : X.N = N
  nd : N.Nodup
  hsc : X.env.scope = sc
  calm : G.hot = false → X.calm = true
  hK : X.K = Γ.K
  tk : Takes X Wx
  un : X.A.units + 64 < cLine
  bi : ∀ x, G.bis.contains x = true → X.mg x = none
  con : ∀ x w, G.cons.lookup x = some w → ∃ v u, X.mg x = some u ∧ RelV v u ∧ ∀ S H, rep Γ S H w v
  fn : ∀ x f ar, G.hot = false → (x, f, ar) ∈ G.fns → FnR Γ G C X x f
  fnv : ∀ x f ar, (x, f, ar) ∈ G.fns → X.mg x = some (.ref (Γ.fa f))
  cls : ∀ x c fi, G.hot = false → G.cls.lookup x = some (c, fi) → ClR Γ C X x c fi
  xcl : ∀ x c, G.hot = false → G.xcl.lookup x = some (c, []) → XmR Γ X x c
  mth : ∀ m tb c f, G.hot = false → G.mth.lookup m = some tb → tb.lookup c = some f → MtH Γ C X m c f
  fld : ∀ c fs f, G.fld.lookup c = some fs → f ∈ fs → NoAttr X.K (Γ.ca c) (sZ f)
  isC : ∀ y yes no, G.isC.lookup y = some (yes, no) → IsR Γ X y yes no
  tab : ∀ x kvs, G.tabs.lookup x = some kvs → TabR Γ X x kvs
  tabT : ∀ x kvs, G.tabT.lookup x = some kvs → ∃ p xs, X.mg x = some (.ref p) ∧ TabTR Γ X.prog X.w p kvs xs

def tE (Γ : Gm) (C : CT) (Wx : WX) (e : E) : TE := fun σ H Q => ∃ env S QW XW, envR Γ S H env σ ∧ SR Γ S H ∧ wE C e env S QW XW ∧ KQ Γ S H QW Q ∧ KX Γ S H XW (fun cls d H' => Wx cls d σ H')
def KL (Γ : Gm) (S : Sto) (H : Hp) (QW : List W → Sto → Prop) (Q : List V → Hp → Prop) : Prop := ∀ ws S' vs H', reps Γ S' H' ws vs → SR Γ S' H' → Fr S H S' H' → QW ws S' → Q vs H'
def tEs (Γ : Gm) (C : CT) (Wx : WX) (es : List E) : TA := fun σ H Q => ∃ env S QW XW, envR Γ S H env σ ∧ SR Γ S H ∧ wEs C es env S QW XW ∧ KL Γ S H QW Q ∧ KX Γ S H XW (fun cls d H' => Wx cls d σ H')
def KB (Γ : Gm) (S : Sto) (H : Hp) (QW : VQ) (Q : Bool → Hp → Prop) : Prop := ∀ w S' H', SR Γ S' H' → Fr S H S' H' → QW w S' → ∃ b, w = .bl b ∧ Q b H'
def tT (Γ : Gm) (C : CT) (Wx : WX) (e : E) : TT := fun σ H Q => ∃ env S QW XW, envR Γ S H env σ ∧ SR Γ S H ∧ wE C e env S QW XW ∧ KB Γ S H QW Q ∧ KX Γ S H XW (fun cls d H' => Wx cls d σ H')

section
variable {X : Cx} {e : Expr} {es : List Expr}
theorem PEimp {t t' : TE} (h : PE X e t) (k : ∀ σ H Q, t' σ H Q → t σ H Q) : PE X e t' := ⟨fun pins s σ H Q I q => h.run pins s σ H Q I (k σ H Q q)⟩
theorem PTimp {t t' : TT} (h : PT X e t) (k : ∀ σ H Q, t' σ H Q → t σ H Q) : PT X e t' := ⟨fun pins s σ H Q I q => h.run pins s σ H Q I (k σ H Q q)⟩
theorem PWimp {t t' : TT} (h : PW X e t) (k : ∀ σ H Q, t' σ H Q → t σ H Q) : PW X e t' := ⟨fun wh pins s σ H Q I q => h.run wh pins s σ H Q I (k σ H Q q)⟩
theorem PAimp {t t' : TA} (h : PA X es t) (k : ∀ σ H Q, t' σ H Q → t σ H Q) : PA X es t' := ⟨fun pos pins s σ H Q I q => h.run pos pins s σ H Q I (k σ H Q q)⟩
theorem POimp {o : Option Expr} {t t' : TO} (h : PO X o t) (k : ∀ σ H Q, t' σ H Q → t σ H Q) : PO X o t' := ⟨fun pins s σ H Q I q => h.run pins s σ H Q I (k σ H Q q)⟩
theorem PIimp {tg : Expr} {t t' : TI} (h : PI X tg e t) (k : ∀ σ H Q, t' σ H Q → t σ H Q) : PI X tg e t' := ⟨fun pins s σ H Q I q => h.run pins s σ H Q I (k σ H Q q)⟩
theorem PGimp {t t' : TG} (h : PG X e t) (k : ∀ v σ H Q, t' v σ H Q → t v σ H Q) : PG X e t' := ⟨fun pins s σ H v u Q I r q => h.run pins s σ H v u Q I r (k v σ H Q q)⟩
theorem PSimp {st : Stmt} {t t' : TS} (h : PS X st t) (k : ∀ D σ H, t' D σ H → t D σ H) : PS X st t' := ⟨fun pins s σ H D I q => h.run pins s σ H D I (k D σ H q)⟩
theorem PSsimp {st : List Stmt} {t t' : TS} (h : PSs X st t) (k : ∀ D σ H, t' D σ H → t D σ H) : PSs X st t' := ⟨fun pins s σ H D I q => h.run pins s σ H D I (k D σ H q)⟩
end

/-! ### no star, no set -/
def noStar : Expr → Bool
  | .Starred _ _ => false
  | _ => true
theorem star_cons {e : Expr} {es : List Expr} {env : PySem.Env} (h : noStar e = true) : starEach (e :: es) env = (false, eval e env) :: starEach es env := by
  cases e <;> first | rfl | (simp [noStar] at h)
theorem star_any {env : PySem.Env} {pos : Pos} : ∀ {es : List Expr}, es.all noStar = true → (backTo pos (starEach es env)).any (·.1) = false
  | [], _ => rfl
  | e :: es, h => by
    rw [List.all_cons, Bool.and_eq_true] at h
    rw [star_cons h.1]
    show (false || (backTo pos (starEach es env)).any (·.1)) = false
    rw [star_any h.2]; rfl
theorem chE_ok {G : GT} {N : List Str} : ∀ {n : Nat} {sc : Scope} {e : Expr} {e' : E}, chE G N n sc e e' = true → okE e = true
  | 0, _, _, _, h => by simp [chE] at h
  | n + 1, sc, e, e', h => by
    unfold chE at h
    rw [Bool.and_eq_true] at h
    exact h.1
theorem chE_ns {G : GT} {N : List Str} {n : Nat} {sc : Scope} {e : Expr} {e' : E} (h : chE G N n sc e e' = true) : noStar e = true ∧ (∀ l u st p, e ≠ .Slice l u st p) ∧ (∀ es k p, e ≠ .Set es k p) := by
  have h := chE_ok h
  refine ⟨?_, fun _ _ _ _ z => ?_, fun _ _ _ z => ?_⟩
  · cases e <;> first | rfl | (simp [okE] at h)
  · subst z; simp [okE] at h
  · subst z; simp [okE] at h
theorem chL_ns {G : GT} {N : List Str} {n : Nat} {sc : Scope} : ∀ {es : List Expr} {es' : List E}, chL (chE G N n sc) es es' = true → es.all noStar = true
  | [], [], _ => rfl
  | [], _ :: _, _ => rfl
  | _ :: _, [], h => by simp [chL] at h
  | e :: es, e' :: es', h => by
    rw [chL, Bool.and_eq_true] at h
    rw [List.all_cons, (chE_ns h.1).1, chL_ns h.2]; rfl
theorem chL_len {α β : Type} {f : α → β → Bool} : ∀ {es : List α} {es' : List β}, chL f es es' = true → es.length = es'.length
  | [], [], _ => rfl
  | [], _ :: _, h => by simp [chL] at h
  | _ :: _, [], h => by simp [chL] at h
  | e :: es, e' :: es', h => by
    rw [chL, Bool.and_eq_true] at h
    rw [List.length_cons, List.length_cons, chL_len h.2]

section
variable {Γ : Gm} {G : GT} {C : CT} {N : List Str} {sc : Scope} {Wx : WX} {X : Cx}
theorem XO.vis (xo : XO Γ G C N sc Wx X) {x : Str} (h : visB sc x = true) : Vis X.env.scope x := by
  rw [xo.hsc]
  unfold visB at h
  split at h <;> first | exact .inl (by assumption) | exact .inr (.inl (by assumption)) | exact .inr (.inr (by assumption)) | cases h
theorem XO.loc (xo : XO Γ G C N sc Wx X) {x : Str} (h : locB sc x = true) : Loc X.env.scope x := by
  rw [xo.hsc]
  unfold locB at h
  split at h <;> first | exact .inl (by assumption) | exact .inr (by assumption) | cases h
theorem XO.glo (xo : XO Γ G C N sc Wx X) {x : Str} (h : gloB sc x = true) : Gl X x := by
  show X.env.scope.names.lookup x = some .globalImplicit
  rw [xo.hsc]
  unfold gloB at h
  split at h <;> first | assumption | cases h
theorem dbg_of {x : Str} (h : nodbg x = true) : (x == ("__debug__" : Str)) = false ∧ (x == ("__classdict__" : Str)) = false ∧ x ≠ ("__name__" : Str) := by
  unfold nodbg at h
  simp only [Bool.and_eq_true, Bool.not_eq_true'] at h
  exact ⟨h.1.1, h.1.2, fun z => by rw [z] at h; simp at h⟩
theorem bi_of {nm x : Str} (h : biB G sc nm x = true) : x = nm ∧ gloB sc x = true ∧ nodbg x = true ∧ G.bis.contains x = true := by
  unfold biB at h
  simp only [Bool.and_eq_true, beq_iff_eq] at h
  exact ⟨h.1.1.1, h.1.1.2, h.1.2, h.2⟩

/-! ### the parts -/
theorem pa_of (xo : XO Γ G C N sc Wx X) {f : Expr → E → Bool} (hf : ∀ e e', f e e' = true → noStar e = true ∧ PE X e (tE Γ C Wx e')) : ∀ {es : List Expr} {es' : List E}, chL f es es' = true → PA X es (tEs Γ C Wx es')
  | [], [], _ => PAimp pa_nil fun σ H Q ⟨env, S, QW, XW, he, hs, h, k, kx⟩ => by
    have h : QW [] S := by simpa only [wEs] using h
    exact k [] S [] H rfl hs (Fr.refl _ _) h
  | [], _ :: _, h => by simp [chL] at h
  | _ :: _, [], h => by simp [chL] at h
  | e :: es, e' :: es', h => by
    rw [chL, Bool.and_eq_true] at h
    obtain ⟨n1, p1⟩ := hf e e' h.1
    refine PAimp (pa_cons p1 (pa_of xo hf h.2) (star_cons n1)) fun σ H Q ⟨env, S, QW, XW, he, hs, h, k, kx⟩ => ?_
    have h : wE C e' env S (fun w S1 => wEs C es' env S1 (fun ws S2 => QW (w :: ws) S2) XW) XW := by simpa only [wEs] using h
    refine ⟨env, S, _, XW, he, hs, h, fun w S1 v H1 r1 s1 f1 q1 => ?_, kx⟩
    refine ⟨env, S1, _, XW, he.fr f1, s1, q1, fun ws S2 vs H2 r2 s2 f2 q2 => ?_, kx.fr f1⟩
    exact k (w :: ws) S2 (v :: vs) H2 ⟨v, vs, rfl, rep.fr f2 _ _ r1, r2⟩ s2 (f1.trans f2) q2
theorem s_var (xo : XO Γ G C N sc Wx X) {i : Nat} {x : Str} {pos : Pos} (h1 : N[i]? = some x) (h2 : visB sc x = true) (h3 : nodbg x = true) : PE X (.Name x pos) (tE Γ C Wx (.var i)) := by
  obtain ⟨d1, d2, _⟩ := dbg_of h3
  refine PEimp (pe_var (by rw [xo.hN]; exact h1) (xo.vis h2) d1 d2) fun σ H Q ⟨env, S, QW, XW, he, hs, h, k, kx⟩ => ?_
  simp only [wE] at h
  obtain ⟨w, q, h⟩ := wVar_el h
  obtain ⟨v, e1, r⟩ := he.2 i w q
  exact ⟨v, e1, k.here hs r h⟩
theorem s_cst {w : W} {v : V} {e : Expr} (p : PE X e (tC v)) (r : ∀ S H, rep Γ S H w v) : PE X e (tE Γ C Wx (.cst w)) :=
  PEimp p fun σ H Q ⟨env, S, QW, XW, he, hs, h, k, kx⟩ => k.here hs (r S H) (by simpa only [wE] using h)
theorem s_tup {es : List Expr} {es' : List E} {k0 : Nat} {pos : Pos} (p : PA X es (tEs Γ C Wx es')) : PE X (.Tuple es k0 pos) (tE Γ C Wx (.tup es')) := by
  refine PEimp (pe_tup p) fun σ H Q ⟨env, S, QW, XW, he, hs, h, k, kx⟩ => ?_
  simp only [wE] at h
  refine ⟨env, S, _, XW, he, hs, h, fun ws S1 vs H1 r1 s1 f1 q1 => ⟨by rw [← r1.len]; exact q1.1, tup_ok q1.2 r1 s1 (k.fr f1)⟩, kx⟩
theorem s_lst {es : List Expr} {es' : List E} {fz : Bool} {pos : Pos} (p : PA X es (tEs Γ C Wx es')) : PE X (.List es pos) (tE Γ C Wx (.lst fz es')) := by
  refine PEimp (pe_lst p) fun σ H Q ⟨env, S, QW, XW, he, hs, h, k, kx⟩ => ?_
  simp only [wE] at h
  refine ⟨env, S, _, XW, he, hs, h, fun ws S1 vs H1 r1 s1 f1 q1 => ⟨by rw [← r1.len]; exact q1.1, mkL_ok q1.2 r1 s1 (k.fr f1)⟩, kx⟩
/-- two parts, then what is made of their values -/
theorem two_of {a b : E} {σ : L2.St} {H : Hp} {env : Env} {S : Sto} {XW : XQ} {R : W → W → Sto → Prop} {Q : V → V → Hp → Prop} (he : envR Γ S H env σ) (hs : SR Γ S H)
    (h : wE C a env S (fun x S1 => wE C b env S1 (fun y S2 => R x y S2) XW) XW) (kx : KX Γ S H XW (fun cls d H' => Wx cls d σ H'))
    (k : ∀ x y S2 v u H2, rep Γ S2 H2 x v → rep Γ S2 H2 y u → SR Γ S2 H2 → Fr S H S2 H2 → R x y S2 → Q v u H2) :
    tE Γ C Wx a σ H fun v H1 => tE Γ C Wx b σ H1 fun u H2 => Q v u H2 :=
  ⟨env, S, _, XW, he, hs, h, fun x S1 v H1 r1 s1 f1 q1 => ⟨env, S1, _, XW, he.fr f1, s1, q1, fun y S2 u H2 r2 s2 f2 q2 => k x y S2 v u H2 (rep.fr f2 _ _ r1) r2 s2 (f1.trans f2) q2, kx.fr f1⟩, kx⟩
theorem s_bin (xo : XO Γ G C N sc Wx X) {o : BOp} {x y : Expr} {a b : E} {pos : Pos} (pa : PE X x (tE Γ C Wx a)) (pb : PE X y (tE Γ C Wx b)) : PE X (.BinOp x (bopOf o) y pos) (tE Γ C Wx (.bin o a b)) := by
  refine PEimp (pe_op (op_B xo.hK o) pa pb) fun σ H Q ⟨env, S, QW, XW, he, hs, h, k, kx⟩ => ?_
  simp only [wE] at h
  exact two_of he hs h kx fun x y S2 v u H2 r1 r2 s2 f2 q => ⟨x, y, S2, QW, r1, r2, s2, q, k.fr f2⟩
theorem nomark' {o : COp} {e : Expr} (h : ∀ es k p, e ≠ .Set es k p) : behindInMarks (copOf o) e = false := by
  cases e <;> first | rfl | exact absurd rfl (h _ _ _)
theorem s_cmp (xo : XO Γ G C N sc Wx X) {o : COp} {x y : Expr} {a b : E} {pos : Pos} (pa : PE X x (tE Γ C Wx a)) (pb : PE X y (tE Γ C Wx b)) (ny : ∀ es k p, y ≠ .Set es k p) : PE X (.Compare x [copOf o] [y] pos) (tE Γ C Wx (.cmp o a b)) := by
  refine PEimp (pe_cmpR (op_C xo.hK xo.un o) pa pb (nomark' ny)) fun σ H Q ⟨env, S, QW, XW, he, hs, h, k, kx⟩ => ?_
  simp only [wE] at h
  exact two_of he hs h kx fun x y S2 v u H2 r1 r2 s2 f2 q => ⟨x, y, S2, QW, r1, r2, s2, q, k.fr f2⟩
theorem KB.q {S : Sto} {H : Hp} {QW : VQ} {Q : Bool → Hp → Prop} (k : KB Γ S H QW Q) : KQ Γ S H QW fun x H1 => ∃ c, x = .bl c ∧ Q c H1 := fun w S' v H' r s f q => by
  obtain ⟨b, rfl, q2⟩ := k w S' H' s f q
  exact ⟨b, r, q2⟩
theorem KB.fr {S S' : Sto} {H H' : Hp} {QW : VQ} {Q : Bool → Hp → Prop} (f : Fr S H S' H') (k : KB Γ S H QW Q) : KB Γ S' H' QW Q := fun w S2 H2 s f2 q => k w S2 H2 s (f.trans f2) q
theorem t_cmp (xo : XO Γ G C N sc Wx X) {o : COp} {x y : Expr} {a b : E} {pos : Pos} (pa : PE X x (tE Γ C Wx a)) (pb : PE X y (tE Γ C Wx b)) (ny : ∀ es k p, y ≠ .Set es k p) : PT X (.Compare x [copOf o] [y] pos) (tT Γ C Wx (.cmp o a b)) := by
  refine PTimp (pt_cmpR (op_C xo.hK xo.un o) pa pb (nomark' ny)) fun σ H Q ⟨env, S, QW, XW, he, hs, h, k, kx⟩ => ?_
  simp only [wE] at h
  exact two_of he hs h kx fun x y S2 v u H2 r1 r2 s2 f2 q => ⟨x, y, S2, QW, r1, r2, s2, q, (KB.q k).fr f2⟩
/-- a plain test -/
def plainT : Expr → Bool
  | .UnaryOp .Not _ _ => false
  | .BoolOp _ _ _ => false
  | .IfExp _ _ _ _ => false
  | .Compare _ _ _ _ => false
  | _ => true
theorem t_plain {e : Expr} {e' : E} (p : PE X e (tE Γ C Wx e')) (h : plainT e = true) : PT X e (tT Γ C Wx e') := by
  refine PTimp (pt_val p ?_) fun σ H Q ⟨env, S, QW, XW, he, hs, h, k, kx⟩ => ⟨env, S, QW, XW, he, hs, h, k.q, kx⟩
  intro whole
  cases e with
  | UnaryOp op x pos => cases op <;> first | rfl | (simp [plainT] at h)
  | _ => first | rfl | (simp [plainT] at h)
theorem tE_bl {e : E} {σ : L2.St} {H : Hp} {Q : Bool → Hp → Prop} (h : tT Γ C Wx e σ H Q) : tE Γ C Wx e σ H fun x H1 => ∃ c, x = .bl c ∧ Q c H1 := by
  obtain ⟨env, S, QW, XW, he, hs, h, k, kx⟩ := h
  exact ⟨env, S, QW, XW, he, hs, h, k.q, kx⟩
end
end Bw

/-! Ev9: the other expressions. -/
namespace Bw
open PySem L2 PySem.Spec PyProof.Rows
section
variable {Γ : Gm} {G : GT} {C : CT} {N : List Str} {sc : Scope} {Wx : WX} {X : Cx}

theorem chain_of (xo : XO Γ G C N sc Wx X) {o o' : COp} {a b c : E} {σ : L2.St} {H : Hp} {Q : V → Hp → Prop} (hq : tE Γ C Wx (.chain o o' a b c) σ H Q) :
    tChain (rC Γ o) (rC Γ o') (tE Γ C Wx a) (tE Γ C Wx b) (tE Γ C Wx c) σ H Q := by
  obtain ⟨env, S, QW, XW, he, hs, h, k, kx⟩ := hq
  simp only [wE] at h
  refine ⟨env, S, _, XW, he, hs, h, fun x S1 v H1 r1 s1 f1 q1 => ?_, kx⟩
  refine ⟨env, S1, _, XW, he.fr f1, s1, q1, fun y S2 u H2 r2 s2 f2 q2 => ?_, kx.fr f1⟩
  refine ⟨x, y, S2, _, rep.fr f2 _ _ r1, r2, s2, q2, fun z S3 t H3 r3 s3 f3 q3 => ?_⟩
  rcases wB_el q3 with ⟨rfl, q3⟩ | ⟨rfl, q3⟩
  · cases r3
    refine ⟨true, rfl, ?_⟩
    refine iteT ?_
    refine ⟨env, S3, _, XW, he.fr (f1.trans (f2.trans f3)), s3, q3, fun z S4 t H4 r4 s4 f4 q4 => ?_, kx.fr (f1.trans (f2.trans f3))⟩
    exact ⟨y, z, S4, QW, rep.fr (f3.trans f4) _ _ r2, r4, s4, q4, k.fr (f1.trans (f2.trans (f3.trans f4)))⟩
  · cases r3
    refine ⟨false, rfl, ?_⟩
    refine iteF ?_
    exact k (.bl false) S3 (.bl false) H3 rfl s3 (f1.trans (f2.trans f3)) q3
theorem s_chain (xo : XO Γ G C N sc Wx X) {o o' : COp} {x y z : Expr} {a b c : E} {pos : Pos} (pa : PE X x (tE Γ C Wx a)) (pb : PE X y (tE Γ C Wx b)) (pc : PE X z (tE Γ C Wx c)) (ny : ∀ es k p, y ≠ .Set es k p) (nz : ∀ es k p, z ≠ .Set es k p) :
    PE X (.Compare x [copOf o, copOf o'] [y, z] pos) (tE Γ C Wx (.chain o o' a b c)) :=
  PEimp (pe_chain (op_C xo.hK xo.un o) (op_C xo.hK xo.un o') pa pb pc (nomark' nz)) fun σ H Q hq => chain_of xo hq
theorem t_chain (xo : XO Γ G C N sc Wx X) {o o' : COp} {x y z : Expr} {a b c : E} {pos : Pos} (pa : PE X x (tE Γ C Wx a)) (pb : PE X y (tE Γ C Wx b)) (pc : PE X z (tE Γ C Wx c)) (ny : ∀ es k p, y ≠ .Set es k p) (nz : ∀ es k p, z ≠ .Set es k p) :
    PT X (.Compare x [copOf o, copOf o'] [y, z] pos) (tT Γ C Wx (.chain o o' a b c)) :=
  PTimp (pt_chain (op_C xo.hK xo.un o) (op_C xo.hK xo.un o') pa pb pc (nomark' nz)) fun σ H Q hq => chain_of xo (tE_bl hq)
def isNon : W → Bool
  | .non => true
  | _ => false
theorem isN_rep {S : Sto} {H : Hp} {x : W} {v : V} (r : rep Γ S H x v) : decide (v = .non) = isNon x := by
  cases x with
  | non => cases r; rfl
  | bl _ => cases r; rfl
  | int _ => cases r; rfl
  | str _ => obtain ⟨rfl, _⟩ := r; rfl
  | tup _ => obtain ⟨a, vs, rfl, _⟩ := r; rfl
  | rl _ => obtain ⟨a, vs, rfl, _⟩ := r; rfl
  | sc _ => obtain ⟨a, vs, rfl, _⟩ := r; rfl
  | ref _ => cases r; rfl
  | fn _ => cases r; rfl
  | dct _ _ => obtain ⟨a, vs, rfl, _⟩ := r; rfl
  | obj _ _ _ => obtain ⟨a, dx, vs, rfl, _⟩ := r; rfl
  | exn _ _ _ => obtain ⟨a, d, vs, rfl, _⟩ := r; rfl
theorem isN_of {neg : Bool} {a : E} {σ : L2.St} {H : Hp} {Q : V → Hp → Prop} (hq : tE Γ C Wx (.isN neg a) σ H Q) :
    tE Γ C Wx a σ H fun x H1 => Q (.bl (if neg = true then !decide (x = .non) else decide (x = .non))) H1 := by
  obtain ⟨env, S, QW, XW, he, hs, h, k, kx⟩ := hq
  simp only [wE] at h
  refine ⟨env, S, _, XW, he, hs, h, fun x S1 v H1 r1 s1 f1 q1 => ?_, kx⟩
  dsimp only at q1 ⊢
  rw [isN_rep r1]
  have q2 : QW (.bl (if neg = true then !isNon x else isNon x)) S1 := by
    cases x <;> cases neg <;> exact q1
  exact k (.bl (if neg = true then !isNon x else isNon x)) S1 _ H1 rfl s1 f1 q2
theorem s_isN (xo : XO Γ G C N sc Wx X) {neg : Bool} {x : Expr} {a : E} {pos : Pos} {j p} (pa : PE X x (tE Γ C Wx a)) : PE X (.Compare x [if neg = true then .IsNot else .Is] [.Constant .none j p] pos) (tE Γ C Wx (.isN neg a)) := by
  cases neg
  · exact PEimp (pe_cmp (pc_isN pa) rfl) fun σ H Q hq => isN_of hq
  · exact PEimp (pe_cmp (pc_notN pa) rfl) fun σ H Q hq => isN_of hq
theorem t_isN (xo : XO Γ G C N sc Wx X) {neg : Bool} {x : Expr} {a : E} {pos : Pos} {j p} (pa : PE X x (tE Γ C Wx a)) : PT X (.Compare x [if neg = true then .IsNot else .Is] [.Constant .none j p] pos) (tT Γ C Wx (.isN neg a)) := by
  cases neg
  · exact PTimp (pt_cmp (pc_isN pa) rfl) fun σ H Q hq => isN_of (tE_bl hq)
  · exact PTimp (pt_cmp (pc_notN pa) rfl) fun σ H Q hq => isN_of (tE_bl hq)

/-! ### and, or, not -/
theorem s_and {f : Expr → E → Bool} (hf : ∀ e e', f e e' = true → PE X e (tE Γ C Wx e')) {pos : Pos} : ∀ {es : List Expr} {es' : List E}, chL f es es' = true → es' ≠ [] → PE X (.BoolOp .And es pos) (tE Γ C Wx (.and es'))
  | [], es', h, n => by cases es' with | nil => exact absurd rfl n | cons _ _ => simp [chL] at h
  | _ :: _, [], h, n => absurd rfl n
  | [e], [e'], h, _ => by
    rw [chL, Bool.and_eq_true] at h
    refine PEimp (pe_one (hf _ _ h.1)) fun σ H Q ⟨env, S, QW, XW, he, hs, h, k, kx⟩ => ⟨env, S, QW, XW, he, hs, by simpa only [wE, wAnd] using h, k, kx⟩
  | e :: e2 :: es, [e'], h, _ => by simp [chL] at h
  | [e], e' :: e2' :: es', h, _ => by simp [chL] at h
  | e :: e2 :: es, e' :: e2' :: es', h, _ => by
    rw [chL, Bool.and_eq_true] at h
    refine PEimp (pe_and (hf _ _ h.1) (s_and hf h.2 (by simp))) fun σ H Q ⟨env, S, QW, XW, he, hs, h, k, kx⟩ => ?_
    simp only [wE, wAnd] at h
    refine ⟨env, S, _, XW, he, hs, h, fun x S1 v H1 r1 s1 f1 q1 => ?_, kx⟩
    rcases wB_el q1 with ⟨rfl, q1⟩ | ⟨rfl, q1⟩
    · cases r1
      refine ⟨true, rfl, ?_⟩
      refine iteT ?_
      exact ⟨env, S1, QW, XW, he.fr f1, s1, by simpa only [wE, wB] using q1, k.fr f1, kx.fr f1⟩
    · cases r1
      refine ⟨false, rfl, ?_⟩
      refine iteF ?_
      exact k (.bl false) S1 (.bl false) H1 rfl s1 f1 q1
theorem s_or {f : Expr → E → Bool} (hf : ∀ e e', f e e' = true → PE X e (tE Γ C Wx e')) {pos : Pos} : ∀ {es : List Expr} {es' : List E}, chL f es es' = true → es' ≠ [] → PE X (.BoolOp .Or es pos) (tE Γ C Wx (.or es'))
  | [], es', h, n => by cases es' with | nil => exact absurd rfl n | cons _ _ => simp [chL] at h
  | _ :: _, [], h, n => absurd rfl n
  | [e], [e'], h, _ => by
    rw [chL, Bool.and_eq_true] at h
    refine PEimp (pe_one (hf _ _ h.1)) fun σ H Q ⟨env, S, QW, XW, he, hs, h, k, kx⟩ => ⟨env, S, QW, XW, he, hs, by simpa only [wE, wOr] using h, k, kx⟩
  | e :: e2 :: es, [e'], h, _ => by simp [chL] at h
  | [e], e' :: e2' :: es', h, _ => by simp [chL] at h
  | e :: e2 :: es, e' :: e2' :: es', h, _ => by
    rw [chL, Bool.and_eq_true] at h
    refine PEimp (pe_or (hf _ _ h.1) (s_or hf h.2 (by simp))) fun σ H Q ⟨env, S, QW, XW, he, hs, h, k, kx⟩ => ?_
    simp only [wE, wOr] at h
    refine ⟨env, S, _, XW, he, hs, h, fun x S1 v H1 r1 s1 f1 q1 => ?_, kx⟩
    rcases wB_el q1 with ⟨rfl, q1⟩ | ⟨rfl, q1⟩
    · cases r1
      refine ⟨true, rfl, ?_⟩
      refine iteT ?_
      exact k (.bl true) S1 (.bl true) H1 rfl s1 f1 q1
    · cases r1
      refine ⟨false, rfl, ?_⟩
      refine iteF ?_
      exact ⟨env, S1, QW, XW, he.fr f1, s1, by simpa only [wE, wB] using q1, k.fr f1, kx.fr f1⟩
theorem w_and {f : Expr → E → Bool} (hf : ∀ e e', f e e' = true → PT X e (tT Γ C Wx e')) {pos : Pos} : ∀ {es : List Expr} {es' : List E}, chL f es es' = true → es' ≠ [] → PW X (.BoolOp .And es pos) (tT Γ C Wx (.and es'))
  | [], es', h, n => by cases es' with | nil => exact absurd rfl n | cons _ _ => simp [chL] at h
  | _ :: _, [], h, n => absurd rfl n
  | [e], [e'], h, _ => by
    rw [chL, Bool.and_eq_true] at h
    refine PWimp (pw_and1 (hf _ _ h.1)) fun σ H Q ⟨env, S, QW, XW, he, hs, h, k, kx⟩ => ⟨env, S, QW, XW, he, hs, by simpa only [wE, wAnd] using h, k, kx⟩
  | e :: e2 :: es, [e'], h, _ => by simp [chL] at h
  | [e], e' :: e2' :: es', h, _ => by simp [chL] at h
  | e :: e2 :: es, e' :: e2' :: es', h, _ => by
    rw [chL, Bool.and_eq_true] at h
    refine PWimp (pw_and (hf _ _ h.1) (w_and hf h.2 (by simp))) fun σ H Q ⟨env, S, QW, XW, he, hs, h, k, kx⟩ => ?_
    simp only [wE, wAnd] at h
    refine ⟨env, S, _, XW, he, hs, h, fun x S1 H1 s1 f1 q1 => ?_, kx⟩
    rcases wB_el q1 with ⟨rfl, q1⟩ | ⟨rfl, q1⟩
    · refine ⟨true, rfl, ?_⟩
      refine iteT ?_
      exact ⟨env, S1, QW, XW, he.fr f1, s1, by simpa only [wE, wB] using q1, k.fr f1, kx.fr f1⟩
    · refine ⟨false, rfl, ?_⟩
      refine iteF ?_
      obtain ⟨b, e, q⟩ := k (.bl false) S1 H1 s1 f1 q1
      cases e
      exact q
theorem w_or {f : Expr → E → Bool} (hf : ∀ e e', f e e' = true → PT X e (tT Γ C Wx e')) {pos : Pos} : ∀ {es : List Expr} {es' : List E}, chL f es es' = true → es' ≠ [] → PW X (.BoolOp .Or es pos) (tT Γ C Wx (.or es'))
  | [], es', h, n => by cases es' with | nil => exact absurd rfl n | cons _ _ => simp [chL] at h
  | _ :: _, [], h, n => absurd rfl n
  | [e], [e'], h, _ => by
    rw [chL, Bool.and_eq_true] at h
    refine PWimp (pw_or1 (hf _ _ h.1)) fun σ H Q ⟨env, S, QW, XW, he, hs, h, k, kx⟩ => ⟨env, S, QW, XW, he, hs, by simpa only [wE, wOr] using h, k, kx⟩
  | e :: e2 :: es, [e'], h, _ => by simp [chL] at h
  | [e], e' :: e2' :: es', h, _ => by simp [chL] at h
  | e :: e2 :: es, e' :: e2' :: es', h, _ => by
    rw [chL, Bool.and_eq_true] at h
    refine PWimp (pw_or (hf _ _ h.1) (w_or hf h.2 (by simp))) fun σ H Q ⟨env, S, QW, XW, he, hs, h, k, kx⟩ => ?_
    simp only [wE, wOr] at h
    refine ⟨env, S, _, XW, he, hs, h, fun x S1 H1 s1 f1 q1 => ?_, kx⟩
    rcases wB_el q1 with ⟨rfl, q1⟩ | ⟨rfl, q1⟩
    · refine ⟨true, rfl, ?_⟩
      refine iteT ?_
      obtain ⟨b, e, q⟩ := k (.bl true) S1 H1 s1 f1 q1
      cases e
      exact q
    · refine ⟨false, rfl, ?_⟩
      refine iteF ?_
      exact ⟨env, S1, QW, XW, he.fr f1, s1, by simpa only [wE, wB] using q1, k.fr f1, kx.fr f1⟩
theorem s_not {x : Expr} {a : E} {pos : Pos} (pa : PE X x (tE Γ C Wx a)) : PE X (.UnaryOp .Not x pos) (tE Γ C Wx (.not a)) := by
  refine PEimp (pe_not pa) fun σ H Q ⟨env, S, QW, XW, he, hs, h, k, kx⟩ => ?_
  simp only [wE] at h
  refine ⟨env, S, _, XW, he, hs, h, fun x S1 v H1 r1 s1 f1 q1 => ?_, kx⟩
  obtain ⟨b, rfl, q1⟩ := wNot_el q1
  cases r1
  exact ⟨_, rfl, k (.bl _) S1 (.bl _) H1 rfl s1 f1 q1⟩
theorem t_not {x : Expr} {a : E} {pos : Pos} (pa : PT X x (tT Γ C Wx a)) : PT X (.UnaryOp .Not x pos) (tT Γ C Wx (.not a)) := by
  refine PTimp (pt_not pa) fun σ H Q ⟨env, S, QW, XW, he, hs, h, k, kx⟩ => ?_
  simp only [wE] at h
  refine ⟨env, S, _, XW, he, hs, h, fun x S1 H1 s1 f1 q1 => ?_, kx⟩
  obtain ⟨b, rfl, q1⟩ := wNot_el q1
  obtain ⟨b, e, q⟩ := k (.bl _) S1 H1 s1 f1 q1
  cases e
  exact ⟨_, rfl, q⟩
theorem s_neg {x : Expr} {a : E} {pos : Pos} (pa : PE X x (tE Γ C Wx a)) : PE X (.UnaryOp .USub x pos) (tE Γ C Wx (.neg a)) := by
  refine PEimp (pe_un un_neg pa) fun σ H Q ⟨env, S, QW, XW, he, hs, h, k, kx⟩ => ?_
  simp only [wE] at h
  refine ⟨env, S, _, XW, he, hs, h, fun x S1 v H1 r1 s1 f1 q1 => ?_, kx⟩
  obtain ⟨i, rfl, q1⟩ := wI1_el q1
  cases r1
  exact ⟨_, rfl, k (.int _) S1 (.int _) H1 rfl s1 f1 q1⟩
theorem s_ite {z x y : Expr} {c a b : E} {pos : Pos} (pz : PT X z (tT Γ C Wx c)) (pa : PE X x (tE Γ C Wx a)) (pb : PE X y (tE Γ C Wx b)) : PE X (.IfExp z x y pos) (tE Γ C Wx (.ite c a b)) := by
  refine PEimp (pe_ifExp pz pa pb) fun σ H Q ⟨env, S, QW, XW, he, hs, h, k, kx⟩ => ?_
  simp only [wE] at h
  refine ⟨env, S, _, XW, he, hs, h, fun x S1 H1 s1 f1 q1 => ?_, kx⟩
  rcases wB_el q1 with ⟨rfl, q1⟩ | ⟨rfl, q1⟩
  · refine ⟨true, rfl, ?_⟩
    refine iteT ?_
    exact ⟨env, S1, QW, XW, he.fr f1, s1, q1, k.fr f1, kx.fr f1⟩
  · refine ⟨false, rfl, ?_⟩
    refine iteF ?_
    exact ⟨env, S1, QW, XW, he.fr f1, s1, q1, k.fr f1, kx.fr f1⟩

/-! ### subscripts -/
theorem plainIx_of {b : Expr} (h : ∀ l u st p, b ≠ .Slice l u st p) : PlainIx b := by
  intro o i
  cases b <;> first | rfl | exact absurd rfl (h _ _ _ _)
theorem s_idx (xo : XO Γ G C N sc Wx X) {x y : Expr} {a i : E} {pos : Pos} (pa : PE X x (tE Γ C Wx a)) (pb : PE X y (tE Γ C Wx i)) (ny : ∀ l u st p, y ≠ .Slice l u st p) : PE X (.Subscript x y pos) (tE Γ C Wx (.idx a i)) := by
  refine PEimp (pe_ix (ix_W xo.hK xo.un) pa pb (plainIx_of ny)) fun σ H Q ⟨env, S, QW, XW, he, hs, h, k, kx⟩ => ?_
  simp only [wE] at h
  exact two_of he hs h kx fun x y S2 v u H2 r1 r2 s2 f2 q => ⟨x, y, S2, QW, r1, r2, s2, q, k.fr f2⟩
def tO (Γ : Gm) (C : CT) (Wx : WX) (es : List E) : TO := fun σ H Q => ∃ env S QW XW, envR Γ S H env σ ∧ SR Γ S H ∧ wEs C es env S QW XW ∧ (∀ ws S' H', SR Γ S' H' → Fr S H S' H' → QW ws S' → ∃ o, optInt ws = some o ∧ Q o H') ∧ KX Γ S H XW (fun cls d H' => Wx cls d σ H')
theorem po_of {f : Expr → E → Bool} (hf : ∀ e e', f e e' = true → PE X e (tE Γ C Wx e')) : ∀ {o : Option Expr} {es : List E}, chO f o es = true → PO X o (tO Γ C Wx es)
  | none, [], _ => POimp po_none fun σ H Q ⟨env, S, QW, XW, he, hs, h, k, kx⟩ => by
    simp only [wEs] at h
    obtain ⟨o, e, q⟩ := k [] S H hs (Fr.refl _ _) h
    cases e
    exact q
  | none, _ :: _, h => by simp [chO] at h
  | some e, [], h => by simp [chO] at h
  | some e, [e'], h => POimp (po_some (hf e e' h)) fun σ H Q ⟨env, S, QW, XW, he, hs, h, k, kx⟩ => by
    simp only [wEs] at h
    refine ⟨env, S, _, XW, he, hs, h, fun x S1 v H1 r1 s1 f1 q1 => ?_, kx⟩
    obtain ⟨o, e, q⟩ := k [x] S1 H1 s1 f1 q1
    cases x with
    | int i =>
      cases r1
      cases e
      exact ⟨i, rfl, q⟩
    | _ => simp [optInt] at e
  | some e, _ :: _ :: _, h => by simp [chO] at h
theorem wSl_opt {fz : Bool} {x : W} {l h : List W} {S : Sto} {Q : VQ} (q : wSl fz x l h S Q) : ∃ lo hi, optInt l = some lo ∧ optInt h = some hi := by
  unfold wSl at q
  split at q
  · exact ⟨_, _, by assumption, by assumption⟩
  · exact q.elim
theorem s_sl (xo : XO Γ G C N sc Wx X) {f : Expr → E → Bool} (hf : ∀ e e', f e e' = true → PE X e (tE Γ C Wx e')) {x : Expr} {l h : Option Expr} {a : E} {lo hi : List E} {fz : Bool} {p pos : Pos} (pa : PE X x (tE Γ C Wx a)) (pl : chO f l lo = true) (ph : chO f h hi = true) :
    PE X (.Subscript x (.Slice l h none p) pos) (tE Γ C Wx (.sl fz a lo hi)) := by
  refine PEimp (pe_slice (sl_W xo.hK fz) pa (po_of hf pl) (po_of hf ph)) fun σ H Q ⟨env, S, QW, XW, he, hs, h, k, kx⟩ => ?_
  simp only [wE] at h
  refine ⟨env, S, _, XW, he, hs, h, fun x S1 v H1 r1 s1 f1 q1 => ?_, kx⟩
  dsimp only at q1
  refine ⟨env, S1, _, XW, he.fr f1, s1, q1, fun l S2 H2 s2 f2 q2 => ?_, kx.fr f1⟩
  cases e1 : optInt l with
  | none => rw [e1] at q2; exact absurd q2.1 (by simp)
  | some o1 =>
    refine ⟨o1, rfl, env, S2, _, XW, he.fr (f1.trans f2), s2, q2.2, fun h S3 H3 s3 f3 q3 => ?_, kx.fr (f1.trans f2)⟩
    obtain ⟨o2, o3, e2, e3⟩ := wSl_opt q3
    exact ⟨o3, e3, x, S3, QW, rep.fr (f2.trans f3) _ _ r1, s3, ⟨l, h, e1, e3, q3⟩, k.fr (f1.trans (f2.trans f3))⟩
end
end Bw

/-! Ev10: calls, built-ins, comprehensions; every expression that the checker takes. -/
namespace Bw
open PySem L2 PySem.Spec PyProof.Rows
theorem vals_ints_hold {h : Heap} : ∀ {ns : List Int} {us : List Value}, Vals (ns.map V.int) us → PySem.W.HoldAll h us ns
  | [], _, r => by cases r; exact PySem.W.HoldAll.nil
  | n :: ns, _, r => by
    cases r with
    | cons q t =>
      obtain ⟨tk, rfl⟩ := q
      exact .cons (PySem.W.holds_int n tk) (vals_ints_hold t)
theorem maxOf_L : ∀ (ys : List Int) (y : Int), PySem.W.maxOf y ys = maxL (y :: ys)
  | [], y => rfl
  | z :: ys, y => by
    show PySem.W.maxOf (if decide (y < z) = true then z else y) ys = max y (maxL (z :: ys))
    rw [maxOf_L ys]
    cases ys with
    | nil => show (if decide (y < z) = true then z else y) = max y z; simp only [decide_eq_true_eq]; omega
    | cons u us =>
      show max (if decide (y < z) = true then z else y) (maxL (u :: us)) = max y (max z (maxL (u :: us)))
      simp only [decide_eq_true_eq]
      omega
section
variable {Γ : Gm} {G : GT} {C : CT} {N : List Str} {sc : Scope} {Wx : WX} {X : Cx}
theorem s_call (xo : XO Γ G C N sc Wx X) (nh : G.hot = false) {x : Str} {f n : Nat} {es : List Expr} {es' : List E} {p pos : Pos} (h1 : gloB sc x = true) (h2 : nodbg x = true) (h3 : (x, f, n) ∈ G.fns) (h4 : es ≠ []) (hn : es.all noStar = true) (pa : PA X es (tEs Γ C Wx es')) :
    PE X (.Call (.Name x p) es [] pos) (tE Γ C Wx (.call f es')) := by
  obtain ⟨k, fd, ps, F, hr, hk, hb, _⟩ := xo.fn x f _ nh h3
  have hm := xo.fnv x f _ h3
  cases es with
  | nil => exact absurd rfl h4
  | cons e es =>
    rw [List.all_cons, Bool.and_eq_true] at hn
    refine PEimp (pe_callS (E := WE Wx) F hr (xo.glo h1) hm hk hb (passAt xo.tk) pa (dbg_of h2).1 (star_cons hn.1) (star_any hn.2)) fun σ H Q ⟨env, S, QW, XW, he, hs, h, k, kx⟩ => ?_
    simp only [wE] at h
    exact ⟨env, S, _, XW, he, hs, h, fun ws S1 vs H1 r1 s1 f1 q1 => ⟨ws, S1, QW, XW, r1, s1, q1, k.fr f1, kx.fr f1⟩, kx⟩
theorem s_callD (xo : XO Γ G C N sc Wx X) (nh : G.hot = false) {x : Str} {f n : Nat} {es : List Expr} {es' : List E} {ds ws : List W} {p pos : Pos} (h1 : gloB sc x = true) (h2 : nodbg x = true) (h3 : (x, f, n) ∈ G.fns) (h4 : es ≠ []) (hd : G.dfl.lookup x = some ws) (hl : ds.length ≤ ws.length)
    (he : ws.drop (ws.length - ds.length) = ds) (hn : es.all noStar = true) (pa : PA X es (tEs Γ C Wx es')) : PE X (.Call (.Name x p) es [] pos) (tE Γ C Wx (.callD f es' ds)) := by
  obtain ⟨k, fd, ps, F, hr, hk, _, hb⟩ := xo.fn x f _ nh h3
  obtain ⟨dvs, dv, hb, hdv, hrep⟩ := hb ws hd ds.length hl
  rw [he] at hrep
  have hm := xo.fnv x f _ h3
  cases es with
  | nil => exact absurd rfl h4
  | cons e es =>
    rw [List.all_cons, Bool.and_eq_true] at hn
    refine PEimp (pe_callD (E := WE Wx) F hr (xo.glo h1) hm hk hb hdv (passAt xo.tk) pa (dbg_of h2).1 (star_cons hn.1) (star_any hn.2)) fun σ H Q ⟨env, S, QW, XW, he, hs, h, k, kx⟩ => ?_
    simp only [wE] at h
    exact ⟨env, S, _, XW, he, hs, h, fun ws S1 vs H1 r1 s1 f1 q1 => ⟨ws ++ ds, S1, QW, XW, r1.app (hrep S1 H1), s1, q1, k.fr f1, kx.fr f1⟩, kx⟩
theorem bi_imp {b : Bi} {es' : List E} {σ : L2.St} {H : Hp} {Q : VK} (hq : tE Γ C Wx (.bi b es') σ H Q) : tCB (rBi Γ b) (tEs Γ C Wx es') σ H Q := by
  obtain ⟨env, S, QW, XW, he, hs, h, k, kx⟩ := hq
  simp only [wE] at h
  exact ⟨env, S, _, XW, he, hs, h, fun ws S1 vs H1 r1 s1 f1 q1 => ⟨ws, S1, QW, r1, s1, q1, k.fr f1⟩, kx⟩
theorem s_bi (xo : XO Γ G C N sc Wx X) {b : Bi} {x : Str} {es : List Expr} {es' : List E} {p pos : Pos} (h1 : biB G sc (nameB b) x = true) (hh : (!G.hot || coolB b) = true) (h4 : es ≠ []) (hb : fnB b ≠ .none) (hn : es.all noStar = true) (pa : PA X es (tEs Γ C Wx es')) :
    PE X (.Call (.Name x p) es [] pos) (tE Γ C Wx (.bi b es')) := by
  obtain ⟨e1, g, d, m⟩ := bi_of h1
  subst e1
  have hm := xo.bi _ m
  obtain ⟨d1, d2, d3⟩ := dbg_of d
  cases es with
  | nil => exact absurd rfl h4
  | cons e es =>
    rw [List.all_cons, Bool.and_eq_true] at hn
    have cr := call_Bi (X := X) xo.hK b (fun z => xo.calm (by rw [z, Bool.or_false] at hh; simpa using hh)) hb
    have n1 := star_cons (env := X.env) (es := es) hn.1
    have n2 := star_any (env := X.env) (pos := pos) hn.2
    cases b with
    | len => exact PEimp (pe_callB cr (xo.glo g) hm PySem.boot_len pa d3 d1 n1 n2) fun σ H Q hq => bi_imp hq
    | int1 => exact PEimp (pe_callTy cr (xo.glo g) hm boot_int pa d3 d1 n1 n2) fun σ H Q hq => bi_imp hq
    | str1 => exact PEimp (pe_callTy cr (xo.glo g) hm (by decide +kernel) pa d3 d1 n1 n2) fun σ H Q hq => bi_imp hq
    | abs => exact PEimp (pe_callB cr (xo.glo g) hm boot_abs pa d3 d1 n1 n2) fun σ H Q hq => bi_imp hq
    | max2 => exact PEimp (pe_callB cr (xo.glo g) hm boot_max pa d3 d1 n1 n2) fun σ H Q hq => bi_imp hq
    | max3 => exact PEimp (pe_callB cr (xo.glo g) hm boot_max pa d3 d1 n1 n2) fun σ H Q hq => bi_imp hq
    | min2 => exact PEimp (pe_callB cr (xo.glo g) hm boot_min pa d3 d1 n1 n2) fun σ H Q hq => bi_imp hq
    | max1 => exact PEimp (pe_callB cr (xo.glo g) hm boot_max pa d3 d1 n1 n2) fun σ H Q hq => bi_imp hq
    | min1 => exact PEimp (pe_callB cr (xo.glo g) hm boot_min pa d3 d1 n1 n2) fun σ H Q hq => bi_imp hq
    | sum1 => exact PEimp (pe_callB cr (xo.glo g) hm boot_sum pa d3 d1 n1 n2) fun σ H Q hq => bi_imp hq
    | all1 => exact PEimp (pe_callB cr (xo.glo g) hm boot_all pa d3 d1 n1 n2) fun σ H Q hq => bi_imp hq
    | any1 => exact PEimp (pe_callB cr (xo.glo g) hm boot_any pa d3 d1 n1 n2) fun σ H Q hq => bi_imp hq
    | tuple1 => exact PEimp (pe_callTy cr (xo.glo g) hm boot_tuple pa d3 d1 n1 n2) fun σ H Q hq => bi_imp hq
    | list1 fz => exact PEimp (pe_callTy cr (xo.glo g) hm boot_list pa d3 d1 n1 n2) fun σ H Q hq => bi_imp hq
    | maxd => exact absurd rfl hb
    | listrev _ => exact absurd rfl hb
    | lenset => exact absurd rfl hb
    | ord1 => exact PEimp (pe_callB cr (xo.glo g) hm (by decide +kernel) pa d3 d1 n1 n2) fun σ H Q hq => bi_imp hq
    | dict1 => exact PEimp (pe_callTy cr (xo.glo g) hm boot_dict pa d3 d1 n1 n2) fun σ H Q hq => bi_imp hq
theorem s_listrev (xo : XO Γ G C N sc Wx X) (nh : G.hot = false) {x y : Str} {e : Expr} {e' : E} {fz : Bool} {p p2 pos pos2 : Pos} (h1 : biB G sc "list" x = true) (h2 : biB G sc "reversed" y = true) (hn : noStar e = true) (pe : PE X e (tE Γ C Wx e')) :
    PE X (.Call (.Name x p) [.Call (.Name y p2) [e] [] pos2] [] pos) (tE Γ C Wx (.bi (.listrev fz) [e'])) := by
  obtain ⟨e1, g, d, m⟩ := bi_of h1
  subst e1
  obtain ⟨e2, g2, d2, m2⟩ := bi_of h2
  subst e2
  refine PEimp (pe_lstRev (xo.calm nh) (xo.glo g) (xo.bi _ m) (xo.glo g2) (xo.bi _ m2) pe (star_cons hn)) fun σ H Q ⟨env, S, QW, XW, he, hs, h, k, kx⟩ => ?_
  simp only [wE, wEs] at h
  refine ⟨env, S, _, XW, he, hs, h, fun x S1 v H1 r1 s1 f1 q1 => ?_, kx⟩
  obtain ⟨pr, e3, q3⟩ := wSome_el (show wSome (walkL S1 x) fun p => mkL fz p.1.reverse S1 QW from q1)
  obtain ⟨a, P, rfl, st, p0, B⟩ := walkL_base e3 r1
  have lv : liveS pr.2 S1 := by
    cases x with
    | rl _ => cases e3; trivial
    | sc _ => cases e3; trivial
    | ref b =>
      simp only [walkL] at e3
      cases q : S1 b with
      | none => rw [q] at e3; cases e3
      | some o =>
        cases o with
        | lst us => rw [q] at e3; cases e3; exact ⟨q, trivial⟩
        | dic _ _ => rw [q] at e3; cases e3
        | ins _ _ _ => rw [q] at e3; cases e3
        | hid => rw [q] at e3; cases e3
    | _ => cases e3
  obtain ⟨vs, hq, rr⟩ := B S1 H1 s1 p0 lv
  exact ⟨a, vs, rfl, xo.hK ▸ hq, mkL_ok q3 rr.rev s1 (k.fr f1)⟩
theorem s_lenset (xo : XO Γ G C N sc Wx X) (nh : G.hot = false) {x y : Str} {e : Expr} {e' : E} {p p2 pos pos2 : Pos} (h1 : biB G sc "len" x = true) (h2 : biB G sc "set" y = true) (hn : noStar e = true) (pe : PE X e (tE Γ C Wx e')) :
    PE X (.Call (.Name x p) [.Call (.Name y p2) [e] [] pos2] [] pos) (tE Γ C Wx (.bi .lenset [e'])) := by
  obtain ⟨e1, g, d, m⟩ := bi_of h1
  subst e1
  obtain ⟨e2, g2, d2, m2⟩ := bi_of h2
  subst e2
  refine PEimp (RZ.pe_lenSetI (xo.glo g) (xo.bi _ m) (xo.glo g2) (xo.bi _ m2) pe (xo.calm nh) (star_cons hn)) fun σ H Q ⟨env, S, QW, XW, he, hs, h, k, kx⟩ => ?_
  simp only [wE, wEs] at h
  refine ⟨env, S, _, XW, he, hs, h, fun x S1 v H1 r1 s1 f1 q1 => ?_, kx⟩
  obtain ⟨ns, e3, n1, n2, q3⟩ := wSome_el (show wSome ((lstOf S1 x).bind intsOf) fun ns => ns.Nodup ∧ ns.length ≤ 4000 ∧ QW (.int (ns.length : Nat)) S1 from q1)
  obtain ⟨a, rfl, h1⟩ := lstInts e3 r1 s1
  exact ⟨a, ns, rfl, SqL.of h1, n1, n2, (k.fr f1).here s1 (w := .int _) rfl q3⟩
theorem s_maxd (xo : XO Γ G C N sc Wx X) (nh : G.hot = false) {x : Str} {a d : Expr} {a' d' : E} {p pos kp : Pos} (h1 : biB G sc "max" x = true) (ha : noStar a = true) (pa : PE X a (tE Γ C Wx a')) (pd : PE X d (tE Γ C Wx d')) :
    PE X (.Call (.Name x p) [a] [⟨some "default", d, kp⟩] pos) (tE Γ C Wx (.bi .maxd [a', d'])) := by
  obtain ⟨e1, g, dd, m⟩ := bi_of h1
  subst e1
  obtain ⟨d1, d2, d3⟩ := dbg_of dd
  have hm := xo.bi _ m
  refine ⟨fun pins s σ H Q I ⟨env, S, QW, XW, he, hs, h, k, kx⟩ => ?_⟩
  simp only [wE, wEs] at h
  refine wpAny_Call_Name_kw (ld_blt I (xo.glo g) hm boot_max ?_ d3 d1)
  have sc1 : starEach [a] X.env = (false, eval a X.env) :: starEach [] X.env := star_cons ha
  refine callWith_kw (e := a) (rest := []) (kws := [⟨some "default", d, kp⟩]) ?_ (by rw [sc1]; rfl) (by rw [sc1]; rfl) rfl rfl
  refine thn ((pa_cons pa pa_nil sc1).run pos pins s σ H (fun vs H1 => ∃ v S1 w, vs = [v] ∧ rep Γ S1 H1 w v ∧ SR Γ S1 H1 ∧ Fr S H S1 H1 ∧ wE C d' env S1 (fun w1 S2 => wBi .maxd [w, w1] S2 QW) XW) I ⟨env, S, _, XW, he, hs, h, fun w S1 v H1 r1 s1 f1 q1 => ⟨v, S1, w, rfl, r1, s1, f1, q1⟩, kx⟩) fun us s1 ⟨vs, H1, I1, rv, v, S1, w, e, r1, sr1, f1, q1⟩ => ?_
  subst e
  refine thn ((pk_cons (nm := some "default") (kpos := kp) pd pk_nil).run pos pins s1 σ H1 (fun vs H2 => ∃ u S2 w1, vs = [u] ∧ rep Γ S2 H2 w1 u ∧ SR Γ S2 H2 ∧ Fr S1 H1 S2 H2 ∧ wBi .maxd [w, w1] S2 QW) I1 ⟨env, S1, _, XW, he.fr f1, sr1, q1, fun w1 S2 u H2 r2 s2 f2 q2 => ⟨u, S2, w1, rfl, r2, s2, f2, q2⟩, kx.fr f1⟩) fun kvs s2 ⟨zs, H2, I2, rz, u, S2, w1, e, r2, sr2, f2, q2⟩ => ?_
  subst e
  obtain ⟨uv, rfl, ruv⟩ := vals1 rv
  obtain ⟨kv, rfl, rkv⟩ := vals1 rz
  have q2 : wMaxd [w, w1] S2 QW := q2
  unfold wMaxd at q2
  split at q2
  · rename_i w' dflt e
    cases e
    obtain ⟨ns, e3, q3⟩ := wSome_el q2
    have r1' := rep.fr f2 _ _ r1
    obtain ⟨pp, rfl, hp⟩ := lstInts e3 r1' sr2
    cases r2
    cases ruv
    obtain ⟨tk, rfl⟩ := rkv
    obtain ⟨its, rvs, pl, hz⟩ := I2.list (SqL.of hp)
    have kk := k.fr (f1.trans f2)
    show wpAny (model X.prog X.w) X.A (call (.builtin "max") [.ref pp] [(Str.ofString "default", .int dflt tk)]) _ _ _
    refine PySem.W.max_list_datum_default (α := Int) (I2.ok.hd (xo.calm nh)) pl.isList (by simpa using vals_ints_hold rvs) (by show X.A.units + 1 + 0 < cLine; have := xo.un; omega) (fun e0 h' tk' hk => ?_) (fun y ys i v h' tk' e0 hi hd hk => ?_)
    · subst e0
      refine ⟨.int dflt, H2, I2.kept hk, ⟨tk, rfl⟩, ?_⟩
      exact kk.here sr2 (w := .int _) rfl (by simpa using q3)
    · subst e0
      obtain ⟨as, rd⟩ := hd
      rw [maxOf_L] at rd
      have e5 : ∃ t, v = .int (maxL (y :: ys)) t := by cases rd; exact ⟨_, rfl⟩
      obtain ⟨t, rfl⟩ := e5
      refine ⟨.int (maxL (y :: ys)), H2, I2.kept hk, ⟨t, rfl⟩, ?_⟩
      exact kk.here sr2 (w := .int _) rfl (by simpa using q3)
  · exact q2.elim
theorem s_isi (xo : XO Γ G C N sc Wx X) {f y : Str} {t : Ty} {x : Expr} {a : E} {p p2 pos : Pos} (h1 : biB G sc "isinstance" f = true) (h2 : biB G sc (tyS t) y = true) (hn : noStar x = true) (pa : PE X x (tE Γ C Wx a)) :
    PE X (.Call (.Name f p) [x, .Name y p2] [] pos) (tE Γ C Wx (.isi t a)) := by
  obtain ⟨e1, g, d, m⟩ := bi_of h1
  subst e1
  obtain ⟨e2, g2, dd2, m2⟩ := bi_of h2
  subst e2
  obtain ⟨d1, d2, d3⟩ := dbg_of d
  obtain ⟨k1, k2, k3⟩ := dbg_of dd2
  have bt : bootBuiltins (tyS t) = some (.type (tyN t)) := by cases t <;> decide +kernel
  have pt : PE X (.Name (tyS t) p2) (tC (.ty (tyN t))) := pe_bltn (xo.glo g2) (xo.bi _ m2) bt rfl k3 k1
  refine PEimp (pe_callB call_isi (xo.glo g) (xo.bi _ m) boot_isinstance (pa_cons pa (pa_cons pt pa_nil rfl) (star_cons hn)) d3 d1 (star_cons hn) rfl) fun σ H Q ⟨env, S, QW, XW, he, hs, h, k, kx⟩ => ?_
  simp only [wE] at h
  refine ⟨env, S, _, XW, he, hs, h, fun x S1 v H1 r1 s1 f1 q1 => ?_, kx⟩
  obtain ⟨b, e, q1⟩ := wSome_el q1
  obtain ⟨T, ty, kb⟩ := isi_ty e r1 s1
  exact ⟨v, _, _, _, b, rfl, .ty _, xo.hK ▸ ty, xo.hK ▸ kb, k (.bl b) S1 (.bl b) H1 rfl s1 f1 q1⟩
theorem s_tab (xo : XO Γ G C N sc Wx X) {x : Str} {y : Expr} {kvs : List (List Nat × W)} {i : E} {p pos : Pos} (h1 : gloB sc x = true) (h2 : nodbg x = true) (h3 : G.tabs.lookup x = some kvs) (ny : ∀ l u st p, y ≠ .Slice l u st p) (pi : PE X y (tE Γ C Wx i)) :
    PE X (.Subscript (.Name x p) y pos) (tE Γ C Wx (.tab kvs i)) := by
  obtain ⟨a, hm, hk⟩ := xo.tab x kvs h3
  refine PEimp (pe_ix ix_kdict (pe_glob (v := .ref a) (xo.glo h1) hm rfl (dbg_of h2).1) pi (plainIx_of ny)) fun σ H Q ⟨env, S, QW, XW, he, hs, h, k, kx⟩ => ?_
  simp only [wE] at h
  refine ⟨env, S, _, XW, he, hs, h, fun x S1 v H1 r1 s1 f1 q1 => ?_, kx⟩
  dsimp only at q1
  unfold wTab at q1
  split at q1
  · rename_i z
    split at q1
    · rename_i w e
      obtain ⟨rfl, _⟩ := r1
      obtain ⟨v0, kd, rv⟩ := hk z w e
      exact ⟨a, ⟨z.toArray⟩, v0, rfl, rfl, kd, k w S1 v0 H1 (rv S1 H1) s1 f1 q1⟩
    · exact q1.elim
  · exact q1.elim
theorem s_app (xo : XO Γ G C N sc Wx X) {o x : Expr} {a e : E} {apos cpos : Pos} (h1 : plainO o = true) (h2 : (apos.endLine == cpos.line) = true) (hn : noStar x = true) (pa : PE X o (tE Γ C Wx a)) (px : PE X x (tE Γ C Wx e)) :
    PE X (.Call (.Attribute o "append" apos) [x] [] cpos) (tE Γ C Wx (.app a e)) := by
  have sc1 : starEach [x] X.env = (false, eval x X.env) :: starEach [] X.env := star_cons hn
  refine PEimp (pe_bm PySem.F.plainAttrs_list PySem.F.slot_list_append PySem.F.type_list_append mt_append pa (pa_cons px pa_nil sc1) (base_of h1) (by rw [sc1]; rfl) h2 sc1 rfl) fun σ H Q ⟨env, S, QW, XW, he, hs, h, k, kx⟩ => ?_
  simp only [wE] at h
  refine ⟨env, S, _, XW, he, hs, h, fun y S1 v H1 r1 s1 f1 q1 => ?_, kx⟩
  dsimp only at q1
  cases e1 : lstOf S1 y with
  | none => rw [e1] at q1; exact absurd q1.1 (by simp)
  | some ws =>
    obtain ⟨pp, vs, rfl, hp, rr⟩ := lst_rep e1 r1 s1
    refine ⟨.inl ⟨rfl, _, SqL.of hp⟩, env, S1, _, XW, he.fr f1, s1, q1.2, fun w S2 u H2 r2 s2 f2 q2 => ?_, kx.fr f1⟩
    cases y with
    | ref b =>
      have q2 : (match S2 b with
        | some (.lst ws) => ws.length < PySem.sizeLine ∧ QW .non (S2.set b (.lst (ws ++ [w])))
        | _ => False) := q2
      cases r1
      split at q2
      · rename_i us e2
        obtain ⟨vs2, h3, rr2⟩ := s2 pp _ e2
        refine ⟨pp, vs2, u, rfl, rfl, h3, by rw [← rr2.len]; exact q2.1, ?_⟩
        exact k .non _ .non _ rfl (s2.wrL e2 (rr2.app (reps.one r2))) (f1.trans (f2.trans (Fr.wr e2))) q2.2
      · exact q2.elim
    | _ => exact (show False from q2).elim
theorem s_pop (xo : XO Γ G C N sc Wx X) {o : Expr} {a : E} {apos cpos : Pos} (h1 : plainO o = true) (h2 : (apos.endLine == cpos.line) = true) (pa : PE X o (tE Γ C Wx a)) :
    PE X (.Call (.Attribute o "pop" apos) [] [] cpos) (tE Γ C Wx (.pop a)) := by
  refine PEimp (pe_bm0 PySem.F.plainAttrs_list PySem.F.slot_list_pop PySem.F.type_list_pop mt_pop pa (base_of h1) h2) fun σ H Q ⟨env, S, QW, XW, he, hs, h, k, kx⟩ => ?_
  simp only [wE] at h
  refine ⟨env, S, _, XW, he, hs, h, fun y S1 v H1 r1 s1 f1 q1 => ?_, kx⟩
  dsimp only at q1
  unfold wPop at q1
  split at q1
  · rename_i b
    cases r1
    split at q1
    · rename_i us e2
      split at q1
      · rename_i w e3
        obtain ⟨vs, h3, rr⟩ := s1 b _ e2
        have e4 : us[us.length - 1]? = some w := by rw [← List.getLast?_eq_getElem?]; exact e3
        obtain ⟨u, e5, r5⟩ := rr.get e4
        refine ⟨.inl ⟨rfl, _, SqL.of h3⟩, b, vs, u, rfl, rfl, h3, by rw [← rr.len]; exact e5, ?_⟩
        have f2 : Fr S1 H1 (S1.set b (.lst us.dropLast)) (upd H1 b (.lst vs.dropLast)) := Fr.wr e2
        exact k w _ u _ (rep.fr f2 _ _ r5) (s1.wrL e2 rr.dropLast) (f1.trans f2) q1
      · exact q1.elim
    · exact q1.elim
  · exact q1.elim
end
end Bw

/-! Ev11: what is walked, and targets, as the checker takes them. -/
namespace Bw
open PySem L2 PySem.Spec PyProof.Rows
section
variable {Γ : Gm} {G : GT} {C : CT} {N : List Str} {sc : Scope} {Wx : WX} {X : Cx}
def iW (Γ : Gm) (C : CT) (Wx : WX) (ik : IK) (its : List E) : TI := fun σ H R => ∃ (env : Env) (S : Sto) (QW : List W → Lk → Sto → Prop) (XW : XQ), envR Γ S H env σ ∧ SR Γ S H ∧ wEs C its env S (fun args S1 => wWalk (itemsOf ik args S1) fun items lk => QW items lk S1) XW ∧
  (∀ items lk S1 H1 J P, Wk Γ J items lk P → P S1 H1 → SR Γ S1 H1 → Fr S H S1 H1 → liveS lk S1 → QW items lk S1 → R J H1) ∧ KX Γ S H XW (fun cls d H' => Wx cls d σ H')
theorem walkL_live {S : Sto} {x : W} {ws : List W} {lk : Lk} (h : walkL S x = some (ws, lk)) : liveS lk S := by
  cases x with
  | rl _ => cases h; trivial
  | sc _ => cases h; trivial
  | ref b =>
    simp only [walkL] at h
    cases q : S b with
    | none => rw [q] at h; cases h
    | some o =>
      cases o with
      | lst us => rw [q] at h; cases h; exact ⟨q, trivial⟩
      | dic _ _ => rw [q] at h; cases h
      | ins _ _ _ => rw [q] at h; cases h
      | hid => rw [q] at h; cases h
  | _ => cases h
theorem o1_el {α : Type} {ws : List W} {f : W → Option α} {y : α} (h : o1 ws f = some y) : ∃ x, ws = [x] ∧ f x = some y := by
  unfold o1 at h
  split at h
  · exact ⟨_, rfl, h⟩
  · cases h
theorem oI_el {α : Type} {x : W} {f : Int → Option α} {y : α} (h : oI x f = some y) : ∃ i, x = .int i ∧ f i = some y := by
  unfold oI at h
  split at h
  · exact ⟨_, rfl, h⟩
  · cases h
theorem fits_el {i : Int} (h : fits i = true) : -(2 ^ 62) ≤ i ∧ i < 2 ^ 62 := of_decide_eq_true h
theorem oRng2_el {ws : List W} {y : List W × Lk} (h : oRng2 ws = some y) : ∃ a b, ws = [.int a, .int b] ∧ fits a = true ∧ fits b = true ∧ y = (rngW a (b - a).toNat, []) := by
  unfold oRng2 at h
  split at h
  · split at h
    · rename_i q
      rw [Bool.and_eq_true] at q
      cases h
      exact ⟨_, _, rfl, q.1, q.2, rfl⟩
    · cases h
  · cases h
theorem oZip_el {ws : List W} {S : Sto} {y : List W × Lk} (h : oZip ws S = some y) : (∃ xs ys, ws = [.tup xs, .tup ys] ∧ y = (zipW xs ys, [])) ∨ ∃ a b p q, ws = [a, b] ∧ walkL S a = some p ∧ walkL S b = some q ∧ y = (zipW p.1 q.1, p.2 ++ q.2) := by
  unfold oZip at h
  split at h
  · cases h; exact .inl ⟨_, _, rfl, rfl⟩
  · rename_i x z _
    cases e1 : walkL S x with
    | none => rw [e1] at h; cases h
    | some p =>
      cases e2 : walkL S z with
      | none => rw [e1, e2] at h; cases h
      | some q =>
        rw [e1, e2] at h
        cases h
        exact .inr ⟨_, _, p, q, rfl, e1, e2, rfl⟩
  · cases h
theorem i_seq (xo : XO Γ G C N sc Wx X) {tg e : Expr} {e' : E} (pe : PE X e (tE Γ C Wx e')) : PI X tg e (iW Γ C Wx .seq [e']) := by
  refine PIimp (pi_seq pe) fun σ H R ⟨env, S, QW, XW, he, hs, h, k, kx⟩ => ?_
  simp only [wEs] at h
  refine ⟨env, S, _, XW, he, hs, h, fun x S1 v H1 r1 s1 f1 q1 => ?_, kx⟩
  rw [xo.hK]
  obtain ⟨⟨ws, lk⟩, e1, q⟩ := wWalk_el q1
  have e1 : walkOf S1 x = some (ws, lk) := e1
  rcases walkOf_cases e1 with ⟨rfl, rfl⟩ | ⟨z, rfl, rfl, rfl⟩ | e2
  · obtain ⟨a, P, rfl, st, p0, B⟩ := tup_base (lk := []) r1
    obtain ⟨vs, hq, _⟩ := B S1 H1 s1 p0 trivial
    exact .inr (.inl ⟨a, rfl, ⟨vs, hq⟩, k _ [] S1 H1 _ P (wk_tup st B) p0 s1 f1 trivial q⟩)
  · obtain ⟨rfl, oz⟩ := r1
    exact .inr (.inr ⟨_, rfl, k _ [] S1 H1 _ _ (wk_str oz) trivial s1 f1 trivial q⟩)
  · obtain ⟨a, P, rfl, st, p0, B⟩ := walkL_base e2 r1
    obtain ⟨vs, hq, _⟩ := B S1 H1 s1 p0 (walkL_live e2)
    exact .inl ⟨a, rfl, ⟨vs, hq⟩, k _ lk S1 H1 _ P (wk_list st B) p0 s1 f1 (walkL_live e2) q⟩
theorem i_rng1 (xo : XO Γ G C N sc Wx X) {tg e : Expr} {es' : List E} {f : Str} {p pos : Pos} (h1 : biB G sc "range" f = true) (hn : noStar e = true) (pa : PA X [e] (tEs Γ C Wx es')) : PI X tg (.Call (.Name f p) [e] [] pos) (iW Γ C Wx .rng1 es') := by
  obtain ⟨e1, g, d, m⟩ := bi_of h1
  subst e1
  refine PIimp (pi_range1 (xo.glo g) (xo.bi _ m) pa (star_cons hn)) fun σ H R ⟨env, S, QW, XW, he, hs, h, k, kx⟩ => ?_
  refine ⟨env, S, _, XW, he, hs, h, fun ws S1 vs H1 r1 s1 f1 q1 => ?_, kx⟩
  obtain ⟨y, e1, q⟩ := wWalk_el q1
  obtain ⟨x, rfl, e2⟩ := o1_el (show o1 ws _ = some y from e1)
  obtain ⟨n, rfl, e3⟩ := oI_el e2
  obtain ⟨v, rfl, rv⟩ := r1.l1
  cases rv
  split at e3
  · rename_i hf
    cases e3
    obtain ⟨b1, b2⟩ := fits_el hf
    exact ⟨n, rfl, b1, b2, k _ [] S1 H1 _ _ wk_rng trivial s1 f1 trivial q⟩
  · cases e3
theorem i_rng2 (xo : XO Γ G C N sc Wx X) {tg e e2 : Expr} {es' : List E} {f : Str} {p pos : Pos} (h1 : biB G sc "range" f = true) (hn : noStar e = true) (hn2 : noStar e2 = true) (pa : PA X [e, e2] (tEs Γ C Wx es')) : PI X tg (.Call (.Name f p) [e, e2] [] pos) (iW Γ C Wx .rng2 es') := by
  obtain ⟨e1, g, d, m⟩ := bi_of h1
  subst e1
  refine PIimp (pi_range2 (xo.glo g) (xo.bi _ m) pa (by rw [star_cons hn, star_cons hn2]; rfl) (star_cons hn2)) fun σ H R ⟨env, S, QW, XW, he, hs, h, k, kx⟩ => ?_
  refine ⟨env, S, _, XW, he, hs, h, fun ws S1 vs H1 r1 s1 f1 q1 => ?_, kx⟩
  obtain ⟨y, e1, q⟩ := wWalk_el q1
  obtain ⟨a, b, rfl, ha, hb, rfl⟩ := oRng2_el (show oRng2 ws = some y from e1)
  obtain ⟨v, u, rfl, rv, ru⟩ := r1.l2
  cases rv
  cases ru
  obtain ⟨a1, a2⟩ := fits_el ha
  obtain ⟨b1, b2⟩ := fits_el hb
  exact ⟨a, b, rfl, ⟨a1, a2, b1, b2⟩, k _ [] S1 H1 _ _ wk_rng trivial s1 f1 trivial q⟩
theorem i_enum (xo : XO Γ G C N sc Wx X) {es : List Expr} {kk : Nat} {tp : Pos} {e : Expr} {es' : List E} {f : Str} {p pos : Pos} (h1 : biB G sc "enumerate" f = true) (hn : noStar e = true) (pa : PA X [e] (tEs Γ C Wx es')) : PI X (.Tuple es kk tp) (.Call (.Name f p) [e] [] pos) (iW Γ C Wx .enum es') := by
  obtain ⟨e1, g, d, m⟩ := bi_of h1
  subst e1
  refine PIimp (pi_enum (xo.glo g) (xo.bi _ m) pa (star_cons hn)) fun σ H R ⟨env, S, QW, XW, he, hs, h, k, kx⟩ => ?_
  refine ⟨env, S, _, XW, he, hs, h, fun ws S1 vs H1 r1 s1 f1 q1 => ?_, kx⟩
  obtain ⟨y, e1, q⟩ := wWalk_el q1
  obtain ⟨x, rfl, e2⟩ := o1_el (show o1 ws _ = some y from e1)
  obtain ⟨v, rfl, rv⟩ := r1.l1
  cases e3 : walkL S1 x with
  | none => rw [e3] at e2; cases e2
  | some p =>
    rw [e3] at e2
    cases e2
    obtain ⟨a, P, rfl, st, p0, B⟩ := walkL_base (lk := p.2) e3 rv
    obtain ⟨vs, hq, _⟩ := B S1 H1 s1 p0 (walkL_live (lk := p.2) e3)
    rw [xo.hK]
    exact ⟨a, vs, rfl, hq, k _ p.2 S1 H1 _ P (wk_enum st B) p0 s1 f1 (walkL_live (lk := p.2) e3) q⟩
theorem i_rev (xo : XO Γ G C N sc Wx X) {tg e : Expr} {es' : List E} {f : Str} {p pos : Pos} (h1 : biB G sc "reversed" f = true) (hn : noStar e = true) (pa : PA X [e] (tEs Γ C Wx es')) : PI X tg (.Call (.Name f p) [e] [] pos) (iW Γ C Wx .rev es') := by
  obtain ⟨e1, g, d, m⟩ := bi_of h1
  subst e1
  refine PIimp (pi_reversed (xo.glo g) (xo.bi _ m) pa (star_cons hn)) fun σ H R ⟨env, S, QW, XW, he, hs, h, k, kx⟩ => ?_
  refine ⟨env, S, _, XW, he, hs, h, fun ws S1 vs H1 r1 s1 f1 q1 => ?_, kx⟩
  obtain ⟨y, e1, q⟩ := wWalk_el q1
  obtain ⟨x, rfl, e2⟩ := o1_el (show o1 ws _ = some y from e1)
  obtain ⟨v, rfl, rv⟩ := r1.l1
  cases e3 : walkL S1 x with
  | none => rw [e3] at e2; cases e2
  | some p =>
    rw [e3] at e2
    cases e2
    obtain ⟨a, P, rfl, st, p0, B⟩ := walkL_base (lk := p.2) e3 rv
    obtain ⟨vs, hq, rr⟩ := B S1 H1 s1 p0 (walkL_live (lk := p.2) e3)
    rw [xo.hK]
    refine ⟨a, vs, rfl, hq, ?_⟩
    rw [← rr.len]
    exact k _ p.2 S1 H1 _ P (wk_rev st B) p0 s1 f1 (walkL_live (lk := p.2) e3) q
theorem i_zip (xo : XO Γ G C N sc Wx X) {es : List Expr} {kk : Nat} {tp : Pos} {e e2 : Expr} {es' : List E} {f : Str} {p pos : Pos} (h1 : biB G sc "zip" f = true) (hn : noStar e = true) (hn2 : noStar e2 = true) (pa : PA X [e, e2] (tEs Γ C Wx es')) : PI X (.Tuple es kk tp) (.Call (.Name f p) [e, e2] [] pos) (iW Γ C Wx .zip es') := by
  obtain ⟨e1, g, d, m⟩ := bi_of h1
  subst e1
  refine PIimp (RZ.pi_zipA (xo.glo g) (xo.bi _ m) pa (star_cons hn) (by rw [star_cons hn2]; rfl)) fun σ H R ⟨env, S, QW, XW, he, hs, h, k, kx⟩ => ?_
  refine ⟨env, S, _, XW, he, hs, h, fun ws S1 vs H1 r1 s1 f1 q1 => ?_, kx⟩
  obtain ⟨y, e1, q⟩ := wWalk_el q1
  rw [xo.hK]
  rcases oZip_el (show oZip ws S1 = some y from e1) with ⟨xs, ys, rfl, rfl⟩ | ⟨xa, xb, ⟨p1, l1⟩, ⟨p2, l2⟩, rfl, e3, e4, rfl⟩
  · obtain ⟨v, u, rfl, rv, ru⟩ := r1.l2
    obtain ⟨a, P, rfl, st, p0, B⟩ := tup_base (lk := []) rv
    obtain ⟨b, P2, rfl, st2, p02, B2⟩ := tup_base (lk := []) ru
    obtain ⟨vs, hq, _⟩ := B S1 H1 s1 p0 trivial
    obtain ⟨vs2, hq2, _⟩ := B2 S1 H1 s1 p02 trivial
    exact ⟨a, b, vs, vs2, rfl, .inr ⟨hq, hq2, k _ [] S1 H1 _ (fun S H => P S H ∧ P2 S H) (wk_zipT (fun S H S' H' f q => ⟨st S H S' H' f q.1, st2 S H S' H' f q.2⟩) (fun S H s q l => B S H s q.1 l) (fun S H s q l => B2 S H s q.2 l)) ⟨p0, p02⟩ s1 f1 trivial q⟩⟩
  · obtain ⟨v, u, rfl, rv, ru⟩ := r1.l2
    obtain ⟨a, P, rfl, st, p0, B⟩ := walkL_base e3 rv
    obtain ⟨b, P2, rfl, st2, p02, B2⟩ := walkL_base e4 ru
    obtain ⟨vs, hq, _⟩ := B S1 H1 s1 p0 (walkL_live e3)
    obtain ⟨vs2, hq2, _⟩ := B2 S1 H1 s1 p02 (walkL_live e4)
    exact ⟨a, b, vs, vs2, rfl, .inl ⟨hq, hq2, k _ (l1 ++ l2) S1 H1 _ (fun S H => P S H ∧ P2 S H) (wk_zip (fun S H S' H' f q => ⟨st S H S' H' f q.1, st2 S H S' H' f q.2⟩) (fun S H s q l => B S H s q.1 (liveS_app.mp l).1) (fun S H s q l => B2 S H s q.2 (liveS_app.mp l).2)) ⟨p0, p02⟩ s1 f1 (liveS_app.mpr ⟨walkL_live e3, walkL_live e4⟩) q⟩⟩
theorem isTup_el {e : Expr} (h : isTup e = true) : ∃ es k p, e = .Tuple es k p := by
  cases e <;> first | exact ⟨_, _, _, rfl⟩ | (simp [isTup] at h)
theorem chL1 {f : Expr → E → Bool} {x : Expr} {es' : List E} (h : chL f [x] es' = true) : ∃ x', f x x' = true := by
  cases es' with
  | nil => simp [chL] at h
  | cons a r => rw [chL, Bool.and_eq_true] at h; exact ⟨a, h.1⟩
theorem chL2 {f : Expr → E → Bool} {x y : Expr} {es' : List E} (h : chL f [x, y] es' = true) : (∃ x', f x x' = true) ∧ ∃ y', f y y' = true := by
  cases es' with
  | nil => simp [chL] at h
  | cons a r => rw [chL, Bool.and_eq_true] at h; exact ⟨⟨a, h.1⟩, chL1 h.2⟩
theorem i_of (xo : XO Γ G C N sc Wx X) {ch : Expr → E → Bool} (hf : ∀ e e', ch e e' = true → noStar e = true ∧ PE X e (tE Γ C Wx e')) {tg iter : Expr} {ik : IK} {its : List E} (h : chI G ch sc tg iter ik its = true) : PI X tg iter (iW Γ C Wx ik its) := by
  cases ik with
  | seq =>
    simp only [chI] at h
    split at h
    · exact i_seq xo (hf _ _ h).2
    · cases h
  | rng1 =>
    simp only [chI] at h
    split at h
    · rw [Bool.and_eq_true] at h
      obtain ⟨x', hx⟩ := chL1 h.2
      exact i_rng1 xo h.1 (hf _ _ hx).1 (pa_of xo hf h.2)
    · cases h
  | rng2 =>
    simp only [chI] at h
    split at h
    · rw [Bool.and_eq_true] at h
      obtain ⟨⟨x', hx⟩, y', hy⟩ := chL2 h.2
      exact i_rng2 xo h.1 (hf _ _ hx).1 (hf _ _ hy).1 (pa_of xo hf h.2)
    · cases h
  | enum =>
    simp only [chI] at h
    split at h
    · rw [Bool.and_eq_true, Bool.and_eq_true] at h
      obtain ⟨x', hx⟩ := chL1 h.2
      obtain ⟨es, k, p, rfl⟩ := isTup_el h.1.1
      exact i_enum xo h.1.2 (hf _ _ hx).1 (pa_of xo hf h.2)
    · cases h
  | zip =>
    simp only [chI] at h
    split at h
    · rw [Bool.and_eq_true, Bool.and_eq_true] at h
      obtain ⟨⟨x', hx⟩, y', hy⟩ := chL2 h.2
      obtain ⟨es, k, p, rfl⟩ := isTup_el h.1.1
      exact i_zip xo h.1.2 (hf _ _ hx).1 (hf _ _ hy).1 (pa_of xo hf h.2)
    · cases h
  | rev =>
    simp only [chI] at h
    split at h
    · rw [Bool.and_eq_true] at h
      obtain ⟨x', hx⟩ := chL1 h.2
      exact i_rev xo h.1 (hf _ _ hx).1 (pa_of xo hf h.2)
    · cases h

/-! ### targets -/
def setIs (σ : L2.St) (l : List (Nat × V)) : L2.St := l.foldl (fun s p => s.set p.1 (some p.2)) σ
def gW (Γ : Gm) (tg : Tg) : TG := fun v σ H Q => ∃ env S w env', envR Γ S H env σ ∧ rep Γ S H w v ∧ bindTg tg w env = some env' ∧ ∀ σ', (∃ l : List (Nat × V), l.map (·.1) = tgIs tg ∧ σ' = setIs σ l) → envR Γ S H env' σ' → Q σ' H
def NmOk (X : Cx) (e : Expr) (i : Nat) : Prop := ∃ x p, e = .Name x p ∧ X.N[i]? = some x ∧ Loc X.env.scope x ∧ (X.fn x = true ∨ X.env.scope.names.lookup x = some .local)
def TgOk (X : Cx) (e : Expr) (tg : Tg) : Prop :=
  match tg with
  | .nm i => NmOk X e i
  | .pr is => ∃ es k p, e = .Tuple es k p ∧ Paired (NmOk X) es is
def gIs : List Nat → TGs
  | [] => gNil
  | i :: is => gCons (gName i) (gIs is)
theorem nm_each {e : Expr} {i : Nat} (h : NmOk X e i) {es : List Expr} {env : PySem.Env} : assignEach (e :: es) env = (false, assign e env) :: assignEach es env := by
  obtain ⟨x, p, rfl, _⟩ := h
  rfl
theorem pgs_of (hN : X.N.Nodup) : ∀ {es : List Expr} {is : List Nat}, Paired (NmOk X) es is → PGs X es (gIs is)
  | _, _, .nil => pgs_nil
  | _, _, .cons h r => by
    have he := h
    obtain ⟨x, p, rfl, h1, h2, h3⟩ := h
    exact pgs_cons (pg_name hN h1 h2 h3) (pgs_of hN r) (by rw [nm_each he]; rfl)
theorem gIs_of : ∀ {is : List Nat} {ws : List W} {vs : List V} {env env' : Env} {S : Sto} {σ : L2.St} {H : Hp} {Q : L2.St → Hp → Prop}, bindIs is ws env = some env' → reps Γ S H ws vs → envR Γ S H env σ →
    (∀ σ', (∃ l : List (Nat × V), l.map (·.1) = is ∧ σ' = setIs σ l) → envR Γ S H env' σ' → Q σ' H) → gIs is vs σ H Q
  | [], [], _, env, env', S, σ, H, Q, e, r, he, k => by
    cases e
    cases r
    exact ⟨rfl, k σ ⟨[], rfl, rfl⟩ he⟩
  | [], _ :: _, _, _, _, _, _, _, _, e, _, _, _ => by cases e
  | _ :: _, [], _, _, _, _, _, _, _, e, _, _, _ => by cases e
  | i :: is, w :: ws, _, env, env', S, σ, H, Q, e, ⟨v, r, rfl, q, t⟩, he, k => by
    refine ⟨v, r, rfl, ?_⟩
    refine gIs_of (is := is) e t (he.set i q) fun σ' ⟨l, h1, h2⟩ he' => k σ' ⟨(i, v) :: l, ?_, ?_⟩ he'
    · simp [h1]
    · rw [h2]; rfl
theorem bindIs_len : ∀ {is : List Nat} {ws : List W} {env env' : Env}, bindIs is ws env = some env' → is.length = ws.length
  | [], [], _, _, _ => rfl
  | [], _ :: _, _, _, e => by cases e
  | _ :: _, [], _, _, e => by cases e
  | i :: is, w :: ws, env, env', e => by
    rw [List.length_cons, List.length_cons, bindIs_len (is := is) (ws := ws) e]
theorem names_len : ∀ {es : List Expr} {is : List Nat}, Paired (NmOk X) es is → (assignEach es X.env).length = is.length ∧ (assignEach es X.env).findIdx? (·.1) = none
  | _, _, .nil => ⟨rfl, rfl⟩
  | _, _, .cons h r => by
    obtain ⟨q1, q2⟩ := names_len r
    rw [nm_each h]
    refine ⟨by rw [List.length_cons, List.length_cons, q1], ?_⟩
    rw [List.findIdx?_cons]
    simp [q2]
theorem pg_of (hN : X.N.Nodup) (hc : X.calm = true) (hK : X.K = Γ.K) {e : Expr} {tg : Tg} (h : TgOk X e tg) : PG X e (gW Γ tg) := by
  cases tg with
  | nm i =>
    obtain ⟨x, p, rfl, h1, h2, h3⟩ := h
    refine PGimp (pg_name hN h1 h2 h3) fun v σ H Q ⟨env, S, w, env', he, r, b, k⟩ => ?_
    cases b
    exact k _ ⟨[(i, v)], rfl, rfl⟩ (he.set i r)
  | pr is =>
    obtain ⟨es, k0, p, rfl, ps⟩ := h
    obtain ⟨l1, l2⟩ := names_len ps
    have p1 := pg_tup (pos := p) (k := k0) hc (pgs_of hN ps) l1 l2
    have p2 := pg_unl (pos := p) (k := k0) hc (pgs_of hN ps) l1 l2
    refine ⟨fun pins s σ H v u Q I r0 ⟨env, S, w, env', he, r, b, k⟩ => ?_⟩
    cases w with
    | tup ws =>
      obtain ⟨a, vs, rfl, q, t⟩ := r
      refine p1.run pins s σ H _ u Q I r0 ?_
      rw [hK]
      exact ⟨a, vs, rfl, q.sq, by rw [← t.len, ← bindIs_len (show bindIs is ws env = some env' from b)], gIs_of (show bindIs is ws env = some env' from b) t he k⟩
    | rl ws =>
      obtain ⟨a, vs, rfl, q, t⟩ := r
      refine p2.run pins s σ H _ u Q I r0 ?_
      rw [hK]
      exact ⟨a, vs, rfl, q.sq, by rw [← t.len, ← bindIs_len (show bindIs is ws env = some env' from b)], gIs_of (show bindIs is ws env = some env' from b) t he k⟩
    | _ => cases b
end
end Bw

/-! Ev12: comprehensions; every expression that the checker takes. -/
namespace Bw
open PySem L2 PySem.Spec PyProof.Rows
abbrev W0 : WX := fun _ _ _ _ => False
theorem takes00 {X : Cx} : Takes X W0 := fun _ _ x => by
  obtain ⟨_, _, _, _, _, _, _, _, _, _, _, _, _, _, _, _, z⟩ := x
  exact z.elim
/-! ### slots forgotten -/
theorem wipe_get {σ : L2.St} {j : Nat} : ∀ {vs : List Nat}, (wipe σ vs)[j]? = if j ∈ vs then (σ[j]?).map (fun _ => none) else σ[j]?
  | [] => by simp [wipe]
  | v :: vs => by
    unfold wipe
    rw [List.getElem?_set, wipe_get (vs := vs), wipe_length]
    by_cases h : v = j
    · subst h
      rw [if_pos rfl, if_pos List.mem_cons_self]
      by_cases hl : v < σ.length
      · rw [if_pos hl, List.getElem?_eq_getElem hl]; rfl
      · rw [if_neg hl, List.getElem?_eq_none (by omega)]; rfl
    · rw [if_neg h]
      have e : (j ∈ v :: vs) ↔ j ∈ vs := by
        rw [List.mem_cons]
        exact ⟨fun q => q.elim (fun z => absurd z.symm h) id, .inr⟩
      by_cases hm : j ∈ vs
      · rw [if_pos hm, if_pos (e.mpr hm)]
      · rw [if_neg hm, if_neg fun z => hm (e.mp z)]
theorem wipe_set {σ : L2.St} {i : Nat} {x : Option V} {vs : List Nat} (h : i ∈ vs) : wipe (σ.set i x) vs = wipe σ vs := by
  refine List.ext_getElem? fun j => ?_
  rw [wipe_get, wipe_get]
  by_cases hj : j ∈ vs
  · rw [if_pos hj, if_pos hj, List.getElem?_set]
    by_cases e : i = j
    · subst e
      rw [if_pos rfl]
      by_cases hl : i < σ.length
      · rw [if_pos hl, List.getElem?_eq_getElem hl]; rfl
      · rw [if_neg hl, List.getElem?_eq_none (by omega)]
    · rw [if_neg e]
  · rw [if_neg hj, if_neg hj, List.getElem?_set_ne (show i ≠ j from fun e => hj (by rw [← e]; exact h))]
theorem wipe_setIs {vs : List Nat} : ∀ {l : List (Nat × V)} {σ : L2.St}, (∀ i ∈ l.map (·.1), i ∈ vs) → wipe (setIs σ l) vs = wipe σ vs
  | [], _, _ => rfl
  | p :: l, σ, h => by
    show wipe (setIs (σ.set p.1 (some p.2)) l) vs = _
    rw [wipe_setIs fun q hq => h q (List.mem_cons_of_mem _ hq), wipe_set (h p.1 List.mem_cons_self)]
/-! ### the list that is made -/
section
variable {Γ : Gm} {S S1 S' S4 : Sto} {H H1 H' H4 : Hp} {D : Addr}
theorem frU {o : HO} (hD : H1 D = none) (f : Fr S1 H1 S4 H4) : Fr S1 H1 S4 (upd H4 D o) := by
  refine ⟨fun a x h1 h2 => ?_, fun a x h1 h2 => ?_⟩
  · have n := ne_of_none h2 hD
    obtain ⟨q1, q2⟩ := f.1 a x h1 h2
    exact ⟨q1, by rw [upd_ne n]; exact q2⟩
  · have n := ne_of_none h2 hD
    obtain ⟨q1, q2⟩ := f.2 a x h1 h2
    exact ⟨q1, by rw [upd_ne n]; exact q2⟩
theorem del_ne {a : Addr} (n : a ≠ D) : S.del D a = S a := by unfold Sto.del; rw [if_neg n]
theorem frDel (hD : H1 D = none) (f : Fr S1 H1 S4 H4) : Fr S1 H1 (S4.del D) H4 := by
  refine ⟨fun a x h1 h2 => ?_, fun a x h1 h2 => ?_⟩
  · have n := ne_of_none h2 hD
    obtain ⟨q1, q2⟩ := f.1 a x h1 h2
    exact ⟨by rw [del_ne n]; exact q1, q2⟩
  · have n := ne_of_none h2 hD
    obtain ⟨q1, q2⟩ := f.2 a x h1 h2
    exact ⟨by rw [del_ne n]; exact q1, q2⟩
theorem frSet {u : O} (hD : H1 D = none) (f : Fr S1 H1 S4 H4) : Fr S1 H1 (S4.set D u) H4 := by
  refine ⟨fun a x h1 h2 => ?_, fun a x h1 h2 => ?_⟩
  · have n := ne_of_none h2 hD
    obtain ⟨q1, q2⟩ := f.1 a x h1 h2
    exact ⟨by rw [Sto.set_ne n]; exact q1, q2⟩
  · have n := ne_of_none h2 hD
    obtain ⟨q1, q2⟩ := f.2 a x h1 h2
    exact ⟨by rw [Sto.set_ne n]; exact q1, q2⟩
theorem fr0Del : Fr0 S H (S.del D) H := fun a x h1 h2 => by
  refine ⟨?_, h2⟩
  unfold Sto.del
  split
  · rfl
  · exact h1
theorem SR.del (s : SR Γ S H) : SR Γ (S.del D) H := s.step0 fr0Del fun a o q => by
  unfold Sto.del at q
  split at q
  · cases q
  · exact .inl ⟨q, rfl⟩
theorem del_set {u : O} : (S.del D).set D u = S.set D u := by
  funext b
  unfold Sto.set Sto.del
  split <;> rfl
theorem upd_self {o : HO} (h : H D = some o) : upd H D o = H := by
  funext b
  unfold upd
  split
  · rename_i e; subst e; exact h.symm
  · rfl
end
section
variable {Γ : Gm} {G : GT} {C : CT} {N : List Str} {sc : Scope} {Wx : WX} {X : Cx}
def cF (C : CT) (tg : Tg) (cond : List E) (elt : E) (own : List Nat) (env : Env) : W → Sto → (List W → Sto → Prop) → Prop := fun w S2 R => wSome (bindTg tg w (wipeE env own)) fun env' =>
  wAnd C cond env' S2 (fun b S3 => wB b (wE C elt env' S3 (fun y S4 => R [y] S4) (fun _ _ => False)) (R [] S3)) (fun _ _ => False)
def tTs (Γ : Gm) (C : CT) (es : List E) : TT := fun σ H Q => ∃ env S QW XW, envR Γ S H env σ ∧ SR Γ S H ∧ wAnd C es env S QW XW ∧ KB Γ S H QW Q ∧ KX Γ S H XW (fun cls d H' => W0 cls d σ H')
theorem comp_of (hK : X.K = Γ.K) {fz : Bool} {tg : Tg} {ik : IK} {its cond : List E} {elt : E} {own : List Nat} {σ : L2.St} {H : Hp} {Q : VK} (ht : (tgIs tg).all (fun i => own.contains i) = true) (hq : tE Γ C Wx (.comp fz tg ik its cond elt own) σ H Q) :
    tLc (iW Γ C Wx ik its) (gW Γ tg) (tTs Γ C cond) (tE Γ C W0 elt) own σ H Q := by
  obtain ⟨env, S, QW, XW, he, hs, h, k, kx⟩ := hq
  simp only [wE] at h
  refine ⟨env, S, (fun items lk S1 => items.length ≤ sizeLine ∧ ∀ D, S1 D = none → wMap lk (cF C tg cond elt own env) items (S1.set D .hid) (fun ys S2 => mkL fz ys (S2.del D) QW)), XW, he, hs, h, fun items lk S1 H1 J P wk p0 s1 f1 lv ⟨hz, q1⟩ D hD => ?_, kx⟩
  have q1 := q1 D (s1.nil hD)
  refine ⟨fun i m H' => m = items.length - i ∧ ∃ S' acc ys, i ≤ items.length ∧ ys.length ≤ i ∧ H' D = some (.lst acc) ∧ S' D = some .hid ∧ SR Γ S' H' ∧ Fr S1 H1 S' H' ∧ reps Γ S' H' ys acc ∧ wMap lk (cF C tg cond elt own env) (items.drop i) S' (fun zs S2 => mkL fz (ys ++ zs) (S2.del D) QW),
    ⟨items.length, by simp, S1.set D .hid, [], [], Nat.zero_le _, Nat.le_refl _, upd_same, Sto.set_same, s1.hide hD, Fr.newS hD, rfl, q1⟩, ?_⟩
  rintro i m H' ⟨rfl, S', acc, ys, hi, hl, hH, hS, s', f', r', q'⟩
  have p' : P S' H' := wk.st _ _ _ _ f' p0
  by_cases hlt : i < items.length
  · right
    rw [List.drop_eq_getElem_cons hlt] at q'
    obtain ⟨lv', q'⟩ := q'
    refine ⟨wk.go i S' H' s' p' lv' hlt, fun H' => ∃ S' acc ys, i + 1 ≤ items.length ∧ ys.length ≤ i + 1 ∧ H' D = some (.lst acc) ∧ S' D = some .hid ∧ SR Γ S' H' ∧ Fr S1 H1 S' H' ∧ reps Γ S' H' ys acc ∧ wMap lk (cF C tg cond elt own env) (items.drop (i + 1)) S' (fun zs S2 => mkL fz (ys ++ zs) (S2.del D) QW), fun H2 hn => ⟨items.length - (i + 1), by omega, rfl, hn⟩, fun x H2 y => ?_⟩
    obtain ⟨w, e1, s2, f2, r2⟩ := wk.yld i S' H' x H2 s' p' lv' hlt y
    have e2 : items[i] = w := by rw [List.getElem?_eq_getElem hlt] at e1; exact Option.some.inj e1
    rw [e2] at q'
    obtain ⟨env', e3, q'⟩ := wSome_el (show wSome (bindTg tg w (wipeE env own)) _ from q')
    have he' : envR Γ S' H2 (wipeE env own) (wipe σ own) := (he.fr (f1.trans (f'.trans f2))).wipe own
    refine ⟨wipeE env own, S', w, env', he', r2, e3, fun σ' ⟨l, l1, l2⟩ he2 => ⟨?_, ?_⟩⟩
    · rw [l2, wipe_setIs fun p hp => ?_]
      · have : wipe (wipe σ own) own = wipe σ own := by
          refine List.ext_getElem? fun j => ?_
          rw [wipe_get, wipe_get]
          by_cases hj : j ∈ own
          · rw [if_pos hj, if_pos hj]
            cases σ[j]? <;> rfl
          · rw [if_neg hj, if_neg hj]
        exact this
      · rw [l1] at hp
        have := List.all_eq_true.mp ht p hp
        simpa using this
    · refine ⟨env', S', _, fun _ _ => False, he2, s2, q', ?_, fun _ _ _ _ _ _ _ _ q => q.elim⟩
      intro b S3 H3 s3 f3 q3
      rcases wB_el q3 with ⟨rfl, q3⟩ | ⟨rfl, q3⟩
      · refine ⟨true, rfl, ?_⟩
        refine iteT ?_
        refine ⟨env', S3, _, fun _ _ => False, he2.fr f3, s3, q3, fun y S4 v H4 r4 s4 f4 q4 => ?_, fun _ _ _ _ _ _ _ _ q => q.elim⟩
        have ff : Fr S' H' S4 H4 := f2.trans (f3.trans f4)
        obtain ⟨hS4, hH4⟩ := ff.2 D _ hS hH
        have ln := r'.len
        refine ⟨acc, hH4, by omega, S4, acc ++ [v], ys ++ [y], hlt, by simp; omega, upd_same, hS4, s4.hid hS4, frU hD (f'.trans ff), ?_, ?_⟩
        · exact (reps.fr0 (Fr0.hid hS4) _ _ (reps.fr ff _ _ r')).app (reps.one (rep.fr0 (Fr0.hid hS4) _ _ r4))
        · have q4 : wMap lk (cF C tg cond elt own env) (items.drop (i + 1)) S4 (fun zs S2 => mkL fz (ys ++ ([y] ++ zs)) (S2.del D) QW) := q4
          simp only [← List.append_assoc] at q4
          exact q4
      · refine ⟨false, rfl, ?_⟩
        refine iteF ?_
        have ff : Fr S' H' S3 H3 := f2.trans f3
        obtain ⟨hS3, hH3⟩ := ff.2 D _ hS hH
        exact ⟨S3, acc, ys, hlt, by omega, hH3, hS3, s3, f'.trans ff, reps.fr ff _ _ r', q3⟩
  · left
    have e : i = items.length := by omega
    subst e
    rw [List.drop_of_length_le (Nat.le_refl _)] at q'
    obtain ⟨lv', q'⟩ := q'
    rw [List.append_nil] at q'
    refine ⟨wk.stop _ S' H' s' p' lv' (Nat.le_refl _), ?_⟩
    unfold mkL at q'
    split at q'
    · exact k (.rl ys) (S'.del D) (.ref D) H' ⟨D, acc, rfl, ⟨Sto.del_same, hH⟩, reps.fr0 fr0Del _ _ r'⟩ s'.del (f1.trans (frDel hD f')) q'
    · have q2 := q' D Sto.del_same
      rw [del_set] at q2
      have s2 := s'.wrL hS r'
      rw [upd_self hH] at s2
      exact k (.ref D) (S'.set D (.lst ys)) (.ref D) H' rfl s2 (f1.trans (frSet hD f')) q2
theorem XO.blk (xo : XO Γ G C N sc Wx X) (s : Shared) (H : Hp) (scope : Scope) (cl : List (Str × Addr)) (Ca : Addr) (fp : List Addr) : XO Γ G C N (relS scope sc) W0 (X.blk s H scope (compEnvC scope cl Ca X.env) fp) where
  hN := xo.hN
  nd := xo.nd
  hsc := by show relS scope X.env.scope = relS scope sc; rw [xo.hsc]
  calm := xo.calm
  hK := xo.hK
  tk := takes00
  un := xo.un
  bi := xo.bi
  con := xo.con
  fn := xo.fn
  fnv := xo.fnv
  cls := xo.cls
  xcl := xo.xcl
  mth := xo.mth
  fld := xo.fld
  isC := xo.isC
  tab := xo.tab
  tabT := xo.tabT
/-! ### targets, as checked -/
theorem nm_of (hN : X.N = N) {scope : Scope} (hl : ∀ x, locB scope x = true → Loc X.env.scope x ∧ (X.fn x = true ∨ X.env.scope.names.lookup x = some .local)) {e : Expr} {i : Nat} (h : chNm N scope e i = true) : NmOk X e i := by
  unfold chNm at h
  split at h
  · rw [Bool.and_eq_true] at h
    obtain ⟨h1, h2⟩ := hl _ h.2
    exact ⟨_, _, rfl, by rw [hN]; exact of_decide_eq_true h.1, h1, h2⟩
  · cases h
theorem nms_of (hN : X.N = N) {scope : Scope} (hl : ∀ x, locB scope x = true → Loc X.env.scope x ∧ (X.fn x = true ∨ X.env.scope.names.lookup x = some .local)) : ∀ {es : List Expr} {is : List Nat}, chL (chNm N scope) es is = true → Paired (NmOk X) es is
  | [], [], _ => .nil
  | [], _ :: _, h => by simp [chL] at h
  | _ :: _, [], h => by simp [chL] at h
  | e :: es, i :: is, h => by
    rw [chL, Bool.and_eq_true] at h
    exact .cons (nm_of hN hl h.1) (nms_of hN hl h.2)
theorem tup_el {scope : Scope} {e : Expr} {is : List Nat} (h : chTg N scope e (.pr is) = true) : ∃ es k p, e = .Tuple es k p ∧ chL (chNm N scope) es is = true := by
  cases e with
  | Tuple es k p => exact ⟨es, k, p, rfl, h⟩
  | _ => cases h
theorem tg_of (hN : X.N = N) {scope : Scope} (hl : ∀ x, locB scope x = true → Loc X.env.scope x ∧ (X.fn x = true ∨ X.env.scope.names.lookup x = some .local)) {e : Expr} {tg : Tg} (h : chTg N scope e tg = true) : TgOk X e tg := by
  cases tg with
  | nm i => exact nm_of hN hl h
  | pr is =>
    obtain ⟨es, k, p, e1, h⟩ := tup_el h
    exact ⟨es, k, p, e1, nms_of hN hl h⟩
theorem blk_loc {s : Shared} {H : Hp} {scope : Scope} {cl : List (Str × Addr)} {Ca : Addr} {fp : List Addr} : ∀ x, locB scope x = true → Loc (X.blk s H scope (compEnvC scope cl Ca X.env) fp).env.scope x ∧ ((X.blk s H scope (compEnvC scope cl Ca X.env) fp).fn x = true ∨ (X.blk s H scope (compEnvC scope cl Ca X.env) fp).env.scope.names.lookup x = some .local) := by
  intro x h
  unfold locB at h
  split at h
  · rename_i e
    have e2 : (relS scope X.env.scope).names.lookup x = some .local := lookup_relS_keep (by intro z; cases z) e
    exact ⟨.inl e2, .inr e2⟩
  · rename_i e
    have e2 : (relS scope X.env.scope).names.lookup x = some .cell := lookup_relS_keep (by intro z; cases z) e
    refine ⟨.inr e2, .inl ?_⟩
    show (scope.names.lookup x == some .cell) = true
    rw [e]
    rfl
  · cases h
theorem PTsimp {es : List Expr} {t t' : TT} (h : PTs X es t) (k : ∀ σ H Q, t' σ H Q → t σ H Q) : PTs X es t' := ⟨fun pins s σ H Q I q => h.run pins s σ H Q I (k σ H Q q)⟩
theorem pts_of {f : Expr → E → Bool} (hf : ∀ e e', f e e' = true → okT e = true → PT X e (tT Γ C W0 e')) : ∀ {es : List Expr} {es' : List E}, chL f es es' = true → es.length ≤ 1 → es.all okT = true → PTs X es (tTs Γ C es')
  | [], [], _, _, _ => PTsimp pts_nil fun σ H Q ⟨env, S, QW, XW, he, hs, h, k, kx⟩ => by
    obtain ⟨b, e, q⟩ := k (.bl true) S H hs (Fr.refl _ _) h
    cases e
    exact q
  | [], _ :: _, h, _, _ => by simp [chL] at h
  | _ :: _, [], h, _, _ => by simp [chL] at h
  | [e], [e'], h, _, o => by
    rw [chL, Bool.and_eq_true] at h
    rw [List.all_cons, Bool.and_eq_true] at o
    exact PTsimp (pts_one (hf _ _ h.1 o.1)) fun σ H Q ⟨env, S, QW, XW, he, hs, h, k, kx⟩ => ⟨env, S, QW, XW, he, hs, by simpa only [wAnd] using h, k, kx⟩
  | [e], _ :: _ :: _, h, _, _ => by simp [chL] at h
  | _ :: _ :: _, _, _, l, _ => by simp at l
theorem fold_ok {iter : Expr} (h : okE iter = true) {env : PySem.Env} : ∀ x, foldedSetIterable iter env x = pure x := by
  intro x
  cases iter <;> first | rfl | (simp [okE] at h)
theorem chI_ok {n : Nat} {tg iter : Expr} {ik : IK} {its : List E} (h : chI G (chE G N n sc) sc tg iter ik its = true) : okE iter = true := by
  cases ik with
  | seq =>
    simp only [chI] at h
    split at h
    · exact chE_ok h
    · cases h
  | _ =>
    simp only [chI] at h
    split at h
    · rfl
    · cases h
theorem chL_and {f : Expr → E → Bool} {g : Expr → Bool} : ∀ {es : List Expr} {es' : List E}, chL f es es' = true → es.all g = true → chL (fun e e' => f e e' && g e) es es' = true
  | [], [], _, _ => rfl
  | [], _ :: _, h, _ => by simp [chL] at h
  | _ :: _, [], h, _ => by simp [chL] at h
  | e :: es, e' :: es', h, o => by
    rw [chL, Bool.and_eq_true] at h
    rw [List.all_cons, Bool.and_eq_true] at o
    rw [chL, h.1, o.1, chL_and h.2 o.2]
    rfl
theorem ne_nil {α : Type} {l : List α} (h : (!l.isEmpty) = true) : l ≠ [] := by
  intro e
  subst e
  simp at h
/-- what the comprehension's parts need -/
structure LcOk (G : GT) (C : CT) (Γ : Gm) (N : List Str) (sc : Scope) (Wx : WX) (X : Cx) (scope : Scope) (tg0 iter0 : Expr) (ifs0 : List Expr) (elt0 : Expr) (tg : Tg) (ik : IK) (its cond : List E) (elt : E) (own : List Nat) : Prop where
  e1 : (ownOf N own).map (·.2) = own
  e2 : (tgIs tg).all (fun i => own.contains i) = true
  i : PI X tg0 iter0 (iW Γ C Wx ik its)
  b : BlkOk X.N X.env.scope scope (ownOf N own)
  g : ∀ (s : Shared) (H : Hp) (Ca : Addr) (cl : List (Str × Addr)) (fp : List Addr), PG (X.blk s H scope (compEnvC scope cl Ca X.env) fp) tg0 (gW Γ tg)
  t : ∀ (s : Shared) (H : Hp) (Ca : Addr) (cl : List (Str × Addr)) (fp : List Addr), PTs (X.blk s H scope (compEnvC scope cl Ca X.env) fp) ifs0 (tTs Γ C cond)
  e : ∀ (s : Shared) (H : Hp) (Ca : Addr) (cl : List (Str × Addr)) (fp : List Addr), PE (X.blk s H scope (compEnvC scope cl Ca X.env) fp) elt0 (tE Γ C W0 elt)
  s : ∀ x, foldedSetIterable iter0 X.env x = pure x
/-- a comprehension, as checked -/
def chLc (G : GT) (N : List Str) (n : Nat) (sc scope : Scope) (tg0 iter0 : Expr) (ifs0 : List Expr) (elt0 : Expr) (tg : Tg) (ik : IK) (its cond : List E) (elt : E) (own : List Nat) : Bool :=
  decide ((ownOf N own).map (·.2) = own) && blkC N sc scope (ownOf N own) && chTg N scope tg0 tg && (tgIs tg).all (fun i => own.contains i) &&
    chI G (chE G N n sc) sc tg0 iter0 ik its && decide (ifs0.length ≤ 1) && ifs0.all okT && chL (chE G N n (relS scope sc)) ifs0 cond && chE G N n (relS scope sc) elt0 elt
theorem lc_of {n : Nat} (ih : ∀ {sc : Scope} {Wx : WX} {X : Cx} {e : Expr} {e' : E}, XO Γ G C N sc Wx X → chE G N n sc e e' = true → PE X e (tE Γ C Wx e') ∧ (okT e = true → PT X e (tT Γ C Wx e')))
    (xo : XO Γ G C N sc Wx X) (nh : G.hot = false) {scope : Scope} {tg0 iter0 : Expr} {ifs0 : List Expr} {elt0 : Expr} {tg : Tg} {ik : IK} {its cond : List E} {elt : E} {own : List Nat} (h : chLc G N n sc scope tg0 iter0 ifs0 elt0 tg ik its cond elt own = true) : LcOk G C Γ N sc Wx X scope tg0 iter0 ifs0 elt0 tg ik its cond elt own := by
  unfold chLc at h
  simp only [Bool.and_eq_true] at h
  obtain ⟨⟨⟨⟨⟨⟨⟨⟨h1, h2⟩, h3⟩, h4⟩, h5⟩, h6⟩, h7⟩, h8⟩, h9⟩ := h
  exact {
    e1 := of_decide_eq_true h1
    e2 := h4
    i := i_of xo (fun e e' q => ⟨(chE_ns q).1, (ih xo q).1⟩) h5
    b := by rw [xo.hN, xo.hsc]; exact blkOk_by h2
    g := fun s H Ca cl fp => pg_of (X := X.blk s H scope (compEnvC scope cl Ca X.env) fp) (by show X.N.Nodup; rw [xo.hN]; exact xo.nd) (xo.calm nh) xo.hK (tg_of (X := X.blk s H scope (compEnvC scope cl Ca X.env) fp) xo.hN blk_loc h3)
    t := fun s H Ca cl fp => pts_of (fun e e' q o => (ih (xo.blk s H scope cl Ca fp) q).2 o) h8 (of_decide_eq_true h6) h7
    e := fun s H Ca cl fp => (ih (xo.blk s H scope cl Ca fp) h9).1
    s := fold_ok (chI_ok h5) }
theorem s_lc (xo : XO Γ G C N sc Wx X) (nh : G.hot = false) {scope : Scope} {tg0 iter0 : Expr} {ifs0 : List Expr} {elt0 : Expr} {tg : Tg} {ik : IK} {its cond : List E} {elt : E} {own : List Nat} {fz : Bool} {pos : Pos} (l : LcOk G C Γ N sc Wx X scope tg0 iter0 ifs0 elt0 tg ik its cond elt own) :
    PE X (.ListComp elt0 [⟨tg0, iter0, ifs0, 0⟩] scope pos) (tE Γ C Wx (.comp fz tg ik its cond elt own)) := by
  refine PEimp (pe_lc (xo.calm nh) (by rw [xo.hN]; exact xo.nd) l.i l.b l.g l.t l.e l.s) fun σ H Q hq => ?_
  rw [l.e1]
  exact comp_of xo.hK l.e2 hq
end
end Bw

/-! Ev12b: dicts known by content, tuples told several times, extend. -/
namespace Bw
open PySem L2 PySem.Spec PyProof.Rows
section
variable {Γ : Gm} {G : GT} {C : CT} {N : List Str} {sc : Scope} {Wx : WX} {X : Cx}
def dkz0 (ks : List (List Nat)) (vs : List V) : List (Key × V) := (ks.zip vs).map fun p => (Sum.inr ⟨p.1.toArray⟩, p.2)
theorem dkz0_eq : ∀ {ks : List (List Nat)} {vs : List V}, dkz (ks.map Sum.inr) vs = dkz0 ks vs
  | [], _ => rfl
  | _ :: _, [] => rfl
  | k :: ks, v :: vs => by
    show (keyV (Sum.inr k), v) :: dkz (ks.map Sum.inr) vs = _
    rw [dkz0_eq]; rfl
theorem merge_nodup : ∀ (more acc : List (Key × V)), (more.map (·.1)).Nodup → (∀ k ∈ more.map (·.1), k ∉ acc.map (·.1)) → mergeK acc more = acc ++ more
  | [], acc, _, _ => by simp [mergeK]
  | p :: more, acc, nd, h => by
    rw [List.map_cons, List.nodup_cons] at nd
    have hp : p.1 ∉ acc.map (·.1) := h p.1 (by simp)
    have e : putK acc p.1 p.2 = acc ++ [(p.1, p.2)] := by
      unfold putK
      rw [if_neg]
      intro z
      obtain ⟨q, hq, hd⟩ := List.any_eq_true.mp z
      exact hp (List.mem_map.mpr ⟨q, hq, of_decide_eq_true hd⟩)
    show mergeK (putK acc p.1 p.2) more = _
    rw [e, merge_nodup more _ nd.2]
    · simp
    · intro k hk hk2
      rw [List.map_append, List.mem_append] at hk2
      rcases hk2 with hk2 | hk2
      · exact h k (by simp [List.mem_map.mp hk]) hk2
      · simp only [List.map_cons, List.map_nil, List.mem_singleton] at hk2
        subst hk2
        exact nd.1 hk
theorem nd_map {α β : Type} (g : α → β) (hg : ∀ a b, g a = g b → a = b) : ∀ {l : List α}, l.Nodup → (l.map g).Nodup
  | [], _ => by simp
  | a :: l, h => by
    rw [List.nodup_cons] at h
    rw [List.map_cons, List.nodup_cons]
    refine ⟨fun z => ?_, nd_map g hg h.2⟩
    obtain ⟨b, hb, e⟩ := List.mem_map.mp z
    exact h.1 (hg _ _ e ▸ hb)
theorem tC_key {x : Str} {σ : L2.St} {H : Hp} {Q : VK} (h : Q (.str x) H) : tC (.str x) σ H Q := h
theorem chK1_el {e : Option Expr} {k : List Nat} (h : chK1 e k = true) : ∃ x j p, e = some (.Constant (.str x) j p) ∧ x.cps.toList = k := by
  unfold chK1 at h
  split at h
  · exact ⟨_, _, _, rfl, of_decide_eq_true h⟩
  · cases h
theorem chK_el {e : Option Expr} {keys : List (Option Expr)} {ks : List (List Nat)} (h : chK (e :: keys) ks = true) : ∃ x j p k r, e = some (.Constant (.str x) j p) ∧ ks = k :: r ∧ x.cps.toList = k ∧ chK keys r = true := by
  cases ks with
  | nil => simp [chK, chL] at h
  | cons k r =>
    unfold chK at h
    rw [chL, Bool.and_eq_true] at h
    obtain ⟨x, j, p, e1, e2⟩ := chK1_el h.1
    exact ⟨x, j, p, k, r, e1, rfl, e2, h.2⟩
theorem chL_el {f : Expr → E → Bool} {e : Expr} {es : List Expr} {es' : List E} (h : chL f (e :: es) es' = true) : ∃ a r, es' = a :: r ∧ f e a = true ∧ chL f es r = true := by
  cases es' with
  | nil => simp [chL] at h
  | cons a r => rw [chL, Bool.and_eq_true] at h; exact ⟨a, r, rfl, h.1, h.2⟩
/-- the pairs of a display -/
theorem pps_of (xo : XO Γ G C N sc Wx X) {pos : Pos} {f : Expr → E → Bool} (hf : ∀ e e', f e e' = true → PE X e (tE Γ C Wx e')) : ∀ {keys : List (Option Expr)} {vals : List Expr} {ks : List (List Nat)} {es : List E}, chK keys ks = true → chL f vals es = true → vals.length = ks.length →
    ∃ trs, PPs X pos keys vals trs ∧ ∀ σ H (Q : List (V × V) → Hp → Prop), tEs Γ C Wx es σ H (fun vs H' => Q ((ks.zip vs).map fun p => (.str ⟨p.1.toArray⟩, p.2)) H') → tPairs trs σ H Q := by
  intro keys
  induction keys with
  | nil =>
    intro vals ks es hk hv hl
    cases ks with
    | cons _ _ => simp [chK, chL] at hk
    | nil =>
      cases vals with
      | cons _ _ => simp at hl
      | nil =>
        cases es with
        | cons _ _ => simp [chL] at hv
        | nil =>
          refine ⟨[], pps_nil, fun σ H Q ⟨env, S, QW, XW, he, hs, h, k, kx⟩ => ?_⟩
          simp only [wEs] at h
          exact k [] S [] H rfl hs (Fr.refl _ _) h
  | cons e keys ih =>
    intro vals ks es hk hv hl
    obtain ⟨x, j, p, k, r, rfl, rfl, ek, hk⟩ := chK_el hk
    cases vals with
    | nil => simp at hl
    | cons v vals =>
      obtain ⟨e', es, rfl, hv1, hv2⟩ := chL_el hv
      obtain ⟨trs, hp, ht⟩ := ih hk hv2 (by simpa using hl)
      refine ⟨_, pps_cons pe_str (hf _ _ hv1) hp, fun σ H Q ⟨env, S, QW, XW, he, hs, h, kq, kx⟩ => ?_⟩
      simp only [wEs] at h
      have ex : (.str x : V) = .str ⟨k.toArray⟩ := by rw [← ek]
      show tC (.str x) σ H _
      refine tC_key ?_
      refine ⟨env, S, _, XW, he, hs, h, fun w S1 u H1 r1 s1 f1 q1 => ?_, kx⟩
      refine ht σ H1 _ ⟨env, S1, _, XW, he.fr f1, s1, q1, fun ws S2 vs H2 r2 s2 f2 q2 => ?_, kx.fr f1⟩
      have := kq (w :: ws) S2 (u :: vs) H2 ⟨u, vs, rfl, rep.fr f2 _ _ r1, r2⟩ s2 (f1.trans f2) q2
      rw [ex]
      exact this
theorem chK_len : ∀ {keys : List (Option Expr)} {ks : List (List Nat)}, chK keys ks = true → keys.length = ks.length ∧ keys.all (·.isSome) = true := by
  intro keys
  induction keys with
  | nil => intro ks h; cases ks with | nil => exact ⟨rfl, rfl⟩ | cons _ _ => simp [chK, chL] at h
  | cons e keys ih =>
    intro ks h
    obtain ⟨x, j, p, k, r, rfl, rfl, ek, hk⟩ := chK_el h
    obtain ⟨h1, h2⟩ := ih hk
    exact ⟨by simp [h1], by simp [h2]⟩
theorem s_dic (xo : XO Γ G C N sc Wx X) {f : Expr → E → Bool} (hf : ∀ e e', f e e' = true → PE X e (tE Γ C Wx e')) {keys : List (Option Expr)} {vals : List Expr} {ks : List (List Nat)} {es : List E} {pos : Pos} (hk : chK keys ks = true) (nd : ks.Nodup) (ne : ks ≠ []) (h15 : ks.length ≤ 15) (hl : vals.length = ks.length) (hv : chL f vals es = true) :
    PE X (.Dict keys vals pos) (tE Γ C Wx (.dic ks es)) := by
  obtain ⟨trs, hp, ht⟩ := pps_of xo hf (pos := pos) hk hv hl
  obtain ⟨l1, l2⟩ := chK_len hk
  refine PEimp (pe_disp hp l2 (by rw [l1, hl]) (fun e => ne (by rw [e] at l1; exact List.eq_nil_of_length_eq_zero l1.symm)) (by rw [l1]; exact h15)) fun σ H Q ⟨env, S, QW, XW, he, hs, h, k, kx⟩ => ?_
  simp only [wE] at h
  intro p hpn
  have h := h p (hs.nil hpn)
  refine ht σ _ _ ⟨env, S.set p .hid, _, fun _ _ => False, he.fr (Fr.newS hpn), hs.hide hpn, h, fun ws S1 vs H1 r1 s1 f1 q1 => ?_, fun _ _ _ _ _ _ _ _ q => q.elim⟩
  obtain ⟨hS1, hH1⟩ := f1.2 p _ Sto.set_same upd_same
  obtain ⟨lw, q1⟩ := q1
  have lv := r1.len
  refine ⟨hH1, dkz0 ks vs, ?_, ?_, ?_⟩
  · unfold dkz0
    rw [List.map_map]
    rfl
  · unfold dkz0
    rw [List.length_map, List.length_zip]
    omega
  · have mg : mergeK [] (dkz0 ks vs) = dkz0 ks vs := by
      rw [merge_nodup _ [] ?_ (by simp)]
      · rfl
      · unfold dkz0
        rw [List.map_map]
        have : (Prod.fst ∘ fun p : List Nat × V => ((Sum.inr ⟨p.1.toArray⟩ : Key), p.2)) = (fun k : List Nat => (Sum.inr ⟨k.toArray⟩ : Key)) ∘ Prod.fst := rfl
        rw [this, ← List.map_map, List.map_fst_zip (by omega)]
        exact nd_map _ (fun a b e => by injection e with e; injection e with e; simpa using e) nd
    rw [mg]
    have fr : Fr S H (S1.del p) (upd H1 p (.dK (dkz0 ks vs))) := frU hpn (frDel hpn (Fr.trans (Fr.newS hpn) f1))
    refine k (.dct (ks.map Sum.inr) ws) (S1.del p) (.ref p) _ ⟨p, vs, rfl, ⟨Sto.del_same, by rw [dkz0_eq]; exact upd_same⟩, by rw [List.length_map]; exact lw, ?_⟩ ?_ fr q1
    · exact reps.fr0 fr0Del _ _ (reps.fr0 (Fr0.hid hS1) _ _ r1)
    · exact (s1.hid hS1).del
theorem s_ext (xo : XO Γ G C N sc Wx X) {o x : Expr} {a e : E} {apos cpos : Pos} (h1 : plainO o = true) (h2 : (apos.endLine == cpos.line) = true) (hn : noStar x = true) (pa : PE X o (tE Γ C Wx a)) (px : PE X x (tE Γ C Wx e)) :
    PE X (.Call (.Attribute o "extend" apos) [x] [] cpos) (tE Γ C Wx (.ext a e)) := by
  have sc1 : starEach [x] X.env = (false, eval x X.env) :: starEach [] X.env := star_cons hn
  refine PEimp (pe_bm PySem.F.plainAttrs_list PySem.F.slot_list_extend PySem.F.type_list_extend mt_extend pa (pa_cons px pa_nil sc1) (base_of h1) (by rw [sc1]; rfl) h2 sc1 rfl) fun σ H Q ⟨env, S, QW, XW, he, hs, h, k, kx⟩ => ?_
  simp only [wE] at h
  refine ⟨env, S, _, XW, he, hs, h, fun y S1 v H1 r1 s1 f1 q1 => ?_, kx⟩
  dsimp only at q1
  cases e1 : lstOf S1 y with
  | none => rw [e1] at q1; exact absurd q1.1 (by simp)
  | some ws =>
    obtain ⟨pp, vs, rfl, hp, rr⟩ := lst_rep e1 r1 s1
    refine ⟨.inl ⟨rfl, _, SqL.of hp⟩, env, S1, _, XW, he.fr f1, s1, q1.2, fun w S2 u H2 r2 s2 f2 q2 => ?_, kx.fr f1⟩
    cases y with
    | ref b =>
      have q2 : (match S2 b with
        | some (.lst ws) => match lstOf S2 w with
          | some us => ws.length + us.length ≤ PySem.sizeLine ∧ QW .non (S2.set b (.lst (ws ++ us)))
          | none => False
        | _ => False) := q2
      cases r1
      split at q2
      · rename_i us e2
        split at q2
        · rename_i us2 e3
          obtain ⟨vs2, h3, rr2⟩ := s2 pp _ e2
          obtain ⟨p4, vs4, rfl, h4, rr4⟩ := lst_rep e3 r2 s2
          refine ⟨pp, p4, vs2, vs4, rfl, rfl, h3, h4, by rw [← rr2.len, ← rr4.len]; exact q2.1, ?_⟩
          exact k .non _ .non _ rfl (s2.wrL e2 (rr2.app rr4)) (f1.trans (f2.trans (Fr.wr e2))) q2.2
        · exact q2.elim
      · exact q2.elim
    | _ => exact (show False from q2).elim
end
end Bw

/-! Ev12c: methods of built-in types, dicts, own classes' instances, caught exceptions, defs as values. -/
namespace Bw
open PySem L2 PySem.Spec PyProof.Rows
theorem MtRimp {X : Cx} {id : String} {r r' : V → List V → Hp → VK → Prop} (h : MtR X id r) (k : ∀ x xs H Q, r' x xs H Q → r x xs H Q) : MtR X id r' := fun pins s σ H x xs v us Q I rx rxs q => h pins s σ H x xs v us Q I rx rxs (k _ _ _ _ q)
section
variable {Γ : Gm} {S : Sto} {H : Hp}
theorem strs_vals : ∀ {ws : List W} {vs : List V} {zs : List (List Nat)}, strsOf ws = some zs → reps Γ S H ws vs → vs = zs.map strV
  | [], vs, zs, h, r => by
    cases h
    cases r
    rfl
  | w :: ws, vs, zs, h, r => by
    obtain ⟨v, vs', rfl, r1, r2⟩ := r
    cases w with
    | str x =>
      simp only [strsOf] at h
      cases e : strsOf ws with
      | none => rw [e] at h; cases h
      | some zs' =>
        rw [e] at h
        cases h
        rw [strs_vals e r2, r1.1]
        rfl
    | _ => cases h
theorem eqV_str {x z : List Nat} : eqV (strV x) (strV z) = (x == z) := by
  show ((⟨x.toArray⟩ : Str) == (⟨z.toArray⟩ : Str)) = _
  exact str_eq
theorem ix_get {z : List Nat} : ∀ {zs : List (List Nat)} {i : Nat}, ixOf z zs = some i → zs[i]? = some z ∧ ∀ m y, m < i → zs[m]? = some y → y ≠ z
  | [], i, h => by cases h
  | y :: ys, i, h => by
    unfold ixOf at h
    split at h
    · rename_i e
      cases h
      exact ⟨by simp [e], fun m y hm => absurd hm (Nat.not_lt_zero _)⟩
    · rename_i e
      cases q : ixOf z ys with
      | none => rw [q] at h; cases h
      | some j =>
        rw [q] at h
        cases h
        obtain ⟨h1, h2⟩ := ix_get q
        refine ⟨by simpa using h1, fun m y' hm hy => ?_⟩
        cases m with
        | zero =>
          simp at hy
          rw [← hy]
          exact e
        | succ m => exact h2 m y' (Nat.lt_of_succ_lt_succ hm) (by simpa using hy)
theorem lstStrs {x : W} {v : V} {zs : List (List Nat)} (h : (lstOf S x).bind strsOf = some zs) (r : rep Γ S H x v) (s : SR Γ S H) : ∃ p, v = .ref p ∧ H p = some (.lst (zs.map strV)) := by
  cases e : lstOf S x with
  | none => rw [e] at h; cases h
  | some ws =>
    rw [e] at h
    obtain ⟨p, vs, rfl, hp, rr⟩ := lst_rep e r s
    rw [strs_vals (show strsOf ws = some zs from h) rr] at hp
    exact ⟨p, rfl, hp⟩
theorem wStr_el {x : W} {P : List Nat → Prop} (h : wStr x P) : ∃ z, x = .str z ∧ P z := by
  unfold wStr at h
  split at h
  · exact ⟨_, rfl, h⟩
  · exact h.elim
theorem w2_el {ws : List W} {P : W → W → Prop} (h : w2 ws P) : ∃ x y, ws = [x, y] ∧ P x y := by
  unfold w2 at h
  split at h
  · exact ⟨_, _, rfl, h⟩
  · exact h.elim
theorem flat_strs {zs : List (List Nat)} : (zs.map strV).all flatV = true := by
  rw [List.all_map]
  exact List.all_eq_true.mpr fun z _ => rfl
def rMeb (Γ : Gm) (m : MB) : V → List V → Hp → VK → Prop := fun v us H Q => ∃ x ws S QW, rep Γ S H x v ∧ reps Γ S H ws us ∧ SR Γ S H ∧ wMeb m x ws S QW ∧ KQ Γ S H QW Q
def idM : MB → String
  | .count => "list.count"
  | .index => "list.index"
  | .dget1 => "dict.get"
  | .dget2 => "dict.get"
  | .dcopy => "dict.copy"
  | .join => "str.join"
  | .find => "str.find"
  | .starts => "str.startswith"
  | .isdig => "str.isdigit"
  | .split => "str.split"
  | .clear => "list.clear"
  | .insert => "list.insert"
def oldM : MB → Bool
  | .count => true
  | .index => true
  | .dget1 => true
  | .dget2 => true
  | .dcopy => true
  | _ => false
theorem mt_meb {X : Cx} (hK : X.K = Γ.K) (hu : X.A.units + 64 < cLine) (m : MB) (hm : oldM m = true) : MtR X (idM m) (rMeb Γ m) := by
  have hu1 : X.A.units + 1 < cLine := by omega
  cases m with
  | join | find | starts | isdig | split | clear | insert => cases hm
  | count =>
    refine MtRimp mt_lcntF fun v us H Q ⟨x, ws, S, QW, r1, r2, s, h, k⟩ => ?_
    obtain ⟨y, rfl, h⟩ := w1_el h
    obtain ⟨z, rfl, h⟩ := wStr_el h
    obtain ⟨zs, e, h⟩ := wSome_el h
    obtain ⟨u, rfl, ru⟩ := r2.l1
    obtain ⟨p, rfl, hp⟩ := lstStrs e r1 s
    obtain ⟨rfl, _⟩ := ru
    refine ⟨p, zs.map strV, strV z, rfl, rfl, SqL.of hp, rfl, flat_strs, ?_⟩
    have ec : ((zs.map strV).countP fun y => eqV y (strV z)) = zs.countP (· == z) := by
      rw [List.countP_map]
      congr 1
      funext y
      exact eqV_str
    rw [ec]
    exact k.here s (w := .int _) rfl h
  | index =>
    refine MtRimp mt_index fun v us H Q ⟨x, ws, S, QW, r1, r2, s, h, k⟩ => ?_
    obtain ⟨y, rfl, h⟩ := w1_el h
    obtain ⟨z, rfl, h⟩ := wStr_el h
    obtain ⟨zs, e, h⟩ := wSome_el h
    obtain ⟨i, e2, h⟩ := wSome_el h
    obtain ⟨u, rfl, ru⟩ := r2.l1
    obtain ⟨p, rfl, hp⟩ := lstStrs e r1 s
    obtain ⟨rfl, _⟩ := ru
    obtain ⟨g1, g2⟩ := ix_get e2
    refine ⟨p, zs.map strV, strV z, i, strV z, rfl, rfl, SqL.of hp, rfl, flat_strs, by rw [List.getElem?_map, g1]; rfl, by rw [eqV_str]; simp, fun m z' hm hz => ?_, k.here s (w := .int _) rfl h⟩
    rw [List.getElem?_map] at hz
    cases q : zs[m]? with
    | none => rw [q] at hz; cases hz
    | some y =>
      rw [q] at hz
      cases hz
      rw [eqV_str]
      simpa using g2 m y hm q
  | dget1 =>
    refine MtRimp (mt_dget1 hu1) fun v us H Q ⟨x, ws, S, QW, r1, r2, s, h, k⟩ => ?_
    obtain ⟨y, rfl, h⟩ := w1_el h
    obtain ⟨p, e, h⟩ := wSome_el h
    obtain ⟨ky, e2, h⟩ := wSome_el h
    obtain ⟨u, rfl, ru⟩ := r2.l1
    obtain ⟨a, o, rfl, g, go⟩ := dic_get e e2 r1 ru s
    refine ⟨a, u, o, rfl, rfl, g, ?_⟩
    cases q : lookD p.1 p.2 ky with
    | none =>
      rw [q] at h
      rw [go.2 q]
      exact k.here s (w := .non) rfl h
    | some w =>
      rw [q] at h
      obtain ⟨t, e3, rt⟩ := go.1 w q
      rw [e3]
      exact k.here s rt h
  | dget2 =>
    refine MtRimp (mt_dget2 hu1) fun v us H Q ⟨x, ws, S, QW, r1, r2, s, h, k⟩ => ?_
    obtain ⟨y, d, rfl, h⟩ := w2_el h
    obtain ⟨p, e, h⟩ := wSome_el h
    obtain ⟨ky, e2, h⟩ := wSome_el h
    obtain ⟨u, u2, rfl, ru, ru2⟩ := r2.l2
    obtain ⟨a, o, rfl, g, go⟩ := dic_get e e2 r1 ru s
    refine ⟨a, u, u2, o, rfl, rfl, g, ?_⟩
    cases q : lookD p.1 p.2 ky with
    | none =>
      rw [q] at h
      rw [go.2 q]
      exact k.here s ru2 h
    | some w =>
      rw [q] at h
      obtain ⟨t, e3, rt⟩ := go.1 w q
      rw [e3]
      exact k.here s rt h
  | dcopy =>
    refine MtRimp mt_dcopy fun v us H Q ⟨x, ws, S, QW, r1, r2, s, h, k⟩ => ?_
    obtain ⟨rfl, h⟩ := h
    obtain ⟨p, e, h⟩ := wSome_el h
    cases r2
    obtain ⟨a, vs, rfl, ha, hl, rr⟩ := dic_rep e r1 s
    refine ⟨a, _, rfl, rfl, .inl ha, fun b hb => ?_⟩
    exact k (.ref b) (S.set b (.dic p.1 p.2)) (.ref b) _ rfl (orep.new s hb ⟨vs, upd_same, hl, reps.fr (Fr.newS hb) _ _ rr⟩) (Fr.newS hb) (h b (s.nil hb))
theorem recv_ty {X : Cx} (hK : X.K = Γ.K) {m : MB} {x : W} {v : V} (hm : oldM m = true) (h : recvOf m S x = true) (r : rep Γ S H x v) (s : SR Γ S H) : tyV X.K (match m with | .count => "list" | .index => "list" | _ => "dict") v H := by
  have L : (lstOf S x).isSome = true → tyV X.K "list" v H := fun h => by
    cases e : lstOf S x with
    | none => rw [e] at h; cases h
    | some ws =>
      obtain ⟨p, vs, rfl, hp, rr⟩ := lst_rep e r s
      exact .inl ⟨rfl, vs, SqL.of hp⟩
  have D : (dicOf S x).isSome = true → tyV X.K "dict" v H := fun h => by
    cases e : dicOf S x with
    | none => rw [e] at h; cases h
    | some p =>
      obtain ⟨a, vs, rfl, ha, hl, rr⟩ := dic_rep e r s
      exact .inr (.inr (.inl ⟨rfl, .inl ⟨_, ha⟩⟩))
  cases m with
  | join | find | starts | isdig | split | clear | insert => cases hm
  | count => exact L h
  | index => exact L h
  | dget1 => exact D h
  | dget2 => exact D h
  | dcopy => exact D h
theorem all_of_any {α : Type} {l : List (Bool × α)} (h : l.any (·.1) = false) : l.all (fun x => !x.1) = true := by
  rw [List.any_eq_false] at h
  exact List.all_eq_true.mpr fun x hx => by simpa using h x hx
/-! ### instances' fields -/
theorem sZ_inj {a b : List Nat} (h : sZ a = sZ b) : a = b := by
  unfold sZ at h
  injection h with h
  simpa using h
theorem lk_cons_ne {k f : List Nat} {v : V} {r : List (Str × V)} (e : k ≠ f) : List.lookup (sZ f) ((sZ k, v) :: r) = List.lookup (sZ f) r := by
  rw [List.lookup_cons]
  have : (sZ f == sZ k) = false := by
    rw [beq_eq_false_iff_ne]
    intro z
    exact e (sZ_inj z).symm
  rw [this]
theorem lk_cons_eq {f : List Nat} {v : V} {r : List (Str × V)} : List.lookup (sZ f) ((sZ f, v) :: r) = some v := by
  rw [List.lookup_cons]
  simp
theorem ins_some {f : List Nat} {w : W} : ∀ {ks : List (List Nat)} {ws : List W} {vs : List V}, reps Γ S H ws vs → lookF ks ws f = some w → ∃ v, (insz ks vs).lookup (sZ f) = some v ∧ rep Γ S H w v ∧ f ∈ ks
  | [], ws, vs, r, h => by cases ws <;> cases h
  | k :: ks, [], vs, r, h => by cases h
  | k :: ks, w' :: ws, vs, ⟨v, vs', e, r1, r2⟩, h => by
    subst e
    unfold lookF at h
    show ∃ u, List.lookup (sZ f) ((sZ k, v) :: insz ks vs') = some u ∧ _
    split at h
    · rename_i e
      cases h
      subst e
      exact ⟨v, lk_cons_eq, r1, by simp⟩
    · rename_i e
      obtain ⟨u, h1, h2, h3⟩ := ins_some r2 h
      exact ⟨u, by rw [lk_cons_ne e]; exact h1, h2, List.mem_cons_of_mem _ h3⟩
theorem ins_none {f : List Nat} : ∀ {ks : List (List Nat)} {ws : List W} {vs : List V}, ks.length = ws.length → reps Γ S H ws vs → lookF ks ws f = none → (insz ks vs).lookup (sZ f) = none
  | [], ws, vs, l, r, h => by
    cases ws with
    | nil => cases r; rfl
    | cons _ _ => cases l
  | k :: ks, [], vs, l, r, h => by cases l
  | k :: ks, w' :: ws, vs, l, ⟨v, vs', e, r1, r2⟩, h => by
    subst e
    unfold lookF at h
    show List.lookup (sZ f) ((sZ k, v) :: insz ks vs') = none
    split at h
    · cases h
    · rename_i e
      rw [lk_cons_ne e]
      exact ins_none (Nat.succ.inj l) r2 h
/-- an instance, in the heap -/
theorem obj_rep {x : W} {v : V} {p : Nat × List (List Nat) × List W} (h : objOf S x = some p) (r : rep Γ S H x v) (s : SR Γ S H) : ∃ a dx vs, v = .ref a ∧ H a = some (.ins (Γ.ca p.1) dx (insz p.2.1 vs)) ∧ (p.2.1.length = p.2.2.length ∧ IC Γ p.1 p.2.1) ∧ reps Γ S H p.2.2 vs := by
  cases x with
  | obj c ks ws =>
    cases h
    obtain ⟨a, dx, vs, e, q, l, rr⟩ := r
    exact ⟨a, dx, vs, e, q.2, l, rr⟩
  | ref a =>
    unfold objOf at h
    simp only at h
    split at h
    · rename_i c ks ws e
      cases h
      obtain ⟨dx, vs, h1, l, rr⟩ := s a _ e
      exact ⟨a, dx, vs, r, h1, l, rr⟩
    · cases h
  | _ => cases h
end
section
variable {Γ : Gm} {G : GT} {C : CT} {N : List Str} {sc : Scope} {Wx : WX} {X : Cx}
theorem s_meb (xo : XO Γ G C N sc Wx X) {m : MB} (hm : oldM m = true) {o : Expr} {es : List Expr} {a : E} {es' : List E} {apos cpos : Pos} (h1 : plainO o = true) (h2 : (apos.endLine == cpos.line) = true) (hl : es.length = arM m) (hle : es.length = es'.length) (hn : es.all noStar = true) (pa : PE X o (tE Γ C Wx a)) (px : PA X es (tEs Γ C Wx es')) :
    PE X (.Call (.Attribute o (nameM m) apos) es [] cpos) (tE Γ C Wx (.meb m a es')) := by
  have hr := mt_meb xo.hK xo.un m hm
  have go : ∀ (T : String), (∀ S H x v, recvOf m S x = true → rep Γ S H x v → SR Γ S H → tyV X.K T v H) → ∀ σ H Q, tE Γ C Wx (.meb m a es') σ H Q → tBM X.K T (rMeb Γ m) (tE Γ C Wx a) (tEs Γ C Wx es') σ H Q := fun T hT σ H Q ⟨env, S, QW, XW, he, hs, h, k, kx⟩ => by
    simp only [wE] at h
    refine ⟨env, S, _, XW, he, hs, h, fun x S1 v H1 r1 s1 f1 q1 => ⟨hT S1 H1 x v q1.1 r1 s1, ?_⟩, kx⟩
    exact ⟨env, S1, _, XW, he.fr f1, s1, q1.2, fun ws S2 us H2 r2 s2 f2 q2 => ⟨x, ws, S2, QW, rep.fr f2 _ _ r1, r2, s2, q2, k.fr (f1.trans f2)⟩, kx.fr f1⟩
  have rt := fun (S : Sto) (H : Hp) (x : W) (v : V) (q : recvOf m S x = true) (r : rep Γ S H x v) (s : SR Γ S H) => recv_ty (X := X) xo.hK hm q r s
  cases m with
  | join | find | starts | isdig | split | clear | insert => cases hm
  | dcopy =>
    cases es with
    | cons _ _ => cases hl
    | nil =>
      refine PEimp (pe_bm0 PySem.F.plainAttrs_dict PySem.F.slot_dict_copy PySem.F.type_dict_copy hr pa (base_of h1) h2) fun σ H Q ⟨env, S, QW, XW, he, hs, h, k, kx⟩ => ?_
      simp only [wE] at h
      refine ⟨env, S, _, XW, he, hs, h, fun x S1 v H1 r1 s1 f1 q1 => ⟨rt S1 H1 x v q1.1 r1 s1, ?_⟩, kx⟩
      have q2 := q1.2
      cases es' with
      | nil =>
        simp only [wEs] at q2
        exact ⟨x, [], S1, QW, r1, rfl, s1, q2, k.fr f1⟩
      | cons e' es' => cases hle
  | count =>
    obtain ⟨e, rfl⟩ := List.length_eq_one_iff.mp hl
    have n1 : noStar e = true := by simpa using hn
    have sc1 : starEach [e] X.env = (false, eval e X.env) :: starEach [] X.env := star_cons n1
    exact PEimp (pe_bm PySem.F.plainAttrs_list PySem.F.slot_list_count PySem.F.type_list_count hr pa px (base_of h1) (by rw [sc1]; rfl) h2 sc1 rfl) (go "list" rt)
  | index =>
    obtain ⟨e, rfl⟩ := List.length_eq_one_iff.mp hl
    have n1 : noStar e = true := by simpa using hn
    have sc1 : starEach [e] X.env = (false, eval e X.env) :: starEach [] X.env := star_cons n1
    exact PEimp (pe_bm PySem.F.plainAttrs_list PySem.F.slot_list_index PySem.F.type_list_index hr pa px (base_of h1) (by rw [sc1]; rfl) h2 sc1 rfl) (go "list" rt)
  | dget1 =>
    obtain ⟨e, rfl⟩ := List.length_eq_one_iff.mp hl
    have n1 : noStar e = true := by simpa using hn
    have sc1 : starEach [e] X.env = (false, eval e X.env) :: starEach [] X.env := star_cons n1
    exact PEimp (pe_bm PySem.F.plainAttrs_dict PySem.F.slot_dict_get PySem.F.type_dict_get hr pa px (base_of h1) (by rw [sc1]; rfl) h2 sc1 rfl) (go "dict" rt)
  | dget2 =>
    obtain ⟨e, e2, rfl⟩ : ∃ e e2, es = [e, e2] := by
      match es, hl with
      | [e, e2], _ => exact ⟨e, e2, rfl⟩
    have n1 : noStar e = true ∧ noStar e2 = true := by simpa using hn
    have sc1 : starEach [e, e2] X.env = (false, eval e X.env) :: starEach [e2] X.env := star_cons n1.1
    have sc2 : starEach [e2] X.env = (false, eval e2 X.env) :: starEach [] X.env := star_cons n1.2
    exact PEimp (pe_bm PySem.F.plainAttrs_dict PySem.F.slot_dict_get PySem.F.type_dict_get hr pa px (base_of h1) (by rw [sc1, sc2]; rfl) h2 sc1 (by rw [sc2]; rfl)) (go "dict" rt)
theorem s_dnew {pos : Pos} : PE X (.Dict [] [] pos) (tE Γ C Wx .dnew) := by
  refine PEimp pe_dnewK fun σ H Q ⟨env, S, QW, XW, he, hs, h, k, kx⟩ => ?_
  simp only [wE] at h
  intro p hp
  exact k (.ref p) (S.set p (.dic [] [])) (.ref p) _ rfl (orep.new hs hp ⟨[], upd_same, rfl, rfl⟩) (Fr.newS hp) (h p (hs.nil hp))
theorem wFz_el {x : W} {S : Sto} {Q : VQ} (h : wFz x S Q) : ∃ w' S', Fz S x w' S' ∧ Q w' S' := by
  have sub : ∀ {a : Addr} {o : O}, S a = some o → o ≠ .hid → Sub (S.del a) S := fun {a o} e ne => by
    refine ⟨fun b u q => ?_, fun b q => ?_⟩
    · unfold Sto.del at q
      split at q
      · cases q
      · exact q
    · unfold Sto.del
      split
      · rename_i e2
        subst e2
        rw [e] at q
        cases q
        exact absurd rfl ne
      · exact q
  have same : Sub S S := ⟨fun _ _ q => q, fun _ q => q⟩
  unfold wFz at h
  split at h
  · rename_i a
    split at h
    · rename_i ws e
      exact ⟨_, _, ⟨sub e (fun z => nomatch z), .inr ⟨a, rfl, Sto.del_same, .inl ⟨ws, e, rfl⟩⟩⟩, h⟩
    · rename_i ks ws e
      exact ⟨_, _, ⟨sub e (fun z => nomatch z), .inr ⟨a, rfl, Sto.del_same, .inr (.inl ⟨ks, ws, e, rfl⟩)⟩⟩, h⟩
    · rename_i c ks ws e
      exact ⟨_, _, ⟨sub e (fun z => nomatch z), .inr ⟨a, rfl, Sto.del_same, .inr (.inr ⟨c, ks, ws, e, rfl⟩)⟩⟩, h⟩
    · exact ⟨_, _, ⟨same, .inl rfl⟩, h⟩
  · exact ⟨_, _, ⟨same, .inl rfl⟩, h⟩
theorem s_fzv {e : Expr} {a : E} (pa : PE X e (tE Γ C Wx a)) : PE X e (tE Γ C Wx (.fzv a)) := by
  refine PEimp pa fun σ H Q ⟨env, S, QW, XW, he, hs, h, k, kx⟩ => ?_
  simp only [wE] at h
  refine ⟨env, S, _, XW, he, hs, h, fun x S1 v H1 r1 s1 f1 q1 => ?_, kx⟩
  obtain ⟨w', S', z, q⟩ := wFz_el q1
  obtain ⟨r2, s2, f2⟩ := z.rep s1 r1
  exact k w' S' v H1 r2 s2 (f1.trans f2) q
theorem s_fld (xo : XO Γ G C N sc Wx X) {cs : List Nat} {x : Expr} {a : E} {f : List Nat} {pos : Pos} (h1 : plainO x = true) (pa : PE X x (tE Γ C Wx a)) : PE X (.Attribute x (sZ f) pos) (tE Γ C Wx (.fld cs a f)) := by
  refine PEimp (pe_fldX pa (base_of h1)) fun σ H Q ⟨env, S, QW, XW, he, hs, h, k, kx⟩ => ?_
  simp only [wE] at h
  refine ⟨env, S, _, XW, he, hs, h, fun x S1 v H1 r1 s1 f1 q1 => ?_, kx⟩
  obtain ⟨p, e, q1⟩ := wSome_el (show wSome (fldOf S1 x) _ from q1)
  obtain ⟨w, e2, q9⟩ := wSome_el q1
  have O : objOf S1 x = some p → rFldX X.K (sZ f) v H1 Q := fun e => by
    obtain ⟨b, dx, vs, rfl, hb, ⟨hl, ic⟩, rr⟩ := obj_rep e r1 s1
    obtain ⟨u, l, ru, hf⟩ := ins_some rr e2
    exact .inl ⟨b, _, dx, _, u, rfl, hb, by rw [xo.hK]; exact ic.1.cl, by rw [xo.hK]; exact ic.2 f hf, l, (k.fr f1).here s1 ru q9⟩
  cases x with
  | exn c ks ws =>
    cases e
    obtain ⟨b, d, vs, rfl, q, xd, ⟨hl, xc⟩, rr⟩ := r1
    obtain ⟨u, l, ru, hf⟩ := ins_some rr e2
    rcases xd with ⟨rfl, _⟩ | ⟨dd, rfl, _, hd⟩
    · cases hf
    · exact .inr ⟨b, _, dd, _, u, rfl, q.2, by rw [xo.hK]; exact xc.1.xf, by rw [xo.hK]; exact xc.2 f hf, hd, l, (k.fr f1).here s1 ru q9⟩
  | _ => exact O e
theorem s_meth (xo : XO Γ G C N sc Wx X) (nh : G.hot = false) {tb : List (Nat × Nat)} {m : List Nat} {o : Expr} {es : List Expr} {a : E} {es' : List E} {apos cpos : Pos} (h1 : plainO o = true) (h2 : (apos.endLine == cpos.line) = true) (hl : es.length < 20) (hle : es.length = es'.length) (ht : G.mth.lookup m = some tb) (hn : es.all noStar = true) (pa : PE X o (tE Γ C Wx a)) (px : PA X es (tEs Γ C Wx es')) :
    PE X (.Call (.Attribute o (sZ m) apos) es [] cpos) (tE Γ C Wx (.meth tb m a es')) := by
  have key : ∀ {env : Env} {S : Sto} {QW : VQ} {XW : XQ} {σ : L2.St} {H : Hp} {Q : VK} {x : W} {v : V} (hr : rep Γ S H x v) (he : envR Γ S H env σ) (hs : SR Γ S H) (q : wSome (objOf S x) fun p => lookF p.2.1 p.2.2 m = none ∧ wSome (tb.lookup p.1) fun f => wEs C es' env S (fun ws S2 => C f (x :: ws) S2 QW XW) XW) (k : KQ Γ S H QW Q) (kx : KX Γ S H XW (fun cls d H' => Wx cls d σ H')) (t : TA)
      (ht : ∀ (Q' : List V → Hp → Prop), (∃ QL, wEs C es' env S QL XW ∧ KL Γ S H QL Q') → t σ H Q'),
      ∃ (a Cc dx : Addr) (fs : List (Str × V)) (g : Addr) (kk : Nat) (sp : Sp), v = .ref a ∧ H a = some (.ins Cc dx fs) ∧ Cls X.K Cc ∧ Meth X.K Cc (sZ m) g ∧ fs.lookup (sZ m) = none ∧ Fk X (L2.CX X.prog X.w) kk g sp ∧ Room kk X.A ∧ t σ H fun vs H2 => sp (v :: vs) H2 Q (WE Wx σ) := by
    intro env S QW XW σ H Q x v hr he hs q k kx t htt
    obtain ⟨p, e, q1, q2⟩ := wSome_el q
    obtain ⟨f, e2, q2⟩ := wSome_el q2
    obtain ⟨b, dx, vs, rfl, hb, ⟨hlen, ic⟩, rr⟩ := obj_rep e hr hs
    obtain ⟨kk, fk, rm, me⟩ := xo.mth m tb p.1 f nh ht e2
    refine ⟨b, _, dx, _, _, kk, _, rfl, hb, by rw [xo.hK]; exact ic.1.cl, me, ins_none hlen rr q1, fk, rm, htt _ ⟨_, q2, fun ws S2 us H2 r2 s2 f2 q3 => ?_⟩⟩
    exact ⟨x :: ws, S2, QW, XW, ⟨_, us, rfl, rep.fr f2 _ _ hr, r2⟩, s2, q3, k.fr f2, kx.fr f2⟩
  cases es with
  | nil =>
    refine PEimp (pe_methD0 (CX := L2.CX X.prog X.w) (E := WE Wx) pa h1 h2 (passAt xo.tk)) fun σ H Q ⟨env, S, QW, XW, he, hs, h, k, kx⟩ => ?_
    simp only [wE] at h
    refine ⟨env, S, _, XW, he, hs, h, fun x S1 v H1 r1 s1 f1 q1 => ?_, kx⟩
    refine key r1 (he.fr f1) s1 q1 (k.fr f1) (kx.fr f1) tNil fun Q' ⟨QL, q, kl⟩ => ?_
    cases es' with
    | nil => exact kl [] S1 [] H1 rfl s1 (Fr.refl _ _) (by simpa only [wEs] using q)
    | cons e' es' => cases hle
  | cons e es =>
    have hn2 := hn
    rw [List.all_cons, Bool.and_eq_true] at hn
    refine PEimp (pe_methD (CX := L2.CX X.prog X.w) (E := WE Wx) pa h1 h2 (passAt xo.tk) px (by omega) (star_cons hn.1) (star_any hn.2) (all_of_any (star_any hn2))) fun σ H Q ⟨env, S, QW, XW, he, hs, h, k, kx⟩ => ?_
    simp only [wE] at h
    refine ⟨env, S, _, XW, he, hs, h, fun x S1 v H1 r1 s1 f1 q1 => ?_, kx⟩
    exact key r1 (he.fr f1) s1 q1 (k.fr f1) (kx.fr f1) _ fun Q' ⟨QL, q, kl⟩ => ⟨env, S1, QL, XW, he.fr f1, s1, q, kl, kx.fr f1⟩
theorem s_mk (xo : XO Γ G C N sc Wx X) (nh : G.hot = false) {x : Str} {c fi : Nat} {es : List Expr} {es' : List E} {p pos : Pos} (h1 : gloB sc x = true) (h2 : nodbg x = true) (h3 : G.cls.lookup x = some (c, fi)) (hle : es.length = es'.length) (hn : es.all noStar = true) (px : PA X es (tEs Γ C Wx es')) :
    PE X (.Call (.Name x p) es [] pos) (tE Γ C Wx (.mk c fi es')) := by
  obtain ⟨k0, fd, ps, F, hb, hr, M, hm, ic⟩ := xo.cls x c fi nh h3
  have key : ∀ {S : Sto} {QW : VQ} {XW : XQ} {σ : L2.St} {H : Hp} {Q : VK} {ws : List W} {us : List V} (r : reps Γ S H ws us) (hs : SR Γ S H) (q : ∀ a, S a = none → C fi (.ref a :: ws) (S.set a (.ins c [] [])) (fun w S2 => w = .non ∧ QW (.ref a) S2) XW) (k : KQ Γ S H QW Q) (kx : KX Γ S H XW (fun cls d H' => Wx cls d σ H')),
      ∀ a dx, H a = none → H dx = none → dx ≠ a → spF Γ C fi (.ref a :: us) (upd (upd H dx (.own a)) a (.ins (Γ.ca c) dx [])) (fun v H2 => v = .non ∧ Q (.ref a) H2) (WE Wx σ) := by
    intro S QW XW σ H Q ws us r hs q k kx a dx ha hdx ne
    have ha2 : (upd H dx (.own a)) a = none := by rw [upd_ne (Ne.symm ne)]; exact ha
    have f1 : Fr S H S (upd H dx (.own a)) := Fr.new hdx
    have f2 : Fr S H (S.set a (.ins c [] [])) (upd (upd H dx (.own a)) a (.ins (Γ.ca c) dx [])) := f1.trans (Fr.newS ha2)
    have s2 : SR Γ (S.set a (.ins c [] [])) (upd (upd H dx (.own a)) a (.ins (Γ.ca c) dx [])) :=
      orep.new (hs.new hdx) ha2 ⟨dx, [], upd_same, ⟨rfl, by rw [← xo.hK]; exact ic, fun k hk => by cases hk⟩, rfl⟩
    refine ⟨.ref a :: ws, _, _, XW, ⟨_, us, rfl, rfl, reps.fr f2 _ _ r⟩, s2, q a (hs.nil ha), fun w S3 v H3 r3 s3 f3 ⟨e, q3⟩ => ?_, kx.fr f2⟩
    subst e
    exact ⟨r3, k (.ref a) S3 (.ref a) H3 rfl s3 (f2.trans f3) q3⟩
  cases es with
  | nil =>
    cases es' with
    | cons _ _ => cases hle
    | nil =>
      refine PEimp (pe_makeD0 (E := WE Wx) M F hr (xo.glo h1) hm hb (passAt xo.tk) (dbg_of h2).1) fun σ H Q ⟨env, S, QW, XW, he, hs, h, k, kx⟩ => ?_
      simp only [wE, wEs] at h
      exact key (ws := []) (us := []) rfl hs h k kx
  | cons e es =>
    rw [List.all_cons, Bool.and_eq_true] at hn
    refine PEimp (pe_makeD (E := WE Wx) M F hr (xo.glo h1) hm hb (passAt xo.tk) px (dbg_of h2).1 (star_cons hn.1) (star_any hn.2)) fun σ H Q ⟨env, S, QW, XW, he, hs, h, k, kx⟩ => ?_
    simp only [wE] at h
    exact ⟨env, S, _, XW, he, hs, h, fun ws S1 us H1 r1 s1 f1 q1 => key r1 s1 q1 (k.fr f1) (kx.fr f1), kx⟩
theorem s_mkx (xo : XO Γ G C N sc Wx X) (nh : G.hot = false) {x y : Str} {c : Nat} {z : List Nat} {j : Nat} {p p2 pos : Pos} (h1 : gloB sc x = true) (h2 : nodbg x = true) (h3 : G.xcl.lookup x = some (c, [])) :
    PE X (.Call (.Name x p) [.Constant (.str y) j p2] [] pos) (tE Γ C Wx (.mkx c z)) := by
  obtain ⟨q, hm, hk, _, _, xk⟩ := xo.xcl x c nh h3
  refine PEimp (pe_mkT F.excBase_ValueError q hm hk (xo.glo h1) (dbg_of h2).1) fun σ H Q ⟨env, S, QW, XW, he, hs, h, k, kx⟩ => ?_
  simp only [wE] at h
  intro a ha
  refine k (.exn c [] []) S (.ref a) _ ⟨a, none, [], rfl, ⟨hs.nil ha, upd_same⟩, .inl ⟨rfl, rfl⟩, ⟨rfl, by rw [← xo.hK]; exact xk, fun k hk => by cases hk⟩, rfl⟩ (hs.new ha) (Fr.new ha) h
theorem isC_ty {yes no : List Nat} {x : W} {v : V} {b : Bool} {S : Sto} {H : Hp} {D : Value} (hK : X.K = Γ.K) (h : isCW yes no S x = some b) (r : rep Γ S H x v) (s : SR Γ S H)
    (hy : ∀ c ∈ yes, PySem.W.kitOne X.K (.ref (Γ.ca c)) D = some true) (hno : ∀ c ∈ no, PySem.W.kitOne X.K (.ref (Γ.ca c)) D = some false) (ht : ∀ n ∈ ["NoneType", "bool", "int"], PySem.W.kitOne X.K (.type n) D = some false) :
    (∃ t, TyX X.K H v t ∧ PySem.W.kitOne X.K t D = some b) ∨ ∃ (a C : Addr) (d : Option Addr), v = .ref a ∧ H a = some (ExT (.ref C) d a) ∧ (∀ dd, d = some dd → ∃ fs, H dd = some (.xd fs)) ∧ XisC X.K C ∧ PySem.W.kitOne X.K (.ref C) D = some b := by
  have kc : ∀ {c : Nat}, (if c ∈ yes then some true else if c ∈ no then some false else none) = some b → PySem.W.kitOne X.K (.ref (Γ.ca c)) D = some b := fun {c} q => by
    split at q
    · rename_i m
      cases q
      exact hy c m
    · split at q
      · rename_i m
        cases q
        exact hno c m
      · cases q
  have O : ∀ {x : W}, rep Γ S H x v → ((objOf S x).map (·.1)).bind (fun c => if c ∈ yes then some true else if c ∈ no then some false else none) = some b → ∃ t, TyX X.K H v t ∧ PySem.W.kitOne X.K t D = some b := fun {x} r q => by
    cases e : objOf S x with
    | none => rw [e] at q; cases q
    | some p =>
      rw [e] at q
      obtain ⟨a, dx, vs, rfl, ha, ⟨_, ic⟩, _⟩ := obj_rep e r s
      exact ⟨.ref (Γ.ca p.1), by rw [hK]; exact .base (.ins ha ic.1.cl ic.1.ha ic.1.hn ic.1.ht ic.1.hm), kc q⟩
  cases x with
  | non => cases h; cases r; exact .inl ⟨_, .base .non, ht _ (by simp)⟩
  | bl _ => cases h; cases r; exact .inl ⟨_, .base (.bl _), ht _ (by simp)⟩
  | int _ => cases h; cases r; exact .inl ⟨_, .base (.int _), ht _ (by simp)⟩
  | exn c ks ws =>
    obtain ⟨a, d, vs, rfl, q, xd, ⟨_, xc⟩, _⟩ := r
    refine .inr ⟨a, Γ.ca c, d, rfl, q.2, fun dd e => ?_, by rw [hK]; exact xc.1, kc h⟩
    rcases xd with ⟨_, e2⟩ | ⟨dd', e2, _, hd⟩
    · rw [e] at e2; cases e2
    · rw [e] at e2; cases e2; exact ⟨_, hd⟩
  | _ => exact .inl (O r h)
theorem s_isC (xo : XO Γ G C N sc Wx X) {f y : Str} {yes no : List Nat} {x : Expr} {a : E} {p p2 pos : Pos} (h1 : biB G sc "isinstance" f = true) (h2 : gloB sc y = true) (h3 : nodbg y = true) (h4 : G.isC.lookup y = some (yes, no)) (hn : noStar x = true) (pa : PE X x (tE Γ C Wx a)) :
    PE X (.Call (.Name f p) [x, .Name y p2] [] pos) (tE Γ C Wx (.isC yes no a)) := by
  obtain ⟨e1, g, d, m⟩ := bi_of h1
  subst e1
  obtain ⟨d1, d2, d3⟩ := dbg_of d
  obtain ⟨k1, k2, k3⟩ := dbg_of h3
  obtain ⟨D, nm, hy, hno, ht⟩ := xo.isC y yes no h4
  have ⟨c, cv, pt⟩ : ∃ c, ClsV c D ∧ PE X (.Name y p2) (tC c) := by
    rcases nm with ⟨hm, b, rfl⟩ | ⟨hm, n, rfl, bt, _⟩
    · exact ⟨.ref b, .own b, pe_glob (v := .ref b) (xo.glo h2) hm rfl k1⟩
    · exact ⟨.ty n, .ty n, pe_bltn (xo.glo h2) hm bt rfl k3 k1⟩
  refine PEimp (pe_callB call_isX (xo.glo g) (xo.bi _ m) boot_isinstance (pa_cons pa (pa_cons pt pa_nil rfl) (star_cons hn)) d3 d1 (star_cons hn) rfl) fun σ H Q ⟨env, S, QW, XW, he, hs, h, k, kx⟩ => ?_
  simp only [wE] at h
  refine ⟨env, S, _, XW, he, hs, h, fun x S1 v H1 r1 s1 f1 q1 => ?_, kx⟩
  obtain ⟨b, e, q1⟩ := wSome_el q1
  exact ⟨v, _, _, b, rfl, cv, k (.bl b) S1 (.bl b) H1 rfl s1 f1 q1, isC_ty xo.hK e r1 s1 hy hno ht⟩
theorem s_callV (xo : XO Γ G C N sc Wx X) (nh : G.hot = false) {i : Nat} {x : Str} {fs : List Nat} {es : List Expr} {es' : List E} {p pos : Pos} (h1 : N[i]? = some x) (h2 : visB sc x = true) (h3 : nodbg x = true) (hf : fs.all (fun f => G.fns.any fun p => p.2.1 == f && p.2.2 == es.length) = true) (h4 : es ≠ []) (hn : es.all noStar = true) (pa : PA X es (tEs Γ C Wx es')) :
    PE X (.Call (.Name x p) es [] pos) (tE Γ C Wx (.callV i fs es')) := by
  obtain ⟨d1, d2, _⟩ := dbg_of h3
  cases es with
  | nil => exact absurd rfl h4
  | cons e es =>
    rw [List.all_cons, Bool.and_eq_true] at hn
    refine PEimp (pe_callV (CX := L2.CX X.prog X.w) (E := WE Wx) (by rw [xo.hN]; exact h1) (xo.vis h2) (passAt xo.tk) pa d1 d2 (star_cons hn.1) (star_any hn.2)) fun σ H Q ⟨env, S, QW, XW, he, hs, h, k, kx⟩ => ?_
    simp only [wE] at h
    obtain ⟨w, q, h⟩ := wVar_el h
    cases w with
    | fn f =>
      obtain ⟨hm, h⟩ := h
      obtain ⟨v, e1, r⟩ := he.2 i _ q
      obtain rfl : v = .ref (Γ.fa f) := r
      have hp := List.all_eq_true.mp hf f hm
      obtain ⟨⟨y, f', ar⟩, hy, hq⟩ := List.any_eq_true.mp hp
      simp only [Bool.and_eq_true, beq_iff_eq] at hq
      obtain ⟨rfl, _⟩ := hq
      obtain ⟨kk, fd, ps, F, hr, hk, hb, _⟩ := xo.fn y f' ar nh hy
      exact ⟨kk, _, _, e1, ⟨fd, ps, F, hb⟩, hr, hk, env, S, _, XW, he, hs, h, fun ws S1 vs H1 r1 s1 f1 q1 => ⟨ws, S1, QW, XW, r1, s1, q1, k.fr f1, kx.fr f1⟩, kx⟩
    | _ => exact h.elim
end
end Bw

/-! Ev12d: dicts with any keys; two dicts compared. -/
namespace Bw
open PySem L2 PySem.Spec PyProof.Rows
section
variable {Γ : Gm} {G : GT} {C : CT} {N : List Str} {sc : Scope} {Wx : WX} {X : Cx}
def unP : List V → Option (List (V × V))
  | [] => some []
  | k :: v :: r => (unP r).map ((k, v) :: ·)
  | _ => none
theorem chA_len {ch : Expr → E → Bool} : ∀ {keys : List (Option Expr)} {vals : List Expr} {kvs : List E}, chA ch keys vals kvs = true → keys.length = vals.length ∧ keys.all (·.isSome) = true := by
  intro keys
  induction keys with
  | nil => intro vals kvs h; cases vals with | nil => exact ⟨rfl, rfl⟩ | cons _ _ => simp [chA] at h
  | cons k keys ih =>
    intro vals kvs h
    cases k with
    | none => simp [chA] at h
    | some k =>
      cases vals with
      | nil => simp [chA] at h
      | cons v vals =>
        match kvs, h with
        | a :: b :: r, h =>
          simp only [chA, Bool.and_eq_true] at h
          obtain ⟨h1, h2⟩ := ih h.2
          exact ⟨by simp [h1], by simp [h2]⟩
theorem ppsV_of (xo : XO Γ G C N sc Wx X) {pos : Pos} {f : Expr → E → Bool} (hf : ∀ e e', f e e' = true → PE X e (tE Γ C Wx e')) : ∀ {keys : List (Option Expr)} {vals : List Expr} {kvs : List E}, chA f keys vals kvs = true →
    ∃ trs, PPs X pos keys vals trs ∧ ∀ σ H (Q : List (V × V) → Hp → Prop), tEs Γ C Wx kvs σ H (fun vs H' => ∀ ps, unP vs = some ps → Q ps H') → tPairs trs σ H Q := by
  intro keys
  induction keys with
  | nil =>
    intro vals kvs h
    cases vals with
    | cons _ _ => simp [chA] at h
    | nil =>
      cases kvs with
      | cons _ _ => simp [chA] at h
      | nil =>
        refine ⟨[], pps_nil, fun σ H Q ⟨env, S, QW, XW, he, hs, h, k, kx⟩ => ?_⟩
        simp only [wEs] at h
        exact k [] S [] H rfl hs (Fr.refl _ _) h [] rfl
  | cons k keys ih =>
    intro vals kvs h
    cases k with
    | none => simp [chA] at h
    | some k =>
      cases vals with
      | nil => simp [chA] at h
      | cons v vals =>
        match kvs, h with
        | a :: b :: r, h =>
          simp only [chA, Bool.and_eq_true] at h
          obtain ⟨trs, hp, ht⟩ := ih h.2
          refine ⟨_, pps_cons (hf _ _ h.1.1) (hf _ _ h.1.2) hp, fun σ H Q ⟨env, S, QW, XW, he, hs, h, kq, kx⟩ => ?_⟩
          simp only [wEs] at h
          refine ⟨env, S, _, XW, he, hs, h, fun w S1 u H1 r1 s1 f1 q1 => ?_, kx⟩
          refine ⟨env, S1, _, XW, he.fr f1, s1, q1, fun w2 S2 u2 H2 r2 s2 f2 q2 => ?_, kx.fr f1⟩
          refine ht σ H2 _ ⟨env, S2, _, XW, he.fr (f1.trans f2), s2, q2, fun ws S3 vs H3 r3 s3 f3 q3 => ?_, kx.fr (f1.trans f2)⟩
          have f12 := f1.trans f2
          intro ps hps
          exact kq (w :: w2 :: ws) S3 (u :: u2 :: vs) H3 ⟨u, _, rfl, rep.fr (f2.trans f3) _ _ r1, u2, _, rfl, rep.fr f3 _ _ r2, r3⟩ s3 (f12.trans f3) q3 ((u, u2) :: ps) (by show (unP vs).map _ = _; rw [hps]; rfl)
theorem pair_rep {S : Sto} {H : Hp} : ∀ {ws : List W} {vs : List V} {p : List Ky × List W}, pairUp ws = some p → reps Γ S H ws vs → p.1.length = p.2.length ∧ ∃ us ps, unP vs = some ps ∧ reps Γ S H p.2 us ∧ ps = (dkz p.1 us).map fun kv => (kV kv.1, kv.2)
  | [], vs, p, h, r => by
    cases h
    cases r
    exact ⟨rfl, [], [], rfl, rfl, rfl⟩
  | [_], _, _, h, _ => by cases h
  | k :: v :: ws, vs, p, h, r => by
    obtain ⟨u, vs1, rfl, r1, u2, vs2, rfl, r2, r3⟩ := r
    unfold pairUp at h
    cases hk : kyOf k with
    | none => rw [hk] at h; cases h
    | some ky =>
      rw [hk] at h
      cases hp : pairUp ws with
      | none => rw [hp] at h; cases h
      | some q =>
        rw [hp] at h
        cases h
        obtain ⟨hl, us, ps, e1, e2, e3⟩ := pair_rep hp r3
        refine ⟨by simp [hl], u2 :: us, (u, u2) :: ps, by show (unP vs2).map _ = _; rw [e1]; rfl, ⟨u2, us, rfl, r2, e2⟩, ?_⟩
        rw [e3, key_rep hk r1]
        rfl
theorem dkz_nodup {ks : List Ky} {vs : List V} (hl : ks.length = vs.length) (nd : ks.Nodup) : ((dkz ks vs).map (·.1)).Nodup := by
  rw [dkz_keys hl]
  exact nd_map _ (fun a b e => keyV_inj e) nd
theorem s_dicV (xo : XO Γ G C N sc Wx X) {f : Expr → E → Bool} (hf : ∀ e e', f e e' = true → PE X e (tE Γ C Wx e')) {keys : List (Option Expr)} {vals : List Expr} {kvs : List E} {pos : Pos} (ne : keys ≠ []) (h15 : keys.length ≤ 15) (hv : chA f keys vals kvs = true) :
    PE X (.Dict keys vals pos) (tE Γ C Wx (.dicV kvs)) := by
  obtain ⟨trs, hp, ht⟩ := ppsV_of xo hf (pos := pos) hv
  obtain ⟨l1, l2⟩ := chA_len hv
  refine PEimp (pe_disp hp l2 l1 ne h15) fun σ H Q ⟨env, S, QW, XW, he, hs, h, k, kx⟩ => ?_
  simp only [wE] at h
  intro p hpn
  have h := h p (hs.nil hpn)
  refine ht σ _ _ ⟨env, S.set p .hid, _, fun _ _ => False, he.fr (Fr.newS hpn), hs.hide hpn, h, fun ws S1 vs H1 r1 s1 f1 q1 => ?_, fun _ _ _ _ _ _ _ _ q => q.elim⟩
  obtain ⟨hS1, hH1⟩ := f1.2 p _ Sto.set_same upd_same
  obtain ⟨d, e, nd, l15, q1⟩ := wSome_el q1
  obtain ⟨hl, us, ps, e1, ru, eps⟩ := pair_rep e r1
  intro ps' hps
  rw [e1] at hps
  cases hps
  have lu := ru.len
  refine ⟨hH1, dkz d.1 us, eps, ?_, ?_⟩
  · rw [dkz_len (hl.trans lu)]; exact l15
  · have mg : mergeK [] (dkz d.1 us) = dkz d.1 us := by
      rw [merge_nodup _ [] (dkz_nodup (hl.trans lu) nd) (by simp)]
      rfl
    rw [mg]
    have fr : Fr S H (S1.del p) (upd H1 p (.dK (dkz d.1 us))) := frU hpn (frDel hpn (Fr.trans (Fr.newS hpn) f1))
    refine k (.dct d.1 d.2) (S1.del p) (.ref p) _ ⟨p, us, rfl, ⟨Sto.del_same, upd_same⟩, hl, ?_⟩ (s1.hid hS1).del fr q1
    exact reps.fr0 fr0Del _ _ (reps.fr0 (Fr0.hid hS1) _ _ ru)
def rDEq (Γ : Gm) : R2 := fun v u H Q => ∃ x y S QW, rep Γ S H x v ∧ rep Γ S H y u ∧ SR Γ S H ∧ wDEq x y S QW ∧ KQ Γ S H QW Q
theorem kvp {kvs : List (Key × V)} {vs : List (Key × Value)} (r : KV kvs vs) : ∀ {k : Key} {v : Value}, (k, v) ∈ vs → ∃ x, (k, x) ∈ kvs ∧ RelV x v := by
  unfold KV at r
  induction r with
  | nil => intro k v h; cases h
  | @cons p q ps qs h t ih =>
    intro k v hm
    rcases List.mem_cons.mp hm with e | hm
    · subst e
      exact ⟨p.2, by rw [show (k, p.2) = p by rw [← show p.1 = k from h.1]]; exact List.mem_cons_self, h.2⟩
    · obtain ⟨x, h1, h2⟩ := ih hm
      exact ⟨x, List.mem_cons_of_mem _ h1, h2⟩
theorem kvl {kvs : List (Key × V)} {vs : List (Key × Value)} (r : KV kvs vs) : vs.map (·.1) = kvs.map (·.1) := by
  unfold KV at r
  induction r with
  | nil => rfl
  | @cons p q ps qs h t ih => rw [List.map_cons, List.map_cons, ih, show q.1 = p.1 from h.1.symm]
theorem dkz_mem {S : Sto} {H : Hp} : ∀ {ks : List Ky} {ws : List W} {vs : List V} {k : Key} {x : V}, ks.length = ws.length → reps Γ S H ws vs → (k, x) ∈ dkz ks vs → ∃ z w, keyV z = k ∧ (z, w) ∈ ks.zip ws ∧ rep Γ S H w x
  | [], _, _, _, _, _, _, h => by cases h
  | z :: ks, [], _, _, _, h, _, _ => by simp at h
  | z :: ks, w :: ws, _, k, x, hl, ⟨v, vr, e, q, t⟩, h => by
    subst e
    have h : (k, x) ∈ (keyV z, v) :: dkz ks vr := h
    rcases List.mem_cons.mp h with e | h
    · cases e
      exact ⟨z, w, rfl, List.mem_cons_self, q⟩
    · obtain ⟨z', w', h1, h2, h3⟩ := dkz_mem (by simpa using hl) t h
      exact ⟨z', w', h1, List.mem_cons_of_mem _ h2, h3⟩
theorem zip_data {ks : List Ky} : ∀ {ws : List W}, dataWs ws = true → ∀ z w, (z, w) ∈ ks.zip ws → dataW w = true ∧ depW w ≤ depWs ws := by
  induction ks with
  | nil => intro ws _ z w h; simp at h
  | cons k ks ih =>
    intro ws hd z w h
    cases ws with
    | nil => simp at h
    | cons x ws =>
      have hd : (dataW x && dataWs ws) = true := hd
      rw [Bool.and_eq_true] at hd
      rw [List.zip_cons_cons] at h
      rcases List.mem_cons.mp h with e | h
      · cases e
        exact ⟨hd.1, Nat.le_max_left _ _⟩
      · obtain ⟨h1, h2⟩ := ih hd.2 z w h
        exact ⟨h1, Nat.le_trans h2 (Nat.le_max_right _ _)⟩
theorem look_mem {z : Ky} {w : W} : ∀ {ks : List Ky} {ws : List W}, lookD ks ws z = some w → (z, w) ∈ ks.zip ws
  | [], ws, h => by cases ws <;> cases h
  | k :: ks, [], h => by cases h
  | k :: ks, x :: ws, h => by
    unfold lookD at h
    rw [List.zip_cons_cons]
    split at h
    · rename_i e
      cases h
      rw [e]; exact List.mem_cons_self
    · exact List.mem_cons_of_mem _ (look_mem h)
end
section
variable {Γ : Gm} {G : GT} {C : CT} {N : List Str} {sc : Scope} {Wx : WX} {X : Cx}
theorem all_congr {α : Type} {f g : α → Bool} : ∀ {l : List α}, (∀ x ∈ l, f x = g x) → l.all f = l.all g
  | [], _ => rfl
  | x :: l, h => by rw [List.all_cons, List.all_cons, h x List.mem_cons_self, all_congr fun y hy => h y (List.mem_cons_of_mem _ hy)]
theorem find_nodup {α β : Type} [DecidableEq β] {g : α → β} {k : β} : ∀ {l : List α} {a : α}, (l.map g).Nodup → a ∈ l → g a = k → l.find? (fun x => decide (g x = k)) = some a
  | x :: l, a, nd, hm, e => by
    rw [List.map_cons, List.nodup_cons] at nd
    rw [List.find?_cons]
    rcases List.mem_cons.mp hm with e2 | hm
    · subst e2
      rw [decide_eq_true e]
    · have : ¬ g x = k := fun z => nd.1 (by rw [z, ← e]; exact List.mem_map_of_mem hm)
      rw [decide_eq_false this]
      exact find_nodup nd.2 hm e
/-- what is found at a key of the text -/
def eqK (p q : List Ky × List W) (k : Key) : Bool := match (p.1.zip p.2).find? fun kw => decide (keyV kw.1 = k) with
  | some kw => (match lookD q.1 q.2 kw.1 with
    | some w => eqv kw.2 w
    | none => false)
  | none => false
theorem dTree (hK : X.K = Γ.K) (hu : X.A.units + 64 < cLine) {pins : List (Addr × Obj)} {s : Shared} {σ : L2.St} (I : Inv X pins σ H s) {x y : W} {v v' : V} {u u' : Value} {p q : List Ky × List W} (ep : dicOf S x = some p) (eq : dicOf S y = some q) (r1 : rep Γ S H x v) (r2 : rep Γ S H y v') (sr : SR Γ S H) (rx : RelV v u) (ry : RelV v' u')
    (d1 : dataWs p.2 = true) (d2 : dataWs q.2 = true) (dd : depWs p.2 ≤ 40) (ht : dEqv p q = true) : PySem.W.EqTree X.prog X.w s 42 u u' true := by
  obtain ⟨a, vs, rfl, ha, hl, rr⟩ := dic_rep ep r1 sr
  obtain ⟨b, us, rfl, hb, hl2, rr2⟩ := dic_rep eq r2 sr
  cases rx
  cases ry
  obtain ⟨_, ma, vs1, kv1, da⟩ := dk_rd I.hok (.inl ha)
  obtain ⟨_, mb, vs2, kv2, db⟩ := dk_rd I.hok (.inl hb)
  obtain ⟨_, _, _, _, _, _, _, _, nd1⟩ := id da
  obtain ⟨_, _, _, _, _, _, _, _, nd2⟩ := id db
  have t : ∀ k v y, (k, v) ∈ vs1 → PySem.valueAt vs2 k = some y → PySem.W.EqTree X.prog X.w s 41 v y (eqK p q k) := by
    intro k v y hm hv
    obtain ⟨x1, m1, rx1⟩ := kvp kv1 hm
    obtain ⟨z, w1, ez, mz, rw1⟩ := dkz_mem hl rr m1
    have hy := kv2.val k
    rw [hv] at hy
    cases hx2 : valV (dkz q.1 us) k with
    | none => rw [hx2] at hy; exact hy.elim
    | some x2 =>
      rw [hx2] at hy
      have hy : RelV x2 y := hy
      obtain ⟨g1, g2⟩ := dkz_val (Γ := Γ) z hl2 rr2
      cases hq : lookD q.1 q.2 z with
      | none => have := g2 hq; rw [ez, hx2] at this; cases this
      | some w2 =>
        obtain ⟨x2', h1, rw2⟩ := g1 w2 hq
        rw [ez, hx2] at h1
        cases h1
        obtain ⟨p1, p2⟩ := zip_data d1 z w1 mz
        obtain ⟨q1, q2⟩ := zip_data d2 z w2 (look_mem hq)
        have ek : eqK p q k = eqv w1 w2 := by
          unfold eqK
          have ef : (p.1.zip p.2).find? (fun kw => decide (keyV kw.1 = k)) = some (z, w1) := by
            refine find_nodup (g := fun kw => keyV kw.1) ?_ mz ez
            have e1 := kvl kv1
            rw [e1, dkz_keys (hl.trans rr.len)] at nd1
            have : (p.1.zip p.2).map (fun kw => keyV kw.1) = p.1.map keyV := by
              rw [show (fun kw : Ky × W => keyV kw.1) = keyV ∘ Prod.fst from rfl, ← List.map_map, List.map_fst_zip (by omega)]
            rw [this]; exact nd1
          rw [ef]
          show (match lookD q.1 q.2 z with | some w => eqv w1 w | none => false) = _
          rw [hq]
        rw [ek]
        obtain ⟨t1, c1⟩ := toD_dp (Γ := Γ) w1 x1 p1 rw1
        obtain ⟨t2, c2⟩ := toD_dp (Γ := Γ) w2 x2 q1 rw2
        rw [← hK] at t1 t2
        obtain ⟨as, e1⟩ := Dp.reads I _ x1 v t1 rx1
        obtain ⟨bs, e2⟩ := Dp.reads I _ x2 y t2 hy
        refine .leaf fun A hA => ?_
        rw [← toD_eqv w1 w2 p1 q1]
        refine SeqAt.eqAt_reads (toD w1) (toD w2) A s v y as bs e1 e2 c1 c2 ?_
        have : min (toD w1).depth (toD w2).depth ≤ 40 := by
          rw [toD_dep]
          exact Nat.le_trans (Nat.min_le_left _ _) (by omega)
        omega
  have er : (vs1.length == vs2.length && vs1.all fun p' => (PySem.valueAt vs2 p'.1).isSome && eqK p q p'.1) = dEqv p q := by
    have l1 : vs1.length = p.1.length := by
      have := congrArg List.length (kvl kv1)
      rw [List.length_map, dkz_keys (hl.trans rr.len), List.length_map] at this
      exact this
    have l2 : vs2.length = q.1.length := by
      have := congrArg List.length (kvl kv2)
      rw [List.length_map, dkz_keys (hl2.trans rr2.len), List.length_map] at this
      exact this
    have k1 : vs1.map (·.1) = (p.1.zip p.2).map fun kw => keyV kw.1 := by
      rw [kvl kv1, dkz_keys (hl.trans rr.len), show (fun kw : Ky × W => keyV kw.1) = keyV ∘ Prod.fst from rfl, ← List.map_map, List.map_fst_zip (by omega)]
    unfold dEqv
    rw [l1, l2]
    congr 1
    have e1 : (vs1.all fun p' => (PySem.valueAt vs2 p'.1).isSome && eqK p q p'.1) = (vs1.map (·.1)).all fun k => (PySem.valueAt vs2 k).isSome && eqK p q k := by rw [List.all_map]; rfl
    rw [e1, k1, List.all_map]
    have nd : ((p.1.zip p.2).map fun kw => keyV kw.1).Nodup := by rw [← k1]; exact nd1
    refine all_congr fun kw hm => ?_
    show ((PySem.valueAt vs2 (keyV kw.1)).isSome && eqK p q (keyV kw.1)) = _
    have ef : (p.1.zip p.2).find? (fun x => decide (keyV x.1 = keyV kw.1)) = some kw := find_nodup (g := fun kw => keyV kw.1) nd hm rfl
    have ek : eqK p q (keyV kw.1) = (match lookD q.1 q.2 kw.1 with | some w => eqv kw.2 w | none => false) := by
      unfold eqK
      rw [ef]
    rw [ek]
    obtain ⟨g1, g2⟩ := dkz_val (Γ := Γ) kw.1 hl2 rr2
    have hy := kv2.val (keyV kw.1)
    cases hq : lookD q.1 q.2 kw.1 with
    | none => simp
    | some w2 =>
      obtain ⟨x2, h1, _⟩ := g1 w2 hq
      rw [h1] at hy
      cases hv : PySem.valueAt vs2 (keyV kw.1) with
      | none => rw [hv] at hy; exact hy.elim
      | some _ => simp
  by_cases hab : a = b
  · subst hab; exact .same
  · have r := PySem.W.EqTree.dicts (prog := X.prog) (w := X.w) (s := s) (n := 41) hab ma mb da db (e := eqK p q) t
    rw [er, ht] at r
    exact r
def rDNe (Γ : Gm) : R2 := fun v u H Q => ∃ x y S QW, rep Γ S H x v ∧ rep Γ S H y u ∧ SR Γ S H ∧ wDNe x y S QW ∧ KQ Γ S H QW Q
theorem hitsOf {K : Type} [DecidableEq K] {A : Around} {s : Shared} {kb : List (K × Value)} {e : K → Bool} : ∀ (r : List (K × Value)), (∀ k v y, (k, v) ∈ r → PySem.valueAt kb k = some y → SeqAt.EqAt A s v y (e k)) → PySem.W.KeqHits A s kb r (r.all fun p => (PySem.valueAt kb p.1).isSome && e p.1) := by
  intro r
  induction r with
  | nil => intro _; exact .nil
  | cons f r ih =>
    intro h
    obtain ⟨k, v⟩ := f
    have step := ih fun k' v' y' a b => h k' v' y' (List.mem_cons_of_mem _ a) b
    rw [List.all_cons]
    cases hv : PySem.valueAt kb k with
    | none => exact .miss hv
    | some y => exact .hit hv (h k v y List.mem_cons_self hv) step
theorem op_dEq (hK : X.K = Γ.K) (hu : X.A.units + 64 < cLine) : OpR X (compareOp .Eq) (rDEq Γ) := by
  intro pins s σ H v u v' u' Q I rx ry h
  obtain ⟨x, y, S, QW, r1, r2, sr, h, k⟩ := h
  unfold wDEq at h
  split at h
  · rename_i p ep
    split at h
    · rename_i q eq
      obtain ⟨d1, d2, dd, h⟩ := h
      obtain ⟨a, vs, rfl, ha, hl, rr⟩ := dic_rep ep r1 sr
      obtain ⟨b, us, rfl, hb, hl2, rr2⟩ := dic_rep eq r2 sr
      cases rx
      cases ry
      obtain ⟨_, ma, vs1, kv1, da⟩ := dk_rd I.hok (.inl ha)
      obtain ⟨_, mb, vs2, kv2, db⟩ := dk_rd I.hok (.inl hb)
      obtain ⟨_, _, _, _, _, _, _, _, nd1⟩ := id da
      obtain ⟨_, _, _, _, _, _, _, _, nd2⟩ := id db
      refine PySem.W.eq_dictsT (n := 41) ma mb da db (e := eqK p q) ?_ (by omega) ?_
      · intro k v y hm hv
        obtain ⟨x1, m1, rx1⟩ := kvp kv1 hm
        obtain ⟨z, w1, ez, mz, rw1⟩ := dkz_mem hl rr m1
        have hy := kv2.val k
        rw [hv] at hy
        cases hx2 : valV (dkz q.1 us) k with
        | none => rw [hx2] at hy; exact hy.elim
        | some x2 =>
          rw [hx2] at hy
          have hy : RelV x2 y := hy
          obtain ⟨g1, g2⟩ := dkz_val (Γ := Γ) z hl2 rr2
          cases hq : lookD q.1 q.2 z with
          | none => have := g2 hq; rw [ez, hx2] at this; cases this
          | some w2 =>
            obtain ⟨x2', h1, rw2⟩ := g1 w2 hq
            rw [ez, hx2] at h1
            cases h1
            obtain ⟨p1, p2⟩ := zip_data d1 z w1 mz
            obtain ⟨q1, q2⟩ := zip_data d2 z w2 (look_mem hq)
            have ek : eqK p q k = eqv w1 w2 := by
              unfold eqK
              have ef : (p.1.zip p.2).find? (fun kw => decide (keyV kw.1 = k)) = some (z, w1) := by
                refine find_nodup (g := fun kw => keyV kw.1) ?_ mz ez
                have e1 := kvl kv1
                rw [e1, dkz_keys (hl.trans rr.len)] at nd1
                have : (p.1.zip p.2).map (fun kw => keyV kw.1) = p.1.map keyV := by
                  rw [show (fun kw : Ky × W => keyV kw.1) = keyV ∘ Prod.fst from rfl, ← List.map_map, List.map_fst_zip (by omega)]
                rw [this]; exact nd1
              rw [ef]
              show (match lookD q.1 q.2 z with | some w => eqv w1 w | none => false) = _
              rw [hq]
            rw [ek]
            obtain ⟨t1, c1⟩ := toD_dp (Γ := Γ) w1 x1 p1 rw1
            obtain ⟨t2, c2⟩ := toD_dp (Γ := Γ) w2 x2 q1 rw2
            rw [← hK] at t1 t2
            obtain ⟨as, e1⟩ := Dp.reads I _ x1 v t1 rx1
            obtain ⟨bs, e2⟩ := Dp.reads I _ x2 y t2 hy
            refine .leaf fun A hA => ?_
            rw [← toD_eqv w1 w2 p1 q1]
            refine SeqAt.eqAt_reads (toD w1) (toD w2) A s v y as bs e1 e2 c1 c2 ?_
            have : min (toD w1).depth (toD w2).depth ≤ 40 := by
              rw [toD_dep]
              exact Nat.le_trans (Nat.min_le_left _ _) (by omega)
            omega
      · have er : (vs1.length == vs2.length && vs1.all fun p' => (PySem.valueAt vs2 p'.1).isSome && eqK p q p'.1) = dEqv p q := by
          have l1 : vs1.length = p.1.length := by
            have := congrArg List.length (kvl kv1)
            rw [List.length_map, dkz_keys (hl.trans rr.len), List.length_map] at this
            exact this
          have l2 : vs2.length = q.1.length := by
            have := congrArg List.length (kvl kv2)
            rw [List.length_map, dkz_keys (hl2.trans rr2.len), List.length_map] at this
            exact this
          have k1 : vs1.map (·.1) = (p.1.zip p.2).map fun kw => keyV kw.1 := by
            rw [kvl kv1, dkz_keys (hl.trans rr.len), show (fun kw : Ky × W => keyV kw.1) = keyV ∘ Prod.fst from rfl, ← List.map_map, List.map_fst_zip (by omega)]
          unfold dEqv
          rw [l1, l2]
          congr 1
          have e1 : (vs1.all fun p' => (PySem.valueAt vs2 p'.1).isSome && eqK p q p'.1) = (vs1.map (·.1)).all fun k => (PySem.valueAt vs2 k).isSome && eqK p q k := by rw [List.all_map]; rfl
          rw [e1, k1, List.all_map]
          have nd : ((p.1.zip p.2).map fun kw => keyV kw.1).Nodup := by rw [← k1]; exact nd1
          refine all_congr fun kw hm => ?_
          show ((PySem.valueAt vs2 (keyV kw.1)).isSome && eqK p q (keyV kw.1)) = _
          have ef : (p.1.zip p.2).find? (fun x => decide (keyV x.1 = keyV kw.1)) = some kw := find_nodup (g := fun kw => keyV kw.1) nd hm rfl
          have ek : eqK p q (keyV kw.1) = (match lookD q.1 q.2 kw.1 with | some w => eqv kw.2 w | none => false) := by
            unfold eqK
            rw [ef]
          rw [ek]
          obtain ⟨g1, g2⟩ := dkz_val (Γ := Γ) kw.1 hl2 rr2
          have hy := kv2.val (keyV kw.1)
          cases hq : lookD q.1 q.2 kw.1 with
          | none => simp
          | some w2 =>
            obtain ⟨x2, h1, _⟩ := g1 w2 hq
            rw [h1] at hy
            cases hv : PySem.valueAt vs2 (keyV kw.1) with
            | none => rw [hv] at hy; exact hy.elim
            | some _ => simp
        rw [er]
        exact ⟨.bl _, H, I, rfl, k.here sr (w := .bl _) rfl h⟩
    · exact h.elim
  · split at h
    · rename_i x1 x2 y1 y2 _
      obtain ⟨h1, h2, q⟩ := h
      obtain ⟨a, vs, rfl, ha, v1, vr1, rfl, ra1, v2, vr2, rfl, ra2, rfl⟩ := r1
      obtain ⟨b, us, rfl, hb, u1, ur1, rfl, rb1, u2, ur2, rfl, rb2, rfl⟩ := r2
      cases rx
      cases ry
      have sa := ha.sq
      have sb := hb.sq
      rw [← hK] at sa sb
      obtain ⟨its, rv, pl, _⟩ := I.tuple sa
      obtain ⟨its2, rv2, pl2, _⟩ := I.tuple sb
      cases rv with
      | cons g1 rv => cases rv with
        | cons g2 rv => cases rv with
          | nil => cases rv2 with
            | cons f1 rv2 => cases rv2 with
              | cons f2 rv2 => cases rv2 with
                | nil =>
                  have mk : ∀ {x y : W} {v v' : V} {u u' : Value}, wDPr S x y → rep Γ S H x v → rep Γ S H y v' → RelV v u → RelV v' u' → PySem.W.EqTree X.prog X.w s 42 u u' true := fun {x y v v' u u'} h r1 r2 rx ry => by
                    unfold wDPr at h
                    split at h
                    · rename_i p ep
                      split at h
                      · rename_i q eq
                        exact dTree hK hu I ep eq r1 r2 sr rx ry h.1 h.2.1 h.2.2.1 h.2.2.2
                      · exact h.elim
                    · exact h.elim
                  refine PySem.W.eq_tuplesT (n := 42) (e := fun _ => true) pl pl2 (fun j h3 h4 => ?_) (by omega) ?_
                  · match j, h3, h4 with
                    | 0, _, _ => exact mk h1 ra1 rb1 g1 f1
                    | 1, _, _ => exact mk h2 ra2 rb2 g2 f2
                    | j + 2, h3, _ => simp at h3; omega
                  · exact ⟨.bl _, H, I, rfl, k.here sr (w := .bl _) rfl q⟩
    · exact h.elim
theorem s_dEq (xo : XO Γ G C N sc Wx X) {x y : Expr} {a b : E} {pos : Pos} (pa : PE X x (tE Γ C Wx a)) (pb : PE X y (tE Γ C Wx b)) (ny : ∀ es k p, y ≠ .Set es k p) : PE X (.Compare x [.Eq] [y] pos) (tE Γ C Wx (.dEq a b)) := by
  refine PEimp (pe_cmpR (op_dEq xo.hK xo.un) pa pb (nomark' (o := .eq) ny)) fun σ H Q ⟨env, S, QW, XW, he, hs, h, k, kx⟩ => ?_
  simp only [wE] at h
  exact two_of he hs h kx fun x y S2 v u H2 r1 r2 s2 f2 q => ⟨x, y, S2, QW, r1, r2, s2, q, k.fr f2⟩
theorem t_dEq (xo : XO Γ G C N sc Wx X) {x y : Expr} {a b : E} {pos : Pos} (pa : PE X x (tE Γ C Wx a)) (pb : PE X y (tE Γ C Wx b)) (ny : ∀ es k p, y ≠ .Set es k p) : PT X (.Compare x [.Eq] [y] pos) (tT Γ C Wx (.dEq a b)) := by
  refine PTimp (pt_cmpR (op_dEq xo.hK xo.un) pa pb (nomark' (o := .eq) ny)) fun σ H Q ⟨env, S, QW, XW, he, hs, h, k, kx⟩ => ?_
  simp only [wE] at h
  exact two_of he hs h kx fun x y S2 v u H2 r1 r2 s2 f2 q => ⟨x, y, S2, QW, r1, r2, s2, q, (KB.q k).fr f2⟩
theorem op_dNe (hK : X.K = Γ.K) (hu : X.A.units + 64 < cLine) : OpR X (compareOp .NotEq) (rDNe Γ) := by
  intro pins s σ H v u v' u' Q I rx ry h
  obtain ⟨x, y, S, QW, r1, r2, sr, h, k⟩ := h
  unfold wDNe at h
  split at h
  · rename_i p ep
    split at h
    · rename_i q eq
      obtain ⟨d1, d2, dd, h⟩ := h
      obtain ⟨a, vs, rfl, ha, hl, rr⟩ := dic_rep ep r1 sr
      obtain ⟨b, us, rfl, hb, hl2, rr2⟩ := dic_rep eq r2 sr
      cases rx
      cases ry
      obtain ⟨_, ma, vs1, kv1, da⟩ := dk_rd I.hok (.inl ha)
      obtain ⟨_, mb, vs2, kv2, db⟩ := dk_rd I.hok (.inl hb)
      obtain ⟨_, _, _, _, _, _, _, _, nd1⟩ := id da
      obtain ⟨_, _, _, _, _, _, _, _, nd2⟩ := id db
      refine PySem.W.keq_ne ma mb da db (by omega) (r := vs1.all fun p' => (PySem.valueAt vs2 p'.1).isSome && eqK p q p'.1) (fun _ => hitsOf (e := eqK p q) _ ?_) ?_
      · intro k v y hm hv
        obtain ⟨x1, m1, rx1⟩ := kvp kv1 hm
        obtain ⟨z, w1, ez, mz, rw1⟩ := dkz_mem hl rr m1
        have hy := kv2.val k
        rw [hv] at hy
        cases hx2 : valV (dkz q.1 us) k with
        | none => rw [hx2] at hy; exact hy.elim
        | some x2 =>
          rw [hx2] at hy
          have hy : RelV x2 y := hy
          obtain ⟨g1, g2⟩ := dkz_val (Γ := Γ) z hl2 rr2
          cases hq : lookD q.1 q.2 z with
          | none => have := g2 hq; rw [ez, hx2] at this; cases this
          | some w2 =>
            obtain ⟨x2', h1, rw2⟩ := g1 w2 hq
            rw [ez, hx2] at h1
            cases h1
            obtain ⟨p1, p2⟩ := zip_data d1 z w1 mz
            obtain ⟨q1, q2⟩ := zip_data d2 z w2 (look_mem hq)
            have ek : eqK p q k = eqv w1 w2 := by
              unfold eqK
              have ef : (p.1.zip p.2).find? (fun kw => decide (keyV kw.1 = k)) = some (z, w1) := by
                refine find_nodup (g := fun kw => keyV kw.1) ?_ mz ez
                have e1 := kvl kv1
                rw [e1, dkz_keys (hl.trans rr.len)] at nd1
                have : (p.1.zip p.2).map (fun kw => keyV kw.1) = p.1.map keyV := by
                  rw [show (fun kw : Ky × W => keyV kw.1) = keyV ∘ Prod.fst from rfl, ← List.map_map, List.map_fst_zip (by omega)]
                rw [this]; exact nd1
              rw [ef]
              show (match lookD q.1 q.2 z with | some w => eqv w1 w | none => false) = _
              rw [hq]
            rw [ek]
            obtain ⟨t1, c1⟩ := toD_dp (Γ := Γ) w1 x1 p1 rw1
            obtain ⟨t2, c2⟩ := toD_dp (Γ := Γ) w2 x2 q1 rw2
            rw [← hK] at t1 t2
            obtain ⟨as, e1⟩ := Dp.reads I _ x1 v t1 rx1
            obtain ⟨bs, e2⟩ := Dp.reads I _ x2 y t2 hy
            have hA : X.A.in1.units + 41 < cLine := by show X.A.units + 1 + 41 < cLine; omega
            rw [← toD_eqv w1 w2 p1 q1]
            refine SeqAt.eqAt_reads (toD w1) (toD w2) X.A.in1 s v y as bs e1 e2 c1 c2 ?_
            have : min (toD w1).depth (toD w2).depth ≤ 40 := by
              rw [toD_dep]
              exact Nat.le_trans (Nat.min_le_left _ _) (by omega)
            omega
      · have er : (vs1.length == vs2.length && vs1.all fun p' => (PySem.valueAt vs2 p'.1).isSome && eqK p q p'.1) = dEqv p q := by
          have l1 : vs1.length = p.1.length := by
            have := congrArg List.length (kvl kv1)
            rw [List.length_map, dkz_keys (hl.trans rr.len), List.length_map] at this
            exact this
          have l2 : vs2.length = q.1.length := by
            have := congrArg List.length (kvl kv2)
            rw [List.length_map, dkz_keys (hl2.trans rr2.len), List.length_map] at this
            exact this
          have k1 : vs1.map (·.1) = (p.1.zip p.2).map fun kw => keyV kw.1 := by
            rw [kvl kv1, dkz_keys (hl.trans rr.len), show (fun kw : Ky × W => keyV kw.1) = keyV ∘ Prod.fst from rfl, ← List.map_map, List.map_fst_zip (by omega)]
          unfold dEqv
          rw [l1, l2]
          congr 1
          have e1 : (vs1.all fun p' => (PySem.valueAt vs2 p'.1).isSome && eqK p q p'.1) = (vs1.map (·.1)).all fun k => (PySem.valueAt vs2 k).isSome && eqK p q k := by rw [List.all_map]; rfl
          rw [e1, k1, List.all_map]
          have nd : ((p.1.zip p.2).map fun kw => keyV kw.1).Nodup := by rw [← k1]; exact nd1
          refine all_congr fun kw hm => ?_
          show ((PySem.valueAt vs2 (keyV kw.1)).isSome && eqK p q (keyV kw.1)) = _
          have ef : (p.1.zip p.2).find? (fun x => decide (keyV x.1 = keyV kw.1)) = some kw := find_nodup (g := fun kw => keyV kw.1) nd hm rfl
          have ek : eqK p q (keyV kw.1) = (match lookD q.1 q.2 kw.1 with | some w => eqv kw.2 w | none => false) := by
            unfold eqK
            rw [ef]
          rw [ek]
          obtain ⟨g1, g2⟩ := dkz_val (Γ := Γ) kw.1 hl2 rr2
          have hy := kv2.val (keyV kw.1)
          cases hq : lookD q.1 q.2 kw.1 with
          | none => simp
          | some w2 =>
            obtain ⟨x2, h1, _⟩ := g1 w2 hq
            rw [h1] at hy
            cases hv : PySem.valueAt vs2 (keyV kw.1) with
            | none => rw [hv] at hy; exact hy.elim
            | some _ => simp
        rw [er]
        exact ⟨.bl _, H, I, rfl, k.here sr (w := .bl _) rfl h⟩
    · exact h.elim
  · exact h.elim
theorem s_dNe (xo : XO Γ G C N sc Wx X) {x y : Expr} {a b : E} {pos : Pos} (pa : PE X x (tE Γ C Wx a)) (pb : PE X y (tE Γ C Wx b)) (ny : ∀ es k p, y ≠ .Set es k p) : PE X (.Compare x [.NotEq] [y] pos) (tE Γ C Wx (.dNe a b)) := by
  refine PEimp (pe_cmpR (op_dNe xo.hK xo.un) pa pb (nomark' (o := .ne) ny)) fun σ H Q ⟨env, S, QW, XW, he, hs, h, k, kx⟩ => ?_
  simp only [wE] at h
  exact two_of he hs h kx fun x y S2 v u H2 r1 r2 s2 f2 q => ⟨x, y, S2, QW, r1, r2, s2, q, k.fr f2⟩
theorem t_dNe (xo : XO Γ G C N sc Wx X) {x y : Expr} {a b : E} {pos : Pos} (pa : PE X x (tE Γ C Wx a)) (pb : PE X y (tE Γ C Wx b)) (ny : ∀ es k p, y ≠ .Set es k p) : PT X (.Compare x [.NotEq] [y] pos) (tT Γ C Wx (.dNe a b)) := by
  refine PTimp (pt_cmpR (op_dNe xo.hK xo.un) pa pb (nomark' (o := .ne) ny)) fun σ H Q ⟨env, S, QW, XW, he, hs, h, k, kx⟩ => ?_
  simp only [wE] at h
  exact two_of he hs h kx fun x y S2 v u H2 r1 r2 s2 f2 q => ⟨x, y, S2, QW, r1, r2, s2, q, (KB.q k).fr f2⟩
end
end Bw

/-! Ev12e: a dict's keys, those alone whose value is a given one: the dict is locked meanwhile. -/
namespace Bw
open PySem L2 PySem.Spec PyProof.Rows
abbrev S0 : Sto := fun _ => none
section
variable {Γ : Gm} {S : Sto} {H H' : Hp} {d : Addr} {kvs : List (Key × V)}
theorem rd_mv (hd : H d = some (.dK kvs)) (f : ∀ b o, S b = none → H b = some o → b ≠ d → H' b = some o) {a : Addr} {u : HO} (hu : ∀ kvs, u ≠ .dK kvs) (h : S a = none ∧ Rd H a u) : S0 a = none ∧ Rd H' a u := by
  obtain ⟨h0, h | ⟨o, h⟩⟩ := h
  · have n : a ≠ d := fun z => by rw [z, hd] at h; cases h; exact hu _ rfl
    exact ⟨rfl, .inl (f a _ h0 h n)⟩
  · have n : a ≠ d := fun z => by rw [z, hd] at h; cases h
    exact ⟨rfl, .inr ⟨o, f a _ h0 h n⟩⟩
mutual
theorem data_mv (hd : H d = some (.dK kvs)) (f : ∀ b o, S b = none → H b = some o → b ≠ d → H' b = some o) : ∀ (w : W) (v : V), dataW w = true → rep Γ S H w v → rep Γ S0 H' w v
  | .non, _, _, h => h
  | .bl _, _, _, h => h
  | .int _, _, _, h => h
  | .str _, _, _, h => h
  | .tup ws, v, t, ⟨a, vs, e, q, r⟩ => ⟨a, vs, e, q.imp (rd_mv hd f (fun _ z => by cases z)) id, datas_mv hd f ws vs t r⟩
  | .rl ws, v, t, ⟨a, vs, e, q, r⟩ => ⟨a, vs, e, ⟨rfl, f a _ q.1 q.2 (fun z => by have := q.2; rw [z, hd] at this; cases this)⟩, datas_mv hd f ws vs t r⟩
  | .sc ws, v, t, ⟨a, vs, e, q, r⟩ => ⟨a, vs, e, q.imp (rd_mv hd f (fun _ z => by cases z)) id, datas_mv hd f ws vs t r⟩
  | .ref _, _, t, _ => by simp [dataW] at t
  | .fn _, _, t, _ => by simp [dataW] at t
  | .dct _ _, _, t, _ => by simp [dataW] at t
  | .obj _ _ _, _, t, _ => by simp [dataW] at t
  | .exn _ _ _, _, t, _ => by simp [dataW] at t
theorem datas_mv (hd : H d = some (.dK kvs)) (f : ∀ b o, S b = none → H b = some o → b ≠ d → H' b = some o) : ∀ (ws : List W) (vs : List V), dataWs ws = true → reps Γ S H ws vs → reps Γ S0 H' ws vs
  | [], _, _, h => h
  | w :: ws, vs, t, ⟨v, r, e, q, q2⟩ => by
    simp only [dataWs, Bool.and_eq_true] at t
    exact ⟨v, r, e, data_mv hd f w v t.1 q, datas_mv hd f ws r t.2 q2⟩
end
end
section
variable {Γ : Gm} {G : GT} {C : CT} {N : List Str} {sc : Scope} {Wx : WX} {X : Cx}
theorem chV_of (xo : XO Γ G C N sc Wx X) {e : Expr} {i : Nat} (h : chV N sc e i = true) : PE X e (tVar i) ∧ (∃ x p, e = .Name x p) := by
  unfold chV at h
  split at h
  · simp only [Bool.and_eq_true] at h
    obtain ⟨d1, d2, _⟩ := dbg_of h.2
    exact ⟨pe_var (by rw [xo.hN]; exact of_decide_eq_true h.1.1) (xo.vis h.1.2) d1 d2, _, _, rfl⟩
  · cases h
theorem kV_ky : ∀ {k : Ky}, okKy k = true → ∀ {S : Sto} {H : Hp}, rep Γ S H (kyW k) (kV (keyV k))
  | .inl i, _, _, _ => rfl
  | .inr z, h, _, _ => ⟨rfl, h⟩
theorem ks_get {ks : List Ky} {vs : List V} {i : Nat} {k : Key} {v : V} (h : (dkz ks vs)[i]? = some (k, v)) : ∃ y, ks[i]? = some y ∧ k = keyV y := by
  unfold dkz at h
  rw [List.getElem?_map] at h
  cases e : (ks.zip vs)[i]? with
  | none => rw [e] at h; cases h
  | some p =>
    rw [e] at h
    cases h
    exact ⟨p.1, (List.getElem?_zip_eq_some.mp (show (ks.zip vs)[i]? = some (p.1, p.2) from e)).1, rfl⟩
/-- the reading: keys that a test lets through; b: what the test says of the key at a place -/
theorem keys_of {own : List Nat} {kk : Nat} {σ : L2.St} {H : Hp} {Q : VK} {d : Addr} {ks : List Ky} {vs : List V} {od : Obj} {φ : Ky → Bool} {td : TE} {tt : TT} {te : TE} (hown : own = [kk])
    (hlen : ks.length = vs.length) (hz : ks.length ≤ sizeLine)
    (hd : H d = some (.frz od (.dK (dkz ks vs)))) (htd : ∀ R : VK, R (.ref d) H → td σ H R)
    (ht : ∀ (k : Ky) (j : Nat) (σ2 : L2.St) (H2 : Hp) (P : Bool → Hp → Prop), ks[j]? = some k → σ2 = (wipe σ own).set kk (some (kV (keyV k))) → (∀ b o, H b = some o → H2 b = some o) → (∀ H3, (∀ b o, H2 b = some o → H3 b = some o) → P (φ k) H3) → tt σ2 H2 P)
    (he : ∀ (k : Ky) (σ2 : L2.St) (H2 : Hp) (P : VK), σ2 = (wipe σ own).set kk (some (kV (keyV k))) → kk < σ.length → P (kV (keyV k)) H2 → te σ2 H2 P) (hkk : kk < σ.length)
    (q : ∀ D H', H D = none → (∀ b o, H b = some o → H' b = some o) → H' D = some (.lst ((ks.filter φ).map fun k => kV (keyV k))) → Q (.ref D) H') : tLc (iKeys td) (gName kk) tt te own σ H Q := by
  subst hown
  refine htd _ ⟨d, od, rfl, .inl ⟨_, hd, fun D hD => ?_⟩⟩
  have nd : d ≠ D := fun z => by rw [z, hD] at hd; cases hd
  have ln : (dkz ks vs).length = ks.length := dkz_len hlen
  refine ⟨fun i m H' => m = ks.length - i ∧ i ≤ ks.length ∧ (∀ b o, H b = some o → H' b = some o) ∧ H' D = some (.lst (((ks.take i).filter φ).map fun k => kV (keyV k))), ⟨ks.length, rfl, Nat.zero_le _, fun b o h => by rw [upd_ne (ne_of_none h hD)]; exact h, by rw [upd_same]; rfl⟩, ?_⟩
  rintro i m H' ⟨rfl, hi, hk, hl⟩
  by_cases hlt : i < ks.length
  · right
    refine ⟨⟨hk d _ hd, by rw [ln]; exact hlt⟩, fun H' => i + 1 ≤ ks.length ∧ (∀ b o, H b = some o → H' b = some o) ∧ H' D = some (.lst (((ks.take (i + 1)).filter φ).map fun k => kV (keyV k))), fun H2 hn => ⟨ks.length - (i + 1), by omega, rfl, hn.1, hn.2.1, hn.2.2⟩, ?_⟩
    rintro x H2 ⟨rfl, k0, v, e0, rfl⟩
    obtain ⟨k, ek, rfl⟩ := ks_get e0
    show (_ ∧ _)
    have et : ks.take (i + 1) = ks.take i ++ [k] := by rw [List.take_succ, ek]; rfl
    have fe : ((ks.take (i + 1)).filter φ) = (ks.take i).filter φ ++ (if φ k = true then [k] else []) := by
      rw [et, List.filter_append]
      congr 1
      simp only [List.filter_cons, List.filter_nil]
    refine ⟨?_, ht k i _ _ _ ek rfl hk fun H3 h3 => ?_⟩
    · refine List.ext_getElem? fun j => ?_
      rw [wipe_get, List.getElem?_set]
      by_cases hj : j = kk
      · subst hj
        rw [if_pos (by simp), if_pos rfl, wipe_length]
        by_cases hl : j < σ.length
        · rw [if_pos hl, wipe_get, if_pos (by simp), List.getElem?_eq_getElem hl]; rfl
        · rw [if_neg hl, wipe_get, if_pos (by simp), List.getElem?_eq_none (by omega)]
      · rw [if_neg (by simp [hj]), if_neg (fun z => hj z.symm)]
    · by_cases hp : φ k = true
      · rw [if_pos hp]
        refine he k _ _ _ rfl hkk ?_
        have h3l := h3 D _ hl
        refine ⟨_, h3l, ?_, hlt, fun b o h => ?_, ?_⟩
        · rw [List.length_map]
          have := List.length_filter_le φ (ks.take i)
          rw [List.length_take] at this
          omega
        · rw [upd_ne (ne_of_none h hD)]; exact h3 b o (hk b o h)
        · rw [upd_same, fe, if_pos hp, List.map_append]; rfl
      · rw [if_neg hp]
        refine ⟨hlt, fun b o h => h3 b o (hk b o h), ?_⟩
        rw [fe, if_neg hp, List.append_nil]
        exact h3 D _ hl
  · left
    have e : i = ks.length := by omega
    subst e
    rw [List.take_of_length_le (Nat.le_refl _)] at hl
    exact ⟨⟨hk d _ hd, by rw [ln]; exact Nat.le_refl _⟩, q D H' hD hk hl⟩
/-- behind the lock -/
theorem unlock {S : Sto} {H H' : Hp} {d D : Addr} {kvs : List (Key × V)} {od : Obj} {QW : VQ} {Q : VK} {ws : List W} {vs : List V} (hS : S d = none) (hd : H d = some (.dK kvs)) (hs : SR Γ S H) (k : KQ Γ S H QW Q) (hD : (upd H d (.frz od (.dK kvs))) D = none)
    (hk : ∀ b o, (upd H d (.frz od (.dK kvs))) b = some o → H' b = some o) (hl : H' D = some (.lst vs)) (hr : ∀ S H, reps Γ S H ws vs) (q : QW (.rl ws) S) : H' d = some (.frz od (.dK kvs)) ∧ Q (.ref D) (upd H' d (.dK kvs)) := by
  have e1 : H' d = some (.frz od (.dK kvs)) := hk d _ upd_same
  have hDn : D ≠ d := fun z => by rw [z, upd_same] at hD; cases hD
  rw [upd_ne hDn] at hD
  have keep : ∀ a o, H a = some o → (upd H' d (.dK kvs)) a = some o := fun a o h => by
    by_cases n : a = d
    · subst n; rw [hd] at h; cases h; exact upd_same
    · rw [upd_ne n]; exact hk a o (by rw [upd_ne n]; exact h)
  have fr : Fr S H S (upd H' d (.dK kvs)) := ⟨fun a o h1 h2 => ⟨h1, keep a o h2⟩, fun a o h1 h2 => ⟨h1, keep a o h2⟩⟩
  have s2 : SR Γ S (upd H' d (.dK kvs)) := hs.step fr fun a o e => by
    have := (hs a o e).there
    cases h : H a with
    | none => exact absurd h this
    | some u => exact .inl ⟨e, by rw [keep a u h]⟩
  exact ⟨e1, k (.rl ws) S (.ref D) _ ⟨D, vs, rfl, ⟨hs.nil hD, by rw [upd_ne hDn]; exact hl⟩, hr _ _⟩ s2 fr q⟩
theorem reps_ky {φ : Ky → Bool} : ∀ {ks : List Ky}, ks.all okKy = true → ∀ S H, reps Γ S H ((ks.filter φ).map kyW) ((ks.filter φ).map fun k => kV (keyV k))
  | [], _, _, _ => rfl
  | k :: ks, h, S, H => by
    rw [List.all_cons, Bool.and_eq_true] at h
    have ih := reps_ky (φ := φ) h.2 S H
    rw [List.filter_cons]
    split
    · exact ⟨_, _, rfl, kV_ky h.1, ih⟩
    · exact ih
/-- what a comprehension's rule asks, held under a lock on the dict walked -/
structure LkOk (Γ : Gm) (C : CT) (N : List Str) (Wx : WX) (X : Cx) (scope : Scope) (tg0 iter0 : Expr) (ifs0 : List Expr) (elt0 : Expr) (k : Nat) (ee : E) (wi : TI) (gg : TG) (tt : TT) (te : TE) : Prop where
  i : PI X tg0 iter0 wi
  b : BlkOk X.N X.env.scope scope (ownOf N [k])
  g : ∀ (s : Shared) (H : Hp) (Ca : Addr) (cl : List (Str × Addr)) (fp : List Addr), PG (X.blk s H scope (compEnvC scope cl Ca X.env) fp) tg0 gg
  t : ∀ (s : Shared) (H : Hp) (Ca : Addr) (cl : List (Str × Addr)) (fp : List Addr), PTs (X.blk s H scope (compEnvC scope cl Ca X.env) fp) ifs0 tt
  e : ∀ (s : Shared) (H : Hp) (Ca : Addr) (cl : List (Str × Addr)) (fp : List Addr), PE (X.blk s H scope (compEnvC scope cl Ca X.env) fp) elt0 te
  s : ∀ x, foldedSetIterable iter0 X.env x = pure x
  m : ∀ σ H Q, tE Γ C Wx ee σ H Q → tLockE (tLc wi gg tt te ((ownOf N [k]).map (·.2))) σ H Q
theorem keys_all (xo : XO Γ G C N sc Wx X) {scope : Scope} {tg0 iter0 elt0 : Expr} {i k : Nat} (h1 : (ownOf N [k]).map (·.2) = [k]) (h2 : blkC N sc scope (ownOf N [k]) = true) (h3 : chNm N scope tg0 k = true) (hik : i ≠ k) (h4 : chV N sc iter0 i = true) (h5 : chV N (relS scope sc) elt0 k = true) :
    ∃ wi g tt te, LkOk Γ C N Wx X scope tg0 iter0 [] elt0 k (.keysOf i k) wi g tt te := by
  obtain ⟨pi, xi, p1, ei⟩ := chV_of xo h4
  have hb : BlkOk X.N X.env.scope scope (ownOf N [k]) := by rw [xo.hN, xo.hsc]; exact blkOk_by h2
  refine ⟨_, gName k, fun σ H Q => Q true H, tVar k, pi_keys pi, hb, fun s H Ca cl fp => ?_, fun s H Ca cl fp => pts_nil, fun s H Ca cl fp => (chV_of (xo.blk s H scope cl Ca fp) h5).1, fold_ok (by rw [ei]; rfl), fun σ H Q ⟨env, S, QW, XW, he, hs, h, k', kx⟩ => ?_⟩
  · obtain ⟨x, p, rfl, q1, q2, q3⟩ := nm_of (X := X.blk s H scope (compEnvC scope cl Ca X.env) fp) xo.hN blk_loc h3
    exact pg_name (by show X.N.Nodup; rw [xo.hN]; exact xo.nd) q1 q2 q3
  simp only [wE] at h
  obtain ⟨hlt, h⟩ := h
  obtain ⟨w, e1, h⟩ := wVar_el h
  obtain ⟨v, e2, r⟩ := he.2 i w e1
  cases w with
  | dct ks ws =>
    obtain ⟨hok, hz, q⟩ := h
    obtain ⟨a, vs, rfl, ⟨hS, hd⟩, hl, rr⟩ := r
    refine ⟨a, _, hd, trivial, fun od => ?_⟩
    rw [h1]
    have hσ : k < σ.length := by rw [← he.1]; exact hlt
    refine keys_of (φ := fun _ => true) (kk := k) rfl (hl.trans rr.len) hz upd_same (fun R r => ⟨_, e2, r⟩) (fun ky j σ2 H2 P _ _ _ hp => hp H2 fun b o h => h) (fun ky σ2 H2 P e hlt2 hp => ?_) hσ fun D H' hD hk' hl' => ?_
    · subst e
      refine ⟨_, ?_, hp⟩
      rw [List.getElem?_set_self (by rw [wipe_length]; exact hlt2)]
    · have hr := reps_ky (Γ := Γ) (φ := fun _ => true) hok
      exact unlock hS hd hs k' hD hk' hl' hr (by rw [List.filter_eq_self.mpr (fun _ _ => rfl)]; exact q)
  | _ => exact h.elim
/-- a dict's value at a key, held against another value -/
theorem fits_all (xo : XO Γ G C N sc Wx X) {scope : Scope} {tg0 iter0 elt0 d0 x0 y0 : Expr} {i j k : Nat} {p1 p2 : Pos} (h1 : (ownOf N [k]).map (·.2) = [k]) (h2 : blkC N sc scope (ownOf N [k]) = true) (h3 : chNm N scope tg0 k = true) (hik : i ≠ k) (hjk : j ≠ k)
    (h4 : chV N sc iter0 i = true) (h5 : chV N (relS scope sc) d0 i = true) (h6 : chV N (relS scope sc) x0 k = true) (h7 : chV N (relS scope sc) y0 j = true) (h8 : chV N (relS scope sc) elt0 k = true) :
    ∃ wi g tt te, LkOk Γ C N Wx X scope tg0 iter0 [.Compare (.Subscript d0 x0 p1) [.Eq] [y0] p2] elt0 k (.fits i j k) wi g tt te := by
  obtain ⟨pi, xi, q1, ei⟩ := chV_of xo h4
  have hb : BlkOk X.N X.env.scope scope (ownOf N [k]) := by rw [xo.hN, xo.hsc]; exact blkOk_by h2
  have hx0 : ∃ x p, x0 = .Name x p := by
    unfold chV at h6
    split at h6
    · exact ⟨_, _, rfl⟩
    · cases h6
  have hy0 : ∃ x p, y0 = .Name x p := by
    unfold chV at h7
    split at h7
    · exact ⟨_, _, rfl⟩
    · cases h7
  obtain ⟨xx, px, rfl⟩ := hx0
  obtain ⟨yy, py, rfl⟩ := hy0
  refine ⟨_, gName k, tTest (tOp (rC Γ .eq) (tDGet (tVar i) (tVar k)) (tVar j)), tVar k, pi_keys pi, hb, fun s H Ca cl fp => ?_, fun s H Ca cl fp => pts_one ?_, fun s H Ca cl fp => (chV_of (xo.blk s H scope cl Ca fp) h8).1, fold_ok (by rw [ei]; rfl), fun σ H Q ⟨env, S, QW, XW, he, hs, h, k', kx⟩ => ?_⟩
  · obtain ⟨x, p, rfl, q1, q2, q3⟩ := nm_of (X := X.blk s H scope (compEnvC scope cl Ca X.env) fp) xo.hN blk_loc h3
    exact pg_name (by show X.N.Nodup; rw [xo.hN]; exact xo.nd) q1 q2 q3
  · have xb := xo.blk s H scope cl Ca fp
    refine pt_cmpR (op_C xb.hK xb.un .eq) (pe_dget (by have := xb.un; omega) (chV_of xb h5).1 (chV_of xb h6).1 (fun _ _ => rfl)) (chV_of xb h7).1 (nomark' (o := .eq) (fun _ _ _ z => by cases z))
  simp only [wE] at h
  obtain ⟨hlt, h⟩ := h
  obtain ⟨w, e1, h⟩ := wVar_el h
  obtain ⟨y, f1, h⟩ := wVar_el h
  obtain ⟨v, e2, r⟩ := he.2 i w e1
  obtain ⟨u, f2, ry⟩ := he.2 j y f1
  cases w with
  | dct ks ws =>
    obtain ⟨dw, dy, dep, hok, hz, q⟩ := h
    obtain ⟨a, vs, rfl, ⟨hS, hd⟩, hl, rr⟩ := r
    refine ⟨a, _, hd, trivial, fun od => ?_⟩
    rw [h1]
    have hσ : k < σ.length := by rw [← he.1]; exact hlt
    refine keys_of (φ := fitB ks ws y) (kk := k) rfl (hl.trans rr.len) hz upd_same (fun R r => ⟨_, e2, r⟩) (fun ky jj σ2 H2 P ek e hk' hp => ?_) (fun ky σ2 H2 P e hlt2 hp => ?_) hσ fun D H' hD hk' hl' => ?_
    · subst e
      have gi : ((wipe σ [k]).set k (some (kV (keyV ky))))[i]? = some (some (.ref a)) := by
        rw [List.getElem?_set_ne (fun z => hik z.symm), wipe_get, if_neg (by simp [hik]), e2]
      have gj : ((wipe σ [k]).set k (some (kV (keyV ky))))[j]? = some (some u) := by
        rw [List.getElem?_set_ne (fun z => hjk z.symm), wipe_get, if_neg (by simp [hjk]), f2]
      have gk : ((wipe σ [k]).set k (some (kV (keyV ky))))[k]? = some (some (kV (keyV ky))) := by
        rw [List.getElem?_set_self (by rw [wipe_length]; exact hσ)]
      have mv : ∀ b o, S b = none → H b = some o → b ≠ a → H2 b = some o := fun b o h1 h2 n => hk' b o (by rw [upd_ne n]; exact h2)
      have hd2 : H2 a = some (.frz od (.dK (dkz ks vs))) := hk' a _ upd_same
      obtain ⟨g1, g2⟩ := dkz_val (Γ := Γ) ky hl rr
      have hkm : ky ∈ ks := List.mem_of_getElem? ek
      cases hq : lookD ks ws ky with
      | none =>
        exfalso
        have : ∀ (ks : List Ky) (ws : List W), ks.length = ws.length → ky ∈ ks → lookD ks ws ky ≠ none := fun ks => by
          induction ks with
          | nil => intro ws _ hm; cases hm
          | cons z r ih =>
            intro ws hl hm
            cases ws with
            | nil => simp at hl
            | cons w ws =>
              unfold lookD
              split
              · intro z; cases z
              · rename_i hne
                rcases List.mem_cons.mp hm with e | hm
                · exact absurd e.symm hne
                · exact ih ws (by simpa using hl) hm
        exact this ks ws hl hkm hq
      | some w =>
        obtain ⟨x, hx, rw1⟩ := g1 w hq
        obtain ⟨z1, z2⟩ := zip_data dw ky w (look_mem hq)
        have r1 := data_mv (H' := H2) hd mv w x z1 rw1
        have r2 := data_mv (H' := H2) hd mv y u dy ry
        refine ⟨_, gi, _, gk, a, x, rfl, .inl ⟨_, _, .inr ⟨od, hd2⟩, rfl, hx.symm⟩, _, gj, w, y, S0, fun b S' => b = .bl (fitB ks ws y ky), r1, r2, (fun b o z => by cases z), ?_, fun b S' v H3 rb s3 f3 e => ?_⟩
        · have e0 : ∀ w : W, dataW w = true → deref S0 w = w := fun w h => by
            cases w with
            | ref b => simp [dataW] at h
            | _ => rfl
          simp only [wCmp]
          unfold wEq
          rw [e0 w z1, e0 y dy]
          refine ⟨z1, dy, by omega, ?_⟩
          unfold fitB
          rw [hq]
          simp
        · subst e
          cases rb
          exact ⟨_, rfl, hp H3 fun b o h => (f3.1 b o rfl h).2⟩
    · subst e
      refine ⟨_, ?_, hp⟩
      rw [List.getElem?_set_self (by rw [wipe_length]; exact hlt2)]
    · have hr := reps_ky (Γ := Γ) (φ := fitB ks ws y) hok
      exact unlock hS hd hs k' hD hk' hl' hr q
  | _ => exact h.elim
theorem s_lk (xo : XO Γ G C N sc Wx X) (nh : G.hot = false) {scope : Scope} {tg0 iter0 elt0 : Expr} {ifs0 : List Expr} {k : Nat} {pos : Pos} {e : E} (h : ∃ wi g tt te, LkOk Γ C N Wx X scope tg0 iter0 ifs0 elt0 k e wi g tt te) :
    PE X (.ListComp elt0 [⟨tg0, iter0, ifs0, 0⟩] scope pos) (tE Γ C Wx e) := by
  obtain ⟨wi, g, tt, te, l⟩ := h
  exact PEimp (pe_lock (pe_lc (own := ownOf N [k]) (xo.calm nh) (by rw [xo.hN]; exact xo.nd) l.i l.b l.g l.t l.e l.s)) l.m
end
end Bw

/-! Ev12f: isinstance of several classes, texts' methods, slices with a step. -/
namespace Bw
open PySem L2 PySem.Spec PyProof.Rows
section
variable {Γ : Gm} {S : Sto} {H : Hp}
theorem isi_tyA {x : W} {v : V} {t0 : Ty} {b0 : Bool} (h0 : isiW t0 S x = some b0) (r : rep Γ S H x v) (s : SR Γ S H) : ∃ T, TyX Γ.K H v T ∧ ∀ t b, isiW t S x = some b → PySem.W.kitOne Γ.K T (.type (tyN t)) = some b := by
  unfold isiW at h0
  have kl : ∀ (t : Ty), kitB "list" (tyN t) = some (t == .list) := fun t => by cases t <;> decide +kernel
  have kd : ∀ (t : Ty), kitB "dict" (tyN t) = some (t == .dict) := fun t => by cases t <;> decide +kernel
  have ki : ∀ {C : Addr} (_ : InsC Γ.K C) (t : Ty), PySem.W.kitOne Γ.K (.ref C) (.type (tyN t)) = some false := fun k t => k.kt _ (by cases t <;> simp [tyN, tyAll])
  have kt : ∀ (t : Ty), kitB "tuple" (tyN t) = some (t == .tuple) := fun t => by cases t <;> decide +kernel
  cases x with
  | non => cases r; exact ⟨_, .base .non, fun t b h => by unfold isiW at h; cases h; exact kit_ty (by cases t <;> decide +kernel)⟩
  | bl y => cases r; exact ⟨_, .base (.bl y), fun t b h => by unfold isiW at h; cases h; exact kit_ty (by cases t <;> decide +kernel)⟩
  | int y => cases r; exact ⟨_, .base (.int y), fun t b h => by unfold isiW at h; cases h; exact kit_ty (by cases t <;> decide +kernel)⟩
  | str y => obtain ⟨rfl, _⟩ := r; exact ⟨_, .base (.str _), fun t b h => by unfold isiW at h; cases h; exact kit_ty (by cases t <;> decide +kernel)⟩
  | tup ws =>
    obtain ⟨a, vs, rfl, q, _⟩ := r
    have fin : ∀ t b, isiW t S (.tup ws) = some b → PySem.W.kitOne Γ.K (.type "tuple") (.type (tyN t)) = some b := fun t b h => by unfold isiW at h; cases h; exact kit_ty (kt t)
    rcases q with ⟨_, q | ⟨o, q⟩⟩ | ⟨o, its, n, q1, q2, _⟩
    · exact ⟨_, .base (.tup q), fin⟩
    · exact ⟨_, .fTuple q, fin⟩
    · exact ⟨_, .kTuple q1 q2, fin⟩
  | rl ws =>
    obtain ⟨a, vs, rfl, q, _⟩ := r
    exact ⟨_, .base (.lst q.2), fun t b h => by unfold isiW at h; cases h; exact kit_ty (kl t)⟩
  | sc ws =>
    obtain ⟨a, vs, rfl, q, _⟩ := r
    have fin : ∀ t b, isiW t S (.sc ws) = some b → PySem.W.kitOne Γ.K (.type "list") (.type (tyN t)) = some b := fun t b h => by unfold isiW at h; cases h; exact kit_ty (kl t)
    rcases q with ⟨_, q | ⟨o, q⟩⟩ | ⟨o, its, n, q1, q2, _⟩
    · exact ⟨_, .base (.lst q), fin⟩
    · exact ⟨_, .base (.frz q), fin⟩
    · exact ⟨_, .kList q1 q2, fin⟩
  | ref a =>
    cases r
    rw [deref_ref] at h0
    cases q : S a with
    | none => simp only [q] at h0; cases h0
    | some o =>
      cases o with
      | lst us =>
        obtain ⟨vs, h1, _⟩ := s a _ q
        exact ⟨_, .base (.lst h1), fun t b h => by unfold isiW at h; rw [deref_ref, q] at h; cases h; exact kit_ty (kl t)⟩
      | dic _ _ =>
        obtain ⟨vs, h1, _⟩ := s a _ q
        exact ⟨_, .base (.dK h1), fun t b h => by unfold isiW at h; rw [deref_ref] at h; simp only [q] at h; cases h; exact kit_ty (kd t)⟩
      | ins _ _ _ =>
        obtain ⟨dx, vs, h1, ⟨_, k, _⟩, _⟩ := s a _ q
        exact ⟨_, .base (.ins h1 k.cl k.ha k.hn k.ht k.hm), fun t b h => by unfold isiW at h; rw [deref_ref] at h; simp only [q] at h; cases h; exact ki k t⟩
      | hid => simp only [q] at h0; cases h0
  | fn _ => cases h0
  | dct _ _ =>
    obtain ⟨a, vs, rfl, q, _⟩ := r
    exact ⟨_, .base (.dK q.2), fun t b h => by unfold isiW at h; cases h; exact kit_ty (kd t)⟩
  | obj _ _ _ =>
    obtain ⟨a, dx, vs, rfl, q, ⟨_, k, _⟩, _⟩ := r
    exact ⟨_, .base (.ins q.2 k.cl k.ha k.hn k.ht k.hm), fun t b h => by unfold isiW at h; cases h; exact ki k t⟩
  | exn _ _ _ => cases h0
theorem isiL_any {T : Value} {x : W} (k : ∀ t b, isiW t S x = some b → PySem.W.kitOne Γ.K T (.type (tyN t)) = some b) : ∀ {ts : List Ty} {b : Bool}, isiLW ts S x = some b → PySem.W.kitAny Γ.K T (ts.map fun t => Value.type (tyN t)) = some b
  | [], b, h => by cases h; exact kitAny_nil
  | t :: ts, b, h => by
    unfold isiLW at h
    cases e : isiW t S x with
    | none => rw [e] at h; cases h
    | some c =>
      rw [e] at h
      have h : (if c = true then some true else isiLW ts S x) = some b := h
      refine kitAny_cons (k t c e) (fun z => ?_) fun z => ?_
      · subst z; rw [if_neg (by decide)] at h; exact isiL_any k h
      · subst z; rw [if_pos rfl] at h; cases h; rfl
theorem tys_pair : ∀ ts : List Ty, Paired ClsV (ts.map fun t => V.ty (tyN t)) (ts.map fun t => Value.type (tyN t))
  | [] => .nil
  | t :: ts => .cons (.ty _) (tys_pair ts)
theorem isiL_head {ts : List Ty} {x : W} {b : Bool} (hne : ts ≠ []) (h : isiLW ts S x = some b) : ∃ t c, isiW t S x = some c := by
  cases ts with
  | nil => exact absurd rfl hne
  | cons t ts =>
    unfold isiLW at h
    cases e : isiW t S x with
    | none => rw [e] at h; cases h
    | some c => exact ⟨t, c, e⟩
theorem isCL_any {c : Nat} {C : Value} {K : PySem.W.Frag} : ∀ {l : List (List Nat × List Nat)} {Ds : List Value} {b : Bool}, isCLc c l = some b → l.length = Ds.length →
    (∀ (i : Nat) (p : List Nat × List Nat) (D : Value), l[i]? = some p → Ds[i]? = some D → (c ∈ p.1 → PySem.W.kitOne K C D = some true) ∧ (c ∈ p.2 → PySem.W.kitOne K C D = some false)) → PySem.W.kitAny K C Ds = some b
  | [], [], b, h, _, _ => by cases h; exact kitAny_nil
  | [], _ :: _, b, h, q, _ => by cases q
  | _ :: _, [], b, h, q, _ => by cases q
  | p :: l, D :: Ds, b, h, q, k => by
    have k0 := k 0 p D rfl rfl
    unfold isCLc at h
    by_cases e : c ∈ p.1
    · rw [if_pos e] at h
      cases h
      exact kitAny_cons (k0.1 e) (fun z => by cases z) fun _ => rfl
    · rw [if_neg e] at h
      by_cases e2 : c ∈ p.2
      · rw [if_pos e2] at h
        exact kitAny_cons (k0.2 e2) (fun _ => isCL_any h (by simpa using q) fun i p' D' h1 h2 => k (i + 1) p' D' (by simpa using h1) (by simpa using h2)) fun z => by cases z
      · rw [if_neg e2] at h; cases h
end
section
variable {X : Cx}
/-- isinstance(e, (A, B, ..)), e a caught exception -/
def rIsXT (K : PySem.W.Frag) : List V → Hp → VK → Prop := fun xs H Q => ∃ (a tp C : Addr) (d : Option Addr) (cs : List V) (us : List Value) (b : Bool), xs = [.ref a, .ref tp] ∧ H tp = some (.tup cs) ∧ Paired ClsV cs us ∧ Q (.bl b) H ∧
  H a = some (ExT (.ref C) d a) ∧ (∀ dd, d = some dd → ∃ fs, H dd = some (.xd fs)) ∧ XisC K C ∧ PySem.W.kitAny K (.ref C) us = some b
theorem call_isXT : CallR X (.builtin "isinstance") (rIsXT X.K) := by
  intro pins s σ H xs us Q I r h
  obtain ⟨a, tp, C, d, cs, ws, b, rfl, hT, k, q, ea, hd, T, e⟩ := h
  obtain ⟨u1, u2, rfl, r1, r2⟩ := vals2 r
  obtain rfl : u1 = Value.ref a := r1
  cases (show u2 = Value.ref tp from r2)
  obtain ⟨_, its, rv, o, h1, h2, n, h3⟩ := (show ObjOk X.prog X.w H s.heap tp (.tup cs) from I.hok tp _ hT)
  have e3 := ClsV.all k rv
  subst e3
  obtain ⟨oc, od, dt, sl⟩ := o
  simp only at h2 h3
  subst h2 h3
  have J : ∃ ob od, PySem.W.InstAt s.heap a ob C od := by
    cases d with
    | none =>
      obtain ⟨ob, J⟩ := ext_inst I ea none trivial
      exact ⟨ob, none, J⟩
    | some dd =>
      obtain ⟨fs, ed⟩ := hd dd rfl
      obtain ⟨mA, hns, hr⟩ := (show ObjOk X.prog X.w H s.heap dd (.xd fs) from I.hok dd _ ed)
      obtain ⟨od, ho, hl⟩ := lookIn_ns hns
      obtain ⟨ob, J⟩ := ext_inst I ea (some od) ho
      exact ⟨ob, some od, J⟩
  obtain ⟨ob, od, J⟩ := J
  have hc : (PySem.W.clsIn X.K C).isSome = true := by
    obtain ⟨cd, hc, _⟩ := PySem.W.any_some T.xf.hdC
    rw [hc]; rfl
  exact PySem.W.kia_tup (PySem.W.kitx_exc hc T.xf.ga T.xf.gg T.xf.exC T.ha T.hn T.ht T.hm) I.kIn J h1 e (fun z => nomatch z) fun tk => ⟨.bl b, H, I.tok tk, rfl, q⟩
/-! ### xs[lo:hi:st] -/
def rSlL3 (K : PySem.W.Frag) : V → Option Int → Option Int → Option Int → Hp → VK → Prop := fun x lo hi st H Q => ∃ a xs, x = .ref a ∧ SqL K H a xs ∧ st ≠ some 0 ∧
  ∀ p, H p = none → Q (.ref p) (upd H p (.lst ((sliceRange (sliceBounds lo hi st xs.length).1 (sliceBounds lo hi st xs.length).2.1 (sliceBounds lo hi st xs.length).2.2).filterMap (xs[·]?))))
theorem vals_get : ∀ {xs : List V} {us : List Value} (i : Nat), Vals xs us → (∀ x, xs[i]? = some x → ∃ u, us[i]? = some u ∧ RelV x u) ∧ (xs[i]? = none → us[i]? = none)
  | _, _, i, .nil => ⟨fun x h => by simp at h, fun _ => by simp⟩
  | _, _, 0, .cons r _ => ⟨fun x h => by simp at h; subst h; exact ⟨_, rfl, r⟩, fun h => by simp at h⟩
  | _, _, i + 1, .cons _ t => by
    have := vals_get i t
    simpa using this
theorem vals_pick {xs : List V} {us : List Value} (r : Vals xs us) : ∀ l : List Nat, Vals (l.filterMap (xs[·]?)) (l.filterMap (us[·]?))
  | [] => .nil
  | i :: l => by
    obtain ⟨h1, h2⟩ := vals_get i r
    cases e : xs[i]? with
    | none => rw [List.filterMap_cons_none e, List.filterMap_cons_none (h2 e)]; exact vals_pick r l
    | some x =>
      obtain ⟨u, e2, ru⟩ := h1 x e
      rw [List.filterMap_cons_some e, List.filterMap_cons_some e2]
      exact .cons ru (vals_pick r l)
def tSl3 (r : V → Option Int → Option Int → Option Int → Hp → VK → Prop) (te : TE) (tl th ts : TO) : TE := fun σ H Q => te σ H fun x H1 => tl σ H1 fun l H2 => th σ H2 fun u H3 => ts σ H3 fun k H4 => r x l u k H4 Q
theorem pe_slice3 {e ke : Expr} {lo hi : Option Expr} {te : TE} {tl th ts : TO} {p2 pos : Pos} (he : PE X e te) (hl : PO X lo tl) (hu : PO X hi th) (hk : PO X (some ke) ts) : PE X (.Subscript e (.Slice lo hi (some ke) p2) pos) (tSl3 (rSlL3 X.K) te tl th ts) := by
  refine ⟨fun pins s σ H Q I h => ?_⟩
  refine Subscript_ (thn (he.run pins s σ H _ I h) fun v s1 ⟨x, H1, I1, r1, q1⟩ => ?_)
  refine wpAny_Slice (thn (hl.run pins s1 σ H1 _ I1 q1) fun vl s2 ⟨l, H2, I2, pl, q2⟩ => thn (hu.run pins s2 σ H2 _ I2 q2) fun vu s3 ⟨u, H3, I3, pu, q3⟩ => thn (hk.run pins s3 σ H3 _ I3 q3) fun vk s4 ⟨k, H4, I4, pk, q4⟩ => ?_)
  have I5 : Inv X pins σ H4 { s4 with heap := s4.heap.push { cls := .type "slice", data := .fields #[vl, vu, vk] } } := I4.kept (t' := s4.toks) fun b ob q => Heap.get?_push_of_some _ q
  obtain ⟨a, xs, rfl, hx, h0, q⟩ := q4
  cases r1
  obtain ⟨its, r, ht, hz⟩ := I5.list hx
  have hlen := r.length
  show wpAny (model X.prog X.w) X.A (subscriptTail e (.Slice lo hi (some ke) p2) (.ref a) (.ref s4.heap.objs.size)) (EP X pins σ Q) X.xe { s4 with heap := s4.heap.push { cls := .type "slice", data := .fields #[vl, vu, vk] } }
  refine tail_any (ops := [.ref a, .ref s4.heap.objs.size]) ht.isList.typeIs slot_list_getitem.lookup ?_ (by with_unfolding_all rfl)
  refine wpAny_getItem_list_slice ht.isList (Heap.IsSliceOf.new ..) pl pu pk h0 ?_ (by rw [List.size_toArray] <;> omega)
  have e1 : slicePick its.toArray l u k = ((sliceRange (sliceBounds l u k xs.length).1 (sliceBounds l u k xs.length).2.1 (sliceBounds l u k xs.length).2.2).filterMap (its[·]?)).toArray := by
    unfold slicePick
    rw [List.size_toArray, ← hlen]
    simp
  have hsz := slicePick_size_le its.toArray l u k
  rw [e1] at hsz ⊢
  have rr := vals_pick r (sliceRange (sliceBounds l u k xs.length).1 (sliceBounds l u k xs.length).2.1 (sliceBounds l u k xs.length).2.2)
  refine ⟨.ref _, _, I5.laid (t' := s4.toks) (o := .lst _) (fun b ob q => Heap.get?_push_of_some _ q) (Nat.le_refl _) ?_, rfl, q _ (I5.hok.fresh (Nat.le_refl _))⟩
  refine ⟨?_, _, 0, rr, Heap.get?_push_size _ rfl⟩
  rw [rr.length]
  simp only [List.size_toArray] at hsz
  omega
end
section
variable {Γ : Gm} {G : GT} {C : CT} {N : List Str} {sc : Scope} {Wx : WX} {X : Cx}
theorem pa_tys (xo : XO Γ G C N sc Wx X) : ∀ {es : List Expr} {ts : List Ty}, chL (chTy G sc) es ts = true → (∀ e ∈ es, noStar e = true) ∧ PA X es (fun σ H Q => Q (ts.map fun t => V.ty (tyN t)) H)
  | [], [], _ => ⟨by simp, PAimp pa_nil fun σ H Q h => h⟩
  | [], _ :: _, h => by simp [chL] at h
  | _ :: _, [], h => by simp [chL] at h
  | e :: es, t :: ts, h => by
    rw [chL, Bool.and_eq_true] at h
    obtain ⟨h1, h2⟩ := pa_tys xo h.2
    have h0 := h.1
    unfold chTy at h0
    split at h0
    · rename_i y p2
      obtain ⟨e2, g2, dd2, m2⟩ := bi_of h0
      subst e2
      obtain ⟨k1, k2, k3⟩ := dbg_of dd2
      have bt : bootBuiltins (tyS t) = some (.type (tyN t)) := by cases t <;> decide +kernel
      have pt : PE X (.Name (tyS t) p2) (tC (.ty (tyN t))) := pe_bltn (xo.glo g2) (xo.bi _ m2) bt rfl k3 k1
      refine ⟨fun x hx => ?_, PAimp (pa_cons pt h2 (star_cons rfl)) fun σ H Q q => ?_⟩
      · rcases List.mem_cons.mp hx with rfl | hx
        · rfl
        · exact h1 x hx
      · exact q
    · cases h0
theorem s_isiL (xo : XO Γ G C N sc Wx X) {f : Str} {ts : List Ty} {es : List Expr} {x : Expr} {a : E} {k : Nat} {p p2 pos : Pos} (h1 : biB G sc "isinstance" f = true) (hne : ts ≠ []) (hl : ts.length ≤ 9) (h2 : chL (chTy G sc) es ts = true) (hn : noStar x = true) (pa : PE X x (tE Γ C Wx a)) :
    PE X (.Call (.Name f p) [x, .Tuple es k p2] [] pos) (tE Γ C Wx (.isiL ts a)) := by
  obtain ⟨e1, g, d, m⟩ := bi_of h1
  subst e1
  obtain ⟨d1, d2, d3⟩ := dbg_of d
  have pt := pe_tup (x1 := k) (pos := p2) (pa_tys xo h2).2
  refine PEimp (pe_callB call_isiT (xo.glo g) (xo.bi _ m) boot_isinstance (pa_cons pa (pa_cons pt pa_nil rfl) (star_cons hn)) d3 d1 (star_cons hn) rfl) fun σ H Q ⟨env, S, QW, XW, he, hs, h, k, kx⟩ => ?_
  simp only [wE] at h
  refine ⟨env, S, _, XW, he, hs, h, fun x S1 v H1 r1 s1 f1 q1 => ?_, kx⟩
  obtain ⟨b, e, q1⟩ := wSome_el q1
  have sz : 9 ≤ sizeLine := by decide
  refine ⟨by rw [List.length_map]; omega, fun tp htp => ?_⟩
  have r2 := rep.fr (Fr.new (o := .tup (ts.map fun t => V.ty (tyN t))) htp) _ _ r1
  have s2 := s1.new (o := .tup (ts.map fun t => V.ty (tyN t))) htp
  obtain ⟨t0, c0, e0⟩ := isiL_head hne e
  obtain ⟨T, ty, kb⟩ := isi_tyA e0 r2 s2
  refine ⟨v, tp, _, T, ts.map (fun t => Value.type (tyN t)), b, rfl, upd_same, ?_, xo.hK ▸ ty, xo.hK ▸ isiL_any kb e, k (.bl b) S1 (.bl b) _ rfl s2 (f1.trans (Fr.new htp)) q1⟩
  exact tys_pair ts
theorem pa_cls (xo : XO Γ G C N sc Wx X) : ∀ {es : List Expr} {l : List (List Nat × List Nat)}, chL (chCl G sc) es l = true → ∃ (cs : List V) (Ds : List Value), PA X es (fun σ H Q => Q cs H) ∧ Paired ClsV cs Ds ∧ l.length = Ds.length ∧ cs.length = l.length ∧
    ∀ (i : Nat) (p : List Nat × List Nat) (D : Value), l[i]? = some p → Ds[i]? = some D → (∀ c ∈ p.1, PySem.W.kitOne X.K (.ref (Γ.ca c)) D = some true) ∧ (∀ c ∈ p.2, PySem.W.kitOne X.K (.ref (Γ.ca c)) D = some false)
  | [], [], _ => ⟨[], [], PAimp pa_nil fun σ H Q h => h, .nil, rfl, rfl, fun i p D h => by simp at h⟩
  | [], _ :: _, h => by simp [chL] at h
  | _ :: _, [], h => by simp [chL] at h
  | e :: es, q :: l, h => by
    rw [chL, Bool.and_eq_true] at h
    obtain ⟨cs, Ds, h1, h2, h3, h5, h4⟩ := pa_cls xo h.2
    have h0 := h.1
    unfold chCl at h0
    split at h0
    · rename_i y p2
      simp only [Bool.and_eq_true] at h0
      obtain ⟨⟨g1, g2⟩, g3⟩ := h0
      obtain ⟨k1, k2, k3⟩ := dbg_of g2
      obtain ⟨D, nm, hy, hno, ht⟩ := xo.isC y q.1 q.2 (of_decide_eq_true g3)
      have ⟨c, cv, pt⟩ : ∃ c, ClsV c D ∧ PE X (.Name y p2) (tC c) := by
        rcases nm with ⟨hm, b, rfl⟩ | ⟨hm, n, rfl, bt, _⟩
        · exact ⟨.ref b, .own b, pe_glob (v := .ref b) (xo.glo g1) hm rfl k1⟩
        · exact ⟨.ty n, .ty n, pe_bltn (xo.glo g1) hm bt rfl k3 k1⟩
      refine ⟨c :: cs, D :: Ds, PAimp (pa_cons pt h1 (star_cons rfl)) fun σ H Q q => q, .cons cv h2, by simpa using h3, by simpa using h5, fun i p D' e1 e2 => ?_⟩
      cases i with
      | zero =>
        simp at e1 e2
        subst e1 e2
        exact ⟨hy, hno⟩
      | succ i => exact h4 i p D' (by simpa using e1) (by simpa using e2)
    · cases h0
theorem s_isCL (xo : XO Γ G C N sc Wx X) {f : Str} {l : List (List Nat × List Nat)} {es : List Expr} {x : Expr} {a : E} {k : Nat} {p p2 pos : Pos} (h1 : biB G sc "isinstance" f = true) (hl : l.length ≤ 20) (h2 : chL (chCl G sc) es l = true) (hn : noStar x = true) (pa : PE X x (tE Γ C Wx a)) :
    PE X (.Call (.Name f p) [x, .Tuple es k p2] [] pos) (tE Γ C Wx (.isCL l a)) := by
  obtain ⟨e1, g, d, m⟩ := bi_of h1
  subst e1
  obtain ⟨d1, d2, d3⟩ := dbg_of d
  obtain ⟨cs, Ds, hp, pr, l1, l2, hk⟩ := pa_cls xo h2
  have pt := pe_tup (x1 := k) (pos := p2) hp
  refine PEimp (pe_callB call_isXT (xo.glo g) (xo.bi _ m) boot_isinstance (pa_cons pa (pa_cons pt pa_nil rfl) (star_cons hn)) d3 d1 (star_cons hn) rfl) fun σ H Q ⟨env, S, QW, XW, he, hs, h, k, kx⟩ => ?_
  simp only [wE] at h
  refine ⟨env, S, _, XW, he, hs, h, fun x S1 v H1 r1 s1 f1 q1 => ?_, kx⟩
  obtain ⟨b, e, qb⟩ := wSome_el q1
  have sz : 20 ≤ sizeLine := by decide
  refine ⟨by omega, fun tp htp => ?_⟩
  unfold isCLW at e
  split at e
  · rename_i c ks ws
    have r2 := rep.fr (Fr.new (o := .tup cs) htp) _ _ r1
    have s2 := s1.new (o := .tup cs) htp
    obtain ⟨a, dd, vs, rfl, q, xd, ⟨_, xc⟩, _⟩ := r2
    refine ⟨a, tp, Γ.ca c, dd, cs, Ds, b, rfl, upd_same, pr, k (.bl b) S1 (.bl b) _ rfl s2 (f1.trans (Fr.new htp)) qb, q.2, fun d0 e0 => ?_, by rw [xo.hK]; exact xc.1, isCL_any e l1 fun i p D h1 h2 => ?_⟩
    · rcases xd with ⟨_, e2⟩ | ⟨dd', e2, _, hd⟩
      · rw [e0] at e2; cases e2
      · rw [e0] at e2; cases e2; exact ⟨_, hd⟩
    · have := hk i p D h1 h2
      exact ⟨fun z => this.1 c z, fun z => this.2 c z⟩
  · cases e
/-! ### texts' methods, list.clear, list.insert -/
theorem okStr_mem {x : List Nat} : okStr x = true ↔ ∀ c ∈ x, c < 0x110000 := by
  unfold okStr
  simp
theorem spl_sub {U : List Nat} : ∀ (l : List Nat) (k : Nat) (acc p : List Nat), p ∈ TL.spl U k acc l → ∀ c ∈ p, c ∈ acc ∨ c ∈ l
  | [], k, acc, p, h, c, hc => by
    rw [TL.spl_nil] at h
    obtain rfl : p = acc := by simpa using h
    exact .inl hc
  | x :: r, 0, acc, p, h, c, hc => by
    unfold TL.spl at h
    split at h
    · rcases List.mem_cons.mp h with rfl | h
      · exact .inl hc
      · rcases spl_sub r _ _ p h c hc with h | h
        · cases h
        · exact .inr (List.mem_cons_of_mem _ h)
    · rcases spl_sub r _ _ p h c hc with h | h
      · rcases List.mem_append.mp h with h | h
        · exact .inl h
        · obtain rfl : c = x := by simpa using h
          exact .inr List.mem_cons_self
      · exact .inr (List.mem_cons_of_mem _ h)
  | x :: r, k + 1, acc, p, h, c, hc => by
    have h : p ∈ TL.spl U k acc r := h
    rcases spl_sub r _ _ p h c hc with h | h
    · exact .inl h
    · exact .inr (List.mem_cons_of_mem _ h)
theorem joinZ_L (z : List Nat) : ∀ zs : List (List Nat), joinZ z zs = TL.joinL z zs
  | [] => rfl
  | [_] => rfl
  | a :: b :: r => by
    show a ++ z ++ joinZ z (b :: r) = a ++ (z ++ TL.joinL z (b :: r))
    rw [joinZ_L z (b :: r), List.append_assoc]
theorem join_txt {z : List Nat} {zs : List (List Nat)} : Txt.join ⟨z.toArray⟩ (zs.map fun y => (⟨y.toArray⟩ : Str)) = ⟨(joinZ z zs).toArray⟩ := by
  rw [TL.join_eq]
  refine TL.ext_tl ?_
  rw [TL.tl_join, joinZ_L, List.map_map]
  show TL.joinL z (zs.map _) = _
  congr 1
  induction zs with
  | nil => rfl
  | cons a r ih => rw [List.map_cons, ih]; rfl
theorem okStr_join {z : List Nat} (hz : okStr z = true) : ∀ {zs : List (List Nat)}, (∀ y ∈ zs, okStr y = true) → okStr (joinZ z zs) = true
  | [], _ => rfl
  | [y], h => h y List.mem_cons_self
  | a :: b :: r, h => by
    show okStr (a ++ z ++ joinZ z (b :: r)) = true
    exact okStr_app (okStr_app (h a List.mem_cons_self) hz) (okStr_join hz fun y hy => h y (List.mem_cons_of_mem _ hy))
theorem strs_ok {S : Sto} {H : Hp} : ∀ {ws : List W} {vs : List V} {zs : List (List Nat)}, strsOf ws = some zs → reps Γ S H ws vs → ∀ y ∈ zs, okStr y = true
  | [], vs, zs, h, r => by cases h; simp
  | w :: ws, vs, zs, h, r => by
    obtain ⟨v, vs', rfl, r1, r2⟩ := r
    cases w with
    | str x =>
      simp only [strsOf] at h
      cases e : strsOf ws with
      | none => rw [e] at h; cases h
      | some zs' =>
        rw [e] at h
        cases h
        intro y hy
        rcases List.mem_cons.mp hy with rfl | hy
        · exact r1.2
        · exact strs_ok e r2 y hy
    | _ => cases h
theorem strs_reps {S : Sto} {H : Hp} : ∀ {zs : List (List Nat)}, (∀ y ∈ zs, okStr y = true) → reps Γ S H (zs.map W.str) (zs.map strV)
  | [], _ => rfl
  | z :: zs, h => ⟨_, _, rfl, ⟨rfl, h z List.mem_cons_self⟩, strs_reps fun y hy => h y (List.mem_cons_of_mem _ hy)⟩
theorem strV_map {zs : List (List Nat)} : zs.map strV = (zs.map fun y => (⟨y.toArray⟩ : Str)).map V.str := by
  rw [List.map_map]; rfl
theorem slen {x : List Nat} : (⟨x.toArray⟩ : Str).length = x.length := by simp [Str.length]
theorem mt_mebS {X : Cx} (hK : X.K = Γ.K) (m : MB) (hm : oldM m = false) : MtR X (idM m) (rMeb Γ m) := by
  cases m with
  | count | index | dget1 | dget2 | dcopy => cases hm
  | join =>
    refine MtRimp mt_join fun v us H Q ⟨x, ws, S, QW, r1, r2, s, h, k⟩ => ?_
    obtain ⟨y, rfl, h⟩ := w1_el h
    obtain ⟨z, rfl, h⟩ := wStr_el h
    obtain ⟨zs, e, h1, h2⟩ := wSome_el h
    obtain ⟨u, rfl, ru⟩ := r2.l1
    cases e1 : seqOf S y with
    | none => rw [e1] at e; cases e
    | some wl =>
      rw [e1] at e
      have e : strsOf wl = some zs := e
      obtain ⟨p, vs, rfl, hq, rr⟩ := seq_rep e1 ru s
      have ev := strs_vals e rr
      subst ev
      obtain ⟨rfl, okz⟩ := r1
      rw [strV_map, ← hK] at hq
      refine ⟨⟨z.toArray⟩, p, zs.map fun y => (⟨y.toArray⟩ : Str), rfl, rfl, hq, ?_, ?_⟩
      · rw [List.length_map, slen, List.map_map]
        refine Nat.le_trans (Nat.le_of_eq ?_) h1
        first | (congr 2; exact List.map_congr_left fun y _ => slen) | (congr 2)
      · rw [join_txt]
        exact k.here s (w := .str _) ⟨rfl, okStr_join okz (strs_ok e rr)⟩ h2
  | find =>
    refine MtRimp mt_find fun v us H Q ⟨x, ws, S, QW, r1, r2, s, h, k⟩ => ?_
    obtain ⟨y, rfl, h⟩ := w1_el h
    obtain ⟨z, rfl, h⟩ := wStr_el h
    obtain ⟨u, rfl, h⟩ := wStr_el h
    obtain ⟨u', rfl, ru⟩ := r2.l1
    obtain ⟨rfl, _⟩ := r1
    obtain ⟨rfl, _⟩ := ru
    exact ⟨_, _, rfl, rfl, k.here s (w := .int _) rfl h⟩
  | starts =>
    refine MtRimp mt_startswith fun v us H Q ⟨x, ws, S, QW, r1, r2, s, h, k⟩ => ?_
    obtain ⟨y, rfl, h⟩ := w1_el h
    obtain ⟨z, rfl, h⟩ := wStr_el h
    obtain ⟨u, rfl, h⟩ := wStr_el h
    obtain ⟨u', rfl, ru⟩ := r2.l1
    obtain ⟨rfl, _⟩ := r1
    obtain ⟨rfl, _⟩ := ru
    exact ⟨_, _, rfl, rfl, k.here s (w := .bl _) rfl h⟩
  | isdig =>
    refine MtRimp mt_isdigit fun v us H Q ⟨x, ws, S, QW, r1, r2, s, h, k⟩ => ?_
    obtain ⟨rfl, h⟩ := h
    obtain ⟨z, rfl, h⟩ := wStr_el h
    cases r2
    obtain ⟨rfl, _⟩ := r1
    exact ⟨_, rfl, rfl, trivial, k.here s (w := .bl _) rfl h⟩
  | split =>
    refine MtRimp mt_split fun v us H Q ⟨x, ws, S, QW, r1, r2, s, h, k⟩ => ?_
    obtain ⟨y, rfl, h⟩ := w1_el h
    obtain ⟨z, rfl, h⟩ := wStr_el h
    obtain ⟨u, rfl, hne, h256, hl, h⟩ := wStr_el h
    obtain ⟨u', rfl, ru⟩ := r2.l1
    obtain ⟨rfl, okz⟩ := r1
    obtain ⟨rfl, _⟩ := ru
    have hu : TL.tl ⟨u.toArray⟩ ≠ [] := hne
    have e1 := TL.split_spl ⟨z.toArray⟩ ⟨u.toArray⟩ hu (TL.kind_ok (by simpa using h256))
    have e2 : Txt.split ⟨z.toArray⟩ ⟨u.toArray⟩ = (TL.spl u 0 [] z).map fun y => (⟨y.toArray⟩ : Str) := by
      refine TL.map_tl_inj ?_
      rw [e1, List.map_map]
      show TL.spl u 0 [] z = _
      exact (List.map_id' _).symm.trans (List.map_congr_left fun y _ => rfl)
    refine ⟨_, _, rfl, rfl, ?_, by rw [slen]; exact hl, fun p hp => ?_⟩
    · rw [slen]
      cases u with
      | nil => exact absurd rfl hne
      | cons _ _ => rfl
    · rw [e2, ← strV_map]
      have rr : reps Γ S H ((TL.spl u 0 [] z).map W.str) ((TL.spl u 0 [] z).map strV) := strs_reps fun y hy => okStr_mem.mpr fun c hc => by
        rcases spl_sub z 0 [] y hy c hc with h | h
        · cases h
        · exact okStr_mem.mp okz c h
      exact k (.rl _) S (.ref p) _ ⟨p, _, rfl, ⟨s.nil hp, upd_same⟩, reps.fr (Fr.new hp) _ _ rr⟩ (s.new hp) (Fr.new hp) h
  | clear =>
    refine MtRimp mt_clear fun v us H Q ⟨x, ws, S, QW, r1, r2, s, h, k⟩ => ?_
    obtain ⟨rfl, h⟩ := h
    cases r2
    cases x with
    | ref b =>
      cases r1
      dsimp only at h
      split at h
      · rename_i us e2
        obtain ⟨vs2, h3, rr2⟩ := s b _ e2
        exact ⟨b, vs2, rfl, rfl, h3, k .non _ .non _ rfl (s.wrL e2 (show reps Γ S H [] [] from rfl)) (Fr.wr e2) h⟩
      · exact h.elim
    | _ => exact (show False from h).elim
  | insert =>
    refine MtRimp mt_insert fun v us H Q ⟨x, ws, S, QW, r1, r2, s, h, k⟩ => ?_
    unfold wMeb at h
    dsimp only at h
    split at h
    · rename_i i w
      cases x with
      | ref b =>
        cases r1
        dsimp only at h
        split at h
        · rename_i us e2
          obtain ⟨vs2, h3, rr2⟩ := s b _ e2
          obtain ⟨u, u2, rfl, ru, ru2⟩ := r2.l2
          cases ru
          refine ⟨b, vs2, i, u2, rfl, rfl, h3, by rw [← rr2.len]; exact h.1, h.2.1, h.2.2.1, ?_⟩
          refine k .non _ .non _ rfl (s.wrL e2 ?_) (Fr.wr e2) h.2.2.2
          exact ((rr2.take _).app (reps.one ru2)).app (rr2.drop _)
        · exact h.elim
      | _ => exact (show False from h).elim
    · exact h.elim
def tyM : MB → String
  | .clear => "list"
  | .insert => "list"
  | _ => "str"
theorem recv_tyS {X : Cx} (hK : X.K = Γ.K) {S : Sto} {H : Hp} {m : MB} {x : W} {v : V} (hm : oldM m = false) (h : recvOf m S x = true) (r : rep Γ S H x v) (s : SR Γ S H) : tyV X.K (tyM m) v H := by
  have L : (lstOf S x).isSome = true → tyV X.K "list" v H := fun h => by
    cases e : lstOf S x with
    | none => rw [e] at h; cases h
    | some ws =>
      obtain ⟨p, vs, rfl, hp, rr⟩ := lst_rep e r s
      exact .inl ⟨rfl, vs, SqL.of hp⟩
  cases m with
  | count | index | dget1 | dget2 | dcopy => cases hm
  | clear => exact L h
  | insert => exact L h
  | _ =>
    cases x with
    | str z => obtain ⟨rfl, _⟩ := r; rfl
    | _ => cases h
theorem s_mebS (xo : XO Γ G C N sc Wx X) {m : MB} (hm : oldM m = false) {o : Expr} {es : List Expr} {a : E} {es' : List E} {apos cpos : Pos} (h1 : plainO o = true) (h2 : (apos.endLine == cpos.line) = true) (hl : es.length = arM m) (hle : es.length = es'.length) (hn : es.all noStar = true) (pa : PE X o (tE Γ C Wx a)) (px : PA X es (tEs Γ C Wx es')) :
    PE X (.Call (.Attribute o (nameM m) apos) es [] cpos) (tE Γ C Wx (.meb m a es')) := by
  have hr := mt_mebS (Γ := Γ) xo.hK m hm
  have rt := fun (S : Sto) (H : Hp) (x : W) (v : V) (q : recvOf m S x = true) (r : rep Γ S H x v) (s : SR Γ S H) => recv_tyS (X := X) xo.hK hm q r s
  have go : ∀ σ H Q, tE Γ C Wx (.meb m a es') σ H Q → tBM X.K (tyM m) (rMeb Γ m) (tE Γ C Wx a) (tEs Γ C Wx es') σ H Q := fun σ H Q ⟨env, S, QW, XW, he, hs, h, k, kx⟩ => by
    simp only [wE] at h
    refine ⟨env, S, _, XW, he, hs, h, fun x S1 v H1 r1 s1 f1 q1 => ⟨rt S1 H1 x v q1.1 r1 s1, ?_⟩, kx⟩
    exact ⟨env, S1, _, XW, he.fr f1, s1, q1.2, fun ws S2 us H2 r2 s2 f2 q2 => ⟨x, ws, S2, QW, rep.fr f2 _ _ r1, r2, s2, q2, k.fr (f1.trans f2)⟩, kx.fr f1⟩
  have z0 : es = [] → ∀ σ H Q, tE Γ C Wx (.meb m a es') σ H Q → tBM0 X.K (tyM m) (rMeb Γ m) (tE Γ C Wx a) σ H Q := fun e0 σ H Q ⟨env, S, QW, XW, he, hs, h, k, kx⟩ => by
    simp only [wE] at h
    refine ⟨env, S, _, XW, he, hs, h, fun x S1 v H1 r1 s1 f1 q1 => ⟨rt S1 H1 x v q1.1 r1 s1, ?_⟩, kx⟩
    have q2 := q1.2
    subst e0
    cases es' with
    | nil =>
      simp only [wEs] at q2
      exact ⟨x, [], S1, QW, r1, rfl, s1, q2, k.fr f1⟩
    | cons e' es' => cases hle
  have one : arM m = 1 → ∃ e, es = [e] ∧ starEach [e] X.env = (false, eval e X.env) :: starEach [] X.env := fun e1 => by
    obtain ⟨e, rfl⟩ := List.length_eq_one_iff.mp (hl.trans e1)
    have n1 : noStar e = true := by simpa using hn
    exact ⟨e, rfl, star_cons n1⟩
  cases m with
  | count | index | dget1 | dget2 | dcopy => cases hm
  | join =>
    obtain ⟨e, rfl, sc1⟩ := one rfl
    exact PEimp (pe_bm PySem.F.plainAttrs_str PySem.F.slot_str_join PySem.F.type_str_join hr pa px (base_of h1) (by rw [sc1]; rfl) h2 sc1 rfl) go
  | find =>
    obtain ⟨e, rfl, sc1⟩ := one rfl
    exact PEimp (pe_bm PySem.F.plainAttrs_str PySem.F.slot_str_find PySem.F.type_str_find hr pa px (base_of h1) (by rw [sc1]; rfl) h2 sc1 rfl) go
  | starts =>
    obtain ⟨e, rfl, sc1⟩ := one rfl
    exact PEimp (pe_bm PySem.F.plainAttrs_str PySem.F.slot_str_startswith PySem.F.type_str_startswith hr pa px (base_of h1) (by rw [sc1]; rfl) h2 sc1 rfl) go
  | split =>
    obtain ⟨e, rfl, sc1⟩ := one rfl
    exact PEimp (pe_bm PySem.F.plainAttrs_str PySem.F.slot_str_split PySem.F.type_str_split hr pa px (base_of h1) (by rw [sc1]; rfl) h2 sc1 rfl) go
  | isdig =>
    obtain rfl := List.length_eq_zero_iff.mp hl
    exact PEimp (pe_bm0 PySem.F.plainAttrs_str PySem.F.slot_str_isdigit PySem.F.type_str_isdigit hr pa (base_of h1) h2) (z0 rfl)
  | clear =>
    obtain rfl := List.length_eq_zero_iff.mp hl
    exact PEimp (pe_bm0 PySem.F.plainAttrs_list PySem.F.slot_list_clear PySem.F.type_list_clear hr pa (base_of h1) h2) (z0 rfl)
  | insert =>
    obtain ⟨e, e2, rfl⟩ : ∃ e e2, es = [e, e2] := by
      match es, hl with
      | [e, e2], _ => exact ⟨e, e2, rfl⟩
    have n1 : noStar e = true ∧ noStar e2 = true := by simpa using hn
    have sc1 : starEach [e, e2] X.env = (false, eval e X.env) :: starEach [e2] X.env := star_cons n1.1
    have sc2 : starEach [e2] X.env = (false, eval e2 X.env) :: starEach [] X.env := star_cons n1.2
    exact PEimp (pe_bm PySem.F.plainAttrs_list PySem.F.slot_list_insert PySem.F.type_list_insert hr pa px (base_of h1) (by rw [sc1, sc2]; rfl) h2 sc1 (by rw [sc2]; rfl)) go
/-! ### slices with a step -/
theorem reps_pick {S : Sto} {H : Hp} {ws : List W} {vs : List V} (r : reps Γ S H ws vs) : ∀ l : List Nat, reps Γ S H (l.filterMap (ws[·]?)) (l.filterMap (vs[·]?))
  | [] => rfl
  | i :: l => by
    cases e : ws[i]? with
    | none =>
      have e2 : vs[i]? = none := by
        have := r.len
        rw [List.getElem?_eq_none_iff] at e ⊢
        omega
      rw [List.filterMap_cons_none e, List.filterMap_cons_none e2]; exact reps_pick r l
    | some w =>
      obtain ⟨u, e2, ru⟩ := r.get e
      rw [List.filterMap_cons_some e, List.filterMap_cons_some e2]
      exact ⟨_, _, rfl, ru, reps_pick r l⟩
theorem s_stp (xo : XO Γ G C N sc Wx X) {f : Expr → E → Bool} (hf : ∀ e e', f e e' = true → PE X e (tE Γ C Wx e')) {x k : Expr} {l h : Option Expr} {a st : E} {lo hi : List E} {fz : Bool} {p pos : Pos} (pa : PE X x (tE Γ C Wx a)) (pl : chO f l lo = true) (ph : chO f h hi = true) (pk : f k st = true) :
    PE X (.Subscript x (.Slice l h (some k) p) pos) (tE Γ C Wx (.stp fz a lo hi st)) := by
  refine PEimp (pe_slice3 pa (po_of hf pl) (po_of hf ph) (po_of (o := some k) (es := [st]) hf pk)) fun σ H Q ⟨env, S, QW, XW, he, hs, h, k, kx⟩ => ?_
  simp only [wE] at h
  refine ⟨env, S, _, XW, he, hs, h, fun x S1 v H1 r1 s1 f1 q1 => ?_, kx⟩
  dsimp only at q1
  refine ⟨env, S1, _, XW, he.fr f1, s1, q1, fun l S2 H2 s2 f2 q2 => ?_, kx.fr f1⟩
  cases e1 : optInt l with
  | none => rw [e1] at q2; exact absurd q2.1 (by simp)
  | some o1 =>
    refine ⟨o1, rfl, env, S2, _, XW, he.fr (f1.trans f2), s2, q2.2, fun h S3 H3 s3 f3 q3 => ?_, kx.fr (f1.trans f2)⟩
    cases e2 : optInt h with
    | none => rw [e2] at q3; exact absurd q3.1 (by simp)
    | some o2 =>
      refine ⟨o2, rfl, env, S3, (fun ks S4 => match ks with | [kk] => wStp fz x l h kk S4 QW | _ => False), XW, he.fr (f1.trans (f2.trans f3)), s3, ?_, fun ks S4 H4 s4 f4 q4 => ?_, kx.fr (f1.trans (f2.trans f3))⟩
      · simp only [wEs]
        exact q3.2
      · match ks, q4 with
        | [kk], q4 =>
        dsimp only at q4
        unfold wStp at q4
        rw [e1, e2] at q4
        split at q4
        · rename_i l' h' kv ee1 ee2
          cases ee1
          cases ee2
          obtain ⟨k0, q4⟩ := q4
          have r4 := rep.fr (f2.trans (f3.trans f4)) _ _ r1
          have kq := k.fr (f1.trans (f2.trans (f3.trans f4)))
          refine ⟨some kv, rfl, ?_⟩
          cases e5 : lstOf S4 x with
          | some ws =>
            rw [e5] at q4
            obtain ⟨pp, vs, rfl, hp, rr⟩ := lst_rep e5 r4 s4
            refine ⟨pp, vs, rfl, .inl (.inl hp), by simpa using k0, ?_⟩
            have := reps_pick rr (sliceRange (sliceBounds o1 o2 (some kv) ws.length).1 (sliceBounds o1 o2 (some kv) ws.length).2.1 (sliceBounds o1 o2 (some kv) ws.length).2.2)
            rw [← rr.len]
            exact mkL_ok q4 this s4 kq
          | none =>
            rw [e5] at q4
            cases x with
            | sc ws =>
              obtain ⟨pp, vs, rfl, hp, rr⟩ := r4
              refine ⟨pp, vs, rfl, xo.hK ▸ hp.sq, by simpa using k0, ?_⟩
              have := reps_pick rr (sliceRange (sliceBounds o1 o2 (some kv) ws.length).1 (sliceBounds o1 o2 (some kv) ws.length).2.1 (sliceBounds o1 o2 (some kv) ws.length).2.2)
              rw [← rr.len]
              exact mkL_ok q4 this s4 kq
            | _ => exact (show False from q4).elim
        · exact q4.elim
/-! ### D.get((a, b)) -/
theorem kys_rep {S : Sto} {H : Hp} : ∀ {ws : List W} {vs : List V} {k : List Ky}, kysOf ws = some k → reps Γ S H ws vs → vs = (k.map keyV).map kV
  | [], vs, k, h, r => by cases h; cases r; rfl
  | w :: ws, vs, k, h, r => by
    obtain ⟨v, vs', rfl, r1, r2⟩ := r
    simp only [kysOf] at h
    cases e : kyOf w with
    | none => rw [e] at h; cases h
    | some k0 =>
      rw [e] at h
      cases e2 : kysOf ws with
      | none => rw [e2] at h; cases h
      | some k' =>
        rw [e2] at h
        cases h
        rw [kys_rep e2 r2, List.map_cons, List.map_cons]
        congr 1
        cases w with
        | int i => cases e; exact r1
        | str z => cases e; exact r1.1
        | _ => cases e
theorem keyVs_inj : ∀ {a b : List Ky}, a.map keyV = b.map keyV → a = b
  | [], [], _ => rfl
  | [], _ :: _, h => by cases h
  | _ :: _, [], h => by cases h
  | x :: a, y :: b, h => by
    rw [List.map_cons, List.map_cons] at h
    injection h with h1 h2
    rw [keyV_inj h1, keyVs_inj h2]
theorem atKey_look : ∀ {kvs : List (List Ky × W)} {xs : List (List L2.Key × Addr × Value)} {k : List Ky}, xs.length = kvs.length → (∀ (i : Nat) (a : List Ky × W) (b : List L2.Key × Addr × Value), kvs[i]? = some a → xs[i]? = some b → b.1 = a.1.map keyV ∧ ∃ v, RelV v b.2.2 ∧ ∀ S H, rep Γ S H a.2 v) →
    (lookTT kvs k = none → atKey xs (k.map keyV) = none) ∧ ∀ w, lookTT kvs k = some w → ∃ q v, atKey xs (k.map keyV) = some q ∧ RelV v q.2 ∧ ∀ S H, rep Γ S H w v
  | [], [], k, _, _ => ⟨fun _ => rfl, fun w h => by cases h⟩
  | [], _ :: _, k, h, _ => by cases h
  | _ :: _, [], k, h, _ => by cases h
  | a :: kvs, b :: xs, k, hl, h => by
    obtain ⟨e1, v, rv, rr⟩ := h 0 a b rfl rfl
    have ih := atKey_look (kvs := kvs) (xs := xs) (k := k) (by simpa using hl) fun i a' b' h1 h2 => h (i + 1) a' b' (by simpa using h1) (by simpa using h2)
    unfold lookTT
    unfold atKey
    rw [List.find?_cons]
    by_cases e : a.1 = k
    · rw [if_pos e]
      have : decide (b.1 = k.map keyV) = true := decide_eq_true (by rw [e1, e])
      rw [this]
      exact ⟨fun z => (by cases z), fun w hw => (by cases hw; exact ⟨_, v, rfl, rv, rr⟩)⟩
    · rw [if_neg e]
      have : decide (b.1 = k.map keyV) = false := decide_eq_false (by rw [e1]; exact fun z => e (keyVs_inj z))
      rw [this]
      exact ih
theorem s_tabT (xo : XO Γ G C N sc Wx X) {x : Str} {es : List Expr} {kvs : List (List Ky × W)} {es' : List E} {k : Nat} {p p2 apos cpos : Pos} (h1 : gloB sc x = true) (h2 : nodbg x = true) (h3 : (apos.endLine == cpos.line) = true) (h4 : G.tabT.lookup x = some kvs) (pa : PA X es (tEs Γ C Wx es')) :
    PE X (.Call (.Attribute (.Name x p) "get" apos) [.Tuple es k p2] [] cpos) (tE Γ C Wx (.tabT kvs es')) := by
  obtain ⟨a, xs, hm, K, hl, hk⟩ := xo.tabT x kvs h4
  have hu : X.A.units + 1 < cLine := by have := xo.un; omega
  refine PEimp (pe_kgetT hu (xo.glo h1) hm (dbg_of h2).1 (xo.hK ▸ K) pa h3 (base_of rfl)) fun σ H Q ⟨env, S, QW, XW, he, hs, h, k, kx⟩ => ?_
  simp only [wE] at h
  refine ⟨env, S, _, XW, he, hs, h, fun ws S1 vs H1 r1 s1 f1 q1 => ⟨by rw [← r1.len]; exact q1.1, fun tp htp => ?_⟩, kx⟩
  obtain ⟨ky, ek, q1⟩ := wSome_el q1.2
  have ev := kys_rep ek r1
  subst ev
  have s2 := s1.new (o := .tup ((ky.map keyV).map kV)) htp
  obtain ⟨l1, l2⟩ := atKey_look (Γ := Γ) (k := ky) hl hk
  cases el : lookTT kvs ky with
  | none =>
    rw [el] at q1
    refine ⟨tp, ky.map keyV, rfl, upd_same, .non, ?_, k .non S1 .non _ rfl s2 (f1.trans (Fr.new htp)) q1⟩
    rw [l1 el]
  | some w =>
    rw [el] at q1
    obtain ⟨q, v, e5, rv, rr⟩ := l2 w el
    refine ⟨tp, ky.map keyV, rfl, upd_same, v, ?_, k w S1 v _ (rr _ _) s2 (f1.trans (Fr.new htp)) q1⟩
    rw [e5]; exact rv
end
end Bw

/-! Ev13: every expression that the checker takes. -/
namespace Bw
open PySem L2 PySem.Spec PyProof.Rows
section
variable {Γ : Gm} {G : GT} {C : CT} {N : List Str}
theorem chL_1 {f : Expr → E → Bool} {x : Expr} {es' : List E} (h : chL f [x] es' = true) : ∃ x', es' = [x'] ∧ f x x' = true := by
  cases es' with
  | nil => simp [chL] at h
  | cons a r =>
    rw [chL, Bool.and_eq_true] at h
    cases r with
    | nil => exact ⟨a, rfl, h.1⟩
    | cons _ _ => have := h.2; simp [chL] at this
theorem chL_2 {f : Expr → E → Bool} {x y : Expr} {es' : List E} (h : chL f [x, y] es' = true) : ∃ x' y', es' = [x', y'] ∧ f x x' = true ∧ f y y' = true := by
  cases es' with
  | nil => simp [chL] at h
  | cons a r =>
    rw [chL, Bool.and_eq_true] at h
    obtain ⟨b, rfl, hb⟩ := chL_1 h.2
    exact ⟨a, b, rfl, h.1, hb⟩
theorem tabs_eq : ∀ {t kvs : List (List Nat × W)}, chL (fun p q => p.1 == q.1 && eqB p.2 q.2) t kvs = true → t = kvs
  | [], [], _ => rfl
  | [], _ :: _, h => by simp [chL] at h
  | _ :: _, [], h => by simp [chL] at h
  | (a, b) :: t, (c, d) :: kvs, h => by
    rw [chL, Bool.and_eq_true, Bool.and_eq_true, beq_iff_eq] at h
    have e1 : a = c := h.1.1
    have e2 : b = d := eqB_eq h.1.2
    rw [e1, e2, tabs_eq h.2]
theorem tabTs_eq : ∀ {t kvs : List (List Ky × W)}, chL (fun p q => decide (p.1 = q.1) && eqB p.2 q.2) t kvs = true → t = kvs
  | [], [], _ => rfl
  | [], _ :: _, h => by simp [chL] at h
  | _ :: _, [], h => by simp [chL] at h
  | (a, b) :: t, (c, d) :: kvs, h => by
    rw [chL, Bool.and_eq_true, Bool.and_eq_true] at h
    have e1 : a = c := of_decide_eq_true h.1.1
    have e2 : b = d := eqB_eq h.1.2
    rw [e1, e2, tabTs_eq h.2]
theorem sndE : ∀ (n : Nat) {sc : Scope} {Wx : WX} {X : Cx} {e : Expr} {e' : E}, XO Γ G C N sc Wx X → chE G N n sc e e' = true → PE X e (tE Γ C Wx e') ∧ (okT e = true → PT X e (tT Γ C Wx e'))
  | 0, _, _, _, _, _, _, h => by simp [chE] at h
  | n + 1, sc, Wx, X, e, e', xo, h => by
    have ih : ∀ {sc : Scope} {Wx : WX} {X : Cx} {e : Expr} {e' : E}, XO Γ G C N sc Wx X → chE G N n sc e e' = true → PE X e (tE Γ C Wx e') ∧ (okT e = true → PT X e (tT Γ C Wx e')) := fun xo q => sndE n xo q
    have ihP : ∀ e e', chE G N n sc e e' = true → PE X e (tE Γ C Wx e') := fun e e' q => (ih xo q).1
    have ihT : ∀ e e', (chE G N n sc e e' && okT e) = true → PT X e (tT Γ C Wx e') := fun e e' q => by
      rw [Bool.and_eq_true] at q
      exact (ih xo q.1).2 q.2
    have ihN : ∀ e e', chE G N n sc e e' = true → noStar e = true ∧ PE X e (tE Γ C Wx e') := fun e e' q => ⟨(chE_ns q).1, (ih xo q).1⟩
    have ihA : ∀ {es : List Expr} {es' : List E}, chL (chE G N n sc) es es' = true → PA X es (tEs Γ C Wx es') := fun q => pa_of xo ihN q
    unfold chE at h
    rw [Bool.and_eq_true] at h
    obtain ⟨ok, h⟩ := h
    have pl : ∀ {e'' : E}, plainT e = true → PE X e (tE Γ C Wx e'') → PE X e (tE Γ C Wx e'') ∧ (okT e = true → PT X e (tT Γ C Wx e'')) := fun q p => ⟨p, fun _ => t_plain p q⟩
    cases e' with
    | var i =>
      simp only at h
      split at h
      · simp only [Bool.and_eq_true] at h
        exact pl rfl (s_var xo (of_decide_eq_true h.1.1) h.1.2 h.2)
      · cases h
    | cst w =>
      simp only at h
      split at h
      · have e := eqB_eq h
        subst e
        exact pl rfl (s_cst pe_int fun S H => rfl)
      · have e := eqB_eq h
        subst e
        exact pl rfl (s_cst pe_bl fun S H => rfl)
      · have e := eqB_eq h
        subst e
        exact pl rfl (s_cst pe_non fun S H => rfl)
      · rw [Bool.and_eq_true] at h
        have e := eqB_eq h.1
        subst e
        refine pl rfl (s_cst pe_str fun S H => ⟨?_, h.2⟩)
        unfold strV
        congr 1
      · simp only [Bool.and_eq_true] at h
        obtain ⟨⟨g, d⟩, h⟩ := h
        split at h
        · rename_i u q
          have e := eqB_eq h
          subst e
          obtain ⟨v, u', hm, rv, rp⟩ := xo.con _ _ q
          exact pl rfl (s_cst (pe_glob (xo.glo g) hm rv (dbg_of d).1) rp)
        · split at h
          · rename_i p q
            have e := eqB_eq h
            subst e
            have hm := xo.fnv _ p.1 p.2 (mem_of_lookup q)
            exact pl rfl (s_cst (pe_glob (v := .ref _) (xo.glo g) hm rfl (dbg_of d).1) fun S H => rfl)
          · cases h
      · cases h
    | tup es' =>
      simp only at h
      split at h
      · exact pl rfl (s_tup (ihA h))
      · cases h
    | lst fz es' =>
      simp only at h
      split at h
      · exact pl rfl (s_lst (ihA h))
      · cases h
    | bin o a b =>
      simp only at h
      split at h
      · simp only [Bool.and_eq_true] at h
        have e := of_decide_eq_true h.1.1
        subst e
        exact pl rfl (s_bin xo (ihP _ _ h.1.2) (ihP _ _ h.2))
      · cases h
    | cmp o a b =>
      simp only at h
      split at h
      · simp only [Bool.and_eq_true] at h
        have e := of_decide_eq_true h.1.1
        subst e
        exact ⟨s_cmp xo (ihP _ _ h.1.2) (ihP _ _ h.2) (chE_ns h.2).2.2, fun _ => t_cmp xo (ihP _ _ h.1.2) (ihP _ _ h.2) (chE_ns h.2).2.2⟩
      · cases h
    | chain o o' a b c =>
      simp only at h
      split at h
      · simp only [Bool.and_eq_true] at h
        obtain ⟨⟨⟨⟨e1, e2⟩, ha⟩, hb⟩, hc⟩ := h
        have e1 := of_decide_eq_true e1
        have e2 := of_decide_eq_true e2
        subst e1
        subst e2
        exact ⟨s_chain xo (ihP _ _ ha) (ihP _ _ hb) (ihP _ _ hc) (chE_ns hb).2.2 (chE_ns hc).2.2, fun _ => t_chain xo (ihP _ _ ha) (ihP _ _ hb) (ihP _ _ hc) (chE_ns hb).2.2 (chE_ns hc).2.2⟩
      · cases h
    | isN neg a =>
      simp only at h
      split at h
      · simp only [Bool.and_eq_true] at h
        have e := of_decide_eq_true h.1
        subst e
        exact ⟨s_isN xo (ihP _ _ h.2), fun _ => t_isN xo (ihP _ _ h.2)⟩
      · cases h
    | and es' =>
      simp only at h
      split at h
      · simp only [Bool.and_eq_true] at h
        exact ⟨s_and ihP h.2 (ne_nil h.1.1), fun _ => (w_and ihT (chL_and h.2 h.1.2) (ne_nil h.1.1)).pt⟩
      · cases h
    | or es' =>
      simp only at h
      split at h
      · simp only [Bool.and_eq_true] at h
        exact ⟨s_or ihP h.2 (ne_nil h.1.1), fun _ => (w_or ihT (chL_and h.2 h.1.2) (ne_nil h.1.1)).pt⟩
      · cases h
    | not a =>
      simp only at h
      split at h
      · rw [Bool.and_eq_true] at h
        exact ⟨s_not (ihP _ _ h.2), fun _ => t_not ((ih xo h.2).2 h.1)⟩
      · cases h
    | neg a =>
      simp only at h
      split at h
      · exact pl rfl (s_neg (ihP _ _ h))
      · cases h
    | ite c a b =>
      simp only at h
      split at h
      · simp only [Bool.and_eq_true] at h
        exact ⟨s_ite ((ih xo h.1.1.2).2 h.1.1.1) (ihP _ _ h.1.2) (ihP _ _ h.2), fun o => by cases o⟩
      · cases h
    | idx a i =>
      simp only at h
      split at h
      · simp only [Bool.and_eq_true] at h
        exact pl rfl (s_idx xo (ihP _ _ h.1) (ihP _ _ h.2) (chE_ns h.2).2.1)
      · cases h
    | sl fz a lo hi =>
      simp only at h
      split at h
      · simp only [Bool.and_eq_true] at h
        exact pl rfl (s_sl xo ihP (ihP _ _ h.1.1) h.1.2 h.2)
      · cases h
    | call f es' =>
      simp only [Bool.and_eq_true, Bool.not_eq_true'] at h
      obtain ⟨nh, h⟩ := h
      split at h
      · simp only [Bool.and_eq_true] at h
        obtain ⟨⟨⟨⟨h1, h2⟩, h3⟩, h4⟩, h5⟩ := h
        exact pl rfl (s_call xo nh h1 h2 (List.contains_iff_mem.mp h3) (ne_nil h4) (chL_ns h5) (ihA h5))
      · cases h
    | callD f es' ds =>
      simp only [Bool.and_eq_true, Bool.not_eq_true'] at h
      obtain ⟨nh, h⟩ := h
      split at h
      · simp only [Bool.and_eq_true] at h
        obtain ⟨⟨⟨⟨⟨h1, h2⟩, h3⟩, h4⟩, h6⟩, h5⟩ := h
        split at h6
        · cases h6
        · rename_i ws q
          rw [Bool.and_eq_true] at h6
          exact pl rfl (s_callD xo nh h1 h2 (List.contains_iff_mem.mp h3) (ne_nil h4) q (of_decide_eq_true h6.1) (eqBs_eq h6.2) (chL_ns h5) (ihA h5))
      · cases h
    | dnew =>
      simp only at h
      split at h
      · exact pl rfl s_dnew
      · cases h
    | fzv a =>
      simp only [Bool.and_eq_true] at h
      have pt : plainT e = true := by
        have h1 := h.1
        cases e <;> first | rfl | (simp [fzE] at h1)
      exact pl pt (s_fzv (ihP _ _ h.2))
    | meb m a es' =>
      simp only at h
      split at h
      · simp only [Bool.and_eq_true] at h
        obtain ⟨⟨⟨⟨⟨h1, h2⟩, h3⟩, h4⟩, h5⟩, h6⟩ := h
        have e1 := of_decide_eq_true h1
        subst e1
        cases hm : oldM m with
        | true => exact pl rfl (s_meb xo hm h2 h3 (of_decide_eq_true h4) (chL_len h6) (chL_ns h6) (ihP _ _ h5) (ihA h6))
        | false => exact pl rfl (s_mebS xo hm h2 h3 (of_decide_eq_true h4) (chL_len h6) (chL_ns h6) (ihP _ _ h5) (ihA h6))
      · cases h
    | fld cs a f =>
      simp only at h
      split at h
      · simp only [Bool.and_eq_true] at h
        obtain ⟨⟨h1, h2⟩, h3⟩ := h
        have e1 := of_decide_eq_true h1
        subst e1
        exact pl rfl (s_fld xo h2 (ihP _ _ h3))
      · cases h
    | meth tb m a es' =>
      simp only [Bool.and_eq_true, Bool.not_eq_true'] at h
      obtain ⟨nh, h⟩ := h
      split at h
      · simp only [Bool.and_eq_true] at h
        obtain ⟨⟨⟨⟨⟨⟨h1, h2⟩, h3⟩, h4⟩, h5⟩, h6⟩, h7⟩ := h
        have e1 := of_decide_eq_true h1
        subst e1
        exact pl rfl (s_meth xo nh h2 h3 (of_decide_eq_true h4) (chL_len h7) (of_decide_eq_true h5) (chL_ns h7) (ihP _ _ h6) (ihA h7))
      · cases h
    | mk c fi es' =>
      simp only [Bool.and_eq_true, Bool.not_eq_true'] at h
      obtain ⟨nh, h⟩ := h
      split at h
      · simp only [Bool.and_eq_true] at h
        obtain ⟨⟨⟨h1, h2⟩, h3⟩, h4⟩ := h
        exact pl rfl (s_mk xo nh h1 h2 (of_decide_eq_true h3) (chL_len h4) (chL_ns h4) (ihA h4))
      · cases h
    | mkx c z =>
      simp only [Bool.and_eq_true, Bool.not_eq_true'] at h
      obtain ⟨nh, h⟩ := h
      split at h
      · simp only [Bool.and_eq_true] at h
        obtain ⟨⟨⟨h1, h2⟩, h3⟩, h4⟩ := h
        exact pl rfl (s_mkx xo nh h1 h2 (of_decide_eq_true h3))
      · cases h
    | isC yes no a =>
      simp only at h
      split at h
      · simp only [Bool.and_eq_true] at h
        obtain ⟨⟨⟨⟨h1, h2⟩, h3⟩, h4⟩, h5⟩ := h
        exact pl rfl (s_isC xo h1 h2 h3 (of_decide_eq_true h4) (chE_ns h5).1 (ihP _ _ h5))
      · cases h
    | callV i fs es' =>
      simp only [Bool.and_eq_true, Bool.not_eq_true'] at h
      obtain ⟨nh, h⟩ := h
      split at h
      · simp only [Bool.and_eq_true] at h
        obtain ⟨⟨⟨⟨⟨h1, h2⟩, h3⟩, h4⟩, h5⟩, h6⟩ := h
        exact pl rfl (s_callV xo nh (of_decide_eq_true h1) h2 h3 h4 (ne_nil h5) (chL_ns h6) (ihA h6))
      · cases h
    | bi b es' =>
      rw [Bool.and_eq_true] at h
      obtain ⟨hh, h⟩ := h
      have nh : coolB b = false → G.hot = false := fun z => by rw [z, Bool.or_false] at hh; simpa using hh
      cases b with
      | maxd =>
        simp only at h
        split at h
        · simp only [Bool.and_eq_true, beq_iff_eq] at h
          obtain ⟨⟨h1, h2⟩, h3⟩ := h
          subst h2
          obtain ⟨a', d', rfl, ha, hd⟩ := chL_2 h3
          exact pl rfl (s_maxd xo (nh rfl) h1 (chE_ns ha).1 (ihP _ _ ha) (ihP _ _ hd))
        · cases h
      | listrev fz =>
        simp only at h
        split at h
        · simp only [Bool.and_eq_true] at h
          obtain ⟨⟨h1, h2⟩, h3⟩ := h
          obtain ⟨a', rfl, ha⟩ := chL_1 h3
          exact pl rfl (s_listrev xo (nh rfl) h1 h2 (chE_ns ha).1 (ihP _ _ ha))
        · cases h
      | lenset =>
        simp only at h
        split at h
        · simp only [Bool.and_eq_true] at h
          obtain ⟨⟨h1, h2⟩, h3⟩ := h
          obtain ⟨a', rfl, ha⟩ := chL_1 h3
          exact pl rfl (s_lenset xo (nh rfl) h1 h2 (chE_ns ha).1 (ihP _ _ ha))
        · cases h
      | _ =>
        simp only at h
        split at h
        · simp only [Bool.and_eq_true] at h
          obtain ⟨⟨h1, h2⟩, h3⟩ := h
          exact pl rfl (s_bi xo h1 hh (ne_nil h2) (by intro z; cases z) (chL_ns h3) (ihA h3))
        · cases h
    | isi t a =>
      simp only at h
      split at h
      · simp only [Bool.and_eq_true] at h
        exact pl rfl (s_isi xo h.1.1 h.1.2 (chE_ns h.2).1 (ihP _ _ h.2))
      · cases h
    | wnew c fs e' => simp at h
    | tabT kvs es' =>
      simp only at h
      split at h
      · simp only [Bool.and_eq_true, beq_iff_eq] at h
        obtain ⟨⟨⟨⟨⟨h0, h1⟩, h2⟩, h3⟩, h4⟩, h5⟩ := h
        subst h0
        split at h4
        · rename_i t q
          have e := tabTs_eq h4
          subst e
          exact pl rfl (s_tabT xo h1 h2 (by simpa using h3) q (ihA h5))
        · cases h4
      · cases h
    | isiL ts a =>
      simp only at h
      split at h
      · simp only [Bool.and_eq_true] at h
        obtain ⟨⟨⟨⟨h1, h2⟩, h3⟩, h4⟩, h5⟩ := h
        exact pl rfl (s_isiL xo h1 (ne_nil h2) (of_decide_eq_true h3) h4 (chE_ns h5).1 (ihP _ _ h5))
      · cases h
    | isCL l a =>
      simp only at h
      split at h
      · simp only [Bool.and_eq_true] at h
        obtain ⟨⟨⟨h1, h3⟩, h4⟩, h5⟩ := h
        exact pl rfl (s_isCL xo h1 (of_decide_eq_true h3) h4 (chE_ns h5).1 (ihP _ _ h5))
      · cases h
    | stp fz a lo hi st =>
      simp only at h
      split at h
      · simp only [Bool.and_eq_true] at h
        exact pl rfl (s_stp xo ihP (ihP _ _ h.1.1.1) h.1.1.2 h.1.2 h.2)
      · cases h
    | comp fz tg ik its cond elt own =>
      simp only [Bool.and_eq_true, Bool.not_eq_true'] at h
      obtain ⟨nh, h⟩ := h
      split at h
      · exact pl rfl (s_lc xo nh (lc_of ih xo nh (by unfold chLc; simpa only [Bool.and_eq_true] using h)))
      · cases h
    | fits i j k =>
      simp only [Bool.and_eq_true, Bool.not_eq_true'] at h
      obtain ⟨nh, h⟩ := h
      split at h
      · simp only [Bool.and_eq_true] at h
        obtain ⟨⟨⟨⟨⟨⟨⟨⟨⟨h1, h2⟩, h3⟩, hik⟩, hjk⟩, h4⟩, h5⟩, h6⟩, h7⟩, h8⟩ := h
        exact pl rfl (s_lk xo nh (fits_all xo (of_decide_eq_true h1) h2 h3 (of_decide_eq_true hik) (of_decide_eq_true hjk) h4 h5 h6 h7 h8))
      · cases h
    | keysOf i k =>
      simp only [Bool.and_eq_true, Bool.not_eq_true'] at h
      obtain ⟨nh, h⟩ := h
      split at h
      · simp only [Bool.and_eq_true] at h
        obtain ⟨⟨⟨⟨⟨h1, h2⟩, h3⟩, hik⟩, h4⟩, h5⟩ := h
        exact pl rfl (s_lk xo nh (keys_all xo (of_decide_eq_true h1) h2 h3 (of_decide_eq_true hik) h4 h5))
      · cases h
    | tab kvs i =>
      simp only at h
      split at h
      · simp only [Bool.and_eq_true] at h
        obtain ⟨⟨⟨h1, h2⟩, h3⟩, h4⟩ := h
        split at h3
        · rename_i t q
          have e := tabs_eq h3
          subst e
          exact pl rfl (s_tab xo h1 h2 q (chE_ns h4).2.1 (ihP _ _ h4))
        · cases h3
      · cases h
    | app a e1 =>
      simp only at h
      split at h
      · simp only [Bool.and_eq_true, beq_iff_eq] at h
        obtain ⟨⟨⟨⟨h1, h2⟩, h3⟩, h4⟩, h5⟩ := h
        subst h1
        exact pl rfl (s_app xo h2 (by simpa using h3) (chE_ns h5).1 (ihP _ _ h4) (ihP _ _ h5))
      · cases h
    | dic ks es' =>
      simp only at h
      split at h
      · simp only [Bool.and_eq_true] at h
        obtain ⟨⟨⟨⟨⟨h1, h2⟩, h3⟩, h4⟩, h5⟩, h6⟩ := h
        exact pl rfl (s_dic xo ihP h1 (of_decide_eq_true h2) (ne_nil h3) (of_decide_eq_true h4) (of_decide_eq_true h5) h6)
      · cases h
    | dicV kvs =>
      simp only at h
      split at h
      · simp only [Bool.and_eq_true] at h
        exact pl rfl (s_dicV xo ihP (ne_nil h.1.1) (of_decide_eq_true h.1.2) h.2)
      · cases h
    | dEq a b =>
      simp only at h
      split at h
      · simp only [Bool.and_eq_true] at h
        exact ⟨s_dEq xo (ihP _ _ h.1) (ihP _ _ h.2) (chE_ns h.2).2.2, fun _ => t_dEq xo (ihP _ _ h.1) (ihP _ _ h.2) (chE_ns h.2).2.2⟩
      · cases h
    | dNe a b =>
      simp only at h
      split at h
      · simp only [Bool.and_eq_true] at h
        exact ⟨s_dNe xo (ihP _ _ h.1) (ihP _ _ h.2) (chE_ns h.2).2.2, fun _ => t_dNe xo (ihP _ _ h.1) (ihP _ _ h.2) (chE_ns h.2).2.2⟩
      · cases h
    | ext a b =>
      simp only at h
      split at h
      · simp only [Bool.and_eq_true, beq_iff_eq] at h
        obtain ⟨⟨⟨⟨h1, h2⟩, h3⟩, h4⟩, h5⟩ := h
        subst h1
        exact pl rfl (s_ext xo h2 (by simpa using h3) (chE_ns h5).1 (ihP _ _ h4) (ihP _ _ h5))
      · cases h
    | pop a =>
      simp only at h
      split at h
      · simp only [Bool.and_eq_true, beq_iff_eq] at h
        obtain ⟨⟨⟨h1, h2⟩, h3⟩, h4⟩ := h
        subst h1
        exact pl rfl (s_pop xo h2 (by simpa using h3) (ihP _ _ h4))
      · cases h
end
end Bw

/-! Ev14: statements. -/
namespace Bw
open PySem L2 PySem.Spec PyProof.Rows
/-- not a comprehension -/
def noLc : Expr → Bool
  | .ListComp _ _ _ _ => false
  | .SetComp _ _ _ _ => false
  | .DictComp _ _ _ _ _ => false
  | _ => true
/-- name = [..]: whether the name takes the list from within -/
def swB (sc scope : Scope) (y : Str) (py pos : Pos) : Bool := (sc.names.lookup y == some .local) && (py.line == pos.line) && !(scope.names.any fun (n, k) => n == y && (k == .local || k == .cell))
/-- one text -/
def chTx : List Expr → List E → Bool
  | [.Constant (.str _) _ _], [.cst (.str _)] => true
  | _, _ => false
def chH (G : GT) (N : List Str) (ch : Stmt → St → Bool) (sc : Scope) : ExceptHandler → Hn → Bool
  | .ExceptHandler (some (.Name x _)) nm suite _, .mk yes no nm' suite' => gloB sc x && nodbg x && decide (G.exm.lookup x = some (yes, no)) && !suite.isEmpty && (match nm, nm' with
    | none, none => true
    | some y, some i => decide (N[i]? = some y) && (sc.names.lookup y == some .local)
    | _, _ => false) && chL ch suite suite'
  | _, _ => false
section
variable (N : List Str)
def chS (G : GT) : Nat → Scope → Stmt → St → Bool
  | 0, _, _, _ => false
  | n + 1, sc, s, s' =>
    match s' with
    | .pass => (match s with
      | .Pass _ => true
      | .Expr (.Constant (.str _) _ _) _ => true
      | _ => false)
    | .ex e' => (match s with
      | .Expr e _ => noLc e && chE G N 60 sc e e'
      | _ => false)
    | .ret e' => (match s with
      | .Return (some e) _ => chE G N 60 sc e e'
      | _ => false)
    | .retN => (match s with
      | .Return none _ => true
      | _ => false)
    | .asg i e' => (match s with
      | .Assign [.Name y py] e _ => decide (N[i]? = some y) && locB sc y && (match e with
        | .ListComp elt0 [⟨tg0, iter0, ifs0, 0⟩] scope pos => !G.hot && (match e' with
          | .comp _ tg ik its cond elt own => swB sc scope y py pos && chLc G N 60 sc scope tg0 iter0 ifs0 elt0 tg ik its cond elt own
          | .fits i2 j k => swB sc scope y py pos && (match ifs0 with
            | [.Compare (.Subscript d0 x0 _) [.Eq] [y0] _] => decide ((ownOf N [k]).map (·.2) = [k]) && blkC N sc scope (ownOf N [k]) && chNm N scope tg0 k && decide (i2 ≠ k) && decide (j ≠ k) &&
              chV N sc iter0 i2 && chV N (relS scope sc) d0 i2 && chV N (relS scope sc) x0 k && chV N (relS scope sc) y0 j && chV N (relS scope sc) elt0 k
            | _ => false)
          | .keysOf i2 k => swB sc scope y py pos && (match ifs0 with
            | [] => decide ((ownOf N [k]).map (·.2) = [k]) && blkC N sc scope (ownOf N [k]) && chNm N scope tg0 k && decide (i2 ≠ k) && chV N sc iter0 i2 && chV N (relS scope sc) elt0 k
            | _ => false)
          | _ => false)
        | e => noLc e && chE G N 60 sc e e')
      | _ => false)
    | .asgT is e' => !G.hot && (match s with
      | .Assign [.Tuple [.Name x px, .Name y py, .Name z pz] _ _] (.Tuple [u, v, w] _ _) _ => (match is, e' with
        | [i, j, l], .tup [a, b, c] => decide (N[i]? = some x) && decide (N[j]? = some y) && decide (N[l]? = some z) && decide (i ≠ j) && decide (i ≠ l) && decide (j ≠ l) && decide (x ≠ y) && decide (x ≠ z) && decide (y ≠ z) && (sc.names.lookup x == some .local) && (sc.names.lookup y == some .local) && (sc.names.lookup z == some .local) && (px.line == py.line) && (px.line == pz.line) && !constantsAlone 8 u && !foldedForSure 8 u && chE G N 60 sc u a && chE G N 60 sc v b && chE G N 60 sc w c
        | _, _ => false)
      | .Assign [.Tuple es _ _] e _ => chL (chNm N sc) es is && noLc e && (!isTup e || decide (3 < es.length)) && chE G N 60 sc e e'
      | _ => false)
    | .par i j a b => !G.hot && (match s with
      | .Assign [.Tuple [.Name x px, .Name y py] _ _] (.Tuple [u, v] _ _) _ => decide (N[i]? = some x) && decide (N[j]? = some y) && decide (i ≠ j) && decide (x ≠ y) && (sc.names.lookup x == some .local) && (sc.names.lookup y == some .local) && (px.line == py.line) && !constantsAlone 8 u && !foldedForSure 8 u && chE G N 60 sc u a && chE G N 60 sc v b
      | _ => false)
    | .setIx o i e' => (match s with
      | .Assign [.Subscript o0 i0 _] e _ => noLc e && chE G N 60 sc e e' && chE G N 60 sc o0 o && chE G N 60 sc i0 i
      | _ => false)
    | .ite c a b => (match s with
      | .If c0 a0 b0 _ => okT c0 && chE G N 60 sc c0 c && chL (chS G n sc) a0 a && chL (chS G n sc) b0 b
      | _ => false)
    | .for tg ik its body => !G.hot && (match s with
      | .For tg0 iter body0 [] _ => chTg N sc tg0 tg && chI G (chE G N 60 sc) sc tg0 iter ik its && chL (chS G n sc) body0 body
      | _ => false)
    | .whl c body => !G.hot && (match s with
      | .While c0 body0 [] _ => okT c0 && chE G N 60 sc c0 c && chL (chS G n sc) body0 body
      | _ => false)
    | .brk => (match s with
      | .Break _ => true
      | _ => false)
    | .cnt => (match s with
      | .Continue _ => true
      | _ => false)
    | .fldS cs o f e' => (match s with
      | .Assign [.Attribute o0 nm _] e _ => decide (nm = sZ f) && noLc e && cs.all (fun c => (match G.fld.lookup c with
        | some fs => fs.contains f
        | none => false)) && chE G N 60 sc e e' && chE G N 60 sc o0 o
      | _ => false)
    | .augF cs o f e' => (match s with
      | .AugAssign (.Attribute o0 nm _) .Add e _ => decide (nm = sZ f) && plainO o0 && cs.all (fun c => (match G.fld.lookup c with
        | some fs => fs.contains f
        | none => false)) && chE G N 60 sc o0 o && chE G N 60 sc e e'
      | _ => false)
    | .rse c fs es' => !G.hot && (match s with
      | .Raise (some (.Call (.Name x _) es [] _)) none _ => gloB sc x && nodbg x && decide (G.xcl.lookup x = some (c, fs)) && (match fs with
        | [] => chTx es es'
        | _ => !es.isEmpty && decide (es.length = fs.length) && chL (chE G N 60 sc) es es')
      | _ => false)
    | .trys body hs orelse => !G.hot && (match s with
      | .Try body0 hds orelse0 [] _ => !hds.isEmpty && chL (chS G n sc) body0 body && chL (chS G n sc) orelse0 orelse && chL (chH G N (fun s s' => chS { G with hot := true } n sc s s') sc) hds hs
      | _ => false)
end
structure KD (Γ : Gm) (Wx : WX) (S : Sto) (H : Hp) (DW : Dn) (D : Ends) : Prop where
  nx : ∀ env' S' σ' H', envR Γ S' H' env' σ' → SR Γ S' H' → Fr S H S' H' → DW.nx env' S' → D.nx σ' H'
  rt : ∀ w S' v H', rep Γ S' H' w v → SR Γ S' H' → Fr S H S' H' → DW.rt w S' → D.rt v H'
  bk : ∀ env' S' σ' H', envR Γ S' H' env' σ' → SR Γ S' H' → Fr S H S' H' → DW.bk env' S' → D.bk σ' H'
  ct : ∀ env' S' σ' H', envR Γ S' H' env' σ' → SR Γ S' H' → Fr S H S' H' → DW.ct env' S' → D.ct σ' H'
  xc : ∀ x env' S' cls d σ' H', xrep Γ S' H' x cls d → envR Γ S' H' env' σ' → SR Γ S' H' → Fr S H S' H' → DW.xc x env' S' → Wx cls d σ' H'
section
variable {Γ : Gm} {G : GT} {C : CT} {N : List Str} {sc : Scope} {Wx : WX} {X : Cx}
theorem KD.fr {S S1 : Sto} {H H1 : Hp} {DW : Dn} {D : Ends} (k : KD Γ Wx S H DW D) (f : Fr S H S1 H1) : KD Γ Wx S1 H1 DW D where
  nx := fun env' S' σ' H' he hs f2 q => k.nx env' S' σ' H' he hs (f.trans f2) q
  rt := fun w S' v H' r hs f2 q => k.rt w S' v H' r hs (f.trans f2) q
  bk := fun env' S' σ' H' he hs f2 q => k.bk env' S' σ' H' he hs (f.trans f2) q
  ct := fun env' S' σ' H' he hs f2 q => k.ct env' S' σ' H' he hs (f.trans f2) q
  xc := fun x env' S' cls d σ' H' r he hs f2 q => k.xc x env' S' cls d σ' H' r he hs (f.trans f2) q
theorem KD.kx {S : Sto} {H : Hp} {DW : Dn} {D : Ends} {env : Env} {σ : L2.St} (k : KD Γ Wx S H DW D) (he : envR Γ S H env σ) : KX Γ S H (fun x S1 => DW.xc x env S1) (fun cls d H' => Wx cls d σ H') :=
  fun x S' cls d H' r hs f q => k.xc x env S' cls d σ H' r (he.fr f) hs f q
def tS (Γ : Gm) (C : CT) (Wx : WX) (s : St) : TS := fun D σ H => ∃ env S DW, envR Γ S H env σ ∧ SR Γ S H ∧ wS C s env S DW ∧ KD Γ Wx S H DW D
def tSs (Γ : Gm) (C : CT) (Wx : WX) (ss : List St) : TS := fun D σ H => ∃ env S DW, envR Γ S H env σ ∧ SR Γ S H ∧ wSs C ss env S DW ∧ KD Γ Wx S H DW D
/-- an exception class that is made by its __init__, which sets the fields fs -/
def spI (C : Addr) (fs : List (List Nat)) : Sp := fun vs H Q _ => ∃ (a : Addr) (us : List V), vs = .ref a :: us ∧ us.length = fs.length ∧ H a = some (exo a C none) ∧ ∀ dx, H dx = none → dx ≠ a → Q .non (upd (upd H dx (exd dx (insz fs.reverse us.reverse))) a (exo a C (some dx)))
def XiR (Γ : Gm) (X : Cx) (x : Str) (c : Nat) (fs : List (List Nat)) : Prop :=
  ∃ (ve : Bool) (k : Nat) (fI : Addr) (fd : FuncData) (ps : List Str), OxC X.K (Γ.ca c) ve ∧ PySem.W.findIn X.K (.ref (Γ.ca c)) "__init__" = some (some (.ref fI)) ∧ PySem.W.typeIn X.K (.ref fI) = some (.type "function") ∧
    FnOk X.prog X.w X.K X.mg X.base (L2.CX X.prog X.w) k fI fd ps (spI (Γ.ca c) fs) ∧ Room (k + 1) X.A ∧ Binds X.K fd ps [] ∧ X.mg x = some (.ref (Γ.ca c)) ∧ XkC X.K (Γ.ca c) ∧ ∀ f ∈ fs, PySem.W.findIn X.K (.ref (Γ.ca c)) (sZ f) = some none
/-- a class that a clause names -/
def ExR (Γ : Gm) (X : Cx) (x : Str) (yes no : List Nat) : Prop :=
  ∃ cv, (X.mg x = some cv ∨ (X.mg x = none ∧ bootBuiltins x = some cv ∧ x ≠ ("__name__" : Str))) ∧ (∀ c ∈ yes, PySem.W.exmOne X.K (.ref (Γ.ca c)) cv = some true) ∧ ∀ c ∈ no, PySem.W.exmOne X.K (.ref (Γ.ca c)) cv = some false
structure XS (Γ : Gm) (G : GT) (C : CT) (N : List Str) (sc : Scope) (Wx : WX) (X : Cx) : Prop extends XO Γ G C N sc Wx X where
  hp : G.hot = false → PassesOwn (model X.prog X.w) X.A X.env X.xe
  fnT : ∀ x, X.fn x = true
  kd : sc.kind = .function
  st : X.stack = X.env :: X.outer
  fm : X.env.frame = some X.env.locals
  xin : ∀ x c fs, G.hot = false → G.xcl.lookup x = some (c, fs) → fs ≠ [] → XiR Γ X x c fs
  exm : ∀ x yes no, G.exm.lookup x = some (yes, no) → ExR Γ X x yes no
theorem XS.loc (xs : XS Γ G C N sc Wx X) : ∀ x, locB sc x = true → Loc X.env.scope x ∧ (X.fn x = true ∨ X.env.scope.names.lookup x = some .local) := fun x h => ⟨xs.toXO.loc h, .inl (xs.fnT x)⟩
theorem XS.nN (xs : XS Γ G C N sc Wx X) : X.N.Nodup := by rw [xs.hN]; exact xs.nd
/-! ### blocks -/
theorem ss_of {f : Stmt → St → Bool} (hf : ∀ s s', f s s' = true → PS X s (tS Γ C Wx s')) : ∀ {ss : List Stmt} {ss' : List St}, chL f ss ss' = true → PSs X ss (tSs Γ C Wx ss')
  | [], [], _ => PSsimp pss_nil fun D σ H ⟨env, S, DW, he, hs, h, k⟩ => by
    simp only [wSs] at h
    exact k.nx env S σ H he hs (Fr.refl _ _) h
  | [], _ :: _, h => by simp [chL] at h
  | _ :: _, [], h => by simp [chL] at h
  | s :: ss, s' :: ss', h => by
    rw [chL, Bool.and_eq_true] at h
    refine PSsimp (pss_cons (hf _ _ h.1) (ss_of hf h.2)) fun D σ H ⟨env, S, DW, he, hs, h, k⟩ => ?_
    simp only [wSs] at h
    refine ⟨env, S, _, he, hs, h, ⟨fun env' S' σ' H' he' hs' f q => ?_, k.rt, k.bk, k.ct, k.xc⟩⟩
    exact ⟨env', S', DW, he', hs', q, k.fr f⟩
/-! ### the forms -/
theorem sw_no {e : Expr} (h : noLc e = true) (t : Option Expr) (l : Nat) (env : PySem.Env) : swapsWith e t l env = pure false := by
  cases e <;> first | rfl | (simp [noLc] at h)
theorem sw_sole {e : Expr} (h : noLc e = true) (t : Expr) (l : Nat) (env : PySem.Env) : swapsWithSole [t] e l env = pure false := by
  cases e <;> first | rfl | (simp [noLc] at h)
theorem st_ex {e : Expr} {e' : E} {pos : Pos} (p : PE X e (tE Γ C Wx e')) (h : noLc e = true) : PS X (.Expr e pos) (tS Γ C Wx (.ex e')) := by
  refine PSimp (ps_expr p (sw_no h _ _ _)) fun D σ H ⟨env, S, DW, he, hs, h, k⟩ => ?_
  simp only [wS] at h
  exact ⟨env, S, _, _, he, hs, h, fun w S1 v H1 r1 s1 f1 q1 => k.nx env S1 σ H1 (he.fr f1) s1 f1 q1, k.kx he⟩
theorem st_ret {e : Expr} {e' : E} {pos : Pos} (p : PE X e (tE Γ C Wx e')) : PS X (.Return (some e) pos) (tS Γ C Wx (.ret e')) := by
  refine PSimp (ps_ret p) fun D σ H ⟨env, S, DW, he, hs, h, k⟩ => ?_
  simp only [wS] at h
  exact ⟨env, S, _, _, he, hs, h, fun w S1 v H1 r1 s1 f1 q1 => k.rt w S1 v H1 r1 s1 f1 q1, k.kx he⟩
theorem st_retN {pos : Pos} : PS X (.Return none pos) (tS Γ C Wx .retN) := by
  refine PSimp ps_retN fun D σ H ⟨env, S, DW, he, hs, h, k⟩ => ?_
  simp only [wS] at h
  exact k.rt .non S .non H rfl hs (Fr.refl _ _) h
theorem asg_of {i : Nat} {e' : E} {D : Ends} {σ : L2.St} {H : Hp} (q : tS Γ C Wx (.asg i e') D σ H) : tE Γ C Wx e' σ H fun x H1 => gName i x σ H1 D.nx := by
  obtain ⟨env, S, DW, he, hs, h, k⟩ := q
  simp only [wS] at h
  exact ⟨env, S, _, _, he, hs, h, fun w S1 v H1 r1 s1 f1 q1 => k.nx _ S1 _ H1 ((he.fr f1).set i r1) s1 f1 q1, k.kx he⟩
theorem st_asg (xs : XS Γ G C N sc Wx X) {i : Nat} {y : Str} {e : Expr} {e' : E} {py pos : Pos} (h1 : N[i]? = some y) (h2 : locB sc y = true) (p : PE X e (tE Γ C Wx e')) (h : noLc e = true) : PS X (.Assign [.Name y py] e pos) (tS Γ C Wx (.asg i e')) :=
  PSimp (ps_set xs.nN (by rw [xs.hN]; exact h1) (xs.loc y h2).1 p (sw_no h _ _ _) (xs.loc y h2).2) fun D σ H q => asg_of q
theorem st_asgL (xs : XS Γ G C N sc Wx X) (nh : G.hot = false) {i : Nat} {y : Str} {py spos : Pos} {scope : Scope} {tg0 iter0 : Expr} {ifs0 : List Expr} {elt0 : Expr} {tg : Tg} {ik : IK} {its cond : List E} {elt : E} {own : List Nat} {fz : Bool} {pos : Pos} (h1 : N[i]? = some y) (sw : swB sc scope y py pos = true) (l : LcOk G C Γ N sc Wx X scope tg0 iter0 ifs0 elt0 tg ik its cond elt own) :
    PS X (.Assign [.Name y py] (.ListComp elt0 [⟨tg0, iter0, ifs0, 0⟩] scope pos) spos) (tS Γ C Wx (.asg i (.comp fz tg ik its cond elt own))) := by
  unfold swB at sw
  simp only [Bool.and_eq_true, Bool.not_eq_true'] at sw
  have hy : X.env.scope.names.lookup y = some .local := by rw [xs.hsc]; simpa using sw.1.1
  refine PSimp (ps_setLc (xs.calm nh) xs.nN (by rw [xs.hN]; exact h1) hy (sw_true (by rw [xs.hsc]; exact xs.kd) hy sw.1.2 sw.2) l.i l.b l.g l.t l.e l.s) fun D σ H q => ?_
  have q := asg_of q
  show tLc _ _ _ _ _ σ H fun x H1 => gName i x σ H1 D.nx
  rw [l.e1]
  exact comp_of xs.hK l.e2 q
theorem st_asgK (xs : XS Γ G C N sc Wx X) (nh : G.hot = false) {i : Nat} {y : Str} {py spos : Pos} {scope : Scope} {tg0 iter0 : Expr} {ifs0 : List Expr} {elt0 : Expr} {k : Nat} {e : E} {pos : Pos} (h1 : N[i]? = some y) (sw : swB sc scope y py pos = true) (h : ∃ wi g tt te, LkOk Γ C N Wx X scope tg0 iter0 ifs0 elt0 k e wi g tt te) :
    PS X (.Assign [.Name y py] (.ListComp elt0 [⟨tg0, iter0, ifs0, 0⟩] scope pos) spos) (tS Γ C Wx (.asg i e)) := by
  unfold swB at sw
  simp only [Bool.and_eq_true, Bool.not_eq_true'] at sw
  have hy : X.env.scope.names.lookup y = some .local := by rw [xs.hsc]; simpa using sw.1.1
  obtain ⟨wi, g, tt, te, l⟩ := h
  exact PSimp (ps_lock (ps_setLc (xs.calm nh) xs.nN (by rw [xs.hN]; exact h1) hy (sw_true (by rw [xs.hsc]; exact xs.kd) hy sw.1.2 sw.2) l.i l.b l.g l.t l.e l.s)) fun D σ H q => l.m σ H _ (asg_of q)
theorem sw_none {es : List Expr} {k0 : Nat} {tp : Pos} {e : Expr} {env : PySem.Env} (ht : (!isTup e || decide (3 < es.length)) = true) : swappedStores [.Tuple es k0 tp] e env = pure none := by
  cases e
  case Tuple vs k1 p1 =>
    have hl : 3 < es.length := by simpa [isTup] using ht
    have h2 : (es.length == 2) = false := by rw [beq_eq_false_iff_ne]; omega
    have h3 : (es.length == 3) = false := by rw [beq_eq_false_iff_ne]; omega
    unfold swappedStores
    simp only [h2, h3, Bool.or_self, Bool.not_false, Bool.true_or, if_true]
  all_goals rfl
theorem st_asgT (xs : XS Γ G C N sc Wx X) (nh : G.hot = false) {is : List Nat} {es : List Expr} {k0 : Nat} {tp pos : Pos} {e : Expr} {e' : E} (h1 : chL (chNm N sc) es is = true) (p : PE X e (tE Γ C Wx e')) (h : noLc e = true) (ht : (!isTup e || decide (3 < es.length)) = true) : PS X (.Assign [.Tuple es k0 tp] e pos) (tS Γ C Wx (.asgT is e')) := by
  have pg : PG X (.Tuple es k0 tp) (gW Γ (.pr is)) := pg_of xs.nN (xs.calm nh) xs.hK (tg := .pr is) ⟨es, k0, tp, rfl, nms_of xs.hN xs.loc h1⟩
  refine PSimp (ps_asg p pg (sw_sole h _ _ _) (sw_none ht) rfl) fun D σ H ⟨env, S, DW, he, hs, h, k⟩ => ?_
  simp only [wS] at h
  refine ⟨env, S, _, _, he, hs, h, fun w S1 v H1 r1 s1 f1 q1 => ?_, k.kx he⟩
  obtain ⟨env', e1, q1⟩ := wSome_el q1
  exact ⟨env, S1, w, env', he.fr f1, r1, e1, fun σ' _ he' => k.nx env' S1 σ' H1 he' s1 f1 q1⟩
theorem sw_par {env : PySem.Env} {x y : Str} {u v : Expr} {px py pt pt2 : Pos} {kt k2 : Nat} (hk : env.scope.kind = .function) (hx : env.scope.names.lookup x = some .local) (hy : env.scope.names.lookup y = some .local) (hxy : x ≠ y) (hl : (px.line == py.line) = true) (e6 : constantsAlone 8 u = false) (e7 : foldedForSure 8 u = false) (n1 : noStar u = true) (n2 : noStar v = true) :
    swappedStores [.Tuple [.Name x px, .Name y py] kt pt] (.Tuple [u, v] k2 pt2) env = pure (some [x, y]) := by
  have e0 : (env.blockKind != ScopeKind.function) = false := by
    unfold Env.blockKind
    rw [hk]
    rfl
  have e1 : (py.line == px.line) = true := by rw [beq_iff_eq] at hl ⊢; exact hl.symm
  have e4 : (y == x) = false := by simpa using (Ne.symm hxy)
  have e3 : [x, y].eraseDups = [x, y] := by
    simp only [List.eraseDups, List.eraseDupsBy, List.eraseDupsBy.loop, List.any_nil, List.any_cons, e4, Bool.or_false, List.reverse_cons, List.reverse_nil, List.nil_append, List.cons_append]
  have st : ∀ w : Expr, noStar w = true → (match w with | .Starred .. => true | _ => false) = false := fun w h => by cases w <;> first | rfl | (simp [noStar] at h)
  unfold swappedStores
  simp only [e0, Env.kindOf, hx, hy, List.length_cons, List.length_nil, List.any_cons, List.any_nil, List.head?_cons, Option.map_some, Option.getD_some, List.filterMap_cons, List.filterMap_nil, List.all_cons, List.all_nil, e6, e7, Expr.pos, beq_self_eq_true, Bool.and_self, if_true, e1, e3, Bool.true_and, Bool.false_and, Bool.and_true, Bool.false_eq_true, if_false, Bool.or_false, Bool.or_true, bne_self_eq_false, Nat.reduceAdd, Nat.reduceBEq, Bool.true_or, Bool.not_true, pure_bind]
  rw [if_neg (by rw [Bool.not_eq_true]; exact Bool.or_eq_false_iff.mpr ⟨st u n1, st v n2⟩)]
theorem st_par (xs : XS Γ G C N sc Wx X) (nh : G.hot = false) {i j : Nat} {x y : Str} {u v : Expr} {px py pt pt2 pos : Pos} {kt k2 : Nat} {a b : E} (hi : N[i]? = some x) (hj : N[j]? = some y) (hij : i ≠ j) (hxy : x ≠ y) (hx : sc.names.lookup x = some .local) (hy : sc.names.lookup y = some .local)
    (hl : (px.line == py.line) = true) (e6 : constantsAlone 8 u = false) (e7 : foldedForSure 8 u = false) (n1 : noStar u = true) (n2 : noStar v = true) (pa : PE X u (tE Γ C Wx a)) (pb : PE X v (tE Γ C Wx b)) :
    PS X (.Assign [.Tuple [.Name x px, .Name y py] kt pt] (.Tuple [u, v] k2 pt2) pos) (tS Γ C Wx (.par i j a b)) := by
  have hw : swappedStores [.Tuple [.Name x px, .Name y py] kt pt] (.Tuple [u, v] k2 pt2) X.env = pure (some [x, y]) :=
    sw_par (by rw [xs.hsc]; exact xs.kd) (by rw [xs.hsc]; exact hx) (by rw [xs.hsc]; exact hy) hxy hl e6 e7 n1 n2
  refine PSimp (ps_par (xs.calm nh) xs.nN (by rw [xs.hN]; exact hi) (by rw [xs.hN]; exact hj) hij (by rw [xs.hsc]; exact hx) (by rw [xs.hsc]; exact hy) (pa_cons pa (pa_cons pb pa_nil (star_cons n2)) (star_cons n1)) hw rfl) fun D σ H ⟨env, S, DW, he, hs, h, k⟩ => ?_
  simp only [wS] at h
  refine ⟨env, S, _, _, he, hs, h, fun w S1 v1 H1 r1 s1 f1 q1 => ?_, k.kx he⟩
  refine ⟨env, S1, _, _, he.fr f1, s1, q1, fun w2 S2 v2 H2 r2 s2 f2 q2 => ?_, (k.fr f1).kx (he.fr f1)⟩
  refine ⟨v1, v2, rfl, ?_⟩
  exact k.nx _ S2 _ H2 (((he.fr (f1.trans f2)).set i (rep.fr f2 _ _ r1)).set j r2) s2 (f1.trans f2) q2
theorem sw_par3 {env : PySem.Env} {x y z : Str} {u v w : Expr} {px py pz pt pt2 : Pos} {kt k2 : Nat} (hk : env.scope.kind = .function) (hx : env.scope.names.lookup x = some .local) (hy : env.scope.names.lookup y = some .local) (hz : env.scope.names.lookup z = some .local) (hxy : x ≠ y) (hxz : x ≠ z) (hyz : y ≠ z) (hl : (px.line == py.line) = true) (hl2 : (px.line == pz.line) = true) (e6 : constantsAlone 8 u = false) (e7 : foldedForSure 8 u = false) (n1 : noStar u = true) (n2 : noStar v = true) (n3 : noStar w = true) :
    swappedStores [.Tuple [.Name x px, .Name y py, .Name z pz] kt pt] (.Tuple [u, v, w] k2 pt2) env = pure (some [x, y, z]) := by
  have e0 : (env.blockKind != ScopeKind.function) = false := by
    unfold Env.blockKind
    rw [hk]
    rfl
  have e1 : (py.line == px.line) = true := by rw [beq_iff_eq] at hl ⊢; exact hl.symm
  have e2 : (pz.line == px.line) = true := by rw [beq_iff_eq] at hl2 ⊢; exact hl2.symm
  have a1 : (y == x) = false := by simpa using (Ne.symm hxy)
  have a2 : (z == x) = false := by simpa using (Ne.symm hxz)
  have a3 : (z == y) = false := by simpa using (Ne.symm hyz)
  have e3 : [x, y, z].eraseDups = [x, y, z] := by
    simp only [List.eraseDups, List.eraseDupsBy, List.eraseDupsBy.loop, List.any_nil, List.any_cons, a1, a2, a3, Bool.or_false, Bool.or_self, List.reverse_cons, List.reverse_nil, List.nil_append, List.cons_append]
  have st : ∀ w : Expr, noStar w = true → (match w with | .Starred .. => true | _ => false) = false := fun w h => by cases w <;> first | rfl | (simp [noStar] at h)
  unfold swappedStores
  simp only [e0, Env.kindOf, hx, hy, hz, List.length_cons, List.length_nil, List.any_cons, List.any_nil, List.head?_cons, Option.map_some, Option.getD_some, List.filterMap_cons, List.filterMap_nil, List.all_cons, List.all_nil, e6, e7, Expr.pos, beq_self_eq_true, Bool.and_self, if_true, e1, e2, e3, Bool.true_and, Bool.false_and, Bool.and_true, Bool.false_eq_true, if_false, Bool.or_false, Bool.or_true, bne_self_eq_false, Nat.reduceAdd, Nat.reduceBEq, Bool.true_or, Bool.not_true, pure_bind]
  rw [if_neg (by rw [Bool.not_eq_true]; exact Bool.or_eq_false_iff.mpr ⟨st u n1, Bool.or_eq_false_iff.mpr ⟨st v n2, st w n3⟩⟩)]
theorem st_par3 (xs : XS Γ G C N sc Wx X) (nh : G.hot = false) {i j l : Nat} {x y z : Str} {u v w : Expr} {px py pz pt pt2 pos : Pos} {kt k2 : Nat} {a b c : E} (hi : N[i]? = some x) (hj : N[j]? = some y) (hl0 : N[l]? = some z) (hij : i ≠ j) (hil : i ≠ l) (hjl : j ≠ l) (hxy : x ≠ y) (hxz : x ≠ z) (hyz : y ≠ z) (hx : sc.names.lookup x = some .local) (hy : sc.names.lookup y = some .local) (hz : sc.names.lookup z = some .local)
    (hl : (px.line == py.line) = true) (hl2 : (px.line == pz.line) = true) (e6 : constantsAlone 8 u = false) (e7 : foldedForSure 8 u = false) (n1 : noStar u = true) (n2 : noStar v = true) (n3 : noStar w = true) (pa : PE X u (tE Γ C Wx a)) (pb : PE X v (tE Γ C Wx b)) (pc : PE X w (tE Γ C Wx c)) :
    PS X (.Assign [.Tuple [.Name x px, .Name y py, .Name z pz] kt pt] (.Tuple [u, v, w] k2 pt2) pos) (tS Γ C Wx (.asgT [i, j, l] (.tup [a, b, c]))) := by
  have hw : swappedStores [.Tuple [.Name x px, .Name y py, .Name z pz] kt pt] (.Tuple [u, v, w] k2 pt2) X.env = pure (some [x, y, z]) :=
    sw_par3 (by rw [xs.hsc]; exact xs.kd) (by rw [xs.hsc]; exact hx) (by rw [xs.hsc]; exact hy) (by rw [xs.hsc]; exact hz) hxy hxz hyz hl hl2 e6 e7 n1 n2 n3
  refine PSimp (ps_par3 (xs.calm nh) xs.nN (by rw [xs.hN]; exact hi) (by rw [xs.hN]; exact hj) (by rw [xs.hN]; exact hl0) hij hil hjl (by rw [xs.hsc]; exact hx) (by rw [xs.hsc]; exact hy) (by rw [xs.hsc]; exact hz) (pa_cons pa (pa_cons pb (pa_cons pc pa_nil (star_cons n3)) (star_cons n2)) (star_cons n1)) hw rfl) fun D σ H ⟨env, S, DW, he, hs, h, k⟩ => ?_
  simp only [wS, wE, wEs] at h
  refine ⟨env, S, _, _, he, hs, h, fun w1 S1 v1 H1 r1 s1 f1 q1 => ?_, k.kx he⟩
  refine ⟨env, S1, _, _, he.fr f1, s1, q1, fun w2 S2 v2 H2 r2 s2 f2 q2 => ?_, (k.fr f1).kx (he.fr f1)⟩
  have f12 := f1.trans f2
  refine ⟨env, S2, _, _, he.fr f12, s2, q2, fun w3 S3 v3 H3 r3 s3 f3 q3 => ?_, (k.fr f12).kx (he.fr f12)⟩
  refine ⟨v1, v2, v3, rfl, ?_⟩
  obtain ⟨_, q3⟩ := q3
  exact k.nx _ S3 _ H3 ((((he.fr (f12.trans f3)).set i (rep.fr (f2.trans f3) _ _ r1)).set j (rep.fr f3 _ _ r2)).set l r3) s3 (f12.trans f3) q3
theorem ixW_N {n : Nat} {i : Int} : ixW n i = ixN n i := rfl
def rSetW (Γ : Gm) : TSet := fun o i v H Q => ∃ x y w S QS, rep Γ S H x o ∧ rep Γ S H y i ∧ rep Γ S H w v ∧ SR Γ S H ∧ wSetIx x y w S QS ∧ ∀ S' H', SR Γ S' H' → Fr S H S' H' → QS S' → Q H'
theorem set_W (hu : X.A.units + 64 < cLine) : PSet X (rSetW Γ) := by
  intro pins s σ H o i v ov iv u Q I ro ri rv h
  obtain ⟨x, y, w, S, QS, r1, r2, r3, sr, h, k⟩ := h
  unfold wSetIx at h
  split at h
  · rename_i a
    split at h
    · rename_i ws e
      split at h
      · rename_i j
        split at h
        · rename_i jj e3
          cases r1
          cases r2
          obtain ⟨vs, h3, rr⟩ := sr a _ e
          exact set_list pins s σ H _ _ v ov iv u Q I ro ri rv ⟨a, vs, j, jj, rfl, rfl, h3, by rw [← rr.len, ← ixW_N]; exact e3, k _ _ (sr.wrL e (rr.set jj r3)) (Fr.wr e) h⟩
        · exact h.elim
      · exact h.elim
    · rename_i ks ws e
      split at h
      · rename_i ky e2
        cases r1
        obtain ⟨vs, h3, hl, rr⟩ := sr a _ e
        have ei := key_rep e2 r2
        subst ei
        obtain ⟨vs', p1, p2, p3⟩ := putD_rep (z := ky) hl rr r3
        refine set_dk (by omega) pins s σ H _ _ v ov iv u Q I ro ri rv ⟨a, _, rfl, DPut.k h3 (by rw [dkz_len (hl.trans rr.len), hl]; exact h.1), k _ _ ?_ (Fr.wr e) h.2⟩
        rw [p1]
        exact orep.wr sr e ⟨vs', upd_same, p2, reps.fr (Fr.wr e) _ _ p3⟩
      · exact h.elim
    · exact h.elim
  · exact h.elim
theorem st_setIx (xs : XS Γ G C N sc Wx X) {o i e : Expr} {o' i' e' : E} {p pos : Pos} (pe : PE X e (tE Γ C Wx e')) (po : PE X o (tE Γ C Wx o')) (pi : PE X i (tE Γ C Wx i')) (hi : ∀ l u st p, i ≠ .Slice l u st p) (h : noLc e = true) : PS X (.Assign [.Subscript o i p] e pos) (tS Γ C Wx (.setIx o' i' e')) := by
  have pg : PG X (.Subscript o i p) (gSub (tE Γ C Wx o') (tE Γ C Wx i') (rSetW Γ)) := pg_sub po pi (set_W xs.un) (by intro v; cases i <;> first | rfl | exact absurd rfl (hi _ _ _ _))
  refine PSimp (ps_asg pe pg (sw_sole h _ _ _) rfl rfl) fun D σ H ⟨env, S, DW, he, hs, h, k⟩ => ?_
  simp only [wS] at h
  refine ⟨env, S, _, _, he, hs, h, fun w S1 v H1 r1 s1 f1 q1 => ?_, k.kx he⟩
  refine ⟨env, S1, _, _, he.fr f1, s1, q1, fun x S2 ov H2 r2 s2 f2 q2 => ?_, (k.fr f1).kx (he.fr f1)⟩
  refine ⟨env, S2, _, _, he.fr (f1.trans f2), s2, q2, fun y S3 iv H3 r3 s3 f3 q3 => ?_, (k.fr (f1.trans f2)).kx (he.fr (f1.trans f2))⟩
  exact ⟨x, y, w, S3, _, rep.fr f3 _ _ r2, r3, rep.fr (f2.trans f3) _ _ r1, s3, q3, fun S4 H4 s4 f4 q4 => k.nx env S4 σ H4 (he.fr (f1.trans (f2.trans (f3.trans f4)))) s4 (f1.trans (f2.trans (f3.trans f4))) q4⟩
/-! ### fields set -/
theorem insz_put {f : List Nat} {w : W} {v : V} {S : Sto} {H : Hp} (rw' : rep Γ S H w v) : ∀ {ks : List (List Nat)} {ws : List W} {vs : List V}, ks.length = ws.length → reps Γ S H ws vs →
    ∃ vs', putF (sZ f) v (insz ks vs) = insz (putW ks ws f w).1 vs' ∧ (putW ks ws f w).1.length = (putW ks ws f w).2.length ∧ reps Γ S H (putW ks ws f w).2 vs' ∧ ∀ k ∈ (putW ks ws f w).1, k ∈ ks ∨ k = f
  | [], [], vs, _, r => by
    cases r
    exact ⟨[v], rfl, rfl, reps.one rw', fun k hk => by simpa [putW] using hk⟩
  | [], _ :: _, _, h, _ => by simp at h
  | _ :: _, [], _, h, _ => by simp at h
  | k :: ks, x :: ws, vs, hl, ⟨u, vr, e, q, t⟩ => by
    subst e
    by_cases e : k = f
    · subst e
      refine ⟨v :: vr, ?_, ?_, ?_, fun k' hk => ?_⟩
      · show putF (sZ k) v ((sZ k, u) :: insz ks vr) = insz (putW (k :: ks) (x :: ws) k w).1 (v :: vr)
        unfold putF putW
        rw [if_pos rfl]
        simp
        rfl
      · unfold putW; rw [if_pos rfl]; simpa using hl
      · unfold putW; rw [if_pos rfl]; exact ⟨v, vr, rfl, rw', t⟩
      · unfold putW at hk; rw [if_pos rfl] at hk; exact .inl hk
    · obtain ⟨vs', h1, h2, h3, h4⟩ := insz_put (f := f) (w := w) rw' (ks := ks) (ws := ws) (by simpa using hl) t
      refine ⟨u :: vs', ?_, ?_, ?_, fun k' hk => ?_⟩
      · have ne : (sZ k == sZ f) = false := by
          rw [beq_eq_false_iff_ne]
          exact fun z => e (sZ_inj z)
        show putF (sZ f) v ((sZ k, u) :: insz ks vr) = insz (putW (k :: ks) (x :: ws) f w).1 (u :: vs')
        unfold putF putW
        rw [if_neg e, if_neg (fun z => e (sZ_inj z)), h1]
        rfl
      · unfold putW; rw [if_neg e]; simpa using h2
      · unfold putW; rw [if_neg e]; exact ⟨u, vs', rfl, q, h3⟩
      · unfold putW at hk
        rw [if_neg e] at hk
        rcases List.mem_cons.mp hk with hk | hk
        · exact .inl (by rw [hk]; exact List.mem_cons_self)
        · rcases h4 k' hk with h5 | h5
          · exact .inl (List.mem_cons_of_mem _ h5)
          · exact .inr h5
theorem st_fldS (xs : XS Γ G C N sc Wx X) {cs : List Nat} {o e : Expr} {o' e' : E} {f : List Nat} {p pos : Pos} (hc : cs.all (fun c => (match G.fld.lookup c with
        | some fs => fs.contains f
        | none => false)) = true) (pe : PE X e (tE Γ C Wx e')) (po : PE X o (tE Γ C Wx o')) (h : noLc e = true) : PS X (.Assign [.Attribute o (sZ f) p] e pos) (tS Γ C Wx (.fldS cs o' f e')) := by
  refine PSimp (ps_fld po pe (sw_no h _ _ _)) fun D σ H ⟨env, S, DW, he, hs, h, k⟩ => ?_
  simp only [wS] at h
  refine ⟨env, S, _, _, he, hs, h, fun w S1 v H1 r1 s1 f1 q1 => ?_, k.kx he⟩
  refine ⟨env, S1, _, _, he.fr f1, s1, q1, fun x S2 ov H2 r2 s2 f2 q2 => ?_, (k.fr f1).kx (he.fr f1)⟩
  dsimp only at q2
  unfold wFldS at q2
  split at q2
  · rename_i a
    split at q2
    · rename_i c ks ws e2
      obtain ⟨hm, hz, q2⟩ := q2
      cases r2
      obtain ⟨dx, vs, h3, ⟨hl, ic⟩, rr⟩ := s2 a _ e2
      have hf := List.all_eq_true.mp hc c hm
      split at hf
      · rename_i fs e4
        have na := xs.fld c fs f e4 (List.contains_iff_mem.mp hf)
        obtain ⟨vs', p1, p2, p3, p4⟩ := insz_put (f := f) (rep.fr f2 _ _ r1) hl rr
        have ff := f1.trans (f2.trans (Fr.wr e2 (u' := .ins c (putW ks ws f w).1 (putW ks ws f w).2) (o := .ins (Γ.ca c) dx (insz (putW ks ws f w).1 vs'))))
        refine ⟨a, Γ.ca c, dx, insz ks vs, rfl, h3, by rw [xs.hK]; exact ic.1.cl, na, ?_, ?_⟩
        · have : (insz ks vs).length ≤ vs.length := by unfold insz; rw [List.length_map, List.length_zip]; omega
          have := rr.len
          omega
        · rw [p1]
          refine k.nx env _ σ _ (he.fr ff) (orep.wr s2 e2 ⟨dx, vs', upd_same, ⟨p2, ic.1, fun k' hk => ?_⟩, reps.fr (Fr.wr e2) _ _ p3⟩) ff q2
          rcases p4 k' hk with h5 | h5
          · exact ic.2 k' h5
          · rw [h5, ← xs.hK]; exact na
      · cases hf
    · exact q2.elim
  · exact q2.elim
theorem st_augF (xs : XS Γ G C N sc Wx X) {cs : List Nat} {o e : Expr} {o' e' : E} {f : List Nat} {p pos : Pos} (hc : cs.all (fun c => (match G.fld.lookup c with
        | some fs => fs.contains f
        | none => false)) = true) (pe : PE X e (tE Γ C Wx e')) (po : PE X o (tE Γ C Wx o')) : PS X (.AugAssign (.Attribute o (sZ f) p) .Add e pos) (tS Γ C Wx (.augF cs o' f e')) := by
  refine PSimp (ps_fldaug po pe in_add) fun D σ H ⟨env, S, DW, he, hs, h, k⟩ => ?_
  simp only [wS] at h
  refine ⟨env, S, _, _, he, hs, h, fun x S1 ov H1 r1 s1 f1 q1 => ?_, k.kx he⟩
  obtain ⟨pp, e0, hm, q1⟩ := wSome_el q1
  obtain ⟨v0, e1, q1⟩ := wSome_el q1
  obtain ⟨a, dx, vs, rfl, ha, ⟨hl, ic⟩, rr⟩ := obj_rep e0 r1 s1
  have hf := List.all_eq_true.mp hc pp.1 hm
  split at hf
  · rename_i fs e4
    have na := xs.fld pp.1 fs f e4 (List.contains_iff_mem.mp hf)
    obtain ⟨v, hv, rv, _⟩ := ins_some rr e1
    refine ⟨a, Γ.ca pp.1, dx, _, v, rfl, ha, by rw [xs.hK]; exact ic.1.cl, na, hv, ?_⟩
    refine ⟨env, S1, _, _, he.fr f1, s1, q1, fun w S2 u H2 r2 s2 f2 q2 => ?_, (k.fr f1).kx (he.fr f1)⟩
    dsimp only at q2
    unfold wInts at q2
    split at q2
    · rename_i i j
      have rv2 : v = V.int i := rv
      have ru2 : u = V.int j := r2
      refine ⟨i, j, rv2, ru2, ?_⟩
      unfold wFldS at q2
      split at q2
      · rename_i a'
        split at q2
        · rename_i c ks ws e2
          obtain ⟨hm2, hz, q2⟩ := q2
          cases r1
          obtain ⟨dx2, vs2, h3, ⟨hl2, ic2⟩, rr2⟩ := s2 a _ e2
          obtain rfl : c = pp.1 := by simpa using hm2
          · have na2 := na
            have rw : rep Γ S2 H2 (.int (i + j)) (.int (i + j)) := rfl
            obtain ⟨vs', p1, p2, p3, p4⟩ := insz_put (f := f) rw hl2 rr2
            have ff := f1.trans (f2.trans (Fr.wr e2 (u' := .ins pp.1 (putW ks ws f (.int (i + j))).1 (putW ks ws f (.int (i + j))).2) (o := .ins (Γ.ca pp.1) dx2 (insz (putW ks ws f (.int (i + j))).1 vs'))))
            refine ⟨dx2, insz ks vs2, h3, ?_, ?_⟩
            · have : (insz ks vs2).length ≤ vs2.length := by unfold insz; rw [List.length_map, List.length_zip]; omega
              have := rr2.len
              omega
            · rw [p1]
              refine k.nx env _ σ _ (he.fr ff) (orep.wr s2 e2 ⟨dx2, vs', upd_same, ⟨p2, ic2.1, fun k' hk => ?_⟩, reps.fr (Fr.wr e2) _ _ p3⟩) ff q2
              rcases p4 k' hk with h5 | h5
              · exact ic2.2 k' h5
              · rw [h5, ← xs.hK]; exact na2
        · exact q2.elim
      · exact q2.elim
    · exact q2.elim
  · cases hf
/-! ### raised -/
theorem st_rseT (xs : XS Γ G C N sc Wx X) (nh : G.hot = false) {x : Str} {c : Nat} {es : List Expr} {es' : List E} {p p2 pos : Pos} (h1 : gloB sc x = true) (h2 : nodbg x = true) (h3 : G.xcl.lookup x = some (c, [])) (ht : chTx es es' = true) : PS X (.Raise (some (.Call (.Name x p) es [] p2)) none pos) (tS Γ C Wx (.rse c [] es')) := by
  unfold chTx at ht
  split at ht
  · obtain ⟨q, hm, hk, rb, rt, xk⟩ := xs.xcl x c nh h3
    refine PSimp (ps_raise (xs.calm nh) xs.tk (pmk_own F.excBase_ValueError q hm hk (raises_own rb rt) (xs.glo h1) (dbg_of h2).1)) fun D σ H ⟨env, S, DW, he, hs, h, k⟩ => ?_
    simp only [wS, wEs, wE, wVar] at h
    exact k.xc ⟨c, [], []⟩ env S _ none σ H ⟨rfl, ⟨rfl, by rw [← xs.hK]; exact xk, fun k hk => by cases hk⟩, [], .inl ⟨rfl, rfl⟩, rfl⟩ he hs (Fr.refl _ _) h.2.2
  · cases ht
theorem del_upd {H1 : Hp} {a dx : Addr} {o1 o2 o3 : HO} (ha : H1 a = none) (ne : dx ≠ a) : L2.del (upd (upd (upd H1 a o1) dx o2) a o3) a = upd H1 dx o2 := by
  funext b
  unfold L2.del upd
  by_cases h : b = a
  · subst h
    rw [if_pos rfl, if_neg (Ne.symm ne), ha]
  · rw [if_neg h, if_neg h]
    by_cases h2 : b = dx
    · rw [if_pos h2, if_pos h2]
    · rw [if_neg h2, if_neg h2, if_neg h]
theorem st_rseI (xs : XS Γ G C N sc Wx X) (nh : G.hot = false) {x : Str} {c : Nat} {fs : List (List Nat)} {es : List Expr} {es' : List E} {p p2 pos : Pos} (hf : fs ≠ []) (h1 : gloB sc x = true) (h2 : nodbg x = true) (h3 : G.xcl.lookup x = some (c, fs)) (h4 : es ≠ []) (hn : es.all noStar = true) (pa : PA X es (tEs Γ C Wx es')) :
    PS X (.Raise (some (.Call (.Name x p) es [] p2)) none pos) (tS Γ C Wx (.rse c fs es')) := by
  obtain ⟨ve, kk, fI, fd, ps, T, iC, tI, F1, hr, hb, hm, xk, hno⟩ := xs.xin x c fs nh h3 hf
  cases es with
  | nil => exact absurd rfl h4
  | cons e es =>
    rw [List.all_cons, Bool.and_eq_true] at hn
    have hx : Passes (L2.CX X.prog X.w) X (fun _ _ _ => False) := fun pins σ H s e s' I c => passAt (X := X) (W := W0) takes00 σ pins H s e s' I c
    refine PSimp (ps_raise (xs.calm nh) xs.tk (pmk_ox T iC tI F1 hr hb hx (xs.glo h1) hm pa (dbg_of h2).1 (star_cons hn.1) (star_any hn.2))) fun D σ H ⟨env, S, DW, he, hs, h, k⟩ => ?_
    simp only [wS] at h
    refine ⟨env, S, _, _, he, hs, h, fun ws S1 us H1 r1 s1 f1 q1 => ?_, k.kx he⟩
    obtain ⟨hz, hl, q1⟩ := q1
    have hl := hl hf
    have lu := r1.len
    refine ⟨by omega, fun a ha => ⟨a, us, rfl, by omega, upd_same, fun dx hdx ne => ⟨rfl, dx, insz fs.reverse us.reverse, upd_same, ?_, ?_, ?_⟩⟩⟩
    · rw [upd_ne ne, upd_same]
    · rw [upd_ne ne] at hdx; exact hdx
    · rw [upd_ne ne] at hdx
      rw [del_upd ha ne]
      have e2 : ∀ (o1 o2 : HO), upd (upd H1 dx o1) dx o2 = upd H1 dx o2 := fun o1 o2 => by
        funext b
        unfold upd
        split <;> rfl
      rw [e2]
      rw [if_neg hf] at q1
      refine k.xc _ env S1 _ (some dx) σ _ ⟨rfl, ⟨by simp [hl], by rw [← xs.hK]; exact xk, fun f hf' => by rw [← xs.hK]; exact hno f (List.mem_reverse.mp hf')⟩, us.reverse, .inr ⟨dx, rfl, s1.nil hdx, upd_same⟩, (reps.fr (Fr.new hdx) _ _ r1).rev⟩ (he.fr (f1.trans (Fr.new hdx))) (s1.new hdx) (f1.trans (Fr.new hdx)) q1
/-! ### tried -/
inductive HcR (Γ : Gm) (C : CT) (K : PySem.W.Frag) : List Hn → List Hc → Prop
  | nil : HcR Γ C K [] []
  | cons {yes no : List Nat} {nm : Option Nat} {suite : List St} {hs : List Hn} {cv : Value} {l : List Hc} (hy : ∀ c ∈ yes, PySem.W.exmOne K (.ref (Γ.ca c)) cv = some true) (hn : ∀ c ∈ no, PySem.W.exmOne K (.ref (Γ.ca c)) cv = some false) (r : HcR Γ C K hs l) :
      HcR Γ C K (.mk yes no nm suite :: hs) (⟨cv, nm, tSs Γ C W0 suite⟩ :: l)
theorem kd_suite {S : Sto} {H : Hp} {DW : Dn} {D : Ends} {nm : Option Nat} (k : KD Γ Wx S H DW D) : KD Γ W0 S H (sutD nm DW) (endH nm D) := by
  cases nm with
  | none => exact ⟨k.nx, k.rt, k.bk, k.ct, fun _ _ _ _ _ _ _ _ _ _ _ q => q⟩
  | some i =>
    exact ⟨fun env' S' σ' H' he hs f q => k.nx _ S' _ H' (he.clr i) hs f q, k.rt, fun env' S' σ' H' he hs f q => k.bk _ S' _ H' (he.clr i) hs f q, fun env' S' σ' H' he hs f q => k.ct _ S' _ H' (he.clr i) hs f q, fun _ _ _ _ _ _ _ _ _ _ _ q => q⟩
theorem hs_of {K : PySem.W.Frag} {hs : List Hn} {l : List Hc} (r : HcR Γ C K hs l) {D : Ends} {S : Sto} {H : Hp} {DW : Dn} {x : Xn} {env : Env} {cls : Value} {d : Option Addr} {σ : L2.St} (k : KD Γ Wx S H DW D) (xr : xrep Γ S H x cls d) (he : envR Γ S H env σ) (sr : SR Γ S H) (q : wHs C hs x env S DW) : wHc K Wx D l cls d σ H := by
  induction r with
  | nil =>
    simp only [wHs] at q
    exact k.xc x env S cls d σ H xr he sr (Fr.refl _ _) q
  | @cons yes no nm suite hs cv l hy hn r ih =>
    simp only [wHs, wHn] at q
    have xr0 := xr
    obtain ⟨rfl, ⟨lx, xc⟩, vs, xd, rr⟩ := xr
    by_cases hm : x.c ∈ yes
    · rw [if_pos hm] at q
      refine ⟨true, hy _ hm, fun _ a ha => ?_, (fun z => nomatch z)⟩
      have f : Fr S H S (upd H a (ExT (.ref (Γ.ca x.c)) d a)) := Fr.new ha
      refine ⟨bindH nm x env, S, sutD nm DW, ?_, sr.new ha, q, kd_suite (k.fr f)⟩
      have rx : rep Γ S (upd H a (ExT (.ref (Γ.ca x.c)) d a)) (.exn x.c x.ks x.ws) (.ref a) := ⟨a, d, vs, rfl, ⟨sr.nil ha, upd_same⟩, xd.fr0 f.1, ⟨lx, xc⟩, reps.fr f _ _ rr⟩
      cases nm with
      | none => exact he.fr f
      | some i => exact (he.fr f).set i rx
    · rw [if_neg hm] at q
      exact ⟨false, hn _ q.1, (fun z => nomatch z), fun _ => ih q.2⟩
theorem xs_tr (xs : XS Γ G C N sc Wx X) {W : WX} {pn : List (Addr × Obj)} {xe : Value → Shared → Prop} (tk : Takes (X.tr pn xe) W) (hp : PassesOwn (model X.prog X.w) X.A X.env xe) : XS Γ G C N sc W (X.tr pn xe) := {
  hN := xs.hN
  nd := xs.nd
  hsc := xs.hsc
  calm := xs.calm
  hK := xs.hK
  tk := tk
  un := xs.un
  bi := xs.bi
  con := xs.con
  fn := xs.fn
  fnv := xs.fnv
  cls := xs.cls
  xcl := xs.xcl
  mth := xs.mth
  fld := xs.fld
  isC := xs.isC
  tab := xs.tab
  tabT := xs.tabT
  hp := fun _ => hp
  fnT := xs.fnT
  kd := xs.kd
  st := xs.st
  fm := xs.fm
  xin := xs.xin
  exm := xs.exm }
theorem xs_suite (xs : XS Γ G C N sc Wx X) (a : Addr) (pn : List (Addr × Obj)) : XS Γ { G with hot := true } C N sc W0 (X.suite a pn) := {
  hN := xs.hN
  nd := xs.nd
  hsc := xs.hsc
  calm := fun z => by cases z
  hK := xs.hK
  tk := takes00
  un := xs.un
  bi := xs.bi
  con := xs.con
  fn := fun _ _ _ z => by cases z
  fnv := xs.fnv
  cls := fun _ _ _ z => by cases z
  xcl := fun _ _ z => by cases z
  mth := fun _ _ _ _ z => by cases z
  fld := xs.fld
  isC := xs.isC
  tab := xs.tab
  tabT := xs.tabT
  hp := fun z => by cases z
  fnT := xs.fnT
  kd := xs.kd
  st := xs.st
  fm := xs.fm
  xin := fun _ _ _ z => by cases z
  exm := xs.exm }
theorem hc_of (xs : XS Γ G C N sc Wx X) {ch : Stmt → St → Bool} (hf : ∀ (a : Addr) (pn : List (Addr × Obj)) {ss : List Stmt} {ss' : List St}, chL ch ss ss' = true → PSs (X.suite a pn) ss (tSs Γ C W0 ss')) : ∀ {hds : List ExceptHandler} {hs : List Hn}, chL (chH G N ch sc) hds hs = true → ∃ l, HcOk X hds l ∧ HcR Γ C X.K hs l
  | [], [], _ => ⟨[], .nil, .nil⟩
  | [], _ :: _, h => by simp [chL] at h
  | _ :: _, [], h => by simp [chL] at h
  | hd :: hds, hn :: hs, h => by
    rw [chL, Bool.and_eq_true] at h
    obtain ⟨l, h1, h2⟩ := hc_of xs hf h.2
    have h := h.1
    unfold chH at h
    split at h
    · rename_i x px nm suite np2 yes no nm' suite' _
      simp only [Bool.and_eq_true] at h
      obtain ⟨⟨⟨⟨⟨g1, g2⟩, g3⟩, g4⟩, g5⟩, g6⟩ := h
      obtain ⟨cv, hcv, hy, hno⟩ := xs.exm x yes no (of_decide_eq_true g3)
      have nm0 : Names X x cv := ⟨xs.glo g1, (dbg_of g2).1, hcv⟩
      cases suite with
      | nil => simp at g4
      | cons st0 sts =>
        split at g5
        · exact ⟨_, .cons nm0 (fun a pn => hf a pn g6) h1, .cons hy hno h2⟩
        · simp only [Bool.and_eq_true, beq_iff_eq] at g5
          exact ⟨_, .consN xs.nN (by rw [xs.hN]; exact of_decide_eq_true g5.1) (by show X.env.scope.names.lookup _ = _; rw [xs.hsc]; exact g5.2) nm0 (fun a pn => hf a pn g6) h1, .cons hy hno h2⟩
        · cases g5
    · cases h
theorem st_trys (xs : XS Γ G C N sc Wx X) {body orelse : List Stmt} {hds : List ExceptHandler} {body' orelse' : List St} {hs : List Hn} {l : List Hc} {pos : Pos} (hne : hds ≠ []) (pb : ∀ (W : WX) (pn : List (Addr × Obj)) (xe : Value → Shared → Prop), Takes (X.tr pn xe) W → PassesOwn (model X.prog X.w) X.A X.env xe → PSs (X.tr pn xe) body (tSs Γ C W body')) (po : PSs X orelse (tSs Γ C Wx orelse')) (h1 : HcOk X hds l) (h2 : HcR Γ C X.K hs l) :
    PS X (.Try body hds orelse [] pos) (tS Γ C Wx (.trys body' hs orelse')) := by
  cases hds with
  | nil => exact absurd rfl hne
  | cons h0 hds =>
    refine PSimp (ps_try_all po xs.st xs.fm xs.tk (tb := fun W => tSs Γ C W body') pb h1) fun D σ H ⟨env, S, DW, he, hs, h, k⟩ => ?_
    simp only [wS] at h
    refine ⟨env, S, _, he, hs, h, ⟨fun env' S' σ' H' he' hs' f q => ⟨env', S', DW, he', hs', q, k.fr f⟩, k.rt, k.bk, k.ct, fun x env' S' cls d σ' H' xr he' hs' f q => hs_of h2 (k.fr f) xr he' hs' q⟩⟩
theorem st_if {c : Expr} {a b : List Stmt} {c' : E} {a' b' : List St} {pos : Pos} (pc : PT X c (tT Γ C Wx c')) (pa : PSs X a (tSs Γ C Wx a')) (pb : PSs X b (tSs Γ C Wx b')) : PS X (.If c a b pos) (tS Γ C Wx (.ite c' a' b')) := by
  refine PSimp (ps_if pc pa pb) fun D σ H ⟨env, S, DW, he, hs, h, k⟩ => ?_
  simp only [wS] at h
  refine ⟨env, S, _, _, he, hs, h, fun x S1 H1 s1 f1 q1 => ?_, k.kx he⟩
  rcases wB_el q1 with ⟨rfl, q1⟩ | ⟨rfl, q1⟩
  · exact ⟨true, rfl, iteT ⟨env, S1, DW, he.fr f1, s1, q1, k.fr f1⟩⟩
  · exact ⟨false, rfl, iteF ⟨env, S1, DW, he.fr f1, s1, q1, k.fr f1⟩⟩
theorem st_for (xs : XS Γ G C N sc Wx X) (nh : G.hot = false) {tg0 iter : Expr} {body : List Stmt} {tg : Tg} {ik : IK} {its : List E} {body' : List St} {pos : Pos} (pi : PI X tg0 iter (iW Γ C Wx ik its)) (pg : PG X tg0 (gW Γ tg)) (pb : PSs X body (tSs Γ C Wx body')) (hs : ∀ x, foldedSetIterable iter X.env x = pure x) :
    PS X (.For tg0 iter body [] pos) (tS Γ C Wx (.for tg ik its body')) := by
  refine PSimp (ps_for (xs.hp nh) (xs.calm nh) pi pg pb hs) fun D σ H ⟨env, S, DW, he, hs, h, k⟩ => ?_
  simp only [wS] at h
  refine ⟨env, S, (fun items lk S1 => wFor lk tg (fun e S D => wSs C body' e S D) items env S1 DW), _, he, hs, h, fun items lk S1 H1 J P wk p0 s1 f1 lv q1 => ?_, k.kx he⟩
  refine ⟨fun i m σ H' => m = items.length - i ∧ ∃ env' S', i ≤ items.length ∧ envR Γ S' H' env' σ ∧ SR Γ S' H' ∧ Fr S1 H1 S' H' ∧ wFor lk tg (fun e S D => wSs C body' e S D) (items.drop i) env' S' DW, ⟨items.length, by simp, env, S1, Nat.zero_le _, he.fr f1, s1, Fr.refl _ _, q1⟩, ?_⟩
  rintro i m σ2 H2 ⟨rfl, env2, S2, hi, he2, s2, f2, q2⟩
  have p2 : P S2 H2 := wk.st _ _ _ _ f2 p0
  by_cases hlt : i < items.length
  · right
    rw [List.drop_eq_getElem_cons hlt] at q2
    obtain ⟨lv2, q2⟩ := q2
    refine ⟨wk.go i S2 H2 s2 p2 lv2 hlt, fun σ' H' => ∃ env' S', i + 1 ≤ items.length ∧ envR Γ S' H' env' σ' ∧ SR Γ S' H' ∧ Fr S1 H1 S' H' ∧ wFor lk tg (fun e S D => wSs C body' e S D) (items.drop (i + 1)) env' S' DW, fun σ' H' hn => ⟨items.length - (i + 1), by omega, rfl, hn⟩, fun x H3 y => ?_⟩
    obtain ⟨w, e1, s3, f3, r3⟩ := wk.yld i S2 H2 x H3 s2 p2 lv2 hlt y
    have e2 : items[i] = w := by rw [List.getElem?_eq_getElem hlt] at e1; exact Option.some.inj e1
    rw [e2] at q2
    obtain ⟨env', e3, q2⟩ := wSome_el q2
    refine ⟨env2, S2, w, env', he2.fr f3, r3, e3, fun σ' _ he' => ?_⟩
    have ff : Fr S1 H1 S2 H3 := f2.trans f3
    refine ⟨env', S2, _, he', s3, q2, ⟨fun e4 S4 σ4 H4 he4 s4 f4 q4 => ⟨e4, S4, hlt, he4, s4, ff.trans f4, q4⟩, fun w S4 v H4 r4 s4 f4 q4 => k.rt w S4 v H4 r4 s4 (f1.trans (ff.trans f4)) q4, fun e4 S4 σ4 H4 he4 s4 f4 q4 => k.nx e4 S4 σ4 H4 he4 s4 (f1.trans (ff.trans f4)) q4,
      fun e4 S4 σ4 H4 he4 s4 f4 q4 => ⟨e4, S4, hlt, he4, s4, ff.trans f4, q4⟩, fun x e4 S4 cls d σ4 H4 r4 he4 s4 f4 q4 => k.xc x e4 S4 cls d σ4 H4 r4 he4 s4 (f1.trans (ff.trans f4)) q4⟩⟩
  · left
    have e : i = items.length := by omega
    subst e
    rw [List.drop_of_length_le (Nat.le_refl _)] at q2
    obtain ⟨lv2, q2⟩ := q2
    exact ⟨wk.stop _ S2 H2 s2 p2 lv2 (Nat.le_refl _), k.nx env2 S2 σ2 H2 he2 s2 (f1.trans f2) q2⟩
theorem st_whl (xs : XS Γ G C N sc Wx X) (nh : G.hot = false) {c : Expr} {body : List Stmt} {c' : E} {body' : List St} {pos : Pos} (pc : PT X c (tT Γ C Wx c')) (pb : PSs X body (tSs Γ C Wx body')) : PS X (.While c body [] pos) (tS Γ C Wx (.whl c' body')) := by
  refine PSimp (ps_while (xs.hp nh) pc pb) fun D σ H ⟨env, S, DW, he, hs, h, k⟩ => ?_
  simp only [wS] at h
  obtain ⟨n, h⟩ := h
  refine ⟨fun m σ H' => ∃ env' S', envR Γ S' H' env' σ ∧ SR Γ S' H' ∧ Fr S H S' H' ∧ wWhl (fun e S Q X => wE C c' e S Q X) (fun e S D => wSs C body' e S D) m env' S' DW, ⟨n, env, S, he, hs, Fr.refl _ _, h⟩, ?_⟩
  rintro m σ2 H2 ⟨env2, S2, he2, s2, f2, q2⟩
  cases m with
  | zero => exact q2.elim
  | succ m =>
    refine ⟨env2, S2, _, _, he2, s2, q2, fun x S3 H3 s3 f3 q3 => ?_, (k.fr f2).kx he2⟩
    have ff : Fr S H S3 H3 := f2.trans f3
    rcases wB_el q3 with ⟨rfl, q3⟩ | ⟨rfl, q3⟩
    · refine ⟨true, rfl, iteT ⟨fun σ' H' => ∃ env' S', envR Γ S' H' env' σ' ∧ SR Γ S' H' ∧ Fr S H S' H' ∧ wWhl (fun e S Q X => wE C c' e S Q X) (fun e S D => wSs C body' e S D) m env' S' DW, fun σ' H' hn => ⟨m, Nat.lt_succ_self _, hn⟩, ?_⟩⟩
      refine ⟨env2, S3, _, he2.fr f3, s3, q3, ⟨fun e4 S4 σ4 H4 he4 s4 f4 q4 => ⟨e4, S4, he4, s4, ff.trans f4, q4⟩, fun w S4 v H4 r4 s4 f4 q4 => k.rt w S4 v H4 r4 s4 (ff.trans f4) q4, fun e4 S4 σ4 H4 he4 s4 f4 q4 => k.nx e4 S4 σ4 H4 he4 s4 (ff.trans f4) q4,
        fun e4 S4 σ4 H4 he4 s4 f4 q4 => ⟨e4, S4, he4, s4, ff.trans f4, q4⟩, fun x e4 S4 cls d σ4 H4 r4 he4 s4 f4 q4 => k.xc x e4 S4 cls d σ4 H4 r4 he4 s4 (ff.trans f4) q4⟩⟩
    · exact ⟨false, rfl, iteF (k.nx env2 S3 σ2 H3 (he2.fr f3) s3 ff q3)⟩
/-! ### every statement that the checker takes -/
theorem sndS : ∀ (n : Nat) {G : GT} {Wx : WX} {X : Cx} {s : Stmt} {s' : St}, XS Γ G C N sc Wx X → chS N G n sc s s' = true → PS X s (tS Γ C Wx s')
  | 0, _, _, _, _, _, _, h => by simp [chS] at h
  | n + 1, G, Wx, X, s, s', xs, h => by
    have ih0 : ∀ {G : GT} {Wx : WX} {X : Cx} {ss : List Stmt} {ss' : List St}, XS Γ G C N sc Wx X → chL (chS N G n sc) ss ss' = true → PSs X ss (tSs Γ C Wx ss') := fun xs q => ss_of (fun s s' q => sndS n xs q) q
    have ih : ∀ {ss : List Stmt} {ss' : List St}, chL (chS N G n sc) ss ss' = true → PSs X ss (tSs Γ C Wx ss') := fun q => ih0 xs q
    have ihP : ∀ {e : Expr} {e' : E}, chE G N 60 sc e e' = true → PE X e (tE Γ C Wx e') := fun q => (sndE 60 xs.toXO q).1
    have ihT : ∀ {e : Expr} {e' : E}, okT e = true → chE G N 60 sc e e' = true → PT X e (tT Γ C Wx e') := fun o q => (sndE 60 xs.toXO q).2 o
    unfold chS at h
    cases s' with
    | pass =>
      simp only at h
      split at h
      · exact PSimp ps_pass fun D σ H ⟨env, S, DW, he, hs, h, k⟩ => k.nx env S σ H he hs (Fr.refl _ _) (by simpa only [wS] using h)
      · exact PSimp ps_doc fun D σ H ⟨env, S, DW, he, hs, h, k⟩ => k.nx env S σ H he hs (Fr.refl _ _) (by simpa only [wS] using h)
      · cases h
    | ex e' =>
      simp only at h
      split at h
      · rw [Bool.and_eq_true] at h
        exact st_ex (ihP h.2) h.1
      · cases h
    | ret e' =>
      simp only at h
      split at h
      · exact st_ret (ihP h)
      · cases h
    | retN =>
      simp only at h
      split at h
      · exact st_retN
      · cases h
    | asg i e' =>
      simp only at h
      split at h
      · rw [Bool.and_eq_true, Bool.and_eq_true] at h
        obtain ⟨⟨h1, h2⟩, h3⟩ := h
        split at h3
        · simp only [Bool.and_eq_true, Bool.not_eq_true'] at h3
          obtain ⟨nh, h3⟩ := h3
          split at h3
          · rw [Bool.and_eq_true] at h3
            exact st_asgL xs nh (of_decide_eq_true h1) h3.1 (lc_of (fun xo q => sndE 60 xo q) xs.toXO nh h3.2)
          · rw [Bool.and_eq_true] at h3
            obtain ⟨sw, h3⟩ := h3
            split at h3
            · simp only [Bool.and_eq_true] at h3
              obtain ⟨⟨⟨⟨⟨⟨⟨⟨⟨g1, g2⟩, g3⟩, hik⟩, hjk⟩, g4⟩, g5⟩, g6⟩, g7⟩, g8⟩ := h3
              exact st_asgK xs nh (of_decide_eq_true h1) sw (fits_all xs.toXO (of_decide_eq_true g1) g2 g3 (of_decide_eq_true hik) (of_decide_eq_true hjk) g4 g5 g6 g7 g8)
            · cases h3
          · rw [Bool.and_eq_true] at h3
            obtain ⟨sw, h3⟩ := h3
            split at h3
            · simp only [Bool.and_eq_true] at h3
              obtain ⟨⟨⟨⟨⟨g1, g2⟩, g3⟩, hik⟩, g4⟩, g5⟩ := h3
              exact st_asgK xs nh (of_decide_eq_true h1) sw (keys_all xs.toXO (of_decide_eq_true g1) g2 g3 (of_decide_eq_true hik) g4 g5)
            · cases h3
          · cases h3
        · rw [Bool.and_eq_true] at h3
          exact st_asg xs (of_decide_eq_true h1) h2 (ihP h3.2) h3.1
      · cases h
    | asgT is e' =>
      simp only [Bool.and_eq_true, Bool.not_eq_true'] at h
      obtain ⟨nh, h⟩ := h
      split at h
      · split at h
        · simp only [Bool.and_eq_true] at h
          obtain ⟨⟨⟨⟨⟨⟨⟨⟨⟨⟨⟨⟨⟨⟨⟨⟨⟨⟨h1, h2⟩, h2b⟩, h3⟩, h3b⟩, h3c⟩, h4⟩, h4b⟩, h4c⟩, h5⟩, h6⟩, h6b⟩, h7⟩, h7b⟩, h8⟩, h9⟩, ha⟩, hb⟩, hc⟩ := h
          exact st_par3 xs nh (of_decide_eq_true h1) (of_decide_eq_true h2) (of_decide_eq_true h2b) (of_decide_eq_true h3) (of_decide_eq_true h3b) (of_decide_eq_true h3c) (of_decide_eq_true h4) (of_decide_eq_true h4b) (of_decide_eq_true h4c) (by simpa using h5) (by simpa using h6) (by simpa using h6b) h7 h7b (by simpa using h8) (by simpa using h9) (chE_ns ha).1 (chE_ns hb).1 (chE_ns hc).1 (ihP ha) (ihP hb) (ihP hc)
        · cases h
      · simp only [Bool.and_eq_true, Bool.not_eq_true'] at h
        exact st_asgT xs nh h.1.1.1 (ihP h.2) h.1.1.2 h.1.2
      · cases h
    | par i j a b =>
      simp only [Bool.and_eq_true, Bool.not_eq_true'] at h
      obtain ⟨nh, h⟩ := h
      split at h
      · simp only [Bool.and_eq_true] at h
        obtain ⟨⟨⟨⟨⟨⟨⟨⟨⟨⟨h1, h2⟩, h3⟩, h4⟩, h5⟩, h6⟩, h7⟩, h8⟩, h9⟩, ha⟩, hb⟩ := h
        exact st_par xs nh (of_decide_eq_true h1) (of_decide_eq_true h2) (of_decide_eq_true h3) (of_decide_eq_true h4) (by simpa using h5) (by simpa using h6) h7 (by simpa using h8) (by simpa using h9) (chE_ns ha).1 (chE_ns hb).1 (ihP ha) (ihP hb)
      · cases h
    | setIx o i e' =>
      simp only at h
      split at h
      · simp only [Bool.and_eq_true] at h
        exact st_setIx xs (ihP h.1.1.2) (ihP h.1.2) (ihP h.2) (chE_ns h.2).2.1 h.1.1.1
      · cases h
    | ite c a b =>
      simp only at h
      split at h
      · simp only [Bool.and_eq_true] at h
        exact st_if (ihT h.1.1.1 h.1.1.2) (ih h.1.2) (ih h.2)
      · cases h
    | «for» tg ik its body =>
      simp only [Bool.and_eq_true, Bool.not_eq_true'] at h
      obtain ⟨nh, h⟩ := h
      split at h
      · simp only [Bool.and_eq_true] at h
        exact st_for xs nh (i_of xs.toXO (fun e e' q => ⟨(chE_ns q).1, ihP q⟩) h.1.2) (pg_of xs.nN (xs.calm nh) xs.hK (tg_of xs.hN xs.loc h.1.1)) (ih h.2) (fold_ok (chI_ok h.1.2))
      · cases h
    | whl c body =>
      simp only [Bool.and_eq_true, Bool.not_eq_true'] at h
      obtain ⟨nh, h⟩ := h
      split at h
      · simp only [Bool.and_eq_true] at h
        exact st_whl xs nh (ihT h.1.1 h.1.2) (ih h.2)
      · cases h
    | brk =>
      simp only at h
      split at h
      · exact PSimp ps_break fun D σ H ⟨env, S, DW, he, hs, h, k⟩ => k.bk env S σ H he hs (Fr.refl _ _) (by simpa only [wS] using h)
      · cases h
    | cnt =>
      simp only at h
      split at h
      · exact PSimp ps_continue fun D σ H ⟨env, S, DW, he, hs, h, k⟩ => k.ct env S σ H he hs (Fr.refl _ _) (by simpa only [wS] using h)
      · cases h
    | fldS cs o f e' =>
      simp only at h
      split at h
      · simp only [Bool.and_eq_true] at h
        obtain ⟨⟨⟨⟨h1, h2⟩, h3⟩, h4⟩, h5⟩ := h
        have e1 := of_decide_eq_true h1
        subst e1
        exact st_fldS xs h3 (ihP h4) (ihP h5) h2
      · cases h
    | augF cs o f e' =>
      simp only at h
      split at h
      · simp only [Bool.and_eq_true] at h
        obtain ⟨⟨⟨⟨h1, h2⟩, h3⟩, h4⟩, h5⟩ := h
        have e1 := of_decide_eq_true h1
        subst e1
        exact st_augF xs h3 (ihP h5) (ihP h4)
      · cases h
    | rse c fs es' =>
      simp only [Bool.and_eq_true, Bool.not_eq_true'] at h
      obtain ⟨nh, h⟩ := h
      split at h
      · simp only [Bool.and_eq_true] at h
        obtain ⟨⟨⟨h1, h2⟩, h3⟩, h4⟩ := h
        have h3 := of_decide_eq_true h3
        cases fs with
        | nil => exact st_rseT xs nh h1 h2 h3 h4
        | cons f fs =>
          simp only [Bool.and_eq_true] at h4
          exact st_rseI xs nh (by simp) h1 h2 h3 (ne_nil h4.1.1) (chL_ns h4.2) (pa_of xs.toXO (fun e e' q => ⟨(chE_ns q).1, ihP q⟩) h4.2)
      · cases h
    | trys body hs orelse =>
      simp only [Bool.and_eq_true, Bool.not_eq_true'] at h
      obtain ⟨nh, h⟩ := h
      split at h
      · simp only [Bool.and_eq_true] at h
        obtain ⟨⟨⟨h1, h2⟩, h3⟩, h4⟩ := h
        obtain ⟨l, k1, k2⟩ := hc_of xs (ch := fun s s' => chS N { G with hot := true } n sc s s') (fun a pn ss ss' q => ih0 (xs_suite xs a pn) q) h4
        exact st_trys xs (ne_nil h1) (fun W pn xe tk hp => ih0 (xs_tr xs tk hp) h2) (ih h3) k1 k2
      · cases h
end
end Bw

/-! Ev15: the defs of a text keep what wF says. -/
namespace Bw
open PySem L2 PySem.Spec PyProof.Rows
/-- a def, as it stands in the written part; dV: its defaults -/
structure FunY (K : PySem.W.Frag) (x qual : Str) (st : Stmt) (f : Addr) (fd : FuncData) : Prop where
  ex : ∃ (oc : Value) (od : Option Addr) (dV kV doc pm : Value) (an : Option Addr) (cdv ct : Value) (osl : Array (Option Value)),
    fd = PySem.W.fnOf x qual (defArgs st) (defBody st) (defScope st) dV kV doc pm an cdv ct ∧ K.lookup f = some ⟨oc, od, .func fd, osl⟩ ∧ PySem.W.codeIn K cdv qual = true
structure DD where
  x : Str
  qual : Str
  st : Stmt
  N : List Str
  ps : List Str
structure FnC (Γ : Gm) (G : GT) (i : Nat) (dd : DD) (d : FD) (fd : FuncData) : Prop where
  F : FunY Γ.K dd.x dd.qual dd.st (Γ.fa i) fd
  S : FnScope dd.N dd.ps (defScope dd.st)
  ar : d.ar = dd.ps.length
  sl : d.slots = dd.N.length
  ch : chL (chS dd.N G 60 (defScope dd.st)) (defBody dd.st) d.body = true
  b : Binds Γ.K fd dd.ps []
def NmW (mg : Str → Option Value) (y : Str) (D : Value) : Prop := mg y = some D ∧ (∃ a, D = .ref a) ∨ mg y = none ∧ ∃ n, D = .type n ∧ bootBuiltins y = some D ∧ y ≠ ("__name__" : Str)
structure Wd (Γ : Gm) (G : GT) (T : Nat → Option FD) (P : Program) (w : World) (base : Heap) (mg : Str → Option Value) (dd : Nat → DD) (fd : Nat → FuncData) : Prop where
  hot : G.hot = false
  fns : ∀ i d, T i = some d → FnC Γ G i (dd i) d (fd i) ∨ (Binds Γ.K (fd i) (dd i).ps [] ∧ ∀ n, (∀ j d, T j = some d → FnOk P w Γ.K mg base (L2.CX P w) (2 * n + 4) (Γ.fa j) (fd j) (dd j).ps (spF Γ (wF T n) j) ∧ Binds Γ.K (fd j) (dd j).ps []) → FnOk P w Γ.K mg base (L2.CX P w) (2 * (n + 1) + 4) (Γ.fa i) (fd i) (dd i).ps (spF Γ (wF T (n + 1)) i))
  fnv : ∀ x f ar, (x, f, ar) ∈ G.fns → (∃ d, T f = some d) ∧ mg x = some (.ref (Γ.fa f)) ∧ PySem.W.keepIn Γ.K (.ref (Γ.fa f)) = true
  dfl : ∀ x f ar ws, (x, f, ar) ∈ G.fns → G.dfl.lookup x = some ws → ∀ m, m ≤ ws.length → ∃ dvs ds, Binds Γ.K (fd f) (dd f).ps ds ∧ Vals dvs ds ∧ ∀ S H, reps Γ S H (ws.drop (ws.length - m)) dvs
  bi : ∀ x, G.bis.contains x = true → mg x = none
  con : ∀ x w, G.cons.lookup x = some w → ∃ v u, mg x = some u ∧ RelV v u ∧ ∀ S H, rep Γ S H w v
  tab : ∀ x kvs, G.tabs.lookup x = some kvs → ∃ p, mg x = some (.ref p) ∧ ∀ k w', kvs.lookup k = some w' → ∃ v, KDct Γ.K w p ⟨k.toArray⟩ v ∧ ∀ S H, rep Γ S H w' v
  tabT : ∀ x kvs, G.tabT.lookup x = some kvs → ∃ p xs, mg x = some (.ref p) ∧ TabTR Γ P w p kvs xs
  cls : ∀ x c fi, G.cls.lookup x = some (c, fi) → (∃ d, T fi = some d) ∧ Mk Γ.K (Γ.ca c) (Γ.fa fi) ∧ mg x = some (.ref (Γ.ca c)) ∧ InsC Γ.K (Γ.ca c)
  mth : ∀ m tb c f, G.mth.lookup m = some tb → tb.lookup c = some f → (∃ d, T f = some d) ∧ Meth Γ.K (Γ.ca c) (sZ m) (Γ.fa f)
  fld : ∀ c fs f, G.fld.lookup c = some fs → f ∈ fs → NoAttr Γ.K (Γ.ca c) (sZ f)
  xcl : ∀ x c, G.xcl.lookup x = some (c, []) → PySem.W.excIn Γ.K (Γ.ca c) [.type "ValueError", .type "Exception", .type "BaseException", .type "object"] "ValueError.__new__" = true ∧ mg x = some (.ref (Γ.ca c)) ∧ PySem.W.keepIn Γ.K (.ref (Γ.ca c)) = true ∧
    PySem.W.subIn Γ.K (.ref (Γ.ca c)) (.type "BaseException") = some true ∧ PySem.W.typeIn Γ.K (.ref (Γ.ca c)) = some (.type "type") ∧ XkC Γ.K (Γ.ca c)
  xin : ∀ x c fs, G.xcl.lookup x = some (c, fs) → fs ≠ [] → ∃ (ve : Bool) (fI : Addr) (fd : FuncData) (ps : List Str), OxC Γ.K (Γ.ca c) ve ∧ PySem.W.findIn Γ.K (.ref (Γ.ca c)) "__init__" = some (some (.ref fI)) ∧ PySem.W.typeIn Γ.K (.ref fI) = some (.type "function") ∧
    FnOk P w Γ.K mg base (L2.CX P w) 1 fI fd ps (spI (Γ.ca c) fs) ∧ Binds Γ.K fd ps [] ∧ mg x = some (.ref (Γ.ca c)) ∧ XkC Γ.K (Γ.ca c) ∧ ∀ f ∈ fs, PySem.W.findIn Γ.K (.ref (Γ.ca c)) (sZ f) = some none
  isC : ∀ y yes no, G.isC.lookup y = some (yes, no) → ∃ D, NmW mg y D ∧ (∀ c ∈ yes, PySem.W.kitOne Γ.K (.ref (Γ.ca c)) D = some true) ∧ (∀ c ∈ no, PySem.W.kitOne Γ.K (.ref (Γ.ca c)) D = some false) ∧ ∀ n ∈ ["NoneType", "bool", "int"], PySem.W.kitOne Γ.K (.type n) D = some false
  exm : ∀ x yes no, G.exm.lookup x = some (yes, no) → ∃ cv, (mg x = some cv ∨ (mg x = none ∧ bootBuiltins x = some cv ∧ x ≠ ("__name__" : Str))) ∧ (∀ c ∈ yes, PySem.W.exmOne Γ.K (.ref (Γ.ca c)) cv = some true) ∧ ∀ c ∈ no, PySem.W.exmOne Γ.K (.ref (Γ.ca c)) cv = some false
section
variable {Γ : Gm} {S S' : Sto} {H H' : Hp}
theorem xrep.fr {x : Xn} {cls : Value} {d : Option Addr} (f : Fr S H S' H') (r : xrep Γ S H x cls d) : xrep Γ S' H' x cls d := by
  obtain ⟨e, l, vs, xd, rr⟩ := r
  exact ⟨e, l, vs, xd.fr0 f.1, reps.fr f _ _ rr⟩
theorem env_start {N : List Str} {ws : List W} {vs : List V} {d : FD} (r : reps Γ S H ws vs) (h : d.slots = N.length) : envR Γ S H (entry d ws) (L2.start N vs) := by
  unfold entry L2.start
  refine ⟨by simp [r.len, h], fun i w e => ?_⟩
  by_cases hi : i < ws.length
  · rw [List.getElem?_append_left (by simpa using hi)] at e
    obtain ⟨v, e1, e2⟩ := r.getS e
    exact ⟨v, by rw [List.getElem?_append_left (by simpa [← r.len] using hi)]; exact e1, e2⟩
  · rw [List.getElem?_append_right (by simpa using hi)] at e
    rw [List.getElem?_replicate] at e
    split at e <;> cases e
theorem kd_of {Q : VK} {E : XK} {QW : VQ} {XW : XQ} (k : KQ Γ S H QW Q) (kx : KX Γ S H XW E) : KD Γ (fun cls d _ H => E cls d H) S H (dnOf QW XW) { nx := fun _ H' => Q .non H', rt := Q } where
  nx := fun env' S1 σ' H1 he hs f ⟨S2, sb, q⟩ => k .non S2 .non H1 rfl (hs.sub sb) (f.trans (Fr.sub sb)) q
  rt := fun w S1 v H1 r hs f ⟨w', S2, z, q⟩ => by
    obtain ⟨r2, s2, f2⟩ := z.rep hs r
    exact k w' S2 v H1 r2 s2 (f.trans f2) q
  bk := fun _ _ _ _ _ _ _ q => q.elim
  ct := fun _ _ _ _ _ _ _ q => q.elim
  xc := fun x env' S1 cls d σ' H1 r he hs f ⟨S2, sb, q⟩ => kx x S2 cls d H1 (r.fr (Fr.sub sb)) (hs.sub sb) (f.trans (Fr.sub sb)) q
end
section
variable {Γ : Gm} {G : GT} {T : Nat → Option FD} {w : World} {mg : Str → Option Value} {dd : Nat → DD} {fd : Nat → FuncData} {P : Program} {base : Heap}
theorem FunY.ok {K : PySem.W.Frag} {x qual : Str} {st : Stmt} {f : Addr} {fd : FuncData} {N ps : List Str} {k : Nat} {sp : Sp} (F : FunY K x qual st f fd) (S : FnScope N ps (defScope st)) (len : ∀ vs H Q E, sp vs H Q E → vs.length = ps.length)
    (hbody : ∀ (cdv : Value) (A : Around) (outer : List PySem.Env) (s : Shared) (H : Hp) (vs : List V) (Q : VK) (E : XK), Room k (A.deeper (envOfC qual (defScope st) s.heap.objs.size f cdv)) → sp vs H Q E →
      ∃ t, PSs (cxOf (L2.CX P w) P w K mg base N qual (defScope st) f cdv A outer s H E) (defBody st) t ∧ t { nx := fun _ H' => Q .non H', rt := Q } (L2.start N vs) H) : FnOk P w K mg base (L2.CX P w) (k + 1) f fd ps sp := by
  obtain ⟨oc, od, dV, kV, doc, pm, an, cdv, ct, osl, rfl, lk, hcd⟩ := F.ex
  exact fn_of lk hcd S len fun A outer s H vs Q E hr hsp => hbody cdv A outer s H vs Q E hr hsp
theorem Wd.bind (wd : Wd Γ G T P w base mg dd fd) {i : Nat} {d : FD} (h : T i = some d) : Binds Γ.K (fd i) (dd i).ps [] := by
  rcases wd.fns i d h with c | c
  · exact c.b
  · exact c.1
theorem fn_ok (wd : Wd Γ G T P w base mg dd fd) : ∀ (n i : Nat) (d : FD), T i = some d → FnOk P w Γ.K mg base (L2.CX P w) (2 * n + 4) (Γ.fa i) (fd i) (dd i).ps (spF Γ (wF T n) i)
  | 0, i, d, h => ⟨fun vs H Q E q => by obtain ⟨ws, S, QW, XW, r, sr, c, _⟩ := q; exact (show False from c).elim, fun A outer s H args us vs Q E _ _ _ _ q => by obtain ⟨ws, S, QW, XW, r, sr, c, _⟩ := q; exact (show False from c).elim⟩
  | n + 1, i, d, h => by
    rcases wd.fns i d h with c | ⟨_, hh⟩
    case inr => exact hh n fun j d2 h2 => ⟨fn_ok wd n j d2 h2, wd.bind h2⟩
    refine c.F.ok (k := 2 * n + 5) c.S (fun vs H Q E q => ?_) (fun cdv A outer s H vs Q E hr q => ?_)
    · obtain ⟨ws, S, QW, XW, r, sr, c2, _⟩ := q
      obtain ⟨d', e, hl, _⟩ := wSome_el (show wSome (T i) _ from c2)
      rw [h] at e
      cases e
      rw [← r.len, hl, c.ar]
    · obtain ⟨ws, S, QW, XW, r, sr, c2, k, kx⟩ := q
      obtain ⟨d', e, hl, hb⟩ := wSome_el (show wSome (T i) (fun d => ws.length = d.ar ∧ wSs (wF T n) d.body (entry d ws) S (dnOf QW XW)) from c2)
      rw [h] at e
      cases e
      have xs : XS Γ G (wF T n) (dd i).N (defScope (dd i).st) (fun cls d _ H => E cls d H) (cxOf (L2.CX P w) P w Γ.K mg base (dd i).N (dd i).qual (defScope (dd i).st) (Γ.fa i) cdv A outer s H E) := {
        hN := rfl
        nd := c.S.nd
        hsc := rfl
        calm := fun _ => rfl
        hK := rfl
        tk := takes_of rfl rfl rfl rfl
        un := hr.units
        bi := wd.bi
        con := wd.con
        fn := fun x f ar _ e => by
          obtain ⟨⟨d2, h2⟩, hm, hk⟩ := wd.fnv x f ar e
          have c3 := wd.bind h2
          exact ⟨2 * n + 4, fd f, (dd f).ps, fn_ok wd n f d2 h2, hr.mono (by omega), hk, c3, fun ws q => wd.dfl x f ar ws e q⟩
        fnv := fun x f ar e => (wd.fnv x f ar e).2.1
        cls := fun x c fi _ e => by
          obtain ⟨⟨d2, h2⟩, hM, hm, hi⟩ := wd.cls x c fi e
          exact ⟨2 * n + 4, fd fi, (dd fi).ps, fn_ok wd n fi d2 h2, wd.bind h2, hr, hM, hm, hi⟩
        xcl := fun x c _ e => wd.xcl x c e
        mth := fun m tb c f _ e1 e2 => by
          obtain ⟨⟨d2, h2⟩, hm⟩ := wd.mth m tb c f e1 e2
          exact ⟨2 * n + 4, ⟨fd f, (dd f).ps, fn_ok wd n f d2 h2, wd.bind h2⟩, hr.mono (by omega), hm⟩
        fld := wd.fld
        isC := wd.isC
        tab := wd.tab
        tabT := wd.tabT
        hp := fun _ => passes_of rfl
        fnT := fun _ => rfl
        kd := c.S.kind
        st := rfl
        fm := rfl
        xin := fun x c fs _ e ne => by
          obtain ⟨ve, fI, fd, ps, T, iC, tI, F, hb, hm, xk, hn⟩ := wd.xin x c fs e ne
          exact ⟨ve, 1, fI, fd, ps, T, iC, tI, F, hr.mono (by omega), hb, hm, xk, hn⟩
        exm := wd.exm }
      exact ⟨_, ss_of (fun s s' q => sndS 60 xs q) c.ch, entry d ws, S, dnOf QW XW, env_start r c.sl, sr, hb, kd_of k kx⟩
/-! ### an exception's __init__ -/
def chSets (N : List Str) (sc : Scope) (self : Str) : Nat → List Stmt → List (List Nat) → Bool
  | _, [], [] => true
  | i, .Assign [.Attribute (.Name s _) nm _] (.Name y _) _ :: r, f :: fs => s == self && decide (nm = sZ f) && decide (N[i]? = some y) && visB sc y && nodbg y && chSets N sc self (i + 1) r fs
  | _, _, _ => false
def addAll : List (Str × V) → List (List Nat) → List V → List (Str × V)
  | d, f :: fs, y :: ys => addAll ((sZ f, y) :: d) fs ys
  | d, _, _ => d
theorem insz_app : ∀ {ks : List (List Nat)} {vs : List V} {k : List Nat} {v : V}, ks.length = vs.length → insz (ks ++ [k]) (vs ++ [v]) = insz ks vs ++ [(sZ k, v)]
  | [], [], _, _, _ => rfl
  | [], _ :: _, _, _, h => by simp at h
  | _ :: _, [], _, _, h => by simp at h
  | k' :: ks, v' :: vs, k, v, h => by
    show (sZ k', v') :: insz (ks ++ [k]) (vs ++ [v]) = _
    rw [insz_app (by simpa using h)]; rfl
theorem addAll_eq : ∀ {fs : List (List Nat)} {ys : List V} {d : List (Str × V)}, fs.length = ys.length → addAll d fs ys = insz fs.reverse ys.reverse ++ d
  | [], [], d, _ => rfl
  | [], _ :: _, _, h => by simp at h
  | _ :: _, [], _, h => by simp at h
  | f :: fs, y :: ys, d, h => by
    have h' : fs.length = ys.length := by simpa using h
    show addAll ((sZ f, y) :: d) fs ys = _
    rw [addAll_eq h', List.reverse_cons, List.reverse_cons, insz_app (by simpa using h')]
    simp
section
variable {X : Cx} {N : List Str} {sc : Scope} {C : Addr} {ve : Bool}
/-- the heap behind the settings -/
def heapI (H : Hp) (a dx : Addr) (C : Addr) (d : List (Str × V)) : Hp := upd (upd H dx (exd dx d)) a (exo a C (some dx))
theorem heapI_ne {H : Hp} {a dx : Addr} {d d' : List (Str × V)} (ne : dx ≠ a) : upd (heapI H a dx C d) dx (exd dx d') = heapI H a dx C d' := by
  funext b
  unfold heapI upd
  by_cases h : b = a
  · subst h
    rw [if_neg (Ne.symm ne), if_pos rfl, if_pos rfl]
  · by_cases h2 : b = dx
    · rw [if_pos h2, if_neg h, if_pos h2]
    · rw [if_neg h2, if_neg h, if_neg h, if_neg h2, if_neg h2]
theorem vis_of (hsc : X.env.scope = sc) {x : Str} (h : visB sc x = true) : Vis X.env.scope x := by
  rw [hsc]
  unfold visB at h
  split at h <;> first | exact .inl (by assumption) | exact .inr (.inl (by assumption)) | exact .inr (.inr (by assumption)) | cases h
/-- the settings -/
theorem sets_ok (hN : X.N = N) (hsc : X.env.scope = sc) {self : Str} (h0 : N[0]? = some self) (v0 : visB sc self = true) (d0 : nodbg self = true) (T : OxC X.K C ve) : ∀ {r : List Stmt} {fs : List (List Nat)} {i : Nat}, chSets N sc self i r fs = true → (∀ f ∈ fs, PySem.W.findIn X.K (.ref C) (sZ f) = some none) → fs.length ≤ 400 →
    PSs X r fun D σ H => ∃ (a dx : Addr) (H0 : Hp) (d : List (Str × V)) (ys : List V), σ[0]? = some (some (.ref a)) ∧ dx ≠ a ∧ H = heapI H0 a dx C d ∧ d.length + fs.length ≤ 500 ∧ ys.length = fs.length ∧ (∀ j y, ys[j]? = some y → σ[i + j]? = some (some y)) ∧ D.nx σ (heapI H0 a dx C (addAll d fs ys))
  | [], [], i, _, _, _ => PSsimp pss_nil fun D σ H ⟨a, dx, H0, d, ys, s0, ne, e, hl, hy, hs, q⟩ => by
    have : ys = [] := List.eq_nil_of_length_eq_zero hy
    subst this
    subst e
    exact q
  | [], _ :: _, i, h, _, _ => by simp [chSets] at h
  | st :: r, fs, i, h, hno, hl => by
    unfold chSets at h
    split at h
    · rename_i e1; cases e1
    · rename_i i _ _ _ s p1 nm p2 y p3 p4 r' f fs' e1
      cases e1
      simp only [Bool.and_eq_true, beq_iff_eq] at h
      obtain ⟨⟨⟨⟨⟨g1, g2⟩, g3⟩, g4⟩, g5⟩, g6⟩ := h
      have g2 := of_decide_eq_true g2
      subst g1
      subst g2
      have pself : PE X (.Name s p1) (tVar 0) := pe_var (by rw [hN]; exact h0) (vis_of hsc v0) (dbg_of d0).1 (dbg_of d0).2.1
      have py : PE X (.Name y p3) (tVar i) := pe_var (by rw [hN]; exact of_decide_eq_true g3) (vis_of hsc g4) (dbg_of g5).1 (dbg_of g5).2.1
      have ih := sets_ok hN hsc h0 v0 d0 T g6 (fun f hf => hno f (List.mem_cons_of_mem _ hf)) (by simp at hl; omega)
      refine PSsimp (pss_cons (ps_oxs pself py) ih) fun D σ H ⟨a, dx, H0, d, ys, s0, ne, e, hl, hy, hs, q⟩ => ?_
      subst e
      cases ys with
      | nil => cases hy
      | cons y0 ys =>
        have ya := hs 0 y0 rfl
        refine ⟨y0, ya, .ref a, s0, a, C, ve, rfl, T, hno f (by simp), .inr ⟨dx, d, ?_, ?_, ?_, ?_⟩⟩
        · exact upd_same
        · show upd _ a _ dx = _
          rw [upd_ne ne]; exact upd_same
        · simp at hl; omega
        · rw [heapI_ne ne]
          refine ⟨a, dx, H0, (sZ f, y0) :: d, ys, s0, ne, rfl, by simp at hl ⊢; omega, by simpa using hy, fun j y' q' => ?_, q⟩
          have := hs (j + 1) y' (by simpa using q')
          rw [show i + 1 + j = i + (j + 1) from by omega]
          exact this
    · cases h
/-- the first one, too -/
theorem sets0_ok (hN : X.N = N) (hsc : X.env.scope = sc) {self : Str} (h0 : N[0]? = some self) (v0 : visB sc self = true) (d0 : nodbg self = true) (T : OxC X.K C ve) {r : List Stmt} {fs : List (List Nat)} (hf : fs ≠ []) (h : chSets N sc self 1 r fs = true) (hno : ∀ f ∈ fs, PySem.W.findIn X.K (.ref C) (sZ f) = some none) (hl : fs.length ≤ 400) :
    PSs X r fun D σ H => ∃ (a : Addr) (ys : List V), σ[0]? = some (some (.ref a)) ∧ H a = some (exo a C none) ∧ ys.length = fs.length ∧ (∀ j y, ys[j]? = some y → σ[1 + j]? = some (some y)) ∧ ∀ dx, H dx = none → dx ≠ a → D.nx σ (heapI H a dx C (insz fs.reverse ys.reverse)) := by
  cases r with
  | nil => cases fs with | nil => exact absurd rfl hf | cons _ _ => simp [chSets] at h
  | cons st r =>
    unfold chSets at h
    split at h
    · rename_i e1; cases e1
    · rename_i s p1 nm p2 y p3 p4 r' f fs' e1
      cases e1
      simp only [Bool.and_eq_true, beq_iff_eq] at h
      obtain ⟨⟨⟨⟨⟨g1, g2⟩, g3⟩, g4⟩, g5⟩, g6⟩ := h
      have g2 := of_decide_eq_true g2
      subst g1
      subst g2
      have pself : PE X (.Name s p1) (tVar 0) := pe_var (by rw [hN]; exact h0) (vis_of hsc v0) (dbg_of d0).1 (dbg_of d0).2.1
      have py : PE X (.Name y p3) (tVar 1) := pe_var (by rw [hN]; exact of_decide_eq_true g3) (vis_of hsc g4) (dbg_of g5).1 (dbg_of g5).2.1
      have ih := sets_ok hN hsc h0 v0 d0 T g6 (fun f hf => hno f (List.mem_cons_of_mem _ hf)) (by simp at hl; omega)
      refine PSsimp (pss_cons (ps_oxs pself py) ih) fun D σ H ⟨a, ys, s0, ha, hy, hs, q⟩ => ?_
      cases ys with
      | nil => cases hy
      | cons y0 ys =>
        have ya := hs 0 y0 rfl
        refine ⟨y0, ya, .ref a, s0, a, C, ve, rfl, T, hno f (by simp), .inl ⟨ha, fun dx hdx ne => ?_⟩⟩
        refine ⟨a, dx, H, [(sZ f, y0)], ys, s0, ne, rfl, by simp at hl ⊢; omega, by simpa using hy, fun j y' q' => ?_, ?_⟩
        · have := hs (j + 1) y' (by simpa using q')
          rw [show 1 + 1 + j = 1 + (j + 1) from by omega]
          exact this
        · have q := q dx hdx ne
          rw [addAll_eq (by simpa using hy.symm)]
          rw [List.reverse_cons, List.reverse_cons, insz_app (by simpa using hy.symm)] at q
          exact q
    · cases h
/-- a whole body; B: the base whose __init__ is called first -/
def chIn (N : List Str) (sc : Scope) (B : Option Str) (body : List Stmt) (fs : List (List Nat)) : Bool :=
  match N with
  | [] => false
  | self :: _ => visB sc self && nodbg self && !fs.isEmpty && decide (fs.length ≤ 400) && (match B, body with
    | none, r => chSets N sc self 1 r fs
    | some b, .Expr (.Call (.Attribute (.Name x _) im p2) [.Name s _, .Constant (.str _) _ _] [] pos) _ :: r => x == b && gloB sc x && nodbg x && im == ("__init__" : Str) && s == self && (p2.endLine == pos.line) && chSets N sc self 1 r fs
    | _, _ => false)
end
theorem init_ok {K : PySem.W.Frag} {x qual : Str} {st : Stmt} {f C : Addr} {fd : FuncData} {N ps : List Str} {fs : List (List Nat)} {B : Option Str} {ve : Bool} (F : FunY K x qual st f fd) (S : FnScope N ps (defScope st)) (hp : ps.length = fs.length + 1) (T : OxC K C ve)
    (hB : match B with | none => True | some b => ve = true ∧ ∃ bA, mg b = some (.ref bA) ∧ XbC K bA) (hc : chIn N (defScope st) B (defBody st) fs = true) (hno : ∀ f ∈ fs, PySem.W.findIn K (.ref C) (sZ f) = some none) : FnOk P w K mg base (L2.CX P w) 1 f fd ps (spI C fs) := by
  refine F.ok (k := 0) S (fun vs H Q E q => ?_) (fun cdv A outer s H vs Q E hr q => ?_)
  · obtain ⟨a, us, rfl, hl, _⟩ := q
    rw [hp, List.length_cons, hl]
  · obtain ⟨a, us, rfl, hl, ha, q⟩ := q
    cases N with
    | nil => simp [chIn] at hc
    | cons self Nr =>
      simp only [chIn, Bool.and_eq_true] at hc
      obtain ⟨⟨⟨⟨v0, d0⟩, hne⟩, h4⟩, hc⟩ := hc
      have hn : fs ≠ [] := ne_nil hne
      have h4 := of_decide_eq_true h4
      have st0 : (L2.start (self :: Nr) (V.ref a :: us))[0]? = some (some (.ref a)) := rfl
      have stj : ∀ j y, us[j]? = some y → (L2.start (self :: Nr) (V.ref a :: us))[1 + j]? = some (some y) := fun j y hy => by
        have hlt : j < us.length := by
          rcases Nat.lt_or_ge j us.length with h | h
          · exact h
          · rw [List.getElem?_eq_none h] at hy; cases hy
        unfold L2.start
        rw [List.getElem?_append_left (by simp; omega), List.getElem?_map, show 1 + j = j + 1 from by omega, List.getElem?_cons_succ, hy]
        rfl
      cases B with
      | none =>
        exact ⟨_, sets0_ok rfl rfl rfl v0 d0 T hn hc hno h4, a, us, st0, ha, hl, stj, fun dx h1 h2 => q dx h1 h2⟩
      | some b =>
        obtain ⟨rfl, bA, hm, xb⟩ := hB
        split at hc
        · exact absurd (by assumption : some b = none) (by simp)
        · rename_i b' x1 p1 im p2 s1 p3 t1 j1 p4 p5 p6 r e1 e2
          cases e1
          simp only [Bool.and_eq_true, beq_iff_eq] at hc
          obtain ⟨⟨⟨⟨⟨⟨g1, g2⟩, g3⟩, g4⟩, g5⟩, g6⟩, g7⟩ := hc
          subst g1
          subst g4
          subst g5
          rw [e2]
          have hg : Gl (cxOf (L2.CX P w) P w K mg base (s1 :: Nr) qual (defScope st) f cdv A outer s H E) x1 := by
            show (defScope st).names.lookup x1 = some .globalImplicit
            unfold gloB at g2
            split at g2 <;> first | assumption | cases g2
          have pself : PE (cxOf (L2.CX P w) P w K mg base (s1 :: Nr) qual (defScope st) f cdv A outer s H E) (.Name s1 p3) (tVar 0) := pe_var rfl (vis_of rfl v0) (dbg_of d0).1 (dbg_of d0).2.1
          refine ⟨_, pss_cons (ps_expr (pe_xinit xb hg hm (dbg_of g3).1 (pa_cons pself (pa_cons pe_str pa_nil rfl) rfl) (mc_eq rfl (by simpa using g6) rfl (by simp)) rfl rfl) rfl) (sets0_ok rfl rfl rfl v0 d0 T hn g7 hno h4), ?_⟩
          refine ⟨.ref a, st0, a, C, _, rfl, by simp, T, ha, ?_⟩
          exact ⟨a, us, st0, ha, hl, stj, fun dx h1 h2 => q dx h1 h2⟩
        · cases hc
/-- what law(script) promises -/
def spL (K : PySem.W.Frag) : Sp := fun vs H Q _ => ∃ (a : Addr) (ns : List Int), vs = [.ref a] ∧ SqL K H a (ns.map V.int) ∧ ns.length ≤ 63 ∧ (∀ z ∈ ns, Builtin.Int.intBits z ≤ 1048576) ∧ ∀ H', Q (.bl true) H'
theorem ints_reps {S : Sto} {H : Hp} : ∀ (ns : List Int), reps Γ S H (ns.map W.int) (ns.map V.int)
  | [] => rfl
  | n :: ns => ⟨_, _, rfl, rfl, ints_reps ns⟩
theorem law_end (wd : Wd Γ G T P w base mg dd fd) {n li : Nat} {d : FD} (h : T li = some d) (m : ∀ ns : List Int, ns.length ≤ 63 → (∀ z ∈ ns, Builtin.Int.intBits z ≤ 1048576) → wF T n li [.sc (ns.map W.int)] (fun _ => none) (fun w _ => w = .bl true) (fun _ _ => False)) :
    FnOk P w Γ.K mg base (L2.CX P w) (2 * n + 4) (Γ.fa li) (fd li) (dd li).ps (spL Γ.K) := by
  refine (fn_ok wd n li d h).imp fun vs H Q E q => ?_
  obtain ⟨a, ns, rfl, hS, hl, hb, q⟩ := q
  refine ⟨[.sc (ns.map W.int)], fun _ => none, _, _, reps.one ⟨a, ns.map V.int, rfl, ?_, ints_reps ns⟩, fun a o e => (by cases e), m ns hl hb, fun w S' v H' r s f e => ?_, fun _ _ _ _ _ _ _ _ q => q.elim⟩
  · rcases hS with hS | hS
    · exact .inl ⟨rfl, hS⟩
    · exact .inr hS
  · subst e
    cases r
    exact q H'
end
end Bw

/-! Ev15b: words for the head: classes. -/
namespace Bw
open PySem L2 PySem.Spec PyProof.Rows
theorem _root_.L2.Fun.y {K : PySem.W.Frag} {x qual : Str} {st : Stmt} {f : Addr} {fd : FuncData} (F : Fun K x qual st f fd) : FunY K x qual st f fd := by
  obtain ⟨oc, od, kV, doc, pm, an, cdv, ct, osl, e, l, c⟩ := F.ex
  exact ⟨⟨oc, od, .none, kV, doc, pm, an, cdv, ct, osl, e, l, c⟩⟩
theorem mem_of_lookupA {α β : Type} [BEq α] [LawfulBEq α] : ∀ {l : List (α × β)} {n : α} {c : β}, l.lookup n = some c → (n, c) ∈ l
  | [], _, _, h => by cases h
  | (k, v) :: r, n, c, h => by
    rw [List.lookup_cons] at h
    cases q : n == k with
    | true =>
      rw [q] at h
      cases h
      rw [beq_iff_eq] at q
      subst q
      exact List.mem_cons_self
    | false =>
      rw [q] at h
      exact List.mem_cons_of_mem _ (mem_of_lookupA h)
section
variable {K : PySem.W.Frag} {A B : Addr} {b : Bool}
end
end Bw

/-! Ev16: small words for a law's head. -/
namespace Bw
open PySem L2 PySem.Spec PyProof.Rows
inductive AllL {α : Type} (φ : α → Prop) : List α → Prop
  | nil : AllL φ []
  | cons {a : α} {l : List α} : φ a → AllL φ l → AllL φ (a :: l)
theorem AllL.mem {α : Type} {φ : α → Prop} {l : List α} (h : AllL φ l) {a : α} (m : a ∈ l) : φ a := by
  induction h with
  | nil => cases m
  | cons q _ ih =>
    rcases List.mem_cons.mp m with rfl | m
    · exact q
    · exact ih m
end Bw

/-! Ev17: words for reading wF: comprehensions, loops, returns. -/
namespace Bw
open PySem (sizeLine)
theorem wMap_pure {lk : Lk} {f : W → Sto → (List W → Sto → Prop) → Prop} {S : Sto} (g : W → List W) (hl : liveS lk S) : ∀ {xs : List W} {Q : List W → Sto → Prop}, (∀ x ∈ xs, ∀ R : List W → Sto → Prop, R (g x) S → f x S R) → Q (xs.flatMap g) S → wMap lk f xs S Q
  | [], _, _, q => ⟨hl, q⟩
  | x :: xs, Q, h, q => ⟨hl, h x List.mem_cons_self _ (wMap_pure g hl (fun y hy => h y (List.mem_cons_of_mem _ hy)) (by simpa using q))⟩
theorem set_del {S : Sto} {D : PySem.Addr} {o : O} (h : S D = none) : (S.set D o).del D = S := by
  funext b
  unfold Sto.set Sto.del
  by_cases e : b = D
  · rw [if_pos e, e, h]
  · rw [if_neg e]; simp only [if_neg e]
theorem liveS_set {D : PySem.Addr} {o : O} : ∀ {lk : Lk} {S : Sto}, liveS lk S → S D = none → liveS lk (S.set D o)
  | [], _, _, _ => trivial
  | p :: r, S, h, e => ⟨by
    have n : p.1 ≠ D := fun z => by have q := h.1; rw [z, e] at q; cases q
    rw [Sto.set_ne n]
    exact h.1, liveS_set h.2 e⟩
/-- the same, the reading as it stands -/
theorem compQ {f : W → Sto → (List W → Sto → Prop) → Prop} {S : Sto} {P : PySem.Addr → List W → Sto → Prop} {items : List W} {lk : Lk} (g : W → List W) (hl : liveS lk S)
    (h : ∀ x ∈ items, ∀ D, S D = none → ∀ R : List W → Sto → Prop, R (g x) (S.set D .hid) → f x (S.set D .hid) R) (q : ∀ D, S D = none → P D (items.flatMap g) (S.set D .hid)) :
    ∀ D, S D = none → wMap lk f items (S.set D .hid) (P D) :=
  fun D hD => wMap_pure g (liveS_set hl hD) (fun x hx R r => h x hx D hD R r) (q D hD)
theorem flatMap_one {α β : Type} (g : α → β) : ∀ l : List α, l.flatMap (fun x => [g x]) = l.map g
  | [] => rfl
  | x :: l => by rw [List.flatMap_cons, flatMap_one g l]; rfl
theorem compM {f : W → Sto → (List W → Sto → Prop) → Prop} {S : Sto} {P : PySem.Addr → List W → Sto → Prop} {items : List W} {lk : Lk} (g : W → W) (hl : liveS lk S)
    (h : ∀ x ∈ items, ∀ D, S D = none → ∀ R : List W → Sto → Prop, R [g x] (S.set D .hid) → f x (S.set D .hid) R) (q : ∀ D, S D = none → P D (items.map g) (S.set D .hid)) :
    ∀ D, S D = none → wMap lk f items (S.set D .hid) (P D) :=
  compQ (fun x => [g x]) hl h fun D hD => by rw [flatMap_one]; exact q D hD
theorem mem_rng {lo : Int} {n : Nat} {x : W} (hx : x ∈ rngW lo n) : ∃ i : Nat, i < n ∧ x = .int (lo + (i : Int)) := by
  unfold rngW at hx
  obtain ⟨i, hi, e⟩ := List.mem_map.mp hx
  exact ⟨i, List.mem_range.mp hi, e.symm⟩
theorem mem_rng0 {n : Nat} {x : W} (hx : x ∈ rngW 0 n) : ∃ i : Nat, i < n ∧ x = .int (i : Int) := by
  obtain ⟨i, h1, h2⟩ := mem_rng hx
  exact ⟨i, h1, by rw [h2]; simp⟩
theorem forI {lk : Lk} {tg : Tg} {body : Env → Sto → Dn → Prop} {D : Dn} (I : Nat → Env → Sto → Prop) : ∀ {items : List W} {env : Env} {S : Sto} (k : Nat), I k env S →
    (∀ i env S, i ≤ k + items.length → I i env S → liveS lk S) →
    (∀ i w env S (nx : Env → Sto → Prop), items[i]? = some w → I (k + i) env S → (∀ e S', I (k + i + 1) e S' → nx e S') → wSome (bindTg tg w env) fun env' => body env' S { D with nx := nx, ct := nx, bk := D.nx }) →
    (∀ env S, I (k + items.length) env S → D.nx env S) → wFor lk tg body items env S D
  | [], env, S, k, h, hl, step, fin => ⟨hl k env S (Nat.le_refl _) h, fin env S h⟩
  | w :: ws, env, S, k, h, hl, step, fin => ⟨hl k env S (Nat.le_add_right _ _) h, step 0 w env S _ rfl h fun e S' h' => forI I (k + 1) h' (fun i env S hi => hl i env S (by rw [List.length_cons]; omega))
      (fun i w env S nx e hI hn => step (i + 1) w env S nx e (by rw [show k + (i + 1) = k + 1 + i by omega]; exact hI) (fun e' S'' z => hn e' S'' (by rw [show k + 1 + i + 1 = k + (i + 1) + 1 by omega]; exact z)))
      (fun env S z => fin env S (by rw [List.length_cons, show k + (ws.length + 1) = k + 1 + ws.length by omega]; exact z))⟩
/-! ### returns -/
theorem Sub.refl (S : Sto) : Sub S S := ⟨fun _ _ h => h, fun _ h => h⟩
theorem Sub.trans {S S1 S2 : Sto} (a : Sub S S1) (b : Sub S1 S2) : Sub S S2 := ⟨fun p o h => b.1 p o (a.1 p o h), fun p h => a.2 p (b.2 p h)⟩
theorem Sub.set {S : Sto} {p : PySem.Addr} {ws : List W} (h : S p = none) : Sub S (S.set p (.lst ws)) := by
  refine ⟨fun a o e => ?_, fun a e => ?_⟩
  · have n : a ≠ p := fun z => by rw [z, h] at e; cases e
    rw [Sto.set_ne n]; exact e
  · by_cases n : a = p
    · subst n; rw [Sto.set_same] at e; cases e
    · rw [Sto.set_ne n] at e; exact e
theorem rt0 {S : Sto} {w : W} {Q : VQ} (q : Q w S) : ∃ w' S', Fz S w w' S' ∧ Q w' S' := ⟨w, S, ⟨Sub.refl S, .inl rfl⟩, q⟩
theorem rtG {S S0 : Sto} {w : W} {Q : VQ} (s : Sub S0 S) (q : Q w S0) : ∃ w' S', Fz S w w' S' ∧ Q w' S' := ⟨w, S0, ⟨s, .inl rfl⟩, q⟩
/-- a list of one's own is given back: known by content from here on -/
theorem rtL {S S0 : Sto} {a : PySem.Addr} {ws : List W} {Q : VQ} (s : Sub S0 S) (e : S a = some (.lst ws)) (e0 : S0 a = none) (q : Q (.rl ws) S0) : ∃ w' S', Fz S (.ref a) w' S' ∧ Q w' S' := ⟨.rl ws, S0, ⟨s, .inr ⟨a, rfl, e0, .inl ⟨ws, e, rfl⟩⟩⟩, q⟩
theorem rtD {S S0 : Sto} {a : PySem.Addr} {ks : List Ky} {ws : List W} {Q : VQ} (s : Sub S0 S) (e : S a = some (.dic ks ws)) (e0 : S0 a = none) (q : Q (.dct ks ws) S0) : ∃ w' S', Fz S (.ref a) w' S' ∧ Q w' S' := ⟨.dct ks ws, S0, ⟨s, .inr ⟨a, rfl, e0, .inr (.inl ⟨ks, ws, e, rfl⟩)⟩⟩, q⟩
theorem rtI {S S0 : Sto} {a : PySem.Addr} {c : Nat} {ks : List (List Nat)} {ws : List W} {Q : VQ} (s : Sub S0 S) (e : S a = some (.ins c ks ws)) (e0 : S0 a = none) (q : Q (.obj c ks ws) S0) : ∃ w' S', Fz S (.ref a) w' S' ∧ Q w' S' := ⟨.obj c ks ws, S0, ⟨s, .inr ⟨a, rfl, e0, .inr (.inr ⟨c, ks, ws, e, rfl⟩)⟩⟩, q⟩
theorem nx0 {S : Sto} {Q : VQ} (q : Q .non S) : ∃ S', Sub S' S ∧ Q .non S' := ⟨S, Sub.refl S, q⟩
/-! ### tests -/
theorem wB_t {t f : Prop} : wB (.bl true) t f = t := rfl
theorem wB_f {t f : Prop} : wB (.bl false) t f = f := rfl
theorem wB_if {b : Bool} {t f : Prop} (ht : b = true → t) (hf : b = false → f) : wB (.bl b) t f := by
  cases b
  · exact hf rfl
  · exact ht rfl
theorem wB_dec {p : Prop} [Decidable p] {t f : Prop} (ht : p → t) (hf : ¬ p → f) : wB (.bl (decide p)) t f := by
  by_cases h : p
  · rw [decide_eq_true h]; exact ht h
  · rw [decide_eq_false h]; exact hf h
theorem wSome_s {α : Type} {x : α} {P : α → Prop} : wSome (some x) P = P x := rfl
theorem wWalk_s {p : List W × Lk} {P : List W → Lk → Prop} : wWalk (some p) P = P p.1 p.2 := rfl
/-! ### places, cuts -/
theorem cut_to {α : Type} {xs : List α} {k : Nat} : cutW xs none (some (k : Int)) = xs.take k := by
  unfold cutW
  rw [HT.sIx_nat, HT.sIx_none, List.drop_zero, Nat.sub_zero]
  by_cases h : k ≤ xs.length
  · rw [Nat.min_eq_left h]
  · rw [Nat.min_eq_right (by omega), List.take_of_length_le (Nat.le_refl _), List.take_of_length_le (by omega)]
theorem cut_from {α : Type} {xs : List α} {k : Nat} : cutW xs (some (k : Int)) none = xs.drop k := by
  unfold cutW
  rw [HT.sIx_nat, HT.sIx_none]
  by_cases h : k ≤ xs.length
  · rw [Nat.min_eq_left h, List.take_of_length_le (by rw [List.length_drop]; omega)]
  · rw [Nat.min_eq_right (by omega), List.drop_of_length_le (Nat.le_refl _), List.drop_of_length_le (by omega)]; simp
theorem cut1 {α : Type} {xs : List α} : cutW xs (some 1) none = xs.drop 1 := cut_from (k := 1)
theorem cut01 {α : Type} {xs : List α} : cutW xs none (some 1) = xs.take 1 := cut_to (k := 1)
theorem at_nat {α : Type} {xs : List α} {k : Nat} (h : k < xs.length) : atW xs (k : Int) = xs[k]? := by
  unfold atW ixW
  rw [if_pos (by omega), if_pos (by omega)]
  rfl
theorem at0 {α : Type} {x : α} {xs : List α} : atW (x :: xs) 0 = some x := by
  have := at_nat (xs := x :: xs) (k := 0) (by simp)
  simpa using this
theorem at1 {α : Type} {x y : α} {xs : List α} : atW (x :: y :: xs) 1 = some y := by
  have := at_nat (xs := x :: y :: xs) (k := 1) (by simp)
  simpa using this
theorem at2 {α : Type} {x y z : α} {xs : List α} : atW (x :: y :: z :: xs) 2 = some z := by
  have := at_nat (xs := x :: y :: z :: xs) (k := 2) (by simp)
  simpa using this
theorem at3 {α : Type} {x y z u : α} {xs : List α} : atW (x :: y :: z :: u :: xs) 3 = some u := by
  have := at_nat (xs := x :: y :: z :: u :: xs) (k := 3) (by simp)
  simpa using this
theorem at_int {α : Type} {xs : List α} {i : Int} {x : α} (h0 : 0 ≤ i) (h : xs[i.toNat]? = some x) : atW xs i = some x := by
  obtain ⟨k, rfl⟩ := Int.eq_ofNat_of_zero_le h0
  have hk : k < xs.length := by
    by_cases q : k < xs.length
    · exact q
    · rw [List.getElem?_eq_none (by simpa using q)] at h; cases h
  rw [show ((k : Nat) : Int) = ((k : Nat) : Int) from rfl, at_nat hk]
  simpa using h
/-! ### a script's cells -/
/-! data of one sort only: the due things of the laws -/
end Bw

/-! Ev18: equations for reading wF, by the values' heads. -/
namespace Bw
open PySem (sizeLine)
def Ret (w : W) (S : Sto) (Q : VQ) : Prop := ∃ w' S', Fz S w w' S' ∧ Q w' S'
def RetX (x : Xn) (S : Sto) (X : XQ) : Prop := ∃ S', Sub S' S ∧ X x S'
def RetN (S : Sto) (Q : VQ) : Prop := ∃ S', Sub S' S ∧ Q .non S'
theorem dn_rt {Q : VQ} {X : XQ} {w : W} {S : Sto} : (dnOf Q X).rt w S = Ret w S Q := rfl
theorem dn_nx {Q : VQ} {X : XQ} {env : Env} {S : Sto} : (dnOf Q X).nx env S = RetN S Q := rfl
theorem ret0 {S : Sto} {w : W} {Q : VQ} (q : Q w S) : Ret w S Q := rt0 q
theorem retG {S S0 : Sto} {w : W} {Q : VQ} (s : Sub S0 S) (q : Q w S0) : Ret w S Q := rtG s q
theorem retL {S S0 : Sto} {a : PySem.Addr} {ws : List W} {Q : VQ} (s : Sub S0 S) (e : S a = some (.lst ws)) (e0 : S0 a = none) (q : Q (.rl ws) S0) : Ret (.ref a) S Q := rtL s e e0 q
theorem retD {S S0 : Sto} {a : PySem.Addr} {ks : List Ky} {ws : List W} {Q : VQ} (s : Sub S0 S) (e : S a = some (.dic ks ws)) (e0 : S0 a = none) (q : Q (.dct ks ws) S0) : Ret (.ref a) S Q := rtD s e e0 q
theorem retI {S S0 : Sto} {a : PySem.Addr} {c : Nat} {ks : List (List Nat)} {ws : List W} {Q : VQ} (s : Sub S0 S) (e : S a = some (.ins c ks ws)) (e0 : S0 a = none) (q : Q (.obj c ks ws) S0) : Ret (.ref a) S Q := rtI s e e0 q
theorem dn_xc {Q : VQ} {X : XQ} {x : Xn} {env : Env} {S : Sto} : (dnOf Q X).xc x env S = RetX x S X := rfl
theorem retX0 {S : Sto} {x : Xn} {X : XQ} (q : X x S) : RetX x S X := ⟨S, Sub.refl S, q⟩
theorem retXG {S S0 : Sto} {x : Xn} {X : XQ} (s : Sub S0 S) (q : X x S0) : RetX x S X := ⟨S0, s, q⟩
theorem retN0 {S : Sto} {Q : VQ} (q : Q .non S) : RetN S Q := nx0 q
section
variable {S : Sto} {Q : VQ} {P : W → Prop} {t f : Prop} {ws us : List W} {i j l : Int} {x y : W} {a : PySem.Addr} {neg : Bool} {fz : Bool}
theorem wF_eq {T : Nat → Option FD} {n i : Nat} {d : FD} {args : List W} {X : XQ} (h : T i = some d) : wF T (n + 1) i args S Q X = (args.length = d.ar ∧ wSs (wF T n) d.body (entry d args) S (dnOf Q X)) := by
  show wSome (T i) _ = _
  rw [h]
  rfl
theorem wEq_c {b : Bool} (hx : dataW (deref S x) = true) (hy : dataW (deref S y) = true) (hd : depW (deref S y) ≤ 60) (he : eqv (deref S x) (deref S y) = b) (q : Q (.bl (b != neg)) S) : wEq neg x y S Q := by
  unfold wEq
  rw [he]
  exact ⟨hx, hy, Nat.le_trans (Nat.min_le_right _ _) hd, q⟩
theorem wTab_c {kvs : List (List Nat × W)} {k : List Nat} {w : W} (h : kvs.lookup k = some w) (q : Q w S) : wTab kvs (.str k) S Q := by
  unfold wTab
  simp only [h]
  exact q
theorem wVar_s {w : W} : wVar (some (some w)) P = P w := rfl
theorem wNon_non : wNon .non t f = t := rfl
theorem wNon_bl {b : Bool} : wNon (.bl b) t f = f := rfl
theorem wNon_int  : wNon (.int i) t f = f := rfl
theorem wNon_str {z : List Nat} : wNon (.str z) t f = f := rfl
theorem wNon_tup  : wNon (.tup ws) t f = f := rfl
theorem wNon_rl  : wNon (.rl ws) t f = f := rfl
theorem wNon_sc  : wNon (.sc ws) t f = f := rfl
theorem wNot_b {b : Bool} {P : Bool → Prop} : wNot (.bl b) P = P (!b) := rfl
theorem wI1_i {P : Int → Prop} : wI1 (.int i) P = P i := rfl
theorem wInts_i {P : Int → Int → Prop} : wInts (.int i) (.int j) P = P i j := rfl
theorem wIdx_tup : wIdx (.tup ws) (.int i) S Q = wSome (atW ws i) (fun w => Q w S) := by unfold wIdx; simp only [dicOf, seqOf, deref]; cases atW ws i <;> rfl
theorem wLen_tup : wLen (.tup ws) S Q = Q (.int ws.length) S := rfl
theorem wSl_tup0 : wSl fz (.tup ws) [] [] S Q = Q (.tup (cutW ws none none)) S := rfl
theorem wSl_tup1 : wSl fz (.tup ws) [.int i] [] S Q = Q (.tup (cutW ws (some i) none)) S := rfl
theorem wSl_tup2 : wSl fz (.tup ws) [] [.int j] S Q = Q (.tup (cutW ws none (some j))) S := rfl
theorem wSl_tup3 : wSl fz (.tup ws) [.int i] [.int j] S Q = Q (.tup (cutW ws (some i) (some j))) S := rfl
theorem walkOf_tup : walkOf S (.tup ws) = some (ws, []) := rfl
theorem seqOf_tup : seqOf S (.tup ws) = some ws := rfl
theorem deref_tup : deref S (.tup ws) = .tup ws := rfl
theorem wIdx_rl : wIdx (.rl ws) (.int i) S Q = wSome (atW ws i) (fun w => Q w S) := by unfold wIdx; simp only [dicOf, seqOf, deref]; cases atW ws i <;> rfl
theorem wLen_rl : wLen (.rl ws) S Q = Q (.int ws.length) S := rfl
theorem wSl_rl0 : wSl fz (.rl ws) [] [] S Q = mkL fz (cutW ws none none) S Q := rfl
theorem wSl_rl1 : wSl fz (.rl ws) [.int i] [] S Q = mkL fz (cutW ws (some i) none) S Q := rfl
theorem wSl_rl2 : wSl fz (.rl ws) [] [.int j] S Q = mkL fz (cutW ws none (some j)) S Q := rfl
theorem wSl_rl3 : wSl fz (.rl ws) [.int i] [.int j] S Q = mkL fz (cutW ws (some i) (some j)) S Q := rfl
theorem walkOf_rl : walkOf S (.rl ws) = some (ws, []) := rfl
theorem seqOf_rl : seqOf S (.rl ws) = some ws := rfl
theorem deref_rl : deref S (.rl ws) = .rl ws := rfl
theorem wIdx_sc : wIdx (.sc ws) (.int i) S Q = wSome (atW ws i) (fun w => Q w S) := by unfold wIdx; simp only [dicOf, seqOf, deref]; cases atW ws i <;> rfl
theorem wLen_sc : wLen (.sc ws) S Q = Q (.int ws.length) S := rfl
theorem wSl_sc0 : wSl fz (.sc ws) [] [] S Q = mkL fz (cutW ws none none) S Q := rfl
theorem wSl_sc1 : wSl fz (.sc ws) [.int i] [] S Q = mkL fz (cutW ws (some i) none) S Q := rfl
theorem wSl_sc2 : wSl fz (.sc ws) [] [.int j] S Q = mkL fz (cutW ws none (some j)) S Q := rfl
theorem wSl_sc3 : wSl fz (.sc ws) [.int i] [.int j] S Q = mkL fz (cutW ws (some i) (some j)) S Q := rfl
theorem walkOf_sc : walkOf S (.sc ws) = some (ws, []) := rfl
theorem seqOf_sc : seqOf S (.sc ws) = some ws := rfl
theorem deref_sc : deref S (.sc ws) = .sc ws := rfl
theorem walkL_rl : walkL S (.rl ws) = some (ws, []) := rfl
theorem walkL_sc : walkL S (.sc ws) = some (ws, []) := rfl
theorem deref_non : deref S .non = .non := rfl
theorem deref_bl {b : Bool} : deref S (.bl b) = .bl b := rfl
theorem deref_int : deref S (.int i) = .int i := rfl
theorem deref_str {z : List Nat} : deref S (.str z) = .str z := rfl
theorem lstOf_rl : lstOf S (.rl ws) = some ws := rfl
theorem wIdx_ref (h : S a = some (.lst ws)) : wIdx (.ref a) (.int i) S Q = wSome (atW ws i) (fun w => Q w S) := by unfold wIdx; simp only [dicOf, seqOf, deref, h]; cases atW ws i <;> rfl
theorem wLen_ref (h : S a = some (.lst ws)) : wLen (.ref a) S Q = Q (.int ws.length) S := by simp only [wLen, dicOf, seqOf, deref, h]; rfl
theorem wLen_dic {ks : List Ky} (h : S a = some (.dic ks ws)) : wLen (.ref a) S Q = Q (.int ks.length) S := by simp only [wLen, dicOf, h]
theorem lstOf_ref (h : S a = some (.lst ws)) : lstOf S (.ref a) = some ws := by simp only [lstOf, deref, h]
theorem wApp_ref {w : W} (h : S a = some (.lst ws)) : wApp (.ref a) w S Q = (ws.length < sizeLine ∧ Q .non (S.set a (.lst (ws ++ [w])))) := by simp only [wApp, h]
theorem wLen_str {z : List Nat} : wLen (.str z) S Q = (z.length ≤ sizeLine ∧ Q (.int z.length) S) := rfl
theorem optI0 : optInt [] = some none := rfl
theorem optI1 : optInt [.int i] = some (some i) := rfl
theorem optS0 : (optInt []).isSome = true := rfl
theorem optS1 : (optInt [.int i]).isSome = true := rfl
theorem mkL_t : mkL true ws S Q = Q (.rl ws) S := rfl
theorem mkL_f : mkL false ws S Q = ∀ p, S p = none → Q (.ref p) (S.set p (.lst ws)) := rfl
theorem wEq_i : wEq neg (.int i) (.int j) S Q = Q (.bl ((i == j) != neg)) S := by simp [wEq, deref, dataW, depW, eqv]
theorem wEq_s {z u : List Nat} : wEq neg (.str z) (.str u) S Q = Q (.bl ((z == u) != neg)) S := by simp [wEq, deref, dataW, depW, eqv]
theorem wEq_b {b c : Bool} : wEq neg (.bl b) (.bl c) S Q = Q (.bl ((b == c) != neg)) S := by simp [wEq, deref, dataW, depW, eqv]
theorem wAdd_i : wAdd fz (.int i) (.int j) S Q = Q (.int (i + j)) S := rfl
theorem wAdd_s {z u : List Nat} : wAdd fz (.str z) (.str u) S Q = (z.length + u.length ≤ sizeLine ∧ Q (.str (z ++ u)) S) := rfl
theorem wAdd_t : wAdd fz (.tup ws) (.tup us) S Q = (ws.length + us.length ≤ sizeLine ∧ Q (.tup (ws ++ us)) S) := rfl
theorem wAdd_l {A B : List W} (hx : lstOf S x = some A) (hy : lstOf S y = some B) (q : A.length + B.length ≤ sizeLine ∧ mkL fz (A ++ B) S Q) : wAdd fz x y S Q := by
  unfold wAdd
  split
  · cases hx
  · cases hx
  · cases hx
  · rw [hx, hy]; exact q
theorem wBin_add : wBin (.add fz) x y S Q = (wAdd fz x y S Q) := rfl
theorem wBin_sub : wBin (.sub) x y S Q = (wInts x y fun i j => Q (.int (i - j)) S) := rfl
theorem wBin_fdiv : wBin (.fdiv) x y S Q = (wInts x y fun i j => (0 < j ∧ j.natAbs.log2 < 9000) ∧ Q (.int (i / j)) S) := rfl
theorem wBin_mod : wBin (.mod) x y S Q = (wInts x y fun i j => 0 < j ∧ Q (.int (i % j)) S) := rfl
theorem wBin_pow : wBin (.pow) x y S Q = (wInts x y fun i j => L2.CPow i j ∧ Q (.int (i ^ j.toNat)) S) := rfl
theorem wMeb_count {z : List Nat} : wMeb .count x [.str z] S Q = wSome ((lstOf S x).bind strsOf) (fun zs => Q (.int ((zs.countP (· == z) : Nat) : Int)) S) := rfl
theorem wMeb_index {z : List Nat} : wMeb .index x [.str z] S Q = wSome ((lstOf S x).bind strsOf) (fun zs => wSome (ixOf z zs) fun i => Q (.int (i : Nat)) S) := rfl
theorem wMeb_dget1 : wMeb .dget1 x [y] S Q = wSome (dicOf S x) (fun p => wSome (kyOf y) fun k => Q ((lookD p.1 p.2 k).getD .non) S) := rfl
theorem wMeb_dget2 {d : W} : wMeb .dget2 x [y, d] S Q = wSome (dicOf S x) (fun p => wSome (kyOf y) fun k => Q ((lookD p.1 p.2 k).getD d) S) := rfl
theorem wMeb_dcopy : wMeb .dcopy x [] S Q = wSome (dicOf S x) (fun p => ∀ a, S a = none → Q (.ref a) (S.set a (.dic p.1 p.2))) := by unfold wMeb; simp
theorem recv_count : recvOf .count S x = (lstOf S x).isSome := rfl
theorem recv_index : recvOf .index S x = (lstOf S x).isSome := rfl
theorem recv_dget1 : recvOf .dget1 S x = (dicOf S x).isSome := rfl
theorem recv_dget2 : recvOf .dget2 S x = (dicOf S x).isSome := rfl
theorem recv_dcopy : recvOf .dcopy S x = (dicOf S x).isSome := rfl
theorem dicOf_dct {ks : List Ky} : dicOf S (.dct ks ws) = some (ks, ws) := rfl
theorem kyOf_int : kyOf (.int i) = some (.inl i) := rfl
theorem kyOf_str {z : List Nat} : kyOf (.str z) = some (.inr z) := rfl
theorem wIdx_dct {ks : List Ky} : wIdx (.dct ks ws) y S Q = wSome (kyOf y) (fun k => wSome (lookD ks ws k) fun w => Q w S) := by
  show (match kyOf y with | some k => (match lookD ks ws k with | some w => Q w S | none => False) | none => False) = _
  cases kyOf y with
  | none => rfl
  | some k => show (match lookD ks ws k with | some w => Q w S | none => False) = _; cases h : lookD ks ws k <;> simp only [wSome, h]
theorem wIn_dct {ks : List Ky} : wIn neg x (.dct ks ws) S Q = wSome (kyOf x) (fun k => Q (.bl ((lookD ks ws k).isSome != neg)) S) := by
  show (match kyOf x with | some k => Q (.bl ((lookD ks ws k).isSome != neg)) S | none => False) = _
  cases kyOf x <;> rfl
theorem fld_obj {c : Nat} {ks : List (List Nat)} : fldOf S (.obj c ks ws) = some (c, ks, ws) := rfl
theorem fld_exn {c : Nat} {ks : List (List Nat)} : fldOf S (.exn c ks ws) = some (c, ks, ws) := rfl
theorem fld_ref {c : Nat} {ks : List (List Nat)} (h : S a = some (.ins c ks ws)) : fldOf S (.ref a) = some (c, ks, ws) := by simp only [fldOf, objOf, h]
theorem obj_obj {c : Nat} {ks : List (List Nat)} : objOf S (.obj c ks ws) = some (c, ks, ws) := rfl
theorem obj_ref {c : Nat} {ks : List (List Nat)} (h : S a = some (.ins c ks ws)) : objOf S (.ref a) = some (c, ks, ws) := by simp only [objOf, h]
theorem isCW_non {yes no : List Nat} : isCW yes no S .non = some false := rfl
theorem isCW_bl {yes no : List Nat} {b : Bool} : isCW yes no S (.bl b) = some false := rfl
theorem isCW_int {yes no : List Nat} : isCW yes no S (.int i) = some false := rfl
theorem isCW_exn {yes no : List Nat} {c : Nat} {ks : List (List Nat)} : isCW yes no S (.exn c ks ws) = if c ∈ yes then some true else if c ∈ no then some false else none := rfl
theorem wSetD_ref {ks : List Ky} {w : W} {Q : Sto → Prop} (h : S a = some (.dic ks ws)) : wSetIx (.ref a) y w S Q = wSome (kyOf y) (fun k => ws.length < sizeLine ∧ Q (S.set a (.dic (putD ks ws k w).1 (putD ks ws k w).2))) := by
  unfold wSetIx
  simp only [h]
  cases kyOf y <;> rfl
theorem bindH_n {x : Xn} {env : Env} : bindH none x env = env := rfl
theorem bindH_s {k : Nat} {x : Xn} {env : Env} : bindH (some k) x env = env.set k (some (.exn x.c x.ks x.ws)) := rfl
theorem goneH_n {env : Env} : goneH none env = env := rfl
theorem goneH_s {k : Nat} {env : Env} : goneH (some k) env = env.set k none := rfl
theorem sutD_nx {nm : Option Nat} {D : Dn} {e : Env} : (sutD nm D).nx e S = D.nx (goneH nm e) S := rfl
theorem sutD_rt {nm : Option Nat} {D : Dn} : (sutD nm D).rt = D.rt := rfl
theorem wOrd_s {c : Nat} : wOrd (.str [c]) S Q = Q (.int (c : Int)) S := rfl
theorem pair0 : pairUp [] = some ([], []) := rfl
theorem pair_i {v : W} : pairUp (.int i :: v :: ws) = (pairUp ws).map fun p => (.inl i :: p.1, v :: p.2) := rfl
theorem strs0 : strsOf [] = some [] := rfl
theorem strs1 {z : List Nat} : strsOf (.str z :: ws) = (strsOf ws).map (z :: ·) := rfl
theorem wBin_mul_i : wBin (.mul fz) (.int i) y S Q = (wInts (.int i) y fun i j => (L2.CMul i j ∨ L2.CMulW i j) ∧ Q (.int (i * j)) S) := rfl
theorem wBin_mul_t : wBin (.mul fz) (.tup ws) (.int i) S Q = (ws ≠ [] ∧ 0 ≤ i ∧ i ≤ 1000 ∧ ws.length ≤ 1000 ∧ Q (.tup (List.replicate i.toNat ws).flatten) S) := rfl
theorem wCmp_eq : wCmp .eq x y S Q = (wEq false x y S Q) := rfl
theorem wCmp_ne : wCmp .ne x y S Q = (wEq true x y S Q) := rfl
theorem wCmp_lt : wCmp .lt x y S Q = (wInts x y fun i j => Q (.bl (decide (i < j))) S) := rfl
theorem wCmp_le : wCmp .le x y S Q = (wInts x y fun i j => Q (.bl (decide (i ≤ j))) S) := rfl
theorem wCmp_gt : wCmp .gt x y S Q = (wInts x y fun i j => Q (.bl (decide (j < i))) S) := rfl
theorem wCmp_ge : wCmp .ge x y S Q = (wInts x y fun i j => Q (.bl (decide (j ≤ i))) S) := rfl
theorem wCmp_isin : wCmp .isin x y S Q = (wIn false x y S Q) := rfl
theorem wCmp_notin : wCmp .notin x y S Q = (wIn true x y S Q) := rfl
theorem wBi_len : wBi (.len) [x] S Q = (wLen x S Q) := rfl
theorem wBi_int1 : wBi (.int1) [x] S Q = (wIntOf x S Q) := rfl
theorem wBi_max2 : wBi (.max2) [.int i, .int j] S Q = (Q (.int (max i j)) S) := rfl
theorem wBi_max3 : wBi (.max3) [.int i, .int j, .int l] S Q = (Q (.int (max (max i j) l)) S) := rfl
theorem wBi_min2 : wBi (.min2) [.int i, .int j] S Q = (Q (.int (min i j)) S) := rfl
theorem wBi_abs : wBi (.abs) [.int i] S Q = (Q (.int (if i < 0 then -i else i)) S) := rfl
theorem wBi_maxd : wBi (.maxd) ws S Q = (wMaxd ws S Q) := rfl
theorem wBi_tuple1 : wBi (.tuple1) [x] S Q = (wSome (seqOf S x) fun us => Q (.tup us) S) := rfl
theorem wBi_list1 : wBi (.list1 fz) [x] S Q = (wSome (seqOf S x) fun us => mkL fz us S Q) := rfl
theorem wBi_listrev : wBi (.listrev fz) [x] S Q = (wSome (walkL S x) fun p => mkL fz p.1.reverse S Q) := rfl
theorem wBi_all1 : wBi (.all1) [x] S Q = (wSome ((lstOf S x).bind blsOf) fun bs => Q (.bl (bs.all id)) S) := rfl
theorem wBi_any1 : wBi (.any1) [x] S Q = (wSome ((lstOf S x).bind blsOf) fun bs => Q (.bl (bs.any id)) S) := rfl
theorem wBi_sum1 : wBi (.sum1) [x] S Q = (wSome ((lstOf S x).bind intsOf) fun ns => Q (.int ns.sum) S) := rfl
theorem wBi_ord1 : wBi (.ord1) [x] S Q = (wOrd x S Q) := rfl
theorem wBi_lenset : wBi (.lenset) [x] S Q = (wSome ((lstOf S x).bind intsOf) fun ns => ns.Nodup ∧ ns.length ≤ 4000 ∧ Q (.int (ns.length : Nat)) S) := rfl
theorem wBi_dict1 : wBi (.dict1) [x] S Q = (wSome (dicOf S x) fun p => ∀ a, S a = none → Q (.ref a) (S.set a (.dic p.1 p.2))) := rfl
theorem wBi_max1 : wBi (.max1) [x] S Q = (wSome ((lstOf S x).bind intsOf) fun ns => 0 < ns.length ∧ Q (.int (maxL ns)) S) := rfl
theorem it_seq : itemsOf .seq [x] S = walkOf S x := rfl
theorem it_rng1 : itemsOf .rng1 [.int i] S = if fits i = true then some (rngW 0 i.toNat, []) else none := rfl
theorem it_rng2 : itemsOf .rng2 [.int i, .int j] S = if (fits i && fits j) = true then some (rngW i (j - i).toNat, []) else none := rfl
theorem it_enum : itemsOf .enum [x] S = (walkL S x).map fun p => (enumW 0 p.1, p.2) := rfl
theorem it_rev : itemsOf .rev [x] S = (walkL S x).map fun p => (p.1.reverse, p.2) := rfl
theorem it_zipT : itemsOf .zip [.tup ws, .tup us] S = some (zipW ws us, []) := rfl
theorem wipe0 {env : Env} : wipeE env [] = env := rfl
theorem wipe1 {env : Env} {v : Nat} {vs : List Nat} : wipeE env (v :: vs) = (wipeE env vs).set v none := rfl
theorem bt_nm {k : Nat} {w : W} {env : Env} : bindTg (.nm k) w env = some (env.set k (some w)) := rfl
theorem bt_pr {is : List Nat} {env : Env} : bindTg (.pr is) (.tup ws) env = bindIs is ws env := rfl
theorem bt_prl {is : List Nat} {env : Env} : bindTg (.pr is) (.rl ws) env = bindIs is ws env := rfl
theorem bi0 {env : Env} : bindIs [] [] env = some env := rfl
theorem bi1 {k : Nat} {is : List Nat} {w : W} {env : Env} : bindIs (k :: is) (w :: ws) env = bindIs is ws (env.set k (some w)) := rfl
theorem fits_of {i : Int} (h0 : -1000000000 ≤ i) (h : i ≤ 1000000000) : fits i = true := decide_eq_true ⟨by omega, by omega⟩
theorem wCmp_is : wCmp .is x y S Q = wIs false x y S Q := rfl
theorem wCmp_isnot : wCmp .isnot x y S Q = wIs true x y S Q := rfl
theorem wIs_b {c d : Bool} : wIs neg (.bl c) (.bl d) S Q = Q (.bl ((c == d) != neg)) S := rfl
def oOr (b : Bool) (r : Option Bool) : Option Bool :=
  match b with
  | true => some true
  | false => r
theorem oOr_t {r : Option Bool} : oOr true r = some true := rfl
theorem oOr_f {r : Option Bool} : oOr false r = r := rfl
theorem isiL0 : isiLW [] S x = some false := rfl
theorem isiL1 {u : Ty} {us : List Ty} : isiLW (u :: us) S x = (isiW u S x).bind fun b => oOr b (isiLW us S x) := by
  rw [isiLW]; cases isiW u S x with
  | none => rfl
  | some b => cases b <;> rfl
theorem kys0 : kysOf [] = some [] := rfl
theorem kys_s {z : List Nat} : kysOf (.str z :: ws) = (kysOf ws).map (Sum.inr z :: ·) := rfl
theorem kys_i : kysOf (.int i :: ws) = (kysOf ws).map (Sum.inl i :: ·) := rfl
theorem wStr_s {z : List Nat} {P : List Nat → Prop} : wStr (.str z) P = P z := rfl
theorem wMeb_join : wMeb .join x [y] S Q = wStr x (fun z => wSome ((seqOf S y).bind strsOf) fun zs => (zs.map (·.length)).sum + zs.length * z.length ≤ 16777216 ∧ Q (.str (joinZ z zs)) S) := rfl
theorem wMeb_find {z u : List Nat} : wMeb .find (.str z) [.str u] S Q = Q (.int (PySem.Txt.find ⟨z.toArray⟩ ⟨u.toArray⟩)) S := rfl
theorem wMeb_starts {z u : List Nat} : wMeb .starts (.str z) [.str u] S Q = Q (.bl (PySem.Txt.startswith ⟨z.toArray⟩ ⟨u.toArray⟩)) S := rfl
theorem wMeb_isdig {z : List Nat} : wMeb .isdig (.str z) [] S Q = Q (.bl (PySem.Txt.isdigit ⟨z.toArray⟩)) S := by unfold wMeb; simp [wStr]
theorem wMeb_split {z u : List Nat} : wMeb .split (.str z) [.str u] S Q = (u ≠ [] ∧ u.all (· < 256) = true ∧ z.length + 2 ≤ sizeLine ∧ Q (.rl ((TL.spl u 0 [] z).map W.str)) S) := rfl
theorem recv_join {z : List Nat} : (recvOf .join S (.str z) = true) = True := eq_true rfl
theorem recv_find {z : List Nat} : (recvOf .find S (.str z) = true) = True := eq_true rfl
theorem recv_starts {z : List Nat} : (recvOf .starts S (.str z) = true) = True := eq_true rfl
theorem recv_isdig {z : List Nat} : (recvOf .isdig S (.str z) = true) = True := eq_true rfl
theorem recv_split {z : List Nat} : (recvOf .split S (.str z) = true) = True := eq_true rfl
theorem wStp_rl {ks : List W} : wStp fz (.rl ws) [] ks (.int i) S Q = wSome (optInt ks) (fun h => i ≠ 0 ∧ mkL fz (cut3W ws none h i) S Q) := by
  unfold wStp; cases optInt ks <;> rfl
theorem wStp_sc {ks : List W} : wStp fz (.sc ws) [] ks (.int i) S Q = wSome (optInt ks) (fun h => i ≠ 0 ∧ mkL fz (cut3W ws none h i) S Q) := by
  unfold wStp; cases optInt ks <;> rfl
theorem wStp_sc1 {ks : List W} : wStp fz (.sc ws) [.int j] ks (.int i) S Q = wSome (optInt ks) (fun h => i ≠ 0 ∧ mkL fz (cut3W ws (some j) h i) S Q) := by
  unfold wStp; cases optInt ks <;> rfl
theorem wStp_rl1 {ks : List W} : wStp fz (.rl ws) [.int j] ks (.int i) S Q = wSome (optInt ks) (fun h => i ≠ 0 ∧ mkL fz (cut3W ws (some j) h i) S Q) := by
  unfold wStp; cases optInt ks <;> rfl
theorem sz0 : (0 ≤ sizeLine) = True := eq_true (by decide)
theorem sz1 : (1 ≤ sizeLine) = True := eq_true (by decide)
theorem sz2 : (2 ≤ sizeLine) = True := eq_true (by decide)
theorem sz3 : (3 ≤ sizeLine) = True := eq_true (by decide)
theorem sz4 : (4 ≤ sizeLine) = True := eq_true (by decide)
theorem sz5 : (5 ≤ sizeLine) = True := eq_true (by decide)
theorem sz6 : (6 ≤ sizeLine) = True := eq_true (by decide)
theorem sz7 : (7 ≤ sizeLine) = True := eq_true (by decide)
theorem sz8 : (8 ≤ sizeLine) = True := eq_true (by decide)
theorem sz9 : (9 ≤ sizeLine) = True := eq_true (by decide)
theorem sz10 : (10 ≤ sizeLine) = True := eq_true (by decide)
theorem sz11 : (11 ≤ sizeLine) = True := eq_true (by decide)
theorem sz12 : (12 ≤ sizeLine) = True := eq_true (by decide)
theorem isi_dict_dct {ks : List Ky} : isiW .dict S (.dct ks ws) = some true := rfl
theorem isi_tuple_dct {ks : List Ky} : isiW .tuple S (.dct ks ws) = some false := rfl
theorem isi_int_non  : isiW .int S .non = some false := rfl
theorem isi_bool_non  : isiW .bool S .non = some false := rfl
theorem isi_str_non  : isiW .str S .non = some false := rfl
theorem isi_tuple_non  : isiW .tuple S .non = some false := rfl
theorem isi_list_non  : isiW .list S .non = some false := rfl
theorem isi_dict_non  : isiW .dict S .non = some false := rfl
theorem isi_int_bl {b : Bool} : isiW .int S (.bl b) = some true := rfl
theorem isi_bool_bl {b : Bool} : isiW .bool S (.bl b) = some true := rfl
theorem isi_str_bl {b : Bool} : isiW .str S (.bl b) = some false := rfl
theorem isi_tuple_bl {b : Bool} : isiW .tuple S (.bl b) = some false := rfl
theorem isi_list_bl {b : Bool} : isiW .list S (.bl b) = some false := rfl
theorem isi_dict_bl {b : Bool} : isiW .dict S (.bl b) = some false := rfl
theorem isi_int_int  : isiW .int S (.int i) = some true := rfl
theorem isi_bool_int  : isiW .bool S (.int i) = some false := rfl
theorem isi_str_int  : isiW .str S (.int i) = some false := rfl
theorem isi_tuple_int  : isiW .tuple S (.int i) = some false := rfl
theorem isi_list_int  : isiW .list S (.int i) = some false := rfl
theorem isi_dict_int  : isiW .dict S (.int i) = some false := rfl
theorem isi_int_str {z : List Nat} : isiW .int S (.str z) = some false := rfl
theorem isi_bool_str {z : List Nat} : isiW .bool S (.str z) = some false := rfl
theorem isi_str_str {z : List Nat} : isiW .str S (.str z) = some true := rfl
theorem isi_tuple_str {z : List Nat} : isiW .tuple S (.str z) = some false := rfl
theorem isi_list_str {z : List Nat} : isiW .list S (.str z) = some false := rfl
theorem isi_dict_str {z : List Nat} : isiW .dict S (.str z) = some false := rfl
theorem isi_int_tup  : isiW .int S (.tup ws) = some false := rfl
theorem isi_bool_tup  : isiW .bool S (.tup ws) = some false := rfl
theorem isi_str_tup  : isiW .str S (.tup ws) = some false := rfl
theorem isi_tuple_tup  : isiW .tuple S (.tup ws) = some true := rfl
theorem isi_list_tup  : isiW .list S (.tup ws) = some false := rfl
theorem isi_dict_tup  : isiW .dict S (.tup ws) = some false := rfl
theorem isi_int_rl  : isiW .int S (.rl ws) = some false := rfl
theorem isi_bool_rl  : isiW .bool S (.rl ws) = some false := rfl
theorem isi_str_rl  : isiW .str S (.rl ws) = some false := rfl
theorem isi_tuple_rl  : isiW .tuple S (.rl ws) = some false := rfl
theorem isi_list_rl  : isiW .list S (.rl ws) = some true := rfl
theorem isi_dict_rl  : isiW .dict S (.rl ws) = some false := rfl
theorem isi_int_sc  : isiW .int S (.sc ws) = some false := rfl
theorem isi_bool_sc  : isiW .bool S (.sc ws) = some false := rfl
theorem isi_str_sc  : isiW .str S (.sc ws) = some false := rfl
theorem isi_tuple_sc  : isiW .tuple S (.sc ws) = some false := rfl
theorem isi_list_sc  : isiW .list S (.sc ws) = some true := rfl
theorem isi_dict_sc  : isiW .dict S (.sc ws) = some false := rfl
end
end Bw

/-! HD: the head by facts: one check over the fragment that the top has left gives the evaluator's Wd. -/
namespace Bw
open PySem L2 PySem.Spec PyProof.Rows
/-! ### a constant of the module -/
mutual
def repB (K : PySem.W.Frag) : W → Value → Bool
  | .non, u => decide (u = .none)
  | .bl b, u => decide (u = .bool b)
  | .int i, u => (match u with | .int j _ => decide (j = i) | _ => false)
  | .str x, u => okStr x && (match u with | .str y _ => decide (y = ⟨x.toArray⟩) | _ => false)
  | .tup ws, u => (match u with
    | .ref a => (match K.lookup a with
      | some ⟨.type c, _, .seq its _, _⟩ => decide (c = "tuple") && (decide (its.size ≤ sizeLine) && repsB K ws its.toList)
      | _ => false)
    | _ => false)
  | _, _ => false
def repsB (K : PySem.W.Frag) : List W → List Value → Bool
  | [], us => us.isEmpty
  | w :: ws, us => (match us with | u :: us => repB K w u && repsB K ws us | [] => false)
end
theorem band {a b : Bool} (h : (a && b) = true) : a = true ∧ b = true := Bool.and_eq_true_iff.mp h
mutual
theorem repB_ok {Γ : Gm} : ∀ (w : W) (u : Value), repB Γ.K w u = true → ∃ v, RelV v u ∧ ∀ S H, rep Γ S H w v
  | .non, u, h => ⟨.non, (of_decide_eq_true h : u = .none), fun _ _ => rfl⟩
  | .bl b, u, h => ⟨.bl b, (of_decide_eq_true h : u = .bool b), fun _ _ => rfl⟩
  | .int i, u, h => by
    unfold repB at h
    cases u with
    | int j t => exact ⟨.int i, ⟨t, by rw [(of_decide_eq_true h : j = i)]⟩, fun _ _ => rfl⟩
    | _ => cases h
  | .str x, u, h => by
    unfold repB at h
    obtain ⟨h0, h⟩ := band h
    cases u with
    | str y t => cases of_decide_eq_true h; exact ⟨strV x, ⟨t, rfl⟩, fun _ _ => ⟨rfl, h0⟩⟩
    | _ => cases h
  | .tup ws, u, h => by
    unfold repB at h
    cases u with
    | ref a =>
      replace h : (match Γ.K.lookup a with
        | some ⟨.type c, _, .seq its _, _⟩ => decide (c = "tuple") && (decide (its.size ≤ sizeLine) && repsB Γ.K ws its.toList)
        | _ => false) = true := h
      cases q : Γ.K.lookup a with
      | none => rw [q] at h; cases h
      | some o =>
        rw [q] at h
        obtain ⟨oc, od, dt, sl⟩ := o
        cases oc with
        | type c =>
          cases dt with
          | seq its n =>
            obtain ⟨h1, h⟩ := band h
            obtain ⟨h2, h3⟩ := band h
            obtain ⟨vs, hv, hr⟩ := repsB_ok ws its.toList h3
            exact ⟨.ref a, rfl, fun S H => ⟨a, vs, rfl, .inr ⟨_, its, n, q, congrArg Value.type (of_decide_eq_true h1), rfl, of_decide_eq_true h2, hv⟩, hr S H⟩⟩
          | _ => cases h
        | _ => cases dt <;> cases h
    | _ => cases h
  | .rl _, _, h => by cases h
  | .sc _, _, h => by cases h
  | .ref _, _, h => by cases h
  | .fn _, _, h => by cases h
  | .dct _ _, _, h => by cases h
  | .obj _ _ _, _, h => by cases h
  | .exn _ _ _, _, h => by cases h
theorem repsB_ok {Γ : Gm} : ∀ (ws : List W) (us : List Value), repsB Γ.K ws us = true → ∃ vs, Vals vs us ∧ ∀ S H, reps Γ S H ws vs
  | [], us, h => by
    cases us with
    | nil => exact ⟨[], .nil, fun _ _ => rfl⟩
    | cons _ _ => cases h
  | w :: ws, us, h => by
    unfold repsB at h
    cases us with
    | nil => cases h
    | cons u us =>
      obtain ⟨h1, h2⟩ := band h
      obtain ⟨v, r, p⟩ := repB_ok w u h1
      obtain ⟨vs, rs, ps⟩ := repsB_ok ws us h2
      exact ⟨v :: vs, .cons r rs, fun S H => ⟨v, vs, rfl, p S H, ps S H⟩⟩
end
/-! ### what is looked at -/
/-- an exception class with fields: its name, index, fields, whether ValueError's __new__ makes it, the base whose __init__ is called -/
structure XI where
  x : Str
  c : Nat
  fs : List (List Nat)
  ve : Bool
  B : Option Str
  st : Stmt
  qual : Str
  ps : List Str
structure HN where
  G : GT
  at_ : Nat → Str × Option Str
  cn : Nat → Str
  xi : List XI
  /-- the law's index -/
  li : Nat
def HN.gm (N : HN) (K : PySem.W.Frag) : Gm := ⟨K, fun i => He.fAd K (N.at_ i), fun c => He.ga K (N.cn c)⟩
def gloB1 (K : PySem.W.Frag) (x : Str) (a : Addr) : Bool := decide (PySem.W.nsIn K mainGlobals x = some (some (.ref a)))
def noneB1 (K : PySem.W.Frag) (x : Str) : Bool := decide (PySem.W.nsIn K mainGlobals x = some none)
def fnQ (K : PySem.W.Frag) (a : Addr) : Bool := PySem.W.isFn K (.ref a) && PySem.W.keepIn K (.ref a)
def finB (K : PySem.W.Frag) (C : Addr) (x : Str) (v : Option Value) : Bool := decide (PySem.W.findIn K (.ref C) x = some v)
def getB (K : PySem.W.Frag) (C : Addr) : Bool := finB K C "__class__" (some (.builtin "object.__class__")) && (decide (PySem.W.specialIn K (.builtin "object.__class__") "__get__" = some (some (.builtin "getset_descriptor.__get__"))) &&
  (decide (PySem.W.takesIn K (.builtin "object.__class__") = some true) && decide (PySem.W.mroIn K C (.type "object") = some true)))
def insB (K : PySem.W.Frag) (C : Addr) : Bool := PySem.W.plainGet K C Str.empty && (PySem.W.hasDictIn K C && (PySem.W.plainOver K C && (finB K C "__setattr__" (some (.builtin "object.__setattr__")) && (getB K C && tyAll.all fun n => decide (PySem.W.kitOne K (.ref C) (.type n) = some false)))))
def xkB (K : PySem.W.Frag) (C : Addr) : Bool := finB K C "__getattribute__" (some (.builtin "BaseException.__getattribute__")) && (finB K C "__getattr__" none && (decide (PySem.W.subIn K (.ref C) (.type "BaseException") = some true) && (PySem.W.hasDictIn K C && getB K C)))
def kitB (K : PySem.W.Frag) (ca : Nat → Addr) (D : Value) (yes no : List Nat) : Bool :=
  yes.all (fun c => decide (PySem.W.kitOne K (.ref (ca c)) D = some true)) && (no.all (fun c => decide (PySem.W.kitOne K (.ref (ca c)) D = some false)) && (["NoneType", "bool", "int"] : List String).all fun n => decide (PySem.W.kitOne K (.type n) D = some false))
def isB (K : PySem.W.Frag) (ca : Nat → Addr) (p : Str × List Nat × List Nat) : Bool := match PySem.W.nsIn K mainGlobals p.1 with
  | some (some (.ref a)) => kitB K ca (.ref a) p.2.1 p.2.2
  | some none => (match bootBuiltins p.1 with
    | some (.type n) => !decide (p.1 = ("__name__" : Str)) && kitB K ca (.type n) p.2.1 p.2.2
    | _ => false)
  | _ => false
def exB (K : PySem.W.Frag) (ca : Nat → Addr) (p : Str × List Nat × List Nat) : Bool := match PySem.W.nsIn K mainGlobals p.1 with
  | some (some v) => p.2.1.all (fun c => decide (PySem.W.exmOne K (.ref (ca c)) v = some true)) && p.2.2.all fun c => decide (PySem.W.exmOne K (.ref (ca c)) v = some false)
  | some none => (match bootBuiltins p.1 with
    | some v => !decide (p.1 = ("__name__" : Str)) && (p.2.1.all (fun c => decide (PySem.W.exmOne K (.ref (ca c)) v = some true)) && p.2.2.all fun c => decide (PySem.W.exmOne K (.ref (ca c)) v = some false))
    | none => false)
  | _ => false
/-- the class object of an exception -/
def excB (K : PySem.W.Frag) (C : Addr) (ve : Bool) : Bool := match K.lookup C with
  | some ⟨.type t, _, .cls ⟨_, _, .ref C' :: bm, _, _, true, _, _, _, _, false⟩, sl⟩ => decide (t = "type") && (decide (C' = C) && (decide (sl.toList.length = 6) && (decide (sl.toList[4]? = some (some (.builtin (if ve = true then "ValueError.__new__" else "Exception.__new__")))) &&
    (if ve = true then PySem.HandSPX.refsVE bm else decide (bm = PySem.ESX.exTail)))))
  | _ => false
def xiB (K : PySem.W.Frag) (ca : Nat → Addr) (p : XI) : Bool :=
  excB K (ca p.c) p.ve && (finB K (ca p.c) "__setattr__" (some (.builtin "object.__setattr__")) && (finB K (ca p.c) "__init__" (some (.ref (He.fAd K (p.x, some "__init__")))) && (fnQ K (He.fAd K (p.x, some "__init__")) && (p.fs.all (fun f => finB K (ca p.c) (sZ f) none) &&
  (match p.B with
    | none => true
    | some b => p.ve && (gloB1 K b (He.ga K b) && (decide (PySem.W.specialIn K (.ref (He.ga K b)) "__getattribute__" = some (some (.builtin "type.__getattribute__"))) && (PySem.W.readsIn K (He.ga K b) (.type "type") && (match PySem.W.findCls K (.ref (He.ga K b)) (.type "type") "__init__" with | some (.val v) => decide (v = .builtin "ValueError.__init__") | _ => false)))))))))
def HN.ck (N : HN) (K : PySem.W.Frag) : Bool :=
  gloB1 K "law" ((N.gm K).fa N.li) && (
  N.G.fns.all (fun p => gloB1 K p.1 ((N.gm K).fa p.2.1) && PySem.W.keepIn K (.ref ((N.gm K).fa p.2.1))) && (
  N.G.bis.all (fun x => noneB1 K x) && (
  N.G.cons.all (fun p => match PySem.W.nsIn K mainGlobals p.1 with | some (some u) => repB K p.2 u | _ => false) && (
  N.G.tabs.all (fun t => gloB1 K t.1 (He.ga K t.1) && t.2.all fun q => match PySem.W.nsIn K (He.ga K t.1) ⟨q.1.toArray⟩ with | some (some u) => repB K q.2 u | _ => false) && (
  N.G.cls.all (fun p => gloB1 K p.1 ((N.gm K).ca p.2.1) && (PySem.W.makesIn K ((N.gm K).ca p.2.1) && (finB K ((N.gm K).ca p.2.1) "__init__" (some (.ref ((N.gm K).fa p.2.2))) && (PySem.W.isFn K (.ref ((N.gm K).fa p.2.2)) && (PySem.W.keepIn K (.ref ((N.gm K).ca p.2.1)) && insB K ((N.gm K).ca p.2.1)))))) && (
  N.G.mth.all (fun p => p.2.all fun q => finB K ((N.gm K).ca q.1) (sZ p.1) (some (.ref ((N.gm K).fa q.2))) && fnQ K ((N.gm K).fa q.2)) && (
  N.G.fld.all (fun p => p.2.all fun f => finB K ((N.gm K).ca p.1) (sZ f) none) && (
  N.G.xcl.all (fun p => gloB1 K p.1 ((N.gm K).ca p.2.1) && (PySem.W.keepIn K (.ref ((N.gm K).ca p.2.1)) && (decide (PySem.W.subIn K (.ref ((N.gm K).ca p.2.1)) (.type "BaseException") = some true) && (decide (PySem.W.typeIn K (.ref ((N.gm K).ca p.2.1)) = some (.type "type")) && (xkB K ((N.gm K).ca p.2.1) &&
    (if p.2.2.isEmpty = true then PySem.W.excIn K ((N.gm K).ca p.2.1) [.type "ValueError", .type "Exception", .type "BaseException", .type "object"] "ValueError.__new__" else true)))))) && (
  N.G.isC.all (isB K (N.gm K).ca) && (
  N.G.exm.all (exB K (N.gm K).ca) && N.xi.all (xiB K (N.gm K).ca)))))))))))
/-! ### the Hook -/
def adQ (n0 n : Nat) : List Addr := mainGlobals :: cStatics :: List.range' n0 (n - n0)
def obsQ (ck : PySem.W.Frag → Bool) (fn : List He.DefD) (ts : List He.Tab) (K : PySem.W.Frag) : He.AlT := ((ck K && fn.all fun d => d.ok K, fn.map fun d => He.fnW K d.at_), ts.map fun t => He.dicW K (t.1 K))
def SaysQ (ck : PySem.W.Frag → Bool) (fn : List He.DefD) (ts : List He.Tab) (w : World) (K : PySem.W.Frag) : Prop := obsQ ck fn ts K = He.valT fn ts w
section
variable {ck : PySem.W.Frag → Bool} {fn : List He.DefD} {ts : List He.Tab} {w : World} {K : PySem.W.Frag}
theorem SaysQ.cked (c : SaysQ ck fn ts w K) : ck K = true := (band (show (ck K && fn.all fun d => d.ok K) = true from congrArg (fun z : He.AlT => z.1.1) c)).1
theorem SaysQ.def_ (c : SaysQ ck fn ts w K) {d : He.DefD} (h : d ∈ fn) : ∃ fd, FunD K d.name d.qual d.params d.body d.scope (d.dvs K) (d.kws K) (He.fAd K d.at_) fd := by
  have c2 := (band (show (ck K && fn.all fun d => d.ok K) = true from congrArg (fun z : He.AlT => z.1.1) c)).2
  have e : fn.map (fun d => He.fnW K d.at_) = fn.map He.DefD.val := congrArg (fun z : He.AlT => z.1.2) c
  obtain ⟨i, hi, hd⟩ := List.mem_iff_getElem.mp h
  have h1 : fn[i]? = some d := by rw [List.getElem?_eq_getElem hi, hd]
  have e2 : (fn.map fun d => He.fnW K d.at_)[i]? = (fn.map He.DefD.val)[i]? := by rw [e]
  rw [List.getElem?_map, List.getElem?_map, h1] at e2
  exact He.DefD.funD (Option.some.inj e2) (List.all_eq_true.mp c2 d h)
theorem SaysQ.tab (c : SaysQ ck fn ts w K) {t : He.Tab} (h : t ∈ ts) : ∃ es n, KDict K w (t.1 K) es n := by
  have e : ts.map (fun t => He.dicW K (t.1 K)) = ts.map fun t => some (He.keysIn w.params t.2) := congrArg (fun z : He.AlT => z.2) c
  obtain ⟨i, hi, hd⟩ := List.mem_iff_getElem.mp h
  have h1 : ts[i]? = some t := by rw [List.getElem?_eq_getElem hi, hd]
  have e2 : (ts.map fun t => He.dicW K (t.1 K))[i]? = (ts.map fun t => some (He.keysIn w.params t.2))[i]? := by rw [e]
  rw [List.getElem?_map, List.getElem?_map, h1] at e2
  exact He.dicW_ok (Option.some.inj e2)
end
/-- a def of the evaluator as a datum of the head -/
def ddD (at_ : Nat → Str × Option Str) (dd : Nat → DD) (i : Nat) : He.DefD := ⟨at_ i, (dd i).x, (dd i).qual, defArgs (dd i).st, defBody (dd i).st, defScope (dd i).st, [], []⟩
def xiD (p : XI) : He.DefD := ⟨(p.x, some "__init__"), "__init__", p.qual, defArgs p.st, defBody p.st, defScope p.st, [], []⟩
def HN.ts (N : HN) : List He.Tab := N.G.tabs.map fun t => (fun K => He.ga K t.1, t.2.map fun q => (⟨q.1.toArray⟩ : Str))
theorem FunD.y {K : PySem.W.Frag} {x qual : Str} {st : Stmt} {dvs : List V} {kws : List (Str × V)} {f : Addr} {fd : FuncData} (F : FunD K x qual (defArgs st) (defBody st) (defScope st) dvs kws f fd) : FunY K x qual st f fd := by
  obtain ⟨oc, od, dV, kV, doc, pm, an, cdv, ct, osl, e, l, c, _⟩ := F.ex
  exact ⟨⟨oc, od, dV, kV, doc, pm, an, cdv, ct, osl, e, l, c⟩⟩
/-! ### the evaluator's Wd of what is told -/
theorem fin_ok {K : PySem.W.Frag} {C : Addr} {x : Str} {v : Option Value} (h : finB K C x v = true) : PySem.W.findIn K (.ref C) x = some v := of_decide_eq_true h
theorem get_ok {K : PySem.W.Frag} {C : Addr} (h : getB K C = true) : PySem.W.findIn K (.ref C) "__class__" = some (some (.builtin "object.__class__")) ∧ PySem.W.specialIn K (.builtin "object.__class__") "__get__" = some (some (.builtin "getset_descriptor.__get__")) ∧
    PySem.W.takesIn K (.builtin "object.__class__") = some true ∧ PySem.W.mroIn K C (.type "object") = some true := by
  obtain ⟨h1, h⟩ := band h
  obtain ⟨h2, h⟩ := band h
  obtain ⟨h3, h4⟩ := band h
  exact ⟨fin_ok h1, of_decide_eq_true h2, of_decide_eq_true h3, of_decide_eq_true h4⟩
theorem ins_ok {K : PySem.W.Frag} {C : Addr} (h : insB K C = true) : InsC K C := by
  obtain ⟨h1, h⟩ := band h
  obtain ⟨h2, h⟩ := band h
  obtain ⟨h3, h⟩ := band h
  obtain ⟨h4, h⟩ := band h
  obtain ⟨h5, h6⟩ := band h
  obtain ⟨g1, g2, g3, g4⟩ := get_ok h5
  exact ⟨⟨h1, h2, h3, fin_ok h4⟩, g1, g2, g3, g4, fun n hn => of_decide_eq_true (List.all_eq_true.mp h6 n hn)⟩
theorem xk_ok {K : PySem.W.Frag} {C : Addr} (h : xkB K C = true) : XkC K C := by
  obtain ⟨h1, h⟩ := band h
  obtain ⟨h2, h⟩ := band h
  obtain ⟨h3, h⟩ := band h
  obtain ⟨h4, h5⟩ := band h
  obtain ⟨g1, g2, g3, g4⟩ := get_ok h5
  exact ⟨⟨fin_ok h1, fin_ok h2, of_decide_eq_true h3, h4⟩, g1, g2, g3, g4⟩
theorem kit_ok {K : PySem.W.Frag} {ca : Nat → Addr} {D : Value} {yes no : List Nat} (h : kitB K ca D yes no = true) : (∀ c ∈ yes, PySem.W.kitOne K (.ref (ca c)) D = some true) ∧ (∀ c ∈ no, PySem.W.kitOne K (.ref (ca c)) D = some false) ∧ ∀ n ∈ ["NoneType", "bool", "int"], PySem.W.kitOne K (.type n) D = some false := by
  obtain ⟨h1, h⟩ := band h
  obtain ⟨h2, h3⟩ := band h
  exact ⟨fun c hc => of_decide_eq_true (List.all_eq_true.mp h1 c hc), fun c hc => of_decide_eq_true (List.all_eq_true.mp h2 c hc), fun n hn => of_decide_eq_true (List.all_eq_true.mp h3 n hn)⟩
section
variable {K : PySem.W.Frag} {h : Heap} {mg : Str → Option Value}
theorem glo1_ok (X : K.In h) (G : h.Ns mainGlobals mg) {x : Str} {a : Addr} (c : gloB1 K x a = true) : mg x = some (.ref a) := PySem.W.mg_of X G (of_decide_eq_true c)
theorem none1_ok (X : K.In h) (G : h.Ns mainGlobals mg) {x : Str} (c : noneB1 K x = true) : mg x = none := PySem.W.mg_none_of X G (of_decide_eq_true c)
theorem is_ok (X : K.In h) (G : h.Ns mainGlobals mg) {ca : Nat → Addr} {p : Str × List Nat × List Nat} (c : isB K ca p = true) :
    ∃ D, NmW mg p.1 D ∧ (∀ c ∈ p.2.1, PySem.W.kitOne K (.ref (ca c)) D = some true) ∧ (∀ c ∈ p.2.2, PySem.W.kitOne K (.ref (ca c)) D = some false) ∧ ∀ n ∈ ["NoneType", "bool", "int"], PySem.W.kitOne K (.type n) D = some false := by
  unfold isB at c
  cases e : PySem.W.nsIn K mainGlobals p.1 with
  | none => rw [e] at c; cases c
  | some o =>
    rw [e] at c
    cases o with
    | none =>
      replace c : (match bootBuiltins p.1 with
        | some (.type n) => !decide (p.1 = ("__name__" : Str)) && kitB K ca (.type n) p.2.1 p.2.2
        | _ => false) = true := c
      cases e2 : bootBuiltins p.1 with
      | none => rw [e2] at c; cases c
      | some v =>
        rw [e2] at c
        cases v with
        | type n =>
          obtain ⟨c1, c2⟩ := band c
          obtain ⟨k1, k2, k3⟩ := kit_ok c2
          exact ⟨.type n, .inr ⟨PySem.W.mg_none_of X G e, n, rfl, e2, by simpa using c1⟩, k1, k2, k3⟩
        | _ => cases c
    | some v =>
      cases v with
      | ref a =>
        obtain ⟨k1, k2, k3⟩ := kit_ok (show kitB K ca (.ref a) p.2.1 p.2.2 = true from c)
        exact ⟨.ref a, .inl ⟨PySem.W.mg_of X G e, a, rfl⟩, k1, k2, k3⟩
      | _ => cases c
theorem ex_ok (X : K.In h) (G : h.Ns mainGlobals mg) {ca : Nat → Addr} {p : Str × List Nat × List Nat} (c : exB K ca p = true) :
    ∃ cv, (mg p.1 = some cv ∨ (mg p.1 = none ∧ bootBuiltins p.1 = some cv ∧ p.1 ≠ ("__name__" : Str))) ∧ (∀ c ∈ p.2.1, PySem.W.exmOne K (.ref (ca c)) cv = some true) ∧ ∀ c ∈ p.2.2, PySem.W.exmOne K (.ref (ca c)) cv = some false := by
  unfold exB at c
  cases e : PySem.W.nsIn K mainGlobals p.1 with
  | none => rw [e] at c; cases c
  | some o =>
    rw [e] at c
    cases o with
    | none =>
      replace c : (match bootBuiltins p.1 with
        | some v => !decide (p.1 = ("__name__" : Str)) && (p.2.1.all (fun c => decide (PySem.W.exmOne K (.ref (ca c)) v = some true)) && p.2.2.all fun c => decide (PySem.W.exmOne K (.ref (ca c)) v = some false))
        | none => false) = true := c
      cases e2 : bootBuiltins p.1 with
      | none => rw [e2] at c; cases c
      | some v =>
        rw [e2] at c
        obtain ⟨c1, c⟩ := band c
        obtain ⟨c2, c3⟩ := band c
        exact ⟨v, .inr ⟨PySem.W.mg_none_of X G e, rfl, by simpa using c1⟩, fun c hc => of_decide_eq_true (List.all_eq_true.mp c2 c hc), fun c hc => of_decide_eq_true (List.all_eq_true.mp c3 c hc)⟩
    | some v =>
      obtain ⟨c2, c3⟩ := band (show (p.2.1.all (fun c => decide (PySem.W.exmOne K (.ref (ca c)) v = some true)) && p.2.2.all fun c => decide (PySem.W.exmOne K (.ref (ca c)) v = some false)) = true from c)
      exact ⟨v, .inl (PySem.W.mg_of X G e), fun c hc => of_decide_eq_true (List.all_eq_true.mp c2 c hc), fun c hc => of_decide_eq_true (List.all_eq_true.mp c3 c hc)⟩
theorem exc_ok {C : Addr} {ve : Bool} (c : excB K C ve = true) :
    ∃ nm q N bs bm sn sub ab col dd k0 k1 k2 k3 k5, K.lookup C = some (excClassObj nm q C N bs bm true sn sub ab col dd k0 k1 k2 k3 k5 (if ve = true then "ValueError.__new__" else "Exception.__new__")) ∧ (if ve = true then PySem.HandSPX.refsVE bm = true else bm = PySem.ESX.exTail) := by
  unfold excB at c
  split at c
  · rename_i t dd nm bs C' bm N q sn sub ab col sl e
    obtain ⟨c1, c⟩ := band c
    obtain ⟨c2, c⟩ := band c
    obtain ⟨c3, c⟩ := band c
    obtain ⟨c4, c5⟩ := band c
    have c1 := of_decide_eq_true c1
    have c2 := of_decide_eq_true c2
    have c3 := of_decide_eq_true c3
    have c4 := of_decide_eq_true c4
    subst c1 c2
    obtain ⟨l⟩ := sl
    match l, c3, c4 with
    | [k0, k1, k2, k3, k4, k5], _, c4 =>
      have c4 : k4 = some (.builtin (if ve = true then "ValueError.__new__" else "Exception.__new__")) := by simpa using c4
      subst c4
      refine ⟨nm, q, N, bs, bm, sn, sub, ab, col, dd, k0, k1, k2, k3, k5, e, ?_⟩
      cases ve with
      | true => exact c5
      | false => exact of_decide_eq_true c5
  · cases c
end
end Bw

/-! HD2: Wd of what the head's Hook tells; the end of a law's proof. -/
namespace Bw
open PySem L2 PySem.Spec PyProof.Rows
/-- what is to be shown of each def, whatever the function object -/
def FnQ (N : HN) (dd : Nat → DD) (i : Nat) (d : FD) : Prop := ∀ (K : PySem.W.Frag) (fd : FuncData), FunD K (dd i).x (dd i).qual (defArgs (dd i).st) (defBody (dd i).st) (defScope (dd i).st) [] [] ((N.gm K).fa i) fd → FnC (N.gm K) N.G i (dd i) d fd
structure XiQ (fn : List He.DefD) (p : XI) : Prop where
  sc : FnScope p.ps p.ps (defScope p.st)
  len : p.ps.length = p.fs.length + 1
  ch : chIn p.ps (defScope p.st) p.B (defBody p.st) p.fs = true
  ve : p.B.isSome = true → p.ve = true
  mem : xiD p ∈ fn
  bi : ∀ (K : PySem.W.Frag) (fd : FuncData) (f : Addr), FunD K "__init__" p.qual (defArgs p.st) (defBody p.st) (defScope p.st) [] [] f fd → Binds K fd p.ps []
/-- what the text itself tells (no fragment in sight) -/
structure NmQ (N : HN) (T : Nat → Option FD) (fn : List He.DefD) : Prop where
  hot : N.G.hot = false
  dfl : N.G.dfl = []
  fns : N.G.fns.all (fun p => (T p.2.1).isSome) = true
  cls : N.G.cls.all (fun p => (T p.2.2).isSome) = true
  mth : N.G.mth.all (fun p => p.2.all fun q => (T q.2).isSome) = true
  xcl : N.G.xcl.all (fun p => p.2.2.isEmpty || N.xi.any fun q => decide (q.x = p.1) && (decide (q.c = p.2.1) && decide (q.fs = p.2.2))) = true
  xi : ∀ p ∈ N.xi, XiQ fn p
theorem some_ex {T : Nat → Option FD} {i : Nat} (h : (T i).isSome = true) : ∃ d, T i = some d := Option.isSome_iff_exists.mp h
theorem wd_of {N : HN} {T : Nat → Option FD} {fn : List He.DefD} {dd : Nat → DD} {P : Program} {w : World} {K : PySem.W.Frag} {base h : Heap} {mg : Str → Option Value} {fd : Nat → FuncData}
    (X : K.In h) (G0 : h.Ns mainGlobals mg) (c : SaysQ N.ck fn N.ts w K) (q : NmQ N T fn) (hTab : ∀ x kvs, N.G.tabT.lookup x = some kvs → ∃ p xs, mg x = some (.ref p) ∧ TabTR (N.gm K) P w p kvs xs)
    (hf : ∀ i d, T i = some d → FnQ N dd i d ∧ FunD K (dd i).x (dd i).qual (defArgs (dd i).st) (defBody (dd i).st) (defScope (dd i).st) [] [] ((N.gm K).fa i) (fd i)) : Wd (N.gm K) N.G T P w base mg dd fd := by
  obtain ⟨_, k⟩ := band (show (gloB1 K "law" ((N.gm K).fa N.li) && _) = true from c.cked)
  obtain ⟨c1, k⟩ := band k
  obtain ⟨c2, k⟩ := band k
  obtain ⟨c3, k⟩ := band k
  obtain ⟨c4, k⟩ := band k
  obtain ⟨c5, k⟩ := band k
  obtain ⟨c6, k⟩ := band k
  obtain ⟨c7, k⟩ := band k
  obtain ⟨c8, k⟩ := band k
  obtain ⟨c9, k⟩ := band k
  obtain ⟨c10, c11⟩ := band k
  have xcl : ∀ p ∈ N.G.xcl, mg p.1 = some (.ref ((N.gm K).ca p.2.1)) ∧ PySem.W.keepIn K (.ref ((N.gm K).ca p.2.1)) = true ∧ PySem.W.subIn K (.ref ((N.gm K).ca p.2.1)) (.type "BaseException") = some true ∧
      PySem.W.typeIn K (.ref ((N.gm K).ca p.2.1)) = some (.type "type") ∧ XkC K ((N.gm K).ca p.2.1) ∧
      (p.2.2 = [] → PySem.W.excIn K ((N.gm K).ca p.2.1) [.type "ValueError", .type "Exception", .type "BaseException", .type "object"] "ValueError.__new__" = true) := fun p hp => by
    obtain ⟨g1, g⟩ := band (List.all_eq_true.mp c8 p hp)
    obtain ⟨g2, g⟩ := band g
    obtain ⟨g3, g⟩ := band g
    obtain ⟨g4, g⟩ := band g
    obtain ⟨g5, g6⟩ := band g
    refine ⟨glo1_ok X G0 g1, g2, of_decide_eq_true g3, of_decide_eq_true g4, xk_ok g5, fun e => ?_⟩
    rw [e] at g6
    exact g6
  exact {
    hot := q.hot
    fns := fun i d e => .inl ((hf i d e).1 K _ (hf i d e).2)
    fnv := fun x f ar e => by
      obtain ⟨g1, g2⟩ := band (List.all_eq_true.mp c1 _ e)
      exact ⟨some_ex (List.all_eq_true.mp q.fns _ e), glo1_ok X G0 g1, g2⟩
    dfl := fun x f ar ws _ e => by
      rw [q.dfl] at e
      cases e
    bi := fun x e => none1_ok X G0 (List.all_eq_true.mp c2 x (List.contains_iff_mem.mp e))
    con := fun x w0 e => by
      have g := List.all_eq_true.mp c3 _ (PySem.mem_of_lookup e)
      replace g : (match PySem.W.nsIn K mainGlobals x with | some (some u) => repB K w0 u | _ => false) = true := g
      cases e2 : PySem.W.nsIn K mainGlobals x with
      | none => rw [e2] at g; cases g
      | some o =>
        rw [e2] at g
        cases o with
        | none => cases g
        | some u =>
          obtain ⟨v, r, p⟩ := repB_ok (Γ := N.gm K) w0 u g
          exact ⟨v, u, PySem.W.mg_of X G0 e2, r, p⟩
    tab := fun x kvs e => by
      have hm := PySem.mem_of_lookup e
      obtain ⟨g1, g2⟩ := band (List.all_eq_true.mp c4 _ hm)
      obtain ⟨es, n, D⟩ := c.tab (t := (fun K => He.ga K x, kvs.map fun q => (⟨q.1.toArray⟩ : Str))) (List.mem_map.mpr ⟨_, hm, rfl⟩)
      refine ⟨He.ga K x, glo1_ok X G0 g1, fun k w' e1 => ?_⟩
      have g := List.all_eq_true.mp g2 _ (mem_of_lookupA e1)
      replace g : (match PySem.W.nsIn K (He.ga K x) ⟨k.toArray⟩ with | some (some u) => repB K w' u | _ => false) = true := g
      cases e2 : PySem.W.nsIn K (He.ga K x) ⟨k.toArray⟩ with
      | none => rw [e2] at g; cases g
      | some o =>
        rw [e2] at g
        cases o with
        | none => cases g
        | some u =>
          obtain ⟨v, r, p⟩ := repB_ok (Γ := N.gm K) w' u g
          exact ⟨v, ⟨es, n, u, D.at_, D.lit, e2, r⟩, p⟩
    tabT := hTab
    cls := fun x c0 fi e => by
      have hm := PySem.mem_of_lookup e
      obtain ⟨g1, g⟩ := band (List.all_eq_true.mp c5 _ hm)
      obtain ⟨g2, g⟩ := band g
      obtain ⟨g3, g⟩ := band g
      obtain ⟨g4, g⟩ := band g
      obtain ⟨g5, g6⟩ := band g
      exact ⟨some_ex (List.all_eq_true.mp q.cls _ hm), ⟨g2, fin_ok g3, g4, g5⟩, glo1_ok X G0 g1, ins_ok g6⟩
    mth := fun m tb c0 f e e1 => by
      have hm := mem_of_lookupA e
      have hm1 := mem_of_lookupA e1
      obtain ⟨g1, g2⟩ := band (List.all_eq_true.mp (List.all_eq_true.mp c6 _ hm) _ hm1)
      obtain ⟨g3, g4⟩ := band g2
      exact ⟨some_ex (List.all_eq_true.mp (List.all_eq_true.mp q.mth _ hm) _ hm1), fin_ok g1, g3, g4⟩
    fld := fun c0 fs f e hfs => fin_ok (List.all_eq_true.mp (List.all_eq_true.mp c7 _ (mem_of_lookupA e)) f hfs)
    xcl := fun x c0 e => by
      obtain ⟨g1, g2, g3, g4, g5, g6⟩ := xcl _ (PySem.mem_of_lookup e)
      exact ⟨g6 rfl, g1, g2, g3, g4, g5⟩
    xin := fun x c0 fs e ne => by
      have hm := PySem.mem_of_lookup e
      obtain ⟨g1, g2, g3, g4, g5, _⟩ := xcl _ hm
      have hx := List.all_eq_true.mp q.xcl _ hm
      rcases (Bool.or_eq_true_iff.mp hx) with hx | hx
      · exact absurd (List.isEmpty_iff.mp hx) ne
      obtain ⟨p, hp, hx⟩ := List.any_eq_true.mp hx
      obtain ⟨x1, hx⟩ := band hx
      obtain ⟨x2, x3⟩ := band hx
      have w1 : p.x = x := of_decide_eq_true x1
      have w2 : p.c = c0 := of_decide_eq_true x2
      have w3 : p.fs = fs := of_decide_eq_true x3
      subst w1 w2 w3
      have Q := q.xi p hp
      obtain ⟨y1, y⟩ := band (List.all_eq_true.mp c11 p hp)
      obtain ⟨y2, y⟩ := band y
      obtain ⟨y3, y⟩ := band y
      obtain ⟨y4, y⟩ := band y
      obtain ⟨y5, y6⟩ := band y
      obtain ⟨z1, z2⟩ := band y4
      obtain ⟨fdI, F⟩ := c.def_ Q.mem
      have O : OxC K ((N.gm K).ca p.c) p.ve := ⟨exc_ok y1, fin_ok y2, g3, g4, g2⟩
      have no : ∀ f ∈ p.fs, PySem.W.findIn K (.ref ((N.gm K).ca p.c)) (sZ f) = some none := fun f hf => fin_ok (List.all_eq_true.mp y5 f hf)
      refine ⟨p.ve, He.fAd K (p.x, some "__init__"), fdI, p.ps, O, fin_ok y3, (beq_iff_eq.mp (show (PySem.W.typeIn K (.ref (He.fAd K (p.x, some "__init__"))) == some (.type "function")) = true from z1) : PySem.W.typeIn K _ = _), init_ok (FunD.y F) Q.sc Q.len O ?_ Q.ch no, Q.bi K fdI _ F, g1, g5, no⟩
      cases hB : p.B with
      | none => trivial
      | some b =>
        rw [hB] at y6
        obtain ⟨_, y6⟩ := band y6
        obtain ⟨b1, y6⟩ := band y6
        obtain ⟨b2, y6⟩ := band y6
        obtain ⟨b3, b4⟩ := band y6
        refine ⟨Q.ve (by rw [hB]; rfl), He.ga K b, glo1_ok X G0 b1, of_decide_eq_true b2, b3, ?_⟩
        split at b4
        · rename_i v e4
          exact e4.trans (congrArg (fun z => some (PySem.W.CFound.val z)) (of_decide_eq_true b4))
        · cases b4
    isC := fun y yes no e => is_ok X G0 (List.all_eq_true.mp c9 _ (PySem.mem_of_lookup e))
    exm := fun x yes no e => ex_ok X G0 (List.all_eq_true.mp c10 _ (PySem.mem_of_lookup e)) }
/-! ### the end -/
theorem bindsTo_law {K : PySem.W.Frag} {fd : FuncData} {x qual lp : Str} {st : Stmt} {f : Addr} (F : FunD K x qual (defArgs st) (defBody st) (defScope st) [] [] f fd)
    (hb : ∀ (kV doc pm : Value) (an : Option Addr) (cdv ct : Value) (us : List Value), us.length = [lp].length → bindArgs (PySem.W.fnOf x qual (defArgs st) (defBody st) (defScope st) .none kV doc pm an cdv ct) ⟨us, []⟩ = pure ([lp].zip us)) (s : Shared) (u : Value) : BindsTo s fd ⟨[u], []⟩ [(lp, u)] :=
  FunD.bindsA (ps := [lp]) F hb s [u] rfl
/-! ### a dict of the module whose keys are tuples -/
def refA : Value → Addr
  | .ref a => a
  | _ => 0
def tupKB (K : PySem.W.Frag) (ks : List L2.Key) (u : Value) : Bool := match u with
  | .ref a => (match K.lookup a with
    | some ⟨.type c, _, .seq its _, _⟩ => decide (c = "tuple") && (decide (its.toList.length = ks.length) && (ks.zip its.toList).all fun q => keyIs q.1 q.2)
    | _ => false)
  | _ => false
def dicE (K : PySem.W.Frag) (x : Str) : Option (List DictEntry) := match PySem.W.nsIn K mainGlobals x with
  | some (some (.ref a)) => (match K.lookup a with
    | some ⟨.type c, none, .dict es _, sl⟩ => (match decide (c = "dict") && (sl.isEmpty && !(a == sysModules)) with
      | true => some es.toList
      | false => none)
    | _ => none)
  | _ => none
def tabTB (K : PySem.W.Frag) (t : Str × List (List Ky × W)) : Bool := match dicE K t.1 with
  | some es => decide (es.length = t.2.length) && (t.2.zip es).all fun q => tupKB K (q.1.1.map keyV) q.2.key && repB K q.1.2 q.2.val
  | none => false
def HN.ckN (N : HN) (K : PySem.W.Frag) : Bool := N.ck K && N.G.tabT.all (tabTB K)
abbrev AlN : Type := He.AlT × List (Option (List Int))
def obsN (N : HN) (fn : List He.DefD) (K : PySem.W.Frag) : AlN := (obsQ N.ckN fn N.ts K, N.G.tabT.map fun t => (dicE K t.1).map fun es => es.map (·.hash))
def valN (P : Program) (N : HN) (fn : List He.DefD) (w : World) : AlN := (He.valT fn N.ts w, N.G.tabT.map fun t => some (t.2.map fun q => (tupleKind (mixKind P w)).hash (q.1.map keyV)))
def hookN (P : Program) (n0 : Nat) (N : HN) (fn : List He.DefD) : PySem.W.Hook where
  α := AlN
  obs := fun s => obsN N fn (He.frG s.heap.get? (adQ n0 s.heap.objs.size))
  val := fun w => valN P N fn w
  says := fun w h => ∃ K : PySem.W.Frag, K.In h ∧ obsN N fn K = valN P N fn w
  of := fun _ _ e => ⟨_, He.frG_in, e⟩
  keeps := fun _ _ _ ⟨K, hK, c⟩ k => ⟨K, PySem.W.Frag.In.keeps hK k, c⟩
def obN (n0 : Nat) (N : HN) (fn : List He.DefD) (s : PySem.W.SharedT) : AlN := obsN N fn (He.frG (HandSHeadRun.getT s) (adQ n0 s.n))
theorem obN_eq (P : Program) (n0 : Nat) (N : HN) (fn : List He.DefD) (s : PySem.W.SharedT) : obN n0 N fn s = (hookN P n0 N fn).obs s.abs := by
  have e : HandSHeadRun.getT s = s.abs.heap.get? := funext (HandSHeadRun.getT_eq s)
  have e2 : s.abs.heap.objs.size = s.n := PySem.W.absHeap_size _ _ _
  show obsN N fn (He.frG (HandSHeadRun.getT s) (adQ n0 s.n)) = obsN N fn (He.frG s.abs.heap.get? (adQ n0 s.abs.heap.objs.size))
  rw [e, e2]
theorem says_ck {N : HN} {fn : List He.DefD} {P : Program} {w : World} {K : PySem.W.Frag} (c : obsN N fn K = valN P N fn w) : SaysQ N.ck fn N.ts w K ∧ N.G.tabT.all (tabTB K) = true := by
  have c1 : obsQ N.ckN fn N.ts K = He.valT fn N.ts w := congrArg (fun z : AlN => z.1) c
  obtain ⟨k1, k2⟩ := band (show (N.ck K && N.G.tabT.all (tabTB K)) = true from SaysQ.cked (ck := N.ckN) c1)
  have e : obsQ N.ck fn N.ts K = obsQ N.ckN fn N.ts K := by
    show ((N.ck K && _, _), _) = ((N.ckN K && _, _), _)
    rw [show N.ckN K = true from SaysQ.cked (ck := N.ckN) c1, k1]
  exact ⟨e.trans c1, k2⟩
theorem dicE_ok {K : PySem.W.Frag} {x : Str} {es : List DictEntry} (h : dicE K x = some es) : ∃ a arr n, PySem.W.nsIn K mainGlobals x = some (some (.ref a)) ∧ K.lookup a = some ⟨.type "dict", none, .dict arr n, #[]⟩ ∧ arr.toList = es ∧ (a == sysModules) = false := by
  unfold dicE at h
  split at h
  · rename_i a e1
    split at h
    · rename_i c arr n sl e2
      split at h
      · rename_i e3
        obtain ⟨z1, z2⟩ := band e3
        obtain ⟨z3, z4⟩ := band z2
        have y1 : c = "dict" := of_decide_eq_true z1
        have y2 : sl = #[] := Array.isEmpty_iff.mp z3
        subst y1 y2
        exact ⟨a, arr, n, e1, e2, Option.some.inj h, by simpa using z4⟩
      · cases h
    · cases h
  · cases h
theorem items_ok {P : Program} {w : World} : ∀ (ks : List L2.Key) (us : List Value), us.length = ks.length → ((ks.zip us).all fun q => keyIs q.1 q.2) = true → ItemsAre (mixKind P w) ks us
  | [], [], _, _ => .nil
  | [], _ :: _, h, _ => by cases h
  | _ :: _, [], h, _ => by cases h
  | k :: ks, u :: us, h, q => by
    obtain ⟨q1, q2⟩ := band (show (keyIs k u && (ks.zip us).all fun q => keyIs q.1 q.2) = true from q)
    exact .cons q1 (items_ok ks us (Nat.succ.inj h) q2)
theorem zip_get {α β : Type} {l : List α} {r : List β} {i : Nat} {a : α} {b : β} (h1 : l[i]? = some a) (h2 : r[i]? = some b) : (l.zip r)[i]? = some (a, b) := by
  rw [List.getElem?_zip_eq_some]
  exact ⟨h1, h2⟩
theorem tabT_ok {N : HN} {fn : List He.DefD} {P : Program} {w : World} {K : PySem.W.Frag} {h : Heap} {mg : Str → Option Value} (X : K.In h) (G0 : h.Ns mainGlobals mg) (c : obsN N fn K = valN P N fn w)
    (nd : ∀ t ∈ N.G.tabT, (t.2.map fun q => q.1.map keyV).Nodup) {x : Str} {kvs : List (List Ky × W)} (e : N.G.tabT.lookup x = some kvs) : ∃ p xs, mg x = some (.ref p) ∧ TabTR (N.gm K) P w p kvs xs := by
  have hm := PySem.mem_of_lookup e
  have k := List.all_eq_true.mp (says_ck c).2 _ hm
  unfold tabTB at k
  have c2 : N.G.tabT.map (fun t => (dicE K t.1).map fun es => es.map (·.hash)) = N.G.tabT.map fun t => some (t.2.map fun q => (tupleKind (mixKind P w)).hash (q.1.map keyV)) := congrArg (fun z : AlN => z.2) c
  have c3 : (dicE K x).map (fun es => es.map (·.hash)) = some (kvs.map fun q => (tupleKind (mixKind P w)).hash (q.1.map keyV)) := by
    obtain ⟨i, hi, hd⟩ := List.mem_iff_getElem.mp hm
    have h1 : N.G.tabT[i]? = some (x, kvs) := by rw [List.getElem?_eq_getElem hi, hd]
    have e2 := congrArg (fun l => l[i]?) c2
    simp only [List.getElem?_map, h1, Option.map_some] at e2
    exact Option.some.inj e2
  cases ed : dicE K x with
  | none => rw [ed] at c3; cases c3
  | some es =>
    rw [ed] at c3 k
    have c3 : es.map (·.hash) = kvs.map fun q => (tupleKind (mixKind P w)).hash (q.1.map keyV) := Option.some.inj c3
    obtain ⟨k1, k2⟩ := band k
    have len : es.length = kvs.length := of_decide_eq_true k1
    obtain ⟨a, arr, n, n1, n2, n3, n4⟩ := dicE_ok ed
    have at_ : ∀ (i : Nat) (q : List Ky × W) (d : DictEntry), kvs[i]? = some q → es[i]? = some d → d.hash = (tupleKind (mixKind P w)).hash (q.1.map keyV) ∧ tupKB K (q.1.map keyV) d.key = true ∧ repB K q.2 d.val = true := fun i q d h1 h2 => by
      have e3 := congrArg (fun l => l[i]?) c3
      simp only [List.getElem?_map, h1, h2, Option.map_some, Option.some.injEq] at e3
      obtain ⟨b1, b2⟩ := band (List.all_eq_true.mp k2 (q, d) (List.mem_of_getElem? (zip_get h1 h2)))
      exact ⟨e3, b1, b2⟩
    let xs : List (List L2.Key × Addr × Value) := (kvs.zip es).map fun q => (q.1.1.map keyV, refA q.2.key, q.2.val)
    have xget : ∀ (i : Nat) (b : List L2.Key × Addr × Value), xs[i]? = some b → ∃ q d, kvs[i]? = some q ∧ es[i]? = some d ∧ b = (q.1.map keyV, refA d.key, d.val) := fun i b hb => by
      rw [List.getElem?_map, Option.map_eq_some_iff] at hb
      obtain ⟨⟨q, d⟩, h1, rfl⟩ := hb
      obtain ⟨h1, h2⟩ := List.getElem?_zip_eq_some.mp h1
      exact ⟨q, d, h1, h2, rfl⟩
    have xlen : xs.length = kvs.length := by simp [xs, len]
    have keyed : ∀ (ks : List L2.Key) (u : Value), tupKB K ks u = true → ∃ p, u = .ref p ∧ ∃ o its n, K.lookup p = some o ∧ o.cls = .type "tuple" ∧ o.data = .seq its n ∧ ItemsAre (mixKind P w) ks its.toList := fun ks u hu => by
      unfold tupKB at hu
      split at hu
      · rename_i p
        split at hu
        · rename_i c0 d0 its n0 s0 e4
          obtain ⟨u1, hu⟩ := band hu
          obtain ⟨u2, u3⟩ := band hu
          exact ⟨p, rfl, _, its, n0, e4, congrArg Value.type (of_decide_eq_true u1), rfl, items_ok ks its.toList (of_decide_eq_true u2) u3⟩
        · cases hu
      · cases hu
    refine ⟨a, xs, PySem.W.mg_of X G0 n1, ⟨n4, ⟨arr, n, n2, ?_⟩, fun b hb => ?_, ?_⟩, xlen, fun i q b h1 h2 => ?_⟩
    · rw [n3]
      refine List.ext_getElem? fun i => ?_
      rw [List.getElem?_map]
      cases hx : xs[i]? with
      | none =>
        rw [List.getElem?_eq_none_iff, xlen] at hx
        rw [Option.map_none, List.getElem?_eq_none_iff, len]
        exact hx
      | some b =>
        obtain ⟨q, d, h1, h2, rfl⟩ := xget i b hx
        obtain ⟨g1, g2, _⟩ := at_ i q d h1 h2
        obtain ⟨p, hp, _⟩ := keyed _ _ g2
        rw [h2, Option.map_some]
        obtain ⟨dh, dk, dv⟩ := d
        have hp : dk = .ref p := hp
        have g1 : dh = (tupleKind (mixKind P w)).hash (q.1.map keyV) := g1
        subst hp g1
        rfl
    · obtain ⟨i, hi⟩ := List.mem_iff_getElem?.mp hb
      obtain ⟨q, d, h1, h2, rfl⟩ := xget i b hi
      obtain ⟨_, g2, _⟩ := at_ i q d h1 h2
      obtain ⟨p, hp, z⟩ := keyed _ _ g2
      rw [hp]
      exact z
    · have e5 : xs.map (·.1) = kvs.map fun q => q.1.map keyV := by
        refine List.ext_getElem? fun i => ?_
        refine (List.getElem?_map (l := xs)).trans (Eq.trans ?_ (List.getElem?_map (l := kvs)).symm)
        cases hx : xs[i]? with
        | none =>
          rw [List.getElem?_eq_none_iff, xlen] at hx
          rw [List.getElem?_eq_none_iff.mpr hx]
          rfl
        | some b =>
          obtain ⟨q, d, h1, h2, rfl⟩ := xget i b hx
          rw [h1]
          rfl
      rw [e5]
      exact nd _ hm
    · obtain ⟨q', d, h3, h4, rfl⟩ := xget i b h2
      obtain rfl : q = q' := Option.some.inj (h1.symm.trans h3)
      obtain ⟨_, _, g3⟩ := at_ i q d h1 h4
      obtain ⟨v, r, p⟩ := repB_ok (Γ := N.gm K) q.2 d.val g3
      exact ⟨rfl, v, r, p⟩
theorem walk_n {l : PySem.W.OpenLaw} {q : Program} {loose : List Str} {XP : (Str → Option Value) → Heap → Prop} {d : DefRec} {N : HN} {T : Nat → Option FD} {fn : List He.DefD} {dd : Nat → DD} {n0 lev : Nat} {lp : Str} {dl : FD}
    (hn : l.most = some 63) (hdf : d.params.defaults = []) (hdn : d.name = ("law" : Str)) (hr : Room (2 * lev + 4) callerA) (nq : NmQ N T fn) (nd : ∀ t ∈ N.G.tabT, (t.2.map fun q => q.1.map keyV).Nodup) (hT : ∀ i d, T i = some d → FnQ N dd i d ∧ ddD N.at_ dd i ∈ fn) (hl : T N.li = some dl)
    (hps : (dd N.li).ps = [lp])
    (hb : ∀ (kV doc pm : Value) (an : Option Addr) (cdv ct : Value) (us : List Value), us.length = [lp].length → bindArgs (PySem.W.fnOf (dd N.li).x (dd N.li).qual (defArgs (dd N.li).st) (defBody (dd N.li).st) (defScope (dd N.li).st) .none kV doc pm an cdv ct) ⟨us, []⟩ = pure ([lp].zip us))
    (m : ∀ ns : List Int, ns.length ≤ 63 → (∀ z ∈ ns, Builtin.Int.intBits z ≤ 1048576) → wF T lev N.li [.sc (ns.map W.int)] (fun _ => none) (fun w _ => w = .bl true) (fun _ _ => False)) :
    PySem.W.WalkO q loose XP (hookN l.prog n0 N fn).says l.row.toRowW d [] (fun f vs => PySem.call f vs) := by
  refine Att.attach_callB hn hdf fun w sA sB mg mb fa ob pm cd doc a vs ns G Y _ _ _ hmg hobj hints hlen hbits hg => ?_
  obtain ⟨K, KX, c0⟩ := Y
  have c := (says_ck c0).1
  obtain ⟨k1, _⟩ := band (show (gloB1 K "law" ((N.gm K).fa N.li) && _) = true from c.cked)
  have e := hmg.symm.trans (hdn ▸ glo1_ok KX G.T.g k1)
  cases e
  obtain ⟨fd, hfd⟩ := Classical.axiomOfChoice (r := fun i fd => ∀ d, T i = some d → FunD K (dd i).x (dd i).qual (defArgs (dd i).st) (defBody (dd i).st) (defScope (dd i).st) [] [] ((N.gm K).fa i) fd) fun i => by
    cases e : T i with
    | none =>
      obtain ⟨z, _⟩ := c.def_ (hT N.li dl hl).2
      exact ⟨z, fun d h => by cases h⟩
    | some d =>
      obtain ⟨z, hz⟩ := c.def_ (hT i d e).2
      exact ⟨z, fun _ _ => hz⟩
  have hlaw := hfd N.li dl hl
  refine law_call (CX := L2.CX l.prog w) (k := 2 * lev + 4) (fd := fd N.li) (sp := spL K) KX G.T.g G.T.b G.T.builtins G.T.nolimit hg hobj hints (Nat.le_trans hlen (by decide)) hr (fun base Kb Gb => ?_) (fun s u => bindsTo_law hlaw hb s u)
    (fun H _ hS => ⟨a, ns, rfl, hS, hlen, hbits, fun _ => rfl⟩) fun H e s' z => ?_
  · have W : Wd (N.gm K) N.G T l.prog w base mg dd fd := wd_of KX G.T.g c nq (fun x kvs e => tabT_ok KX G.T.g c0 nd e) fun i d h => ⟨(hT i d h).1, hfd i d h⟩
    have z := law_end W hl m
    rw [hps] at z
    exact z
  · obtain ⟨_, _, _, _, _, _, _, _, _, _, _, _, z⟩ := z
    exact z
end Bw

/-! GO1: a part of a code that a wp speaks of, run by the machine in front of any continuation. -/
namespace Go
open PySem PySem.W
section
variable {α : Type} {M : Model} {Γ : Ctx} {K : α → Sem Fin} {H : Value → Sem Fin} {gd : Bool → Bool} {lv : List Value → List Value} {Q : α → Pos → Shared → Prop}
/-- from here the machine comes to the continuation -/
def To (M : Model) (c : Code) (K : α → Sem Fin) (Q : α → Pos → Shared → Prop) (st : List Frame) (s : Shared) (t : Thread) : Prop :=
  ∃ n a p' s', M.runN n s t = .running s' ⟨K a, c, p', st⟩ ∧ Q a p' s'
theorem To.step {c : Code} {st : List Frame} {s s1 : Shared} {t t1 : Thread} (h : M.step s t = .go s1 t1) (k : To M c K Q st s1 t1) : To M c K Q st s t := by
  obtain ⟨n, a, p', s', e, q⟩ := k
  exact ⟨n + 1, a, p', s', by rw [runN_succ, h]; exact e, q⟩
theorem runN_add {n m : Nat} : ∀ {s s1 : Shared} {t t1 : Thread}, M.runN n s t = .running s1 t1 → M.runN (n + m) s t = M.runN m s1 t1 := by
  induction n with
  | zero =>
    intro s s1 t t1 h
    cases h
    rw [Nat.zero_add]
  | succ n ih =>
    intro s s1 t t1 h
    rw [runN_succ] at h
    rw [show n + 1 + m = n + m + 1 by omega, runN_succ]
    cases e : M.step s t with
    | go s2 t2 => rw [e] at h; exact ih h
    | halt o s2 => rw [e] at h; cases h
theorem To.runs {c : Code} {st : List Frame} {s s1 : Shared} {t t1 : Thread} {n : Nat} (h : M.runN n s t = .running s1 t1) (k : To M c K Q st s1 t1) : To M c K Q st s t := by
  obtain ⟨m, a, p', s', e, q⟩ := k
  exact ⟨n + m, a, p', s', (runN_add h).trans e, q⟩
/-- a part that ends (it raises nothing), in front of K -/
theorem pre_wp : ∀ (x : Sem α) (p : Pos) (s : Shared) (st : List Frame), Γ.Fits st → Sem.wp M Γ x Q (fun _ _ _ => False) p s → To M Γ.code K Q st s ⟨x.wrap K H gd lv, Γ.code, p, st⟩ := by
  intro x
  induction x with
  | pure a => intro p s st _ h; rw [Sem.wp] at h; exact ⟨0, a, p, s, rfl, h⟩
  | raise e => intro p s st _ h; rw [Sem.wp] at h; exact h.elim
  | unsupported w => intro p s st _ h; rw [Sem.wp] at h; exact h.elim
  | finish e => intro p s st _ h; rw [Sem.wp] at h; exact h.elim
  | rule t k ih => intro p s st hf h; rw [Sem.wp] at h; exact .step (step_rule ..) (ih () p s st hf h)
  | «at» p' k ih => intro p s st hf h; rw [Sem.wp] at h; exact .step (step_at ..) (ih () p' s st hf h)
  | load a q k ih =>
    intro p s st hf h
    rw [Sem.wp] at h
    obtain ⟨o, ho, h⟩ := h
    exact .step (step_load _ _ _ _ _ _ _ ho) (ih o p s st hf h)
  | update a q f k ih =>
    intro p s st hf h
    rw [Sem.wp] at h
    exact .step (step_update _ _ _ _ _ _ _ _ h.1) (ih () p _ st hf h.2)
  | alloc o k ih => intro p s st hf h; rw [Sem.wp] at h; exact .step (step_alloc ..) (ih _ p _ st hf h)
  | loadIfAlive a k ih => intro p s st hf h; rw [Sem.wp] at h; exact .step (step_loadIfAlive ..) (ih _ p s st hf h)
  | point l k ih => intro p s st hf h; rw [Sem.wp] at h; exact .step (step_point ..) (ih () p s st hf h)
  | register a k ih => intro p s st hf h; rw [Sem.wp] at h; exact h.elim
  | fresh k ih => intro p s st hf h; rw [Sem.wp] at h; exact .step (step_fresh ..) (ih _ p _ st hf h)
  | ask k ih => intro p s st hf h; rw [Sem.wp] at h; exact .step (step_ask ..) (ih _ p s st hf h)
  | choose src n k ih =>
    intro p s st hf h
    rw [Sem.wp] at h
    exact .step (step_choose _ _ _ _ _ _ _ h.1) (ih _ p _ st hf h.2)
  | os q l k ih => intro p s st hf h; rw [Sem.wp] at h; exact .step (step_os ..) (ih _ p _ st hf h)
  | call c' hd g l k ih =>
    intro p s st hf h
    rw [Sem.wp] at h
    obtain ⟨r, s1, hr, h⟩ := h
    refine .step (step_call ..) ?_
    have z := runs_reach hr _ (hf.enter c' (fun x => (k x).wrap K H gd lv) hd (gd g) (lv l) p [])
    obtain ⟨n, t', c'', p'', pre', hn, hx⟩ := z.runN
    obtain ⟨rfl, rfl⟩ := hx
    exact .runs hn (.step (step_leaf_ret ..) (ih r p s1 st hf h))
  | handled own k ih =>
    intro p s st hf h
    rw [Sem.wp] at h
    refine .step (step_handled ..) (ih _ p s st hf ?_)
    have e1 := hf.handled
    have e2 := hf.own
    cases own with
    | true =>
      rw [if_pos rfl] at h ⊢
      rw [← e2]
      exact h
    | false =>
      rw [if_neg (by decide)] at h ⊢
      rw [← e1]
      exact h
  | newGen c' k ih => intro p s st hf h; rw [Sem.wp] at h; exact .step (step_newGen ..) (ih _ p _ st hf h)
  | genState g k ih =>
    intro p s st hf h
    rw [Sem.wp] at h
    obtain ⟨x, hx, h⟩ := h
    exact .step (step_genState _ _ _ _ _ _ hx) (ih _ p s st hf h)
  | resume g r l k ih =>
    intro p s st hf h
    rw [Sem.wp] at h
    obtain ⟨res, s1, hw, h⟩ := h
    unfold Wakes at hw
    cases e : s.gens[g]? with
    | none => rw [e] at hw; exact hw.elim
    | some x =>
      rw [e] at hw
      cases x with
      | fresh c' =>
        cases r with
        | throw x =>
          obtain ⟨rfl, rfl⟩ : res = .raised x ∧ s1 = s.setGen g .finished := hw
          exact .step (step_resume_throwFresh _ _ _ _ _ _ _ _ e) (ih _ p _ st hf h)
        | send v =>
          by_cases hv : v = .none
          · subst hv
            obtain ⟨e1, s2, hr, hq, rfl, rfl⟩ : ∃ e₁ s₁, Runs M (Γ.wake c' p) p (M.den c') [] (s.setGen g .running) e₁ s₁ ∧ e₁.quiet = true ∧ res = e₁.result ∧ s1 = s₁.setGen g e₁.genState := hw
            refine .step (step_resume_fresh _ _ _ _ _ _ _ e) ?_
            have z := runs_reach hr _ (hf.wake c' g (fun x => (k x).wrap K H gd lv) (lv l) p)
            obtain ⟨n, t', c'', p'', pre', hn, hx⟩ := z.runN
            exact .runs hn (.step (step_exit_gen _ _ _ _ _ _ _ hx hq) (ih _ p _ st hf h))
          · obtain ⟨rfl, rfl⟩ : res = .justStarted ∧ s1 = s := by
              cases v <;> first | exact absurd rfl hv | exact hw
            exact .step (step_resume_justStarted _ _ _ _ _ _ _ e hv) (ih _ p _ st hf h)
      | suspended k0 l0 c0 p0 fs cl =>
        obtain ⟨e1, s2, hr, hq, rfl, rfl⟩ : ∃ e₁ s₁, Runs M (Γ.wake c0 p) p0 (k0 r) fs (s.setGen g .running) e₁ s₁ ∧ e₁.quiet = true ∧ res = e₁.result ∧ s1 = s₁.setGen g e₁.genState := hw
        refine .step (step_resume_suspended _ _ _ _ _ _ _ _ e) ?_
        have z := runs_reach hr _ (hf.wake c0 g (fun x => (k x).wrap K H gd lv) (lv l) p)
        obtain ⟨n, t', c'', p'', pre', hn, hx⟩ := z.runN
        exact .runs hn (.step (step_exit_gen _ _ _ _ _ _ _ hx hq) (ih _ p _ st hf h))
      | running =>
        obtain ⟨rfl, rfl⟩ : res = .running ∧ s1 = s := hw
        exact .step (step_resume_running _ _ _ _ _ _ _ _ e) (ih _ p _ st hf h)
      | finished =>
        obtain ⟨rfl, rfl⟩ : res = .finished ∧ s1 = s := hw
        exact .step (step_resume_finished _ _ _ _ _ _ _ _ e) (ih _ p _ st hf h)
  | yield v g l k ih => intro p s st _ h; rw [Sem.wp] at h; exact h.elim
  | stack k ih =>
    intro p s st hf h
    rw [Sem.wp] at h
    refine .step (step_stack ..) (ih _ p s st hf ?_)
    rw [← hf.below]
    exact h
  | fork c' k ih => intro p s st _ h; rw [Sem.wp] at h; exact h.elim
  | thread k ih => intro p s st hf h; rw [Sem.wp] at h; exact .step (step_thread ..) (ih _ p s st hf h)
  | await a t d l k ih => intro p s st _ h; rw [Sem.wp] at h; exact h.elim
end
end Go

/-! GO2: the machine goes from one state and thread to another; by the kernel over the tree, or by a wp. -/
namespace Go
open PySem PySem.W
/-! ### without the proof's own machine -/
section
variable {den : Code → Sem Fin} {prog : Program} {w : World}
theorem ni_running : ∀ {n : Nat} {s s' : Shared} {t t' : Thread}, runNI den prog w n s t = .running s' t' →
    runNK den prog w n s t = .running s' t' ∧ ∀ k s1 t1, k < n → runNK den prog w k s t = .running s1 t1 → t1.calm = true
  | 0, s, s', t, t', h => ⟨h, fun k _ _ hk _ => absurd hk (Nat.not_lt_zero k)⟩
  | n + 1, s, s', t, t', h => by
    simp only [runNI] at h
    cases hl : t.loud with
    | true => rw [stepI_loud den prog w hl] at h; cases h
    | false =>
      rw [stepI_quiet den prog w hl] at h
      have hcalm : t.calm = true := by
        rw [Thread.calm_eq, hl]
        cases hr : t.refused with
        | false => rfl
        | true =>
          obtain ⟨what, e⟩ := stepK_refused den prog w (s := s) hr
          rw [e] at h
          cases h
      cases hs : stepK den prog w s t with
      | halt o s2 => rw [hs] at h; cases h
      | go s2 t2 =>
        rw [hs] at h
        obtain ⟨a, b⟩ := ni_running h
        refine ⟨by simp only [runNK, hs]; exact a, fun k s1 t1 hk e => ?_⟩
        cases k with
        | zero => cases e; exact hcalm
        | succ k =>
          simp only [runNK, hs] at e
          exact b k s1 t1 (Nat.lt_of_succ_lt_succ hk) e
theorem run_more {n m : Nat} : ∀ {s s1 : Shared} {t t1 : Thread}, runN den prog w n s t = .running s1 t1 → runN den prog w (n + m) s t = runN den prog w m s1 t1 := by
  induction n with
  | zero => intro s s1 t t1 h; cases h; rw [Nat.zero_add]
  | succ n ih =>
    intro s s1 t t1 h
    rw [show n + 1 + m = n + m + 1 by omega]
    simp only [runN] at h ⊢
    cases e : step den prog w s t with
    | go s2 t2 => rw [e] at h; exact ih h
    | halt o s2 => rw [e] at h; cases h
/-- a run of the proofs' machine, by the scheduler -/
theorem sched_run {n : Nat} {s s' : Shared} {t t' : Thread} (h : runNI den prog w n s t = .running s' t') (hz : s.asleep) :
    ∃ s2 t2, schedN den prog w n (.single s t) = .running (.single s2 t2) ∧ s2.forget = s'.forget ∧ t2.forget = t'.forget := by
  obtain ⟨hk, hc⟩ := ni_running h
  have same : ∀ k, (runNK den prog w k s t).forget = (runN den prog w k s t).forget := fun k => runNK_same den prog w k rfl rfl
  have e := same n
  rw [hk] at e
  cases hr : runN den prog w n s t with
  | halted o s2 => rw [hr] at e; cases e
  | running s2 t2 =>
    rw [hr] at e
    simp only [Run.forget, Run.running.injEq] at e
    refine ⟨s2, t2, ?_, e.1.symm, e.2.symm⟩
    rw [schedN_prefix den prog w n s t hz fun k s1 t1 hk1 e1 => ⟨?_, fun e2 => ?_⟩, hr]
    · rfl
    · have f := same k
      rw [e1] at f
      cases hq : runNK den prog w k s t with
      | halted o s3 => rw [hq] at f; cases f
      | running s3 t3 =>
        rw [hq] at f
        simp only [Run.forget, Run.running.injEq] at f
        rw [← Thread.calm_forget, ← f.2, Thread.calm_forget]
        exact hc k s3 t3 hk1 hq
    · have z := run_more (m := n - k) e1
      rw [show k + (n - k) = (n - k - 1 + 1) + k by omega, Nat.add_comm] at z
      rw [show k + (n - k - 1 + 1) = n by omega, hr, show n - k = n - k - 1 + 1 by omega] at z
      simp only [runN, e2] at z
      cases z
end
/-! ### goes -/
structure Goes (p : Program) (w : World) (n0 : Nat) (ann : Option Value) (s : Shared) (t : Thread) (s' : Shared) (t' : Thread) : Prop where
  run : ∃ m, schedN (denote table) p w m (.single s t) = .running (.single s' t')
  life : s'.heap.life = s.heap.life
  os : s'.os = s.os
  old : ∀ b o, b < n0 → b ≠ mainNs → b ≠ cStatics → ann ≠ some (.ref b) → s.heap.get? b = some o → s'.heap.get? b = some o
section
variable {p : Program} {w : World} {n0 : Nat} {ann : Option Value} {s s1 s2 : Shared} {t t1 t2 : Thread}
theorem sched_more {den : Code → Sem Fin} {n m : Nat} : ∀ {c c1 : Config}, schedN den p w n c = .running c1 → schedN den p w (n + m) c = schedN den p w m c1 := by
  induction n with
  | zero => intro c c1 h; cases h; rw [Nat.zero_add]
  | succ n ih =>
    intro c c1 h
    rw [show n + 1 + m = n + m + 1 by omega]
    simp only [schedN] at h ⊢
    cases e : sstep den p w c with
    | go c2 => rw [e] at h; exact ih h
    | halt o s2 => rw [e] at h; cases h
theorem Goes.refl : Goes p w n0 ann s t s t := ⟨⟨0, rfl⟩, rfl, rfl, fun _ _ _ _ _ _ h => h⟩
theorem Goes.trans (a : Goes p w n0 ann s t s1 t1) (b : Goes p w n0 ann s1 t1 s2 t2) : Goes p w n0 ann s t s2 t2 := by
  obtain ⟨m, hm⟩ := a.run
  obtain ⟨k, hk⟩ := b.run
  exact ⟨⟨m + k, (sched_more hm).trans hk⟩, b.life.trans a.life, b.os.trans a.os, fun x o h1 h2 h3 h4 h5 => b.old x o h1 h2 h3 h4 (a.old x o h1 h2 h3 h4 h5)⟩
theorem Goes.asleep (a : Goes p w n0 ann s t s1 t1) (h : s.asleep) : s1.asleep := Shared.asleep_of_life a.life h
/-- one step that the top may do -/
theorem Goes.one (hz : s.asleep) (hk : stepOk n0 ann t = true) (hs : step (denote table) p w s t = .go s1 t1) : Goes p w n0 ann s t s1 t1 := by
  obtain ⟨hc, hk⟩ := Bool.and_eq_true_iff.mp hk
  have hl := step_life (denote table) p w s s1 t t1 hs
  have e : sstep (denote table) p w (.single s t) = .go (.single s1 t1) := by
    rcases sstep_single (denote table) p w s t hc hz with e | e
    · rw [e, hs] <;> rfl
    · rw [hs] at e; cases e
  refine ⟨⟨1, by simp only [schedN, e]⟩, hl, step_os_same hs (by revert hk; cases t.cur <;> simp), fun b o h1 h2 h3 h4 h5 => ?_⟩
  rw [PySem.step_heap (denote table) p w s s1 t t1 hs]
  revert hk
  cases t.cur <;> intro hk <;> try exact h5
  case update a _ f _ =>
    have : b ≠ a := by
      rintro rfl
      simp only [Bool.or_eq_true, Nat.ble_eq, beq_iff_eq] at hk
      rcases hk with ((q | q) | q) | q
      · exact absurd h1 (Nat.not_lt.mpr q)
      · exact h2 q
      · exact h3 q
      · exact h4 q
    exact (Heap.get?_update_ne _ _ _ _ this).trans h5
  case alloc x _ => exact Heap.get?_push_of_some x h5
/-! ### by the kernel, over the tree -/
/-- until the thread is such -/
def goU (st : SharedT → Thread → Option (SharedT × Thread)) (n0 : Nat) (ann : Option Value) (stop : Thread → Bool) : Nat → SharedT → Thread → Option (SharedT × Thread)
  | 0, _, _ => none
  | m + 1, s, t => match stop t with
    | true => some (s, t)
    | false => match stepOk n0 ann t with
      | false => none
      | true => match st s t with
        | some (s', t') => HandSHeadRun.frS s' fun s' => goU st n0 ann stop m s' t'
        | none => none
theorem goU_ok {stop : Thread → Bool} : ∀ {m : Nat} {s s1 : SharedT} {t t1 : Thread}, s.abs.asleep → goU (stepT (denote table) p w) n0 ann stop m s t = some (s1, t1) → Goes p w n0 ann s.abs t s1.abs t1
  | 0, _, _, _, _, _, h => by cases h
  | m + 1, s, s1, t, t1, hz, h => by
    unfold goU at h
    cases ht : stop t with
    | true => rw [ht] at h; cases h; exact .refl
    | false =>
      rw [ht] at h
      cases hk : stepOk n0 ann t with
      | false => rw [hk] at h; cases h
      | true =>
        rw [hk] at h
        cases hs : stepT (denote table) p w s t with
        | none => rw [hs] at h; cases h
        | some r =>
          obtain ⟨s2, t2⟩ := r
          rw [hs] at h
          have h3 : (HandSHeadRun.frS s2 fun s' => goU (stepT (denote table) p w) n0 ann stop m s' t2) = some (s1, t1) := h
          rw [HandSHeadRun.frS_eq] at h3
          have o := Goes.one hz hk (stepT_spec hs)
          exact o.trans (goU_ok (o.asleep hz) h3)
/-! ### by a wp -/
theorem forget_same {s s' : Shared} (h : s.forget = s'.forget) (hg : s'.gens = #[]) : s = s' := by
  obtain ⟨hp, gs, dr, tk, os⟩ := s
  obtain ⟨hp', gs', dr', tk', os'⟩ := s'
  cases hg
  simp only [Shared.forget, Shared.mk.injEq] at h
  obtain ⟨rfl, h2, rfl, rfl, rfl⟩ := h
  have : gs = #[] := by
    have e : (gs.map GenState.forget).size = 0 := by rw [h2]; simp
    exact Array.eq_empty_of_size_eq_zero (by simpa using e)
  rw [this]
/-- a part of the code that tells a0 and comes to s1, whatever stands behind it -/
theorem Goes.wp {α : Type} {A : Around} {x : Sem α} {K : α → Sem Fin} {H : Value → Sem Fin} {gd : Bool → Bool} {lv : List Value → List Value} {a0 : α} {c : Code} {pos : Pos} {st : List Frame} (hz : s.asleep)
    (hA : (Ctx.of c st).In A) (h : wpAny (model p w) A x (fun a s' => a = a0 ∧ s' = s1) (fun _ _ => False) s) (hg : s1.gens = #[]) (hl : s1.heap.life = s.heap.life) (ho : s1.os = s.os)
    (hold : ∀ b o, b < n0 → b ≠ mainNs → b ≠ cStatics → ann ≠ some (.ref b) → s.heap.get? b = some o → s1.heap.get? b = some o) :
    ∃ pos' st', st'.map (Frame.forget) = st.map Frame.forget ∧ Goes p w n0 ann s ⟨x.wrap K H gd lv, c, pos, st⟩ s1 ⟨K a0, c, pos', st'⟩ := by
  obtain ⟨n, a, p', s', hn, rfl, rfl⟩ := pre_wp (K := K) (H := H) (gd := gd) (lv := lv) x pos s st (Ctx.fits_of c st) (h (Ctx.of c st) pos hA)
  obtain ⟨s2, t2, hs, e1, e2⟩ := sched_run (den := denote table) (prog := p) (w := w) hn hz
  have e3 := forget_same e1 hg
  subst e3
  obtain ⟨cur, code, pos', st'⟩ := t2
  simp only [Thread.forget, Thread.mk.injEq] at e2
  obtain ⟨rfl, rfl, rfl, e4⟩ := e2
  exact ⟨pos', st', e4, ⟨⟨n, hs⟩, hl, ho, hold⟩⟩
end
end Go

/-! NW1: a dict of the top whose keys are pairs of a text and a number: what its display leaves, exactly, whatever the hashes. -/
namespace Go
open PySem PySem.W L2
/-- an entry as it is written, with its places -/
structure En where
  t : Str
  i : Int
  v : Str
  pt : Pos
  pi : Pos
  pk : Pos
  pv : Pos
def En.key (e : En) : Expr := .Tuple [.Constant (.str e.t) 0 e.pt, .Constant (.int e.i) 0 e.pi] 0 e.pk
def En.val (e : En) : Expr := .Constant (.str e.v) 0 e.pv
def En.k (e : En) : List L2.Key := [.inr e.t, .inl e.i]
def tupO (e : En) (tk : Nat) : Obj := { cls := .type "tuple", data := .seq [Value.str e.t tk, Value.int e.i (tk + 1)].toArray }
def En.pr (env : Env) (pd : Pos) (e : En) : Sem Value × Sem Value := (eval e.key env, do let x ← eval e.val env; standAt pd; pure x)
/-- the state behind the pairs, and the values that they come to -/
def evS : List En → Shared → Shared
  | [], s => s
  | e :: r, s => evS r { s with heap := s.heap.push (tupO e s.toks), toks := s.toks + 3 }
def evV : List En → Nat → Nat → List (Value × Value)
  | [], _, _ => []
  | e :: r, n, tk => (.ref n, .str e.v (tk + 2)) :: evV r (n + 1) (tk + 3)
section
variable {p : Program} {w : World} {A : Around} {E : Value → Shared → Prop} {s : Shared} {env : Env}
theorem wp_spl {x : Sem Value} {rest : List (Bool × Sem Value)} {Q : List Value → Shared → Prop} (h : wpAny (model p w) A x (fun v s' => wpAny (model p w) A (spliced rest) (fun l s2 => Q (v :: l) s2) E s') E s) : wpAny (model p w) A (spliced ((false, x) :: rest)) Q E s := by
  unfold spliced
  refine wpAny_bind (wpAny_mono h (fun v s' h' => ?_) fun _ _ e => e)
  simp only [Bool.false_eq_true, if_false, pure_bind]
  refine wpAny_bind (wpAny_holding (wpAny_mono h' (fun l s2 q => ?_) fun _ _ e => e))
  exact wpAny_pure q
theorem wp_spl0 {Q : List Value → Shared → Prop} (h : Q [] s) : wpAny (model p w) A (spliced []) Q E s := wpAny_pure h
theorem wp_key {e : En} {Q : Value → Shared → Prop} (h : Q (.ref s.heap.objs.size) { s with heap := s.heap.push (tupO e s.toks), toks := s.toks + 2 }) : wpAny (model p w) A (eval e.key env) Q E s := by
  unfold En.key
  rw [arm_eval_Tuple]
  refine wpAny_bind (wpAny_standAt ?_)
  refine wpAny_bind (wp_spl (wpAny_mkText (wp_spl (wpAny_mkInt (wp_spl0 ?_)))))
  exact wpAny_newTuple h (by show 2 ≤ sizeLine; decide)
theorem wp_val {e : En} {pd : Pos} {Q : Value → Shared → Prop} (h : Q (.str e.v s.toks) { s with toks := s.toks + 1 }) : wpAny (model p w) A (do let x ← eval e.val env; standAt pd; pure x) Q E s := by
  unfold En.val
  rw [arm_eval_Constant]
  exact wpAny_bind (wpAny_mkText (wpAny_bind (wpAny_standAt (wpAny_pure h))))
theorem wp_pairs {pd : Pos} : ∀ (l : List En) (s : Shared) (Q : List (Value × Value) → Shared → Prop), Q (evV l s.heap.objs.size s.toks) (evS l s) → wpAny (model p w) A (evalPairs (l.map (En.pr env pd))) Q E s
  | [], s, Q, h => wpAny_pure h
  | e :: r, s, Q, h => by
    show wpAny (model p w) A (evalPairs ((eval e.key env, do let x ← eval e.val env; standAt pd; pure x) :: r.map (En.pr env pd))) Q E s
    unfold evalPairs
    refine wpAny_bind (wp_key (wpAny_bind (wpAny_holding (wp_val (wpAny_bind (wpAny_holding (wp_pairs r _ _ (wpAny_pure ?_))))))))
    have e1 : (s.heap.push (tupO e s.toks)).objs.size = s.heap.objs.size + 1 := by simp [Heap.push]
    simp only [evV, evS] at h
    rw [e1]
    exact h
theorem wp_set {K : Type} [DecidableEq K] {knd : HeapKind p w K} {d a : Addr} {xs : List (K × Addr × Value)} {k : K} {v : Value} {Q : Unit → Shared → Prop} (hu : knd.room A) (hkey : knd.is s.heap k a) (hm : s.heap.DictOfH knd d xs) (hk : k ∉ xs.map (·.1)) (hz : xs.length ≤ sizeLine)
    (hQ : ∀ h', h' = s.heap.update d (Obj.mapDictKeys (·.push ⟨knd.hash k, .ref a, v⟩)) → h'.DictOfH knd d (xs ++ [(k, a, v)]) → Heap.SameBut d s.heap h' → Q () { s with heap := h', toks := s.toks + knd.draws k }) :
    wpAny (model p w) A (dictSet d (.ref a) v) Q E s := by
  obtain ⟨o, es, ep, ho, hc, hd, he, his, hn⟩ := hm
  have sb : Heap.SameBut d s.heap (s.heap.update d (Obj.mapDictKeys (·.push ⟨knd.hash k, .ref a, v⟩))) := Heap.SameBut.update ..
  have D : (s.heap.update d (Obj.mapDictKeys (·.push ⟨knd.hash k, .ref a, v⟩))).DictOfH knd d (xs ++ [(k, a, v)]) := by
    refine ⟨_, _, ep + 1, Heap.get?_update_self _ ho (Obj.isFreed_of_dict (Obj.data_mapDictKeys hd _)), hc.mapDictKeys _, Obj.data_mapDictKeys hd _, ?_, fun x hx => ?_, ?_⟩
    · simp [he, entryOfKey]
    · rcases List.mem_append.mp hx with hx | hx
      · exact knd.keeps (his x hx) ho hd sb
      · obtain rfl := List.mem_singleton.mp hx
        exact knd.keeps hkey ho hd sb
    · rw [List.map_append, List.nodup_append]
      exact ⟨hn, by simp, fun x hx y hy e => hk (by obtain rfl := List.mem_singleton.mp hy; exact e ▸ hx)⟩
  unfold dictSet
  refine wpAny_holding (wpAny_bind (knd.pyHash hu hkey ?_))
  unfold dictSetHashed
  refine wpAny_holding (wpAny_bind (wpAny_dictFind_heap (s := { s with toks := s.toks + knd.draws k }) hu hkey ho hd he his hn (fun _ => ?_) fun j q hj => ?_))
  · exact wpAny_bind (wpAny_rule (wpAny_updateDictKeys (hz := by have e := size_of_entries he; omega) (s := { s with toks := s.toks + knd.draws k }) ho hd (hQ _ rfl D sb)))
  · exact absurd (List.mem_map.mpr ⟨_, List.mem_of_getElem? hj, rfl⟩) hk
abbrev kd (p : Program) (w : World) : HeapKind p w (List L2.Key) := tupleKind (mixKind p w)
/-- the stores, one behind another -/
def stH (p : Program) (w : World) (d : Addr) : List En → Nat → Nat → Heap → Heap
  | [], _, _, h => h
  | e :: r, a, tk, h => stH p w d r (a + 1) (tk + 3) (h.update d (Obj.mapDictKeys (·.push ⟨(kd p w).hash e.k, .ref a, .str e.v (tk + 2)⟩)))
theorem wp_store {d : Addr} (hu : (kd p w).room A) : ∀ (l : List En) (a tk : Nat) (acc : List (List L2.Key × Addr × Value)) (s : Shared) (Q : PUnit → Shared → Prop), (acc.map (·.1) ++ l.map En.k).Nodup → (∀ j e, l[j]? = some e → (kd p w).is s.heap e.k (a + j)) →
    s.heap.DictOfH (kd p w) d acc → acc.length + l.length ≤ sizeLine → Q PUnit.unit { s with heap := stH p w d l a tk s.heap, toks := s.toks + 3 * l.length } →
    wpAny (model p w) A (forIn (evV l a tk) PUnit.unit fun (x : Value × Value) (_ : PUnit) => (do dictSet d x.1 x.2; pure (ForInStep.yield PUnit.unit) : Sem (ForInStep PUnit))) Q E s
  | [], a, tk, acc, s, Q, _, _, _, _, h => by
    show wpAny (model p w) A (forIn ([] : List (Value × Value)) PUnit.unit _) Q E s
    rw [List.forIn_nil]
    exact wpAny_pure h
  | e :: r, a, tk, acc, s, Q, hn, hk, hm, hz, h => by
    show wpAny (model p w) A (forIn ((Value.ref a, Value.str e.v (tk + 2)) :: evV r (a + 1) (tk + 3)) PUnit.unit _) Q E s
    rw [List.forIn_cons]
    rw [List.length_cons] at hz
    have hne : e.k ∉ acc.map (·.1) := fun q => by
      have z := (List.nodup_append.mp hn).2.2 _ q _ (List.mem_cons_self)
      exact z rfl
    refine wpAny_bind (wpAny_bind (wp_set hu (hk 0 e rfl) hm hne (by omega) fun h' e1 hm1 sb => wpAny_pure ?_))
    have hd : ∃ o es ep, s.heap.get? d = some o ∧ o.data = .dict es ep := by
      obtain ⟨o, es, ep, x1, _, x2, _⟩ := hm
      exact ⟨o, es, ep, x1, x2⟩
    obtain ⟨o, es, ep, x1, x2⟩ := hd
    refine wp_store hu r (a + 1) (tk + 3) (acc ++ [(e.k, a, .str e.v (tk + 2))]) _ Q ?_ (fun j f hj => ?_) hm1 (by simp; omega) ?_
    · rw [List.map_append, List.append_assoc]
      exact hn
    · have z := hk (j + 1) f (by simpa using hj)
      rw [show a + 1 + j = a + (j + 1) by omega]
      exact (kd p w).keeps z x1 x2 sb
    · have e2 : s.toks + (kd p w).draws e.k + 3 * r.length = s.toks + 3 * (e :: r).length := by
        show s.toks + 3 + 3 * r.length = s.toks + 3 * (r.length + 1)
        omega
      show Q PUnit.unit { s with heap := stH p w d r (a + 1) (tk + 3) h', toks := s.toks + (kd p w).draws e.k + 3 * r.length }
      rw [e2, e1]
      exact h
/-! ### all of it -/
def dic0 : Obj := { cls := .type "dict", data := .dict #[] }
/-- the state behind the display -/
def ndS (p : Program) (w : World) (l : List En) (s : Shared) : Shared :=
  let s1 := evS l { s with heap := s.heap.push dic0 }
  { s1 with heap := stH p w s.heap.objs.size l (s.heap.objs.size + 1) s.toks s1.heap, toks := s1.toks + 3 * l.length }
theorem evS_keeps : ∀ (l : List En) (s : Shared) (b : Addr) (o : Obj), s.heap.get? b = some o → (evS l s).heap.get? b = some o
  | [], _, _, _, h => h
  | e :: r, s, b, o, h => evS_keeps r _ b o (Heap.get?_push_of_some _ h)
theorem push_size (h : Heap) (o : Obj) : (h.push o).objs.size = h.objs.size + 1 := by simp [Heap.push]
theorem get_push (h : Heap) (o : Obj) (hf : (match o.data with | .freed => true | _ => false) = false) : (h.push o).get? h.objs.size = some o := by
  unfold Heap.get? Heap.push
  obtain ⟨c, d, dt, sl⟩ := o
  simp only [Array.getElem?_push_size]
  cases dt <;> first | rfl | cases hf
theorem evS_is : ∀ (l : List En) (s : Shared) (j : Nat) (e : En), l[j]? = some e → (kd p w).is (evS l s).heap e.k (s.heap.objs.size + j)
  | [], _, _, _, h => by simp at h
  | e :: r, s, 0, f, h => by
    obtain rfl : e = f := by simpa using h
    refine ⟨_, _, 0, evS_keeps r _ _ _ (get_push s.heap (tupO e s.toks) rfl), rfl, rfl, ?_⟩
    refine .cons ?_ (.cons ?_ .nil)
    · show Value.isStrOf e.t (.str e.t s.toks) = true
      simp [Value.isStrOf]
    · show Value.isInt e.i (.int e.i (s.toks + 1)) = true
      simp [Value.isInt]
  | e :: r, s, j + 1, f, h => by
    have z := evS_is r { s with heap := s.heap.push (tupO e s.toks), toks := s.toks + 3 } j f (by simpa using h)
    rw [push_size] at z
    rw [show s.heap.objs.size + (j + 1) = s.heap.objs.size + 1 + j by omega]
    exact z
theorem wp_dict {l : List En} {pd : Pos} (hl : l.length ≤ 15) (hu : (kd p w).room A) (hn : (l.map En.k).Nodup) {Q : Addr → Shared → Prop} (h : Q s.heap.objs.size (ndS p w l s)) : wpAny (model p w) A (subDict (l.map (En.pr env pd))) Q E s := by
  unfold subDict
  refine wpAny_bind (wpAny_alloc ?_)
  refine wpAny_bind (wpAny_holding ?_)
  rw [if_pos (by rw [List.length_map]; exact hl)]
  refine wpAny_bind (wp_pairs l _ _ (wpAny_holding ?_))
  refine wpAny_bind (wp_store hu l _ _ [] _ _ (by simpa using hn) (fun j e hj => ?_) ?_ (by rw [sizeLine_eq]; simp; omega) (wpAny_pure (wpAny_pure ?_)))
  · exact evS_is l _ j e hj
  · exact ⟨dic0, #[], 0, evS_keeps l _ _ _ (get_push s.heap dic0 rfl), ⟨rfl, rfl, rfl⟩, rfl, rfl, (fun x hx => by cases hx), List.nodup_nil⟩
  · show Q s.heap.objs.size _
    have e1 : (s.heap.push dic0).objs.size = s.heap.objs.size + 1 := push_size ..
    unfold ndS at h
    simp only [dic0] at h e1 ⊢
    rw [e1]
    exact h
end
end Go

/-! NW2: the statement that gives such a dict a name, in the top's run. -/
namespace Go
open PySem PySem.W L2
/-- x = {(..): .., ..} -/
def stN (x : Str) (pn pd pa : Pos) (l : List En) : Stmt := .Assign [.Name x pn] (.Dict (l.map fun e => some e.key) (l.map En.val) pd) pa
section
variable {p : Program} {w : World} {n0 : Nat} {ann : Option Value} {s : Shared} {env : Env} {x : Str} {pn pd pa : Pos} {l : List En}
theorem zip_pairs : ∀ l : List En, (evalEachOpt (l.map fun e => some e.key) env).zip ((evalEach (l.map En.val) env).map fun v => do let x ← v; standAt pd; pure x) = (l.map (En.pr env pd)).map fun q => (some q.1, q.2)
  | [] => rfl
  | e :: r => by
    have ih := zip_pairs r
    simp only [List.map_cons, evalEachOpt, evalEach, List.zip_cons_cons, En.pr]
    simp only [List.map_map] at ih ⊢
    rw [ih]
    rfl
theorem exec_stN (h0 : l ≠ []) (hl : l.length ≤ 15) (hs : ∀ ks vs, swapsWithSole [.Name x pn] (.Dict ks vs pd) pa.line env = pure false := by intros; rfl) (hq : ∀ ks vs, swappedStores [.Name x pn] (.Dict ks vs pd) env = pure none := by intros; rfl) :
    exec (stN x pn pd pa l) env = (do standAt pa; standAt pd; subDict (l.map (En.pr env pd))) >>= fun d => assignStores env (.ref d) none [assign (.Name x pn) env] := by
  unfold stN
  rw [arm_exec_Assign, hs, arm_eval_Dict, zip_pairs, dictDisplay_pairs _ (by simpa using h0) (by rw [List.length_map]; omega)]
  simp only [pure_bind, Bool.false_eq_true, if_false, bind_assoc, hq]
  rfl
theorem keep_get {h : Heap} {d b : Addr} {f : Obj → Obj} {o : Obj} (hb : h.get? b = some o) (hd : b ≠ d) : (h.update d f).get? b = some o := (Heap.get?_update_ne _ _ _ _ hd).trans hb
theorem stH_keeps {d : Addr} : ∀ (l : List En) (a tk : Nat) (h : Heap) (b : Addr) (o : Obj), h.get? b = some o → b ≠ d → (stH p w d l a tk h).get? b = some o
  | [], _, _, _, _, _, h, _ => h
  | e :: r, a, tk, h, b, o, hb, hd => stH_keeps r _ _ _ b o (keep_get hb hd) hd
theorem stH_life {d : Addr} : ∀ (l : List En) (a tk : Nat) (h : Heap), (stH p w d l a tk h).life = h.life
  | [], _, _, _ => rfl
  | e :: r, a, tk, h => stH_life r _ _ _
theorem evS_same : ∀ (l : List En) (s : Shared), (evS l s).heap.life = s.heap.life ∧ (evS l s).os = s.os ∧ (evS l s).gens = s.gens
  | [], _ => ⟨rfl, rfl, rfl⟩
  | e :: r, s => evS_same r _
theorem ndS_keeps {b : Addr} {o : Obj} (h : s.heap.get? b = some o) : (ndS p w l s).heap.get? b = some o := by
  refine stH_keeps l _ _ _ b o (evS_keeps l _ b o (Heap.get?_push_of_some _ h)) fun e => ?_
  have lt := Heap.lt_size h
  rw [e] at lt
  exact absurd lt (Nat.lt_irrefl _)
end
def nextK (K : Sem PySem.Fin) : Flow → Sem PySem.Fin
  | .next => K
  | f => doneF f
theorem execs_next {env : Env} (st : Stmt) (rest : List Stmt) (H : Value → Sem PySem.Fin) (gd : Bool → Bool) (lv : List Value → List Value) : (execs (st :: rest) env).wrap doneF H gd lv = (exec st env).wrap (nextK ((execs rest env).wrap doneF H gd lv)) H gd lv := by
  rw [execs_cons_wrap]
  exact Sem.wrap_congr _ _ _ (fun f => by cases f <;> rfl) fun _ => rfl
section
variable {p : Program} {w : World} {n0 : Nat} {ann : Option Value} {s : Shared} {env : Env} {x : Str} {pn pd pa : Pos} {l : List En}
/-- the statement, in front of the rest -/
theorem goes_stN {rest : List Stmt} {c : Code} {pos : Pos} {st : List Frame} (hz : s.asleep) (hg : s.gens = #[]) (h0 : l ≠ []) (hl : l.length ≤ 15) (hn : (l.map En.k).Nodup) (hu : (Ctx.of c st).units < cLine)
    (hs : ∀ ks vs, swapsWithSole [.Name x pn] (.Dict ks vs pd) pa.line env = pure false := by intros; rfl) (hq : ∀ ks vs, swappedStores [.Name x pn] (.Dict ks vs pd) env = pure none := by intros; rfl) :
    ∃ pos' st', st'.map Frame.forget = st.map Frame.forget ∧ Goes p w n0 ann s ⟨(execs (stN x pn pd pa l :: rest) env).wrap doneF (leaveH env) id id, c, pos, st⟩ (ndS p w l s)
      ⟨(assignStores env (.ref s.heap.objs.size) none [assign (.Name x pn) env]).wrap (nextK ((execs rest env).wrap doneF (leaveH env) id id)) (leaveH env) id id, c, pos', st'⟩ := by
  rw [execs_next, exec_stN h0 hl hs hq, Sem.bind_eq_wrap', Sem.wrap_wrap]
  have e := evS_same l { s with heap := s.heap.push dic0 }
  refine Goes.wp (A := { handled := (Ctx.of c st).handled, depth := frameCount (Ctx.of c st).below + c.weight, units := (Ctx.of c st).units }) (a0 := s.heap.objs.size) (s1 := ndS p w l s) hz ?_ ?_ ?_ ?_ ?_ fun b o _ _ _ _ h => ndS_keeps h
  · exact ⟨rfl, Nat.le_refl _, (fun _ h => by cases h), (fun _ h => by cases h), Nat.le_refl _⟩
  · exact wpAny_bind (wpAny_standAt (wpAny_bind (wpAny_standAt (wp_dict hl (by exact hu) hn ⟨rfl, rfl⟩))))
  · exact e.2.2.trans hg
  · show (stH p w s.heap.objs.size l (s.heap.objs.size + 1) s.toks (evS l { s with heap := s.heap.push dic0 }).heap).life = s.heap.life
    rw [stH_life]
    exact e.1
  · exact e.2.1
end
end Go

/-! NW3: the top's run by the kernel in two parts, such a dict between them. -/
namespace Go
open PySem PySem.W PySem.Calls HandSHeadRun
noncomputable section
/-! ### the tree behind the display -/
def insT (s : SharedT) (o : Obj) : Option SharedT := match ((s.tree.ins s.n o).get s.n).isSome with
  | true => some ⟨s.tree.ins s.n o, s.n + 1, s.life, s.gens, s.drawn, s.toks, s.os⟩
  | false => none
def updT (s : SharedT) (a : Addr) (f : Obj → Obj) : Option SharedT := match s.tree.get a with
  | some _ => some ⟨s.tree.set a f, s.n, s.life, s.gens, s.drawn, s.toks, s.os⟩
  | none => none
def tkT (s : SharedT) (k : Nat) : SharedT := ⟨s.tree, s.n, s.life, s.gens, s.drawn, s.toks + k, s.os⟩
def evT : List En → SharedT → Option SharedT
  | [], s => some s
  | e :: r, s => match insT s (tupO e s.toks) with
    | some s' => frS (tkT s' 3) fun s' => evT r s'
    | none => none
def stT (p : Program) (w : World) (d : Addr) : List En → Nat → Nat → SharedT → Option SharedT
  | [], _, _, s => some s
  | e :: r, a, tk, s => match updT s d (Obj.mapDictKeys (·.push ⟨(kd p w).hash e.k, .ref a, .str e.v (tk + 2)⟩)) with
    | some s' => frNat (a + 1) fun a => frNat (tk + 3) fun tk => stT p w d r a tk s'
    | none => none
def ndT (p : Program) (w : World) (l : List En) (s : SharedT) : Option SharedT := match insT s dic0 with
  | some s1 => (match evT l s1 with
    | some s2 => (match stT p w s.n l (s.n + 1) s.toks s2 with
      | some s3 => some (tkT s3 (3 * l.length))
      | none => none)
    | none => none)
  | none => none
section
variable {p : Program} {w : World}
theorem insT_ok {s s' : SharedT} {o : Obj} (h : insT s o = some s') : s'.abs = { s.abs with heap := s.abs.heap.push o } ∧ s'.n = s.n + 1 ∧ s'.toks = s.toks := by
  unfold insT at h
  cases e : ((s.tree.ins s.n o).get s.n).isSome with
  | false => rw [e] at h; cases h
  | true =>
    rw [e] at h
    cases h
    refine ⟨?_, rfl, rfl⟩
    show (⟨absHeap (s.tree.ins s.n o) (s.n + 1) s.life, s.gens, s.drawn, s.toks, s.os⟩ : Shared) = _
    rw [absHeap_ins e]
    rfl
theorem updT_ok {s s' : SharedT} {a : Addr} {f : Obj → Obj} (h : updT s a f = some s') : s'.abs = { s.abs with heap := s.abs.heap.update a f } ∧ s'.n = s.n ∧ s'.toks = s.toks := by
  unfold updT at h
  cases e : s.tree.get a with
  | none => rw [e] at h; cases h
  | some o =>
    rw [e] at h
    cases h
    refine ⟨?_, rfl, rfl⟩
    show (⟨absHeap (s.tree.set a f) s.n s.life, s.gens, s.drawn, s.toks, s.os⟩ : Shared) = _
    rw [absHeap_set e]
    rfl
theorem abs_size (s : SharedT) : s.abs.heap.objs.size = s.n := absHeap_size _ _ _
theorem evT_ok : ∀ {l : List En} {s s' : SharedT}, evT l s = some s' → s'.abs = evS l s.abs
  | [], s, s', h => by cases h; rfl
  | e :: r, s, s', h => by
    unfold evT at h
    cases e1 : insT s (tupO e s.toks) with
    | none => rw [e1] at h; cases h
    | some s1 =>
      rw [e1] at h
      have h : (frS (tkT s1 3) fun s' => evT r s') = some s' := h
      rw [frS_eq] at h
      obtain ⟨a, b, c⟩ := insT_ok e1
      have z := evT_ok h
      rw [z]
      have e2 : (tkT s1 3).abs = { s.abs with heap := s.abs.heap.push (tupO e s.abs.toks), toks := s.abs.toks + 3 } := by
        show ({ s1.abs with toks := s1.toks + 3 } : Shared) = _
        rw [a, c]
        rfl
      rw [e2]
      rfl
theorem stT_ok {d : Addr} : ∀ {l : List En} {a tk : Nat} {s s' : SharedT}, stT p w d l a tk s = some s' → s'.abs = { s.abs with heap := stH p w d l a tk s.abs.heap } ∧ s'.toks = s.toks
  | [], _, _, s, s', h => by cases h; exact ⟨rfl, rfl⟩
  | e :: r, a, tk, s, s', h => by
    unfold stT at h
    cases e1 : updT s d (Obj.mapDictKeys (·.push ⟨(kd p w).hash e.k, .ref a, .str e.v (tk + 2)⟩)) with
    | none => rw [e1] at h; cases h
    | some s1 =>
      rw [e1] at h
      have h : (frNat (a + 1) fun a => frNat (tk + 3) fun tk => stT p w d r a tk s1) = some s' := h
      rw [frNat_eq, frNat_eq] at h
      obtain ⟨x, y, z⟩ := updT_ok e1
      obtain ⟨u, v⟩ := stT_ok h
      rw [x] at u
      exact ⟨u, v.trans z⟩
theorem ndT_ok {l : List En} {s s' : SharedT} (h : ndT p w l s = some s') : s'.abs = ndS p w l s.abs := by
  unfold ndT at h
  cases e1 : insT s dic0 with
  | none => rw [e1] at h; cases h
  | some s1 =>
    rw [e1] at h
    replace h : (match evT l s1 with
      | some s2 => (match stT p w s.n l (s.n + 1) s.toks s2 with
        | some s3 => some (tkT s3 (3 * l.length))
        | none => none)
      | none => none) = some s' := h
    cases e2 : evT l s1 with
    | none => rw [e2] at h; cases h
    | some s2 =>
      rw [e2] at h
      replace h : (match stT p w s.n l (s.n + 1) s.toks s2 with
        | some s3 => some (tkT s3 (3 * l.length))
        | none => none) = some s' := h
      cases e3 : stT p w s.n l (s.n + 1) s.toks s2 with
      | none => rw [e3] at h; cases h
      | some s3 =>
        rw [e3] at h
        cases h
        obtain ⟨a, b, c⟩ := insT_ok e1
        have x := evT_ok e2
        obtain ⟨y, z⟩ := stT_ok e3
        rw [a] at x
        show ({ s3.abs with toks := s3.toks + 3 * l.length } : Shared) = _
        unfold ndS
        rw [abs_size, y, x, z]
        have e4 : s2.toks = s2.abs.toks := rfl
        rw [e4, x]
        rfl
end
/-! ### the code's trees by the library's twins -/
def execT : List Stmt → Env → Sem Flow := PySem.W.Fast.tw12563942051412417395
def blockT : List Stmt → Env → Sem Unit := PySem.W.Fast.tw1066825118222455980
def leavT := PySem.W.Fast.tw9442747609961115081
def storT : Env → Value → Option (List Str) → List (Value → Sem Unit) → Sem Flow := PySem.W.Fast.tw2470068587113613483
def asgT : Expr → Env → Value → Sem Unit := PySem.W.Fast.tw17772580674575903948
theorem execT_eq : @PySem.execs = execT := PySem.W.Fast.te12563942051412417395
theorem blockT_eq : @PySem.blockStart = blockT := PySem.W.Fast.te1066825118222455980
theorem leavT_eq : @PySem.leaving = leavT := PySem.W.Fast.te9442747609961115081
theorem storT_eq : @PySem.assignStores = storT := PySem.W.Fast.te2470068587113613483
theorem asgT_eq : @PySem.assign = asgT := PySem.W.Fast.te17772580674575903948
def thBody (b : List Stmt) (env : Env) (c : Code) (pos : Pos) (st : List Frame) : Thread :=
  ⟨(blockT b env).wrap (fun _ => (execT b env).wrap doneF (fun e => ((leavT env e).bind fun _ => (.raise e : Sem Flow)).wrap doneF .raise id id) id id) .raise id id, c, pos, st⟩
def thRest (rest : List Stmt) (env : Env) (c : Code) (pos : Pos) (st : List Frame) : Thread := ⟨(execT rest env).wrap doneF (fun e => ((leavT env e).bind fun _ => (.raise e : Sem Flow)).wrap doneF .raise id id) id id, c, pos, st⟩
def thTail (x : Str) (pn : Pos) (d : Addr) (rest : List Stmt) (env : Env) (c : Code) (pos : Pos) (st : List Frame) : Thread :=
  ⟨(storT env (.ref d) none [asgT (.Name x pn) env]).wrap (nextK ((execT rest env).wrap doneF (fun e => ((leavT env e).bind fun _ => (.raise e : Sem Flow)).wrap doneF .raise id id) id id))
    (fun e => ((leavT env e).bind fun _ => (.raise e : Sem Flow)).wrap doneF .raise id id) id id, c, pos, st⟩
theorem thBody_eq (tb : String → Option Builtin) (b : List Stmt) (env : Env) (c : Code) (pos : Pos) (st : List Frame) : (⟨denote tb (.body b env), c, pos, st⟩ : Thread) = thBody b env c pos st := by
  unfold thBody
  rw [body_wrap, ← execT_eq, ← blockT_eq, ← leavT_eq]
theorem thRest_eq (rest : List Stmt) (env : Env) (c : Code) (pos : Pos) (st : List Frame) : (⟨(execs rest env).wrap doneF (leaveH env) id id, c, pos, st⟩ : Thread) = thRest rest env c pos st := by
  unfold thRest
  rw [← execT_eq, ← leavT_eq]
theorem thTail_eq (x : Str) (pn : Pos) (d : Addr) (rest : List Stmt) (env : Env) (c : Code) (pos : Pos) (st : List Frame) :
    (⟨(assignStores env (.ref d) none [assign (.Name x pn) env]).wrap (nextK ((execs rest env).wrap doneF (leaveH env) id id)) (leaveH env) id id, c, pos, st⟩ : Thread) = thTail x pn d rest env c pos st := by
  unfold thTail
  rw [← execT_eq, ← leavT_eq, ← storT_eq, ← asgT_eq]
end
end Go

/-! NW4: what stands behind such a top, and a law over it. -/
namespace Go
open PySem PySem.W PySem.Calls HandSHeadRun PyProof.Rows
noncomputable section
/-- what the law's call finds -/
def Beh (p q : Program) (loose : List Str) (XP : (Str → Option Value) → Heap → Prop) (YP : World → Heap → Prop) (w : World) : Prop :=
  (∃ s, AfterRun (opening p) w s) ∧ ∀ s, AfterRun (opening p) w s → ∃ sA, fenceModules? p s = some sA ∧ sA.gens = #[] ∧ ∃ sB, TopRan p w sA sB ∧ sB.asleep ∧ sB.gens = #[] ∧ sB.heap.isNs mainGlobals = true ∧
    Ground q loose [] XP w sB (sB.heap.nsMap mainGlobals) (sB.heap.nsMap builtinsNs) sB.heap ∧ YP w sB.heap
/-! ### a law over what stands there -/
theorem holds_beh {r : OpenRow} {q : Program} {loose : List Str} {XP : (Str → Option Value) → Heap → Prop} {YP : World → Heap → Prop} {d : DefRec} {kwd : List (Str × Expr)}
    (beh : ∀ w, Beh r.prog q loose (fun mg h => XP mg h ∧ RecFacts r.toRowW.records h) YP w) (hYk : ∀ w h h', YP w h → (∀ b o, h.get? b = some o → h'.get? b = some o) → YP w h') (hXk : ∀ mg h h', XP mg h → (∀ b o, h.get? b = some o → h'.get? b = some o) → XP mg h')
    (hdef : defOf q r.name = some (d, kwd)) (hp : r.prog.theDef r.name = some (d.params, d.body, d.scope)) (hk : kwWritten? d.params.kwonlyargs d.params.kw_defaults = some kwd) (hwr : (!r.writes || r.records.isEmpty) = true)
    (said : r.wellSaid = true) (ok : (chainsOk q && opensWell r.prog && (frees r.toRowW && r.within.isEmpty)) = true) (hb : r.prog.bare) (hw : r.toRowW.promised)
    (call : WalkO q loose XP YP r.toRowW d kwd fun f vs => PySem.call f vs) : r.Holds := by
  obtain ⟨okA, okB⟩ := Bool.and_eq_true_iff.mp ok
  obtain ⟨hch, opens⟩ := Bool.and_eq_true_iff.mp okA
  obtain ⟨free, noWithin⟩ := Bool.and_eq_true_iff.mp okB
  obtain ⟨noSame, u1, u2, u3, noMakers⟩ := frees_parts free
  have within0 : r.toRowW.claim.within = [] := List.isEmpty_iff.mp noWithin
  refine ⟨said, hw, ⟨hb, opens, by show r.toRowW.makers.map _ = []; rw [noMakers]; rfl⟩, hw.witness, fun w => ⟨(beh w).1, fun s1 run1 => ?_⟩⟩
  obtain ⟨sA, fence, genA, sB, ran, sleeps, genB, isG, G0, Y⟩ := (beh w).2 s1 run1
  have RF := G0.X.2
  have G1 : Ground q loose [] XP w sB (sB.heap.nsMap mainGlobals) (sB.heap.nsMap builtinsNs) sB.heap := ⟨G0.T, G0.B, G0.D, G0.TE, G0.TD, G0.W, G0.X.1, G0.cls, G0.has, G0.apart, G0.once, G0.K⟩
  have G : Ground q loose r.toRowW.records XP w sB _ _ sB.heap := RF.ground G1
  refine ⟨sA, fence, genA, sB, ran, ?_, RF.1, RF.2.1, ?_⟩
  · intro n hn
    obtain rfl : n = r.name := by split at hn <;> simp_all
    exact pinned_of_view isG G1 hdef hp hk
  refine ClaimW.callFrom_of_specG (c := r.toRowW.claim) sleeps genB fun args pre lay ord perm => ?_
  obtain ⟨⟨vs, sC⟩, laid⟩ := Option.isSome_iff_exists.mp (layAllW_isSome (P := w.params) (ord := ord) G.has args r.toRowW.args sB (pre_splitW pre).1)
  have keeps := layAllW_keeps _ _ _ laid
  have rest := layAllW_rest _ _ _ laid
  obtain ⟨as, reads, inn, olds⟩ := reads_layAllW perm _ _ _ laid lay sC.heap (fun _ _ e => e)
  have L : Laid r.toRowW.records w sB sC args vs as := ⟨⟨ord, perm, laid⟩, reads, inn, olds, keeps, rest.1.trans genB, rest.2.2.1⟩
  have GC := G.keeps hXk keeps
  obtain ⟨a, o, pm, cd, doc, dV, kV, h1, h2, h3, h4, h5⟩ := GC.fn hdef
  have W := call w sB sC _ _ GC (hYk _ _ _ Y keeps) a o pm cd doc dV kV h2 h3 h4 h5 (defOf_name hdef ▸ h1) L.gens args vs as pre lay L.reads L.well (L.low G.low)
  refine ⟨vs, sC, laid, ?_⟩
  have done : ∀ rs s2, GoodWG r.toRowW.claim (classAt sB.heap) (ExcName.means sB.heap) args sC rs s2 → r.toRowW.claim.Ends sB args vs sC rs s2 ∧ s2.os = sB.os ∧ AllBare s2.gens ∧
      (r.writes = true → namesKept r.prog r.keeps sB.heap s2.heap ∧ ∀ x ∈ r.toRowW.records, ∀ a, classAt sB.heap x.1 = some a → recordClass s2.heap a x.1 (x.2.map (·.1)) = true) := fun rs s2 g => by
    have z := g.laid (c := r.toRowW.claim) noSame within0 (ident_freeW u1 u2 u3) L
    exact ⟨z.1, z.2.1, z.2.2, fun on => ⟨namesKept_of ran isG _ keeps g.2.1.old, noTable hwr on⟩⟩
  exact wpAny_bind (wpAny_nsGet GC.T.g (by
    rw [h1]
    exact wpAny_bind (wpAny_mono W (fun v s2 g => wpAny_pure ⟨_, rfl, done _ _ g⟩) fun e s2 g => done _ _ g)))
end
end Go

/-! NW5: the kernel's equations of such a top give what the law's call finds. -/
namespace Go
open PySem PySem.W PySem.Calls HandSHeadRun PyProof.Rows
noncomputable section
/-! ### the boot -/
def bootB (w : World) : PySem.W.BT := match putAll (boot_heap w.params).objs.toList .nil 0 with
  | some (t, _) => t
  | none => .nil
theorem boot_n (w : World) : (putAll (boot_heap w.params).objs.toList .nil 0).map (·.2) = some 11 := by kernel_rfl
theorem bootB_ok (w : World) : putAll (boot_heap w.params).objs.toList .nil 0 = some (bootB w, 11) := by
  have h := boot_n w
  unfold bootB
  cases e : putAll (boot_heap w.params).objs.toList .nil 0 with
  | none => rw [e] at h; cases h
  | some r =>
    obtain ⟨t, n⟩ := r
    rw [e] at h
    have : n = 11 := Option.some.inj h
    subst this
    rfl
def bootS (w : World) (os : OsState) : SharedT := ⟨bootB w, 11, (boot_heap w.params).life, #[], boot_drawn, boot_toks, os⟩
theorem bootS_abs (w : World) (os : OsState) : (bootS w os).abs = ⟨boot_heap w.params, #[], boot_drawn, boot_toks, os⟩ := by
  show (⟨absHeap (bootB w) 11 (boot_heap w.params).life, #[], boot_drawn, boot_toks, os⟩ : Shared) = _
  rw [putAll_heap (bootB_ok w)]
/-! ### the three parts -/
def envN (p : Program) : Env := { scope := p.main.scope, locals := mainNs, globals := mainNs, cells := [], code := .ref 13, frame := some 14 }
def bodN (p : Program) : List Stmt := behindTheImports p
def codN (p : Program) : Code := .body (bodN p) (envN p)
def stopB (t : Thread) : Bool := t.stack.length == 1
def stopA (pa : Pos) (t : Thread) : Bool := match t.cur with
  | .at q _ => Nat.beq q.line pa.line && (Nat.beq q.col pa.col && t.stack.length == 1)
  | _ => false
abbrev stQ (p : Program) (w : World) : SharedT → Thread → Option (SharedT × Thread) := stepQ (denQ tabQ) p w
def gA (p : Program) (w : World) (os : OsState) : Option (SharedT × Thread) := goU (stQ p w) 11 none stopB 400 (bootS w os) (topStub p)
def gB (p : Program) (pa : Pos) (M : Nat) (w : World) (os : OsState) : Option (SharedT × Thread) := match gA p w os with
  | some (s, _) => goU (stQ p w) 11 none (stopA pa) M s (thBody (bodN p) (envN p) (codN p) default [topFrame default])
  | none => none
def gC (p : Program) (x : Str) (pn pa : Pos) (l : List En) (rest : List Stmt) (M : Nat) (w : World) (os : OsState) (pos : Pos) (st : List Frame) : Option SharedT := match gB p pa M w os with
  | some (s, _) => (match ndT p w l s with
    | some s2 => goF (stQ p w) 11 none M s2 (thTail x pn s.n rest (envN p) (codN p) pos st)
    | none => none)
  | none => none
def noPos (t : Thread) : Thread := ⟨t.cur, t.code, default, t.stack⟩
structure NeE (r : OpenRow) (q : Program) (H : Hook) (ob : SharedT → H.α) (loose : List Str) (x : Str) (pn pd pa : Pos) (l : List En) (rest : List Stmt) (M : Nat) (w : World) : Prop where
  a : ∀ os, (gA r.prog w os).map (fun y => y.2) = some ⟨denQ tabQ (codN r.prog), codN r.prog, default, [topFrame default]⟩
  b : ∀ os, (gB r.prog pa M w os).map (fun y => (noPos y.2, y.1.gens.size)) = some (thRest (stN x pn pd pa l :: rest) (envN r.prog) (codN r.prog) default [topFrame default], 0)
  c : ∀ os pos kp, (gC r.prog x pn pa l rest M w os pos [.ret topAfter none false [] (.builtin "claim.caller" {}) default kp]).map (fun s => (looksF r.prog (boot_heap w.params) s.abs, seenQ q loose (importedModules r.prog.main.body) (fun s => xlAt q [] s && recOk r.toRowW.records s) s.abs, ob s)) = some (true, openGood q loose, H.val w)
section
variable {r : OpenRow} {q : Program} {H : Hook} {ob : SharedT → H.α} {loose : List Str} {x : Str} {pn pd pa : Pos} {l : List En} {rest : List Stmt} {M : Nat} {w : World}
theorem stQ_eq (p : Program) (w : World) : stepT (denote table) p w = stQ p w := by
  show stepT (denote table) p w = stepQ (denQ tabQ) p w
  rw [table_eq_tree, stepQ_eq, denQ_eq, tabQ_eq]
theorem top_frame {st : List Frame} (h : st.map Frame.forget = [topFrame default].map Frame.forget) : ∃ kp, st = [.ret topAfter none false [] (.builtin "claim.caller" {}) default kp] := by
  match st, h with
  | [.ret k hd g lv c p kp], h =>
    simp only [List.map_cons, List.map_nil, Frame.forget, topFrame, List.cons.injEq, and_true, Frame.ret.injEq] at h
    obtain ⟨rfl, rfl, rfl, rfl, rfl, rfl⟩ := h
    exact ⟨kp, rfl⟩
  | [.gen _ _ _ _ _], h => simp [Frame.forget, topFrame] at h
  | [], h => simp at h
  | _ :: _ :: _, h => simp at h
/-- behind the top -/
theorem top_goes (ho : ∀ s : SharedT, ob s = H.obs s.abs) (E : NeE r q H ob loose x pn pd pa l rest M w) (os : OsState) (hz : (⟨boot_heap w.params, #[], boot_drawn, boot_toks, os⟩ : Shared).asleep)
    (h0 : l ≠ []) (hl : l.length ≤ 15) (hn : (l.map En.k).Nodup) (hu : (Ctx.of (codN r.prog) [topFrame default]).units < cLine)
    (hs : ∀ ks vs, swapsWithSole [.Name x pn] (.Dict ks vs pd) pa.line (envN r.prog) = pure false) (hq : ∀ ks vs, swappedStores [.Name x pn] (.Dict ks vs pd) (envN r.prog) = pure none) :
    ∃ sB : Shared, (∃ m t, schedN (denote table) r.prog w m (.single ⟨boot_heap w.params, #[], boot_drawn, boot_toks, os⟩ (topStub r.prog)) = .running (.single sB t) ∧ through t = true) ∧ sB.heap.life = (boot_heap w.params).life ∧ sB.os = os ∧
      (∀ b o, b < 11 → b ≠ mainNs → b ≠ cStatics → (boot_heap w.params).get? b = some o → sB.heap.get? b = some o) ∧ looksF r.prog (boot_heap w.params) sB = true ∧
      openSeen q loose (importedModules r.prog.main.body) (fun s => xlAt q [] s && recOk r.toRowW.records s) true sB = openGood q loose ∧ H.obs sB = H.val w := by
  obtain ⟨⟨sa, ta⟩, ea, fa⟩ := Option.map_eq_some_iff.mp (E.a os)
  obtain rfl : ta = ⟨denQ tabQ (codN r.prog), codN r.prog, default, [topFrame default]⟩ := fa
  obtain ⟨⟨sb, tb⟩, eb, fb⟩ := Option.map_eq_some_iff.mp (E.b os)
  obtain ⟨fb, gb⟩ := Prod.mk.inj fb
  have hz0 : (bootS w os).abs.asleep := by rw [bootS_abs]; exact hz
  have g1 : Goes r.prog w 11 none (bootS w os).abs (topStub r.prog) sa.abs ⟨denote table (codN r.prog), codN r.prog, default, [topFrame default]⟩ := by
    have z := goU_ok (m := 400) hz0 (by rw [stQ_eq]; exact ea)
    rw [table_eq_tree, denQ_eq, tabQ_eq]
    exact z
  have z1 := g1.asleep hz0
  have g2 : Goes r.prog w 11 none sa.abs ⟨denote table (codN r.prog), codN r.prog, default, [topFrame default]⟩ sb.abs tb := by
    have e : goU (stQ r.prog w) 11 none (stopA pa) M sa (thBody (bodN r.prog) (envN r.prog) (codN r.prog) default [topFrame default]) = some (sb, tb) := by
      have h := eb
      unfold gB at h
      rw [ea] at h
      exact h
    show Goes r.prog w 11 none sa.abs ⟨denote table (.body (bodN r.prog) (envN r.prog)), codN r.prog, default, [topFrame default]⟩ sb.abs tb
    rw [thBody_eq]
    exact goU_ok (m := M) z1 (by rw [stQ_eq]; exact e)
  have z2 := g2.asleep z1
  obtain ⟨cur, code, pos, st⟩ := tb
  have ft : (⟨cur, code, default, st⟩ : Thread) = thRest (stN x pn pd pa l :: rest) (envN r.prog) (codN r.prog) default [topFrame default] := fb
  unfold thRest at ft
  simp only [Thread.mk.injEq] at ft
  obtain ⟨rfl, rfl, _, rfl⟩ := ft
  have hg : sb.abs.gens = #[] := Array.eq_empty_of_size_eq_zero gb
  obtain ⟨pos2, st2, hf, g3⟩ := goes_stN (p := r.prog) (w := w) (n0 := 11) (ann := none) (s := sb.abs) (env := envN r.prog) (x := x) (pn := pn) (pd := pd) (pa := pa) (l := l) (rest := rest) (c := codN r.prog) (pos := pos) (st := [topFrame default]) z2 hg h0 hl hn hu hs hq
  rw [thRest_eq, thTail_eq, abs_size] at g3
  obtain ⟨kp, rfl⟩ := top_frame hf
  obtain ⟨sc, ec, fc⟩ := Option.map_eq_some_iff.mp (E.c os pos2 kp)
  obtain ⟨l1, l23⟩ := Prod.mk.inj fc
  obtain ⟨l2, l3⟩ := Prod.mk.inj l23
  unfold gC at ec
  rw [eb] at ec
  have ec : (match ndT r.prog w l sb with
    | some s2 => goF (stQ r.prog w) 11 none M s2 (thTail x pn sb.n rest (envN r.prog) (codN r.prog) pos2 [.ret topAfter none false [] (.builtin "claim.caller" {}) default kp])
    | none => none) = some sc := ec
  cases en : ndT r.prog w l sb with
  | none => rw [en] at ec; cases ec
  | some s2 =>
    rw [en] at ec
    have e2 := ndT_ok en
    rw [← e2] at g3
    have z3 := g3.asleep z2
    have tr : topRun table r.prog w 11 none M s2.abs (thTail x pn sb.n rest (envN r.prog) (codN r.prog) pos2 [.ret topAfter none false [] (.builtin "claim.caller" {}) default kp]) = some sc.abs := goF_ok (by rw [stQ_eq]; exact ec)
    obtain ⟨⟨m, t1, hm, ht⟩, tl, tos, told⟩ := topRun_spec _ _ _ _ z3 tr
    have G := (g1.trans g2).trans g3
    obtain ⟨k, hk⟩ := G.run
    have b0 := bootS_abs w os
    rw [b0] at hk
    refine ⟨sc.abs, ⟨k + m, t1, (sched_more hk).trans hm, ht⟩, ?_, ?_, fun b o h1 h2 h3 h4 => ?_, l1, ?_, ?_⟩
    · rw [tl, G.life, b0]
    · rw [tos, G.os, b0]
    · exact told b o h1 h2 h3 (by intro e; cases e) (G.old b o h1 h2 h3 (by intro e; cases e) (by rw [b0]; exact h4))
    · rw [seenQ_eq]
      exact l2
    · rw [← ho]
      exact l3
theorem beh_of (ho : ∀ s : SharedT, ob s = H.obs s.abs) (E : NeE r q H ob loose x pn pd pa l rest M w) (e : opening r.prog = plainProg r.prog.main.scope.names) (f : ∀ s, fenceModules? r.prog s = some s) (hch : chainsOk q = true)
    (h0 : l ≠ []) (hl : l.length ≤ 15) (hn : (l.map En.k).Nodup) (hu : (Ctx.of (codN r.prog) [topFrame default]).units < cLine)
    (hs : ∀ ks vs, swapsWithSole [.Name x pn] (.Dict ks vs pd) pa.line (envN r.prog) = pure false) (hq : ∀ ks vs, swappedStores [.Name x pn] (.Dict ks vs pd) (envN r.prog) = pure none) :
    Beh r.prog q loose (fun mg h => XL q [] mg h ∧ RecFacts r.toRowW.records h) H.says w := by
  obtain ⟨⟨hp, gs, dr, tk, os⟩, a, a'⟩ := Option.map_eq_some_iff.mp (boot_open (N := 600) e rfl f w)
  obtain ⟨rfl, rfl, rfl, rfl⟩ : hp = boot_heap w.params ∧ gs = #[] ∧ dr = boot_drawn ∧ tk = boot_toks := by simpa using a'
  rw [← table_eq_tree] at a
  obtain ⟨s, h4, h5⟩ := Option.bind_eq_some_iff.mp a
  have A := AfterImport.of_importEnds h4
  refine ⟨⟨s, A⟩, fun s' hs' => ?_⟩
  obtain rfl : s' = s := AfterImport.unique hs' A
  have z : (⟨boot_heap w.params, #[], boot_drawn, boot_toks, os⟩ : Shared).asleep := Shared.asleep_of_life (fence_lifeW h5) A.life
  obtain ⟨sB, run, life, hos, old, lk, seen, hob⟩ := top_goes ho E os z h0 hl hn hu hs hq
  obtain ⟨lk, hlk⟩ := Bool.and_eq_true_iff.mp (show (staticsOk (importedModules r.prog.main.body) (boot_heap w.params) sB.heap && namesBound r.prog sB.heap && gensDone sB && laidKept (boot_heap w.params) sB.heap) = true from lk)
  obtain ⟨lk, hgd⟩ := Bool.and_eq_true_iff.mp lk
  obtain ⟨hst, hnb⟩ := Bool.and_eq_true_iff.mp lk
  obtain ⟨G, g0, isG, g2, g3, g4, g5⟩ := ground_of_open (w := w) (XP := fun mg h => XL q [] mg h ∧ RecFacts r.toRowW.records h) (fun s hx => ⟨xl_of s (Bool.and_eq_true_iff.mp hx).1, recFacts_of (Bool.and_eq_true_iff.mp hx).2⟩) hch seen
  have size : (boot_heap w.params).objs.size = 11 := by
    have b0 := bootS_abs w os
    have b1 := abs_size (bootS w os)
    rw [b0] at b1
    exact b1
  exact ⟨⟨boot_heap w.params, #[], boot_drawn, boot_toks, os⟩, h5, rfl, sB, ⟨run, life, Shared.rest_eq hos, fun b o hb no => old b o (by rw [← size]; exact Heap.lt_size hb) (fun e => no (.inl e)) (fun e => no (.inr (.inl e))) hb,
    g2, statics_of_ok hst, g3, g4, g5, gens_of_done hgd, names_of_bound hnb, laid_of_kept hlk⟩, Shared.asleep_of_life life z, Array.eq_empty_of_size_eq_zero (beq_iff_eq.mp g0), isG, G, H.of w sB hob⟩
/-- a law over such a top -/
theorem head_needs {d : DefRec} {kwd : List (Str × Expr)} (ho : ∀ s : SharedT, ob s = H.obs s.abs) (E : ∀ w, NeE r q H ob loose x pn pd pa l rest M w) (e : opening r.prog = plainProg r.prog.main.scope.names) (f : ∀ s, fenceModules? r.prog s = some s)
    (h0 : l ≠ []) (hl : l.length ≤ 15) (hn : (l.map En.k).Nodup) (hu : (Ctx.of (codN r.prog) [topFrame default]).units < cLine)
    (hs : ∀ ks vs, swapsWithSole [.Name x pn] (.Dict ks vs pd) pa.line (envN r.prog) = pure false) (hq : ∀ ks vs, swappedStores [.Name x pn] (.Dict ks vs pd) (envN r.prog) = pure none)
    (hdef : defOf q r.name = some (d, kwd)) (hp : r.prog.theDef r.name = some (d.params, d.body, d.scope)) (hk : kwWritten? d.params.kwonlyargs d.params.kw_defaults = some kwd) (hwr : (!r.writes || r.records.isEmpty) = true)
    (said : r.wellSaid = true) (ok : (chainsOk q && opensWell r.prog && (frees r.toRowW && r.within.isEmpty)) = true) (hb : r.prog.bare) (hw : r.toRowW.promised)
    (call : WalkO q loose (XL q []) H.says r.toRowW d kwd fun f vs => PySem.call f vs) : r.Holds :=
  holds_beh (fun w => beh_of ho (E w) e f (Bool.and_eq_true_iff.mp (Bool.and_eq_true_iff.mp ok).1).1 h0 hl hn hu hs hq) H.keeps XL.keeps hdef hp hk hwr said ok hb hw call
end
end
end Go

namespace Bw
/-- with_kinds -/
def d1 : FD := ⟨2, 2, [.ret (.bin (.add false) (.sl true (.var 0) [] [(.cst (.int 1))]) (.bi .tuple1 [(.var 1)]))]⟩
/-- parts -/
def d87 : FD := ⟨1, 1, [.ite (.cmp .eq (.idx (.var 0) (.cst (.int 0))) (.cst (.str [114, 111, 119]))) [.ret (.bi (.list1 false) [(.idx (.var 0) (.cst (.int 3)))])] [], .ret (.bi (.list1 false) [(.sl true (.var 0) [(.tab [([119, 104, 111, 108, 101], .int 3), ([116, 114, 117, 116, 104], .int 3), ([103, 105, 118, 101, 110], .int 3), ([110, 97, 109, 101], .int 3), ([102, 110], .int 4), ([115, 101, 108, 102], .int 6), ([99, 97, 108, 108], .int 2), ([108, 101, 116], .int 3), ([105, 102], .int 2), ([100, 111], .int 3), ([97, 116], .int 2), ([115, 105, 122, 101], .int 2), ([112, 97, 105, 114], .int 2), ([111, 110, 101], .int 2), ([116, 119, 111], .int 2), ([97, 115], .int 3), ([108, 111, 111, 107], .int 4)] (.idx (.var 0) (.cst (.int 0))))] [])])]⟩
/-- names_within -/
def d139 : FD := ⟨3, 3, [.ite (.or [(.cmp .eq (.idx (.var 0) (.cst (.int 0))) (.cst (.str [102, 110]))), (.and [(.cmp .eq (.idx (.var 0) (.cst (.int 0))) (.cst (.str [108, 101, 116]))), (.cmp .eq (.var 1) (.cst (.int 1)))])]) [.ret (.bin (.add false) (.var 2) (.lst true [(.idx (.var 0) (.cst (.int 2)))]))] [], .ite (.cmp .eq (.idx (.var 0) (.cst (.int 0))) (.cst (.str [115, 101, 108, 102]))) [.ret (.bin (.add false) (.var 2) (.lst true [(.idx (.var 0) (.cst (.int 2))), (.idx (.var 0) (.cst (.int 3)))]))] [], .ret (.var 2)]⟩
/-- free_name -/
def d140 : FD := ⟨2, 5, [.ite (.and [(.cmp .eq (.idx (.var 0) (.cst (.int 0))) (.cst (.str [110, 97, 109, 101]))), (.cmp .notin (.idx (.var 0) (.cst (.int 2))) (.var 1))]) [.ret (.idx (.var 0) (.cst (.int 1)))] [], .for (.pr [2, 3]) .enum [(.call 87 [(.var 0)])] [.asg 4 (.call 140 [(.var 3), (.call 139 [(.var 0), (.var 2), (.var 1)])]), .ite (.isN true (.var 4)) [.ret (.var 4)] []], .ret (.cst (.non))]⟩
/-- need_names -/
def d141 : FD := ⟨1, 2, [.asg 1 (.call 140 [(.var 0), (.lst true [])]), .ite (.isN true (.var 1)) [.rse 4 [[112, 108, 97, 99, 101]] [(.var 1)]] []]⟩
/-- _law_words -/
def d176 : FD := ⟨1, 8, [.asg 1 (.cst (.str [97, 98, 99, 100, 101, 102, 103, 104, 105, 106, 107, 108, 109, 110, 111, 112, 113, 114, 115, 116, 117, 118, 119, 120, 121, 122])), .asg 2 (.comp true (.nm 5) .rng1 [(.bin (.add true) (.cst (.int 1)) (.bin .mod (.var 0) (.cst (.int 8))))] [] (.bin .mod (.bin (.add true) (.bin .fdiv (.var 0) (.bin (.add true) (.var 5) (.cst (.int 1)))) (.bin (.mul true) (.var 5) (.var 5))) (.cst (.int 26))) [5]), .asg 3 (.bin .mod (.bin .fdiv (.var 0) (.cst (.int 8))) (.bi .len [(.var 2)])), .asg 4 (.lst false []), .for (.nm 5) .rng1 [(.cst (.int 5))] [.asg 6 (.cst (.str [])), .for (.nm 7) .rng1 [(.bi .len [(.var 2)])] [.asg 6 (.bin (.add true) (.var 6) (.idx (.var 1) (.bin .mod (.bin (.add true) (.idx (.var 2) (.var 7)) (.bin (.mul true) (.bin (.mul true) (.cst (.int 5)) (.var 5)) (.bi .int1 [(.cmp .eq (.var 7) (.var 3))]))) (.cst (.int 26)))))], .ite (.or [(.cmp .eq (.var 6) (.cst (.str [121, 101, 115]))), (.cmp .eq (.var 6) (.cst (.str [110, 111])))]) [.asg 6 (.bin (.add true) (.var 6) (.cst (.str [120])))] [], .ex (.app (.var 4) (.var 6))], .ret (.var 4)]⟩
/-- _wall -/
def d281 : FD := ⟨1, 1, [.whl (.cst (.bl true)) [.pass]]⟩
/-- Going.__init__ -/
def d282 : FD := ⟨4, 4, [.fldS [11, 12, 13, 14] (.var 0) [110, 117, 109, 98, 101, 114, 115] (.bi (.list1 false) [(.var 1)]), .fldS [11, 12, 13, 14] (.var 0) [108, 101, 102, 116] (.var 2), .fldS [11, 12, 13, 14] (.var 0) [116, 111, 103, 101, 116, 104, 101, 114] (.var 3), .fldS [11, 12, 13, 14] (.var 0) [110, 111, 116, 101, 115] (.lst false [])]⟩
/-- Going.spend -/
def d283 : FD := ⟨1, 1, [.ite (.cmp .le (.fld [] (.var 0) [108, 101, 102, 116]) (.cst (.int 0))) [.rse 10 [[101, 110, 100, 105, 110, 103]] [(.tup [(.cst (.str [115, 112, 101, 110, 116]))])]] [], .fldS [11, 12, 13, 14] (.var 0) [108, 101, 102, 116] (.bin .sub (.fld [] (.var 0) [108, 101, 102, 116]) (.cst (.int 1)))]⟩
/-- Going.number -/
def d284 : FD := ⟨2, 2, [.ite (.cmp .lt (.var 1) (.bi .len [(.fld [] (.var 0) [110, 117, 109, 98, 101, 114, 115])])) [.ret (.idx (.fld [] (.var 0) [110, 117, 109, 98, 101, 114, 115]) (.var 1))] [], .ret (.cst (.int 0))]⟩
/-- Going.note -/
def d285 : FD := ⟨2, 2, [.ex (.call 281 [(.cst (.int 0))])]⟩
/-- Closure.__init__ -/
def d286 : FD := ⟨3, 3, [.fldS [11, 12, 13, 14] (.var 0) [116, 114, 101, 101] (.var 1), .fldS [11, 12, 13, 14] (.var 0) [110, 97, 109, 101, 115] (.var 2)]⟩
/-- Closure.within -/
def d287 : FD := ⟨3, 4, [.asg 3 (.meb .dcopy (.fld [] (.var 0) [110, 97, 109, 101, 115]) []), .ite (.cmp .eq (.idx (.fld [] (.var 0) [116, 114, 101, 101]) (.cst (.int 0))) (.cst (.str [115, 101, 108, 102]))) [.setIx (.var 3) (.idx (.fld [] (.var 0) [116, 114, 101, 101]) (.cst (.int 2))) (.var 1), .setIx (.var 3) (.idx (.fld [] (.var 0) [116, 114, 101, 101]) (.cst (.int 3))) (.var 2)] [.setIx (.var 3) (.idx (.fld [] (.var 0) [116, 114, 101, 101]) (.cst (.int 2))) (.var 2)], .ret (.var 3)]⟩
/-- Closure.node -/
def d288 : FD := ⟨1, 1, [.ret (.idx (.fld [] (.var 0) [116, 114, 101, 101]) (.neg (.cst (.int 1))))]⟩
/-- Several.__init__ -/
def d289 : FD := ⟨2, 2, [.fldS [11, 12, 13, 14] (.var 0) [116, 104, 105, 110, 103, 115] (.var 1)]⟩
/-- Several.look_at -/
def d290 : FD := ⟨3, 3, [.ex (.call 281 [(.cst (.int 1))])]⟩
/-- Several.shown -/
def d291 : FD := ⟨2, 2, [.ret (.bin (.add false) (.bin (.add true) (.cst (.str [91])) (.meb .join (.cst (.str [32])) [(.var 1)])) (.cst (.str [93])))]⟩
/-- Couple.look_at -/
def d292 : FD := ⟨3, 3, [.ex (.call 281 [(.cst (.int 2))])]⟩
/-- Couple.shown -/
def d293 : FD := ⟨2, 2, [.ret (.bin (.add false) (.bin (.add true) (.cst (.str [60])) (.meb .join (.cst (.str [32])) [(.var 1)])) (.cst (.str [62])))]⟩
/-- head_of -/
def d294 : FD := ⟨1, 1, [.ite (.isi .bool (.var 0)) [.ret (.cst (.str [116, 114, 117, 116, 104]))] [], .ite (.isi .int (.var 0)) [.ret (.cst (.str [119, 104, 111, 108, 101]))] [], .ite (.isC [12] [4, 10, 11, 13, 14] (.var 0)) [.ret (.cst (.str [116, 111]))] [], .ite (.isC [14] [4, 10, 11, 12, 13] (.var 0)) [.ret (.cst (.str [112, 97, 105, 114]))] [], .ret (.cst (.str [114, 111, 119]))]⟩
/-- reckoned -/
def d295 : FD := ⟨4, 5, [.ite (.cmp .eq (.var 0) (.cst (.str [60]))) [.ret (.cmp .lt (.var 1) (.var 2))] [], .ite (.cmp .eq (.var 0) (.cst (.str [61]))) [.ret (.cmp .eq (.var 1) (.var 2))] [], .ite (.cmp .eq (.var 0) (.cst (.str [43]))) [.asg 4 (.bin (.add true) (.var 1) (.var 2))] [.ite (.cmp .eq (.var 0) (.cst (.str [45]))) [.asg 4 (.bin .sub (.var 1) (.var 2))] [.asg 4 (.bin (.mul true) (.var 1) (.var 2))]], .ite (.cmp .ge (.bi .abs [(.var 4)]) (.bin .pow (.cst (.int 10)) (.cst (.int 40)))) [.rse 10 [[101, 110, 100, 105, 110, 103]] [(.tup [(.cst (.str [102, 97, 117, 108, 116])), (.var 3), (.cst (.str [103, 114, 101, 97, 116]))])]] [], .ret (.var 4)]⟩
/-- thing_at -/
def d296 : FD := ⟨3, 3, [.ite (.not (.chain .le .lt (.cst (.int 0)) (.var 1) (.bi .len [(.var 0)]))) [.rse 10 [[101, 110, 100, 105, 110, 103]] [(.tup [(.cst (.str [102, 97, 117, 108, 116])), (.var 2), (.cst (.str [110, 111, 110, 101]))])]] [], .ret (.idx (.var 0) (.var 1))]⟩
/-- single_text -/
def d297 : FD := ⟨1, 2, [.asg 1 (.call 294 [(.var 0)]), .ite (.cmp .eq (.var 1) (.cst (.str [119, 104, 111, 108, 101]))) [.ret (.bi .str1 [(.var 0)])] [], .ite (.cmp .eq (.var 1) (.cst (.str [116, 111]))) [.ret (.cst (.str [102, 110]))] [], .ite (.var 0) [.ret (.cst (.str [121, 101, 115]))] [], .ret (.cst (.str [110, 111]))]⟩
/-- leaf -/
def d298 : FD := ⟨3, 4, [.asg 3 (.idx (.var 0) (.cst (.int 0))), .ite (.cmp .eq (.var 3) (.cst (.str [110, 97, 109, 101]))) [.ret (.idx (.var 1) (.idx (.var 0) (.cst (.int 2))))] [], .ite (.cmp .eq (.var 3) (.cst (.str [103, 105, 118, 101, 110]))) [.ret (.meth [(11, 284)] [110, 117, 109, 98, 101, 114] (.var 2) [(.idx (.var 0) (.cst (.int 2)))])] [], .ite (.or [(.cmp .eq (.var 3) (.cst (.str [102, 110]))), (.cmp .eq (.var 3) (.cst (.str [115, 101, 108, 102])))]) [.ret (.mk 12 286 [(.var 0), (.var 1)])] [], .ret (.idx (.var 0) (.cst (.int 2)))]⟩
/-- deed -/
def d299 : FD := ⟨2, 3, [.asg 2 (.idx (.var 0) (.cst (.int 0))), .ite (.cmp .eq (.var 2) (.cst (.str [100, 111]))) [.ret (.call 295 [(.idx (.var 0) (.cst (.int 2))), (.idx (.var 1) (.cst (.int 0))), (.idx (.var 1) (.cst (.int 1))), (.idx (.var 0) (.cst (.int 1)))])] [], .ite (.cmp .eq (.var 2) (.cst (.str [114, 111, 119]))) [.ret (.mk 13 289 [(.var 1)])] [], .ite (.cmp .eq (.var 2) (.cst (.str [112, 97, 105, 114]))) [.ret (.mk 14 289 [(.var 1)])] [], .ite (.cmp .eq (.var 2) (.cst (.str [97, 116]))) [.ret (.call 296 [(.fld [] (.idx (.var 1) (.cst (.int 0))) [116, 104, 105, 110, 103, 115]), (.idx (.var 1) (.cst (.int 1))), (.idx (.var 0) (.cst (.int 1)))])] [], .ite (.cmp .eq (.var 2) (.cst (.str [115, 105, 122, 101]))) [.ret (.bi .len [(.fld [] (.idx (.var 1) (.cst (.int 0))) [116, 104, 105, 110, 103, 115])])] [], .ite (.cmp .eq (.var 2) (.cst (.str [111, 110, 101]))) [.ret (.idx (.fld [] (.idx (.var 1) (.cst (.int 0))) [116, 104, 105, 110, 103, 115]) (.cst (.int 0)))] [], .ite (.cmp .eq (.var 2) (.cst (.str [116, 119, 111]))) [.ret (.idx (.fld [] (.idx (.var 1) (.cst (.int 0))) [116, 104, 105, 110, 103, 115]) (.cst (.int 1)))] [], .ret (.idx (.var 1) (.cst (.int 0)))]⟩
/-- needed -/
def d300 : FD := ⟨3, 4, [.asg 3 (.tabT [([.inr [99, 97, 108, 108], .inl 0], .str [116, 111]), ([.inr [100, 111], .inl 0], .str [119, 104, 111, 108, 101]), ([.inr [100, 111], .inl 1], .str [119, 104, 111, 108, 101]), ([.inr [97, 116], .inl 0], .str [114, 111, 119]), ([.inr [97, 116], .inl 1], .str [119, 104, 111, 108, 101]), ([.inr [115, 105, 122, 101], .inl 0], .str [114, 111, 119]), ([.inr [111, 110, 101], .inl 0], .str [112, 97, 105, 114]), ([.inr [116, 119, 111], .inl 0], .str [112, 97, 105, 114]), ([.inr [105, 102], .inl 0], .str [116, 114, 117, 116, 104])] [(.idx (.var 0) (.cst (.int 0))), (.var 1)]), .ite (.and [(.isN true (.var 3)), (.cmp .ne (.call 294 [(.var 2)]) (.var 3))]) [.rse 10 [[101, 110, 100, 105, 110, 103]] [(.tup [(.cst (.str [119, 114, 111, 110, 103])), (.idx (.idx (.call 87 [(.var 0)]) (.var 1)) (.cst (.int 1)))])]] [], .ret (.var 2)]⟩
/-- follow -/
def d301 : FD := ⟨3, 9, [.asg 3 (.idx (.var 0) (.cst (.int 0))), .ite (.cmp .isin (.var 3) (.tup [(.cst (.str [119, 104, 111, 108, 101])), (.cst (.str [116, 114, 117, 116, 104])), (.cst (.str [103, 105, 118, 101, 110])), (.cst (.str [110, 97, 109, 101])), (.cst (.str [102, 110])), (.cst (.str [115, 101, 108, 102]))])) [.ret (.call 298 [(.var 0), (.var 1), (.var 2)])] [], .ite (.cmp .eq (.var 3) (.cst (.str [108, 101, 116]))) [.asg 6 (.meb .dcopy (.var 1) []), .setIx (.var 6) (.idx (.var 0) (.cst (.int 2))) (.call 301 [(.idx (.var 0) (.cst (.int 3))), (.var 1), (.var 2)]), .ret (.call 301 [(.idx (.var 0) (.cst (.int 4))), (.fzv (.var 6)), (.var 2)])] [], .ite (.cmp .eq (.var 3) (.cst (.str [105, 102]))) [.ite (.call 300 [(.var 0), (.cst (.int 0)), (.call 301 [(.idx (.var 0) (.cst (.int 2))), (.var 1), (.var 2)])]) [.ret (.call 301 [(.idx (.var 0) (.cst (.int 3))), (.var 1), (.var 2)])] [], .ret (.call 301 [(.idx (.var 0) (.cst (.int 4))), (.var 1), (.var 2)])] [], .asg 4 (.lst false []), .for (.nm 5) .seq [(.call 87 [(.var 0)])] [.asg 7 (.call 301 [(.var 5), (.var 1), (.var 2)]), .ex (.app (.var 4) (.call 300 [(.var 0), (.bi .len [(.var 4)]), (.var 7)]))], .ite (.cmp .eq (.var 3) (.cst (.str [99, 97, 108, 108]))) [.ex (.meth [(11, 283)] [115, 112, 101, 110, 100] (.var 2) []), .asg 8 (.idx (.var 4) (.cst (.int 0))), .ret (.call 301 [(.meth [(12, 288)] [110, 111, 100, 101] (.var 8) []), (.meth [(12, 287)] [119, 105, 116, 104, 105, 110] (.var 8) [(.var 8), (.idx (.var 4) (.cst (.int 1)))]), (.var 2)])] [], .ret (.call 299 [(.var 0), (.fzv (.var 4))])]⟩
/-- text_of -/
def d302 : FD := ⟨2, 3, [.ite (.cmp .gt (.var 1) (.cst (.int 3))) [.ret (.cst (.str [46, 46]))] [], .ite (.not (.isC [13, 14] [4, 10, 11, 12] (.var 0))) [.ret (.call 297 [(.var 0)])] [], .ret (.meth [(13, 291), (14, 293)] [115, 104, 111, 119, 110] (.var 0) [(.comp true (.nm 2) .seq [(.fld [] (.var 0) [116, 104, 105, 110, 103, 115])] [] (.call 302 [(.var 2), (.bin (.add true) (.var 1) (.cst (.int 1)))]) [2])])]⟩
/-- plain -/
def d303 : FD := ⟨3, 5, [.ex (.call 141 [(.var 0)]), .trys [.asg 4 (.call 302 [(.call 301 [(.var 0), (.fzv .dnew), (.mk 11 282 [(.var 1), (.var 2), (.cst (.bl false))])]), (.cst (.int 1))])] [.mk [10] [4] (some 3) [.ret (.fld [] (.var 3) [101, 110, 100, 105, 110, 103])]] [.ret (.tup [(.cst (.str [100, 111, 110, 101])), (.var 4)])]]⟩
/-- _law_alike -/
def d312 : FD := ⟨2, 4, [.ite (.or [(.not (.isi .tuple (.var 0))), (.cmp .ne (.bi .len [(.var 0)]) (.bi .len [(.var 1)]))]) [.ret (.cst (.bl false))] [], .for (.pr [2, 3]) .zip [(.var 0), (.var 1)] [.ite (.or [(.cmp .ne (.isi .str (.var 3)) (.isi .str (.var 2))), (.isi .bool (.var 2))]) [.ret (.cst (.bl false))] []], .ret (.cmp .eq (.var 0) (.var 1))]⟩
/-- _law_cell_at -/
def d341 : FD := ⟨2, 2, [.ite (.cmp .lt (.var 1) (.bi .len [(.var 0)])) [.ret (.idx (.var 0) (.var 1))] [], .ret (.bin (.add false) (.bin (.mul true) (.cst (.int 7)) (.var 1)) (.cst (.int 3)))]⟩
/-- _law_number -/
def d342 : FD := ⟨1, 1, [.ite (.cmp .eq (.bin .mod (.var 0) (.cst (.int 3))) (.cst (.int 0))) [.ret (.bin (.add false) (.bin .sub (.bin .mod (.bin .fdiv (.var 0) (.cst (.int 3))) (.bin .sub (.bin (.mul true) (.cst (.int 2)) (.bin .pow (.cst (.int 10)) (.cst (.int 40)))) (.cst (.int 1)))) (.bin .pow (.cst (.int 10)) (.cst (.int 40)))) (.cst (.int 1)))] [], .ret (.bin .sub (.bin .mod (.bin .fdiv (.var 0) (.cst (.int 3))) (.cst (.int 2000001))) (.cst (.int 1000000)))]⟩
/-- _law_kind -/
def d343 : FD := ⟨1, 4, [.asg 1 (.lst true [(.tup [(.cst (.str [119, 104, 111, 108, 101]))]), (.tup [(.cst (.str [116, 114, 117, 116, 104]))]), (.tup [(.cst (.str [63]))])]), .asg 2 (.idx (.var 1) (.bin .mod (.var 0) (.cst (.int 3)))), .asg 3 (.idx (.var 1) (.bin .mod (.bin .fdiv (.var 0) (.cst (.int 3))) (.cst (.int 3)))), .ret (.idx (.lst true [(.var 2), (.tup [(.cst (.str [116, 111])), (.var 3), (.var 2)]), (.tup [(.cst (.str [114, 111, 119])), (.tup [(.cst (.str [114, 111, 119])), (.var 2)])]), (.tup [(.cst (.str [112, 97, 105, 114])), (.var 2), (.var 3)]), (.var 2)]) (.bin .mod (.bin .fdiv (.var 0) (.cst (.int 9))) (.cst (.int 5))))]⟩
/-- _law_deal -/
def d344 : FD := ⟨1, 3, [.asg 1 (.bin .mod (.bin (.add true) (.bin (.mul true) (.call 341 [(.var 0), (.cst (.int 1))]) (.cst (.int 982451653))) (.cst (.int 104395303))) (.cst (.int 999999999989))), .asg 2 (.lst true [(.call 343 [(.bin .fdiv (.var 1) (.cst (.int 7)))]), (.call 343 [(.bin (.add true) (.bin .fdiv (.var 1) (.cst (.int 11))) (.cst (.int 1)))]), (.call 343 [(.bin (.add true) (.bin .fdiv (.var 1) (.cst (.int 13))) (.cst (.int 2)))])]), .ret (.lst false [(.bin .mod (.var 1) (.cst (.int 9973))), (.cst (.int 0)), (.call 176 [(.var 1)]), (.var 2)])]⟩
/-- _law_place -/
def d345 : FD := ⟨1, 1, [.setIx (.var 0) (.cst (.int 1)) (.bin (.add true) (.idx (.var 0) (.cst (.int 1))) (.cst (.int 1))), .ret (.bin .mod (.bin (.add true) (.idx (.var 0) (.cst (.int 0))) (.bin (.mul true) (.cst (.int 7919)) (.idx (.var 0) (.cst (.int 1))))) (.cst (.int 9973)))]⟩
/-- _law_lit -/
def d346 : FD := ⟨2, 2, [.ret (.tup [(.cst (.str [119, 104, 111, 108, 101])), (.call 345 [(.var 0)]), (.var 1)])]⟩
/-- _law_name -/
def d347 : FD := ⟨2, 2, [.ret (.tup [(.cst (.str [110, 97, 109, 101])), (.call 345 [(.var 0)]), (.var 1)])]⟩
/-- _law_fn -/
def d348 : FD := ⟨3, 3, [.ret (.tup [(.cst (.str [102, 110])), (.call 345 [(.var 0)]), (.var 1), (.idx (.idx (.var 0) (.cst (.int 3))) (.cst (.int 0))), (.var 2)])]⟩
/-- _law_call -/
def d349 : FD := ⟨3, 3, [.ret (.tup [(.cst (.str [99, 97, 108, 108])), (.call 345 [(.var 0)]), (.var 1), (.var 2)])]⟩
/-- _law_do -/
def d350 : FD := ⟨4, 4, [.ret (.tup [(.cst (.str [100, 111])), (.call 345 [(.var 0)]), (.var 1), (.var 2), (.var 3)])]⟩
/-- _law_total -/
def d351 : FD := ⟨4, 5, [.asg 4 (.bin (.mul true) (.var 1) (.var 2)), .ite (.cmp .eq (.var 0) (.cst (.str [43]))) [.asg 4 (.bin (.add true) (.var 1) (.var 2))] [], .ite (.cmp .eq (.var 0) (.cst (.str [45]))) [.asg 4 (.bin .sub (.var 1) (.var 2))] [], .ite (.cmp .gt (.bi .abs [(.var 4)]) (.bin .sub (.bin .pow (.cst (.int 10)) (.cst (.int 40))) (.cst (.int 1)))) [.ret (.tup [(.cst (.str [102, 97, 117, 108, 116])), (.var 3), (.cst (.str [103, 114, 101, 97, 116]))])] [], .ret (.tup [(.cst (.str [100, 111, 110, 101])), (.bi .str1 [(.var 4)])])]⟩
/-- _law_turns -/
def d352 : FD := ⟨5, 15, [.par 13 14 (.idx (.idx (.var 0) (.cst (.int 2))) (.cst (.int 0))) (.idx (.idx (.var 0) (.cst (.int 2))) (.cst (.int 1))), .asg 5 (.call 350 [(.var 0), (.cst (.str [45])), (.call 347 [(.var 0), (.var 14)]), (.call 346 [(.var 0), (.cst (.int 1))])]), .asg 6 (.call 349 [(.var 0), (.call 347 [(.var 0), (.var 13)]), (.var 5)]), .asg 7 (.call 350 [(.var 0), (.cst (.str [43])), (.call 347 [(.var 0), (.var 14)]), (.call 346 [(.var 0), (.var 3)])]), .ite (.var 4) [.asg 6 (.call 350 [(.var 0), (.cst (.str [43])), (.var 6), (.var 7)])] [], .asg 8 (.call 350 [(.var 0), (.cst (.str [60])), (.call 347 [(.var 0), (.var 14)]), (.call 346 [(.var 0), (.cst (.int 1))])]), .asg 9 (.tup [(.cst (.str [105, 102])), (.call 345 [(.var 0)]), (.var 8), (.call 346 [(.var 0), (.var 2)]), (.var 6)]), .asg 10 (.tup [(.cst (.str [115, 101, 108, 102])), (.call 345 [(.var 0)]), (.var 13), (.var 14), (.idx (.idx (.var 0) (.cst (.int 3))) (.cst (.int 0))), (.idx (.idx (.var 0) (.cst (.int 3))) (.cst (.int 1))), (.var 9)]), .asg 11 (.tup [(.cst (.str [100, 111, 110, 101])), (.bi .str1 [(.var 2)])]), .for (.nm 12) .rng1 [(.bin (.mul true) (.bi .max2 [(.var 1), (.cst (.int 0))]) (.bi .int1 [(.var 4)]))] [.ite (.cmp .eq (.idx (.var 11) (.cst (.int 0))) (.cst (.str [100, 111, 110, 101]))) [.asg 2 (.bi .int1 [(.idx (.var 11) (.cst (.int 1)))]), .asg 11 (.call 351 [(.cst (.str [43])), (.bin (.add true) (.var 12) (.cst (.int 1))), (.var 3), (.idx (.var 7) (.cst (.int 1)))])] [], .ite (.cmp .eq (.idx (.var 11) (.cst (.int 0))) (.cst (.str [100, 111, 110, 101]))) [.asg 11 (.call 351 [(.cst (.str [43])), (.var 2), (.bi .int1 [(.idx (.var 11) (.cst (.int 1)))]), (.idx (.var 6) (.cst (.int 1)))])] []], .ret (.lst false [(.call 349 [(.var 0), (.var 10), (.call 346 [(.var 0), (.var 1)])]), (.var 11), (.bin (.add true) (.cst (.int 1)) (.bi .max2 [(.var 1), (.cst (.int 0))]))])]⟩
/-- _law_kept -/
def d353 : FD := ⟨4, 11, [.asgT [8, 9, 10] (.tup [(.idx (.idx (.var 0) (.cst (.int 2))) (.cst (.int 0))), (.idx (.idx (.var 0) (.cst (.int 2))) (.cst (.int 1))), (.idx (.idx (.var 0) (.cst (.int 2))) (.cst (.int 2)))]), .asg 4 (.call 350 [(.var 0), (.cst (.str [45])), (.call 347 [(.var 0), (.var 8)]), (.call 347 [(.var 0), (.var 10)])]), .asg 5 (.tup [(.cst (.str [108, 101, 116])), (.call 345 [(.var 0)]), (.var 8), (.call 346 [(.var 0), (.var 2)]), (.call 349 [(.var 0), (.call 347 [(.var 0), (.var 9)]), (.call 350 [(.var 0), (.cst (.str [43])), (.call 347 [(.var 0), (.var 8)]), (.call 346 [(.var 0), (.cst (.int 0))])])])]), .asg 6 (.tup [(.cst (.str [108, 101, 116])), (.call 345 [(.var 0)]), (.var 9), (.call 348 [(.var 0), (.var 10), (.var 4)]), (.var 5)]), .asg 7 (.tup [(.cst (.str [108, 101, 116])), (.call 345 [(.var 0)]), (.var 8), (.call 346 [(.var 0), (.var 1)]), (.var 6)]), .ret (.lst false [(.var 7), (.call 351 [(.cst (.str [45])), (.var 1), (.var 2), (.idx (.var 4) (.cst (.int 1)))]), (.cst (.int 1))])]⟩
/-- _law_alone -/
def d354 : FD := ⟨3, 6, [.asg 3 (.idx (.idx (.var 0) (.cst (.int 2))) (.cst (.int 0))), .asg 4 (.call 350 [(.var 0), (.cst (.str [42])), (.call 347 [(.var 0), (.var 3)]), (.call 346 [(.var 0), (.var 2)])]), .asg 5 (.tup [(.cst (.str [115, 101, 108, 102])), (.call 345 [(.var 0)]), (.var 3), (.var 3), (.idx (.idx (.var 0) (.cst (.int 3))) (.cst (.int 0))), (.idx (.idx (.var 0) (.cst (.int 3))) (.cst (.int 1))), (.var 4)]), .ret (.lst false [(.call 349 [(.var 0), (.var 5), (.call 346 [(.var 0), (.var 1)])]), (.call 351 [(.cst (.str [42])), (.var 1), (.var 2), (.idx (.var 4) (.cst (.int 1)))]), (.cst (.int 1))])]⟩
/-- _law_double -/
def d355 : FD := ⟨4, 9, [.asg 4 (.idx (.idx (.var 0) (.cst (.int 2))) (.cst (.int 0))), .asg 5 (.idx (.lst true [(.idx (.idx (.var 0) (.cst (.int 2))) (.cst (.int 1))), (.var 4)]) (.bi .int1 [(.var 3)])), .asg 6 (.call 350 [(.var 0), (.cst (.str [45])), (.call 347 [(.var 0), (.var 4)]), (.call 347 [(.var 0), (.var 5)])]), .asg 7 (.call 348 [(.var 0), (.var 4), (.call 348 [(.var 0), (.var 5), (.var 6)])]), .asg 8 (.call 349 [(.var 0), (.call 349 [(.var 0), (.var 7), (.call 346 [(.var 0), (.var 1)])]), (.call 346 [(.var 0), (.var 2)])]), .ite (.var 3) [.ret (.lst false [(.var 8), (.call 351 [(.cst (.str [45])), (.var 2), (.var 2), (.idx (.var 6) (.cst (.int 1)))]), (.cst (.int 2))])] [], .ret (.lst false [(.var 8), (.call 351 [(.cst (.str [45])), (.var 1), (.var 2), (.idx (.var 6) (.cst (.int 1)))]), (.cst (.int 2))])]⟩
/-- _law_handed -/
def d356 : FD := ⟨3, 9, [.par 7 8 (.idx (.idx (.var 0) (.cst (.int 2))) (.cst (.int 0))) (.idx (.idx (.var 0) (.cst (.int 2))) (.cst (.int 1))), .asg 3 (.call 349 [(.var 0), (.call 347 [(.var 0), (.var 8)]), (.call 346 [(.var 0), (.var 1)])]), .asg 4 (.call 349 [(.var 0), (.call 347 [(.var 0), (.var 8)]), (.call 346 [(.var 0), (.var 2)])]), .asg 5 (.call 350 [(.var 0), (.cst (.str [45])), (.var 3), (.var 4)]), .asg 6 (.call 348 [(.var 0), (.var 7), (.call 347 [(.var 0), (.var 7)])]), .ret (.lst false [(.call 349 [(.var 0), (.call 348 [(.var 0), (.var 8), (.var 5)]), (.var 6)]), (.call 351 [(.cst (.str [45])), (.var 1), (.var 2), (.idx (.var 5) (.cst (.int 1)))]), (.cst (.int 3))])]⟩
/-- _law_from_row -/
def d357 : FD := ⟨3, 7, [.asg 3 (.idx (.idx (.var 0) (.cst (.int 2))) (.cst (.int 0))), .asg 4 (.call 350 [(.var 0), (.cst (.str [43])), (.call 347 [(.var 0), (.var 3)]), (.call 346 [(.var 0), (.var 2)])]), .asg 5 (.tup [(.call 346 [(.var 0), (.cst (.int 5))]), (.call 348 [(.var 0), (.var 3), (.var 4)]), (.call 346 [(.var 0), (.cst (.int 6))])]), .asg 6 (.tup [(.cst (.str [97, 116])), (.call 345 [(.var 0)]), (.tup [(.cst (.str [114, 111, 119])), (.call 345 [(.var 0)]), (.idx (.idx (.var 0) (.cst (.int 3))) (.cst (.int 2))), (.var 5)]), (.call 346 [(.var 0), (.cst (.int 1))])]), .ret (.lst false [(.call 349 [(.var 0), (.var 6), (.call 346 [(.var 0), (.var 1)])]), (.call 351 [(.cst (.str [43])), (.var 1), (.var 2), (.idx (.var 4) (.cst (.int 1)))]), (.cst (.int 1))])]⟩
/-- _law_no_call -/
def d358 : FD := ⟨3, 5, [.asg 3 (.call 350 [(.var 0), (.cst (.str [43])), (.tup [(.cst (.str [116, 114, 117, 116, 104])), (.call 345 [(.var 0)]), (.cst (.bl true))]), (.call 346 [(.var 0), (.var 1)])]), .asg 4 (.idx (.lst true [(.call 346 [(.var 0), (.var 2)]), (.tup [(.cst (.str [116, 114, 117, 116, 104])), (.call 345 [(.var 0)]), (.cst (.bl false))]), (.tup [(.cst (.str [114, 111, 119])), (.call 345 [(.var 0)]), (.idx (.idx (.var 0) (.cst (.int 3))) (.cst (.int 0))), (.tup [])])]) (.bin .mod (.var 2) (.cst (.int 3)))), .ret (.lst false [(.call 349 [(.var 0), (.var 4), (.var 3)]), (.tup [(.cst (.str [119, 114, 111, 110, 103])), (.idx (.var 4) (.cst (.int 1)))]), (.cst (.int 0))])]⟩
/-- _law_again -/
def d359 : FD := ⟨4, 7, [.asg 4 (.idx (.idx (.var 0) (.cst (.int 2))) (.cst (.int 0))), .ite (.cmp .eq (.var 3) (.cst (.int 0))) [.asg 5 (.tup [(.cst (.str [108, 101, 116])), (.call 345 [(.var 0)]), (.var 4), (.call 346 [(.var 0), (.var 2)]), (.call 347 [(.var 0), (.var 4)])]), .asg 6 (.call 350 [(.var 0), (.cst (.str [45])), (.var 5), (.call 347 [(.var 0), (.var 4)])]), .ret (.lst false [(.tup [(.cst (.str [108, 101, 116])), (.call 345 [(.var 0)]), (.var 4), (.call 346 [(.var 0), (.var 1)]), (.var 6)]), (.call 351 [(.cst (.str [45])), (.var 2), (.var 1), (.idx (.var 6) (.cst (.int 1)))]), (.cst (.int 0))])] [], .asg 5 (.call 349 [(.var 0), (.call 348 [(.var 0), (.var 4), (.call 347 [(.var 0), (.var 4)])]), (.call 346 [(.var 0), (.var 2)])]), .asg 6 (.call 350 [(.var 0), (.cst (.str [45])), (.var 5), (.call 347 [(.var 0), (.var 4)])]), .ret (.lst false [(.call 349 [(.var 0), (.call 348 [(.var 0), (.var 4), (.var 6)]), (.call 346 [(.var 0), (.var 1)])]), (.call 351 [(.cst (.str [45])), (.var 2), (.var 1), (.idx (.var 6) (.cst (.int 1)))]), (.cst (.int 2))])]⟩
/-- _law_shown -/
def d360 : FD := ⟨2, 5, [.par 3 4 (.idx (.idx (.var 0) (.cst (.int 2))) (.cst (.int 0))) (.idx (.idx (.var 0) (.cst (.int 2))) (.cst (.int 1))), .asg 2 (.tup [(.cst (.str [115, 101, 108, 102])), (.call 345 [(.var 0)]), (.var 4), (.var 3), (.idx (.idx (.var 0) (.cst (.int 3))) (.cst (.int 0))), (.idx (.idx (.var 0) (.cst (.int 3))) (.cst (.int 1))), (.call 347 [(.var 0), (.var 4)])]), .ret (.lst false [(.call 349 [(.var 0), (.var 2), (.call 346 [(.var 0), (.var 1)])]), (.tup [(.cst (.str [100, 111, 110, 101])), (.cst (.str [102, 110]))]), (.cst (.int 1))])]⟩
/-- _law_form -/
def d361 : FD := ⟨5, 5, [.ite (.cmp .lt (.var 1) (.cst (.int 2))) [.ret (.call 352 [(.var 0), (.var 2), (.var 3), (.var 4), (.cmp .eq (.var 1) (.cst (.int 1)))])] [], .ite (.cmp .eq (.var 1) (.cst (.int 2))) [.ret (.call 353 [(.var 0), (.var 3), (.var 4), (.var 2)])] [], .ite (.cmp .eq (.var 1) (.cst (.int 3))) [.ret (.call 354 [(.var 0), (.var 3), (.var 4)])] [], .ite (.cmp .lt (.var 1) (.cst (.int 6))) [.ret (.call 355 [(.var 0), (.var 3), (.var 4), (.cmp .eq (.var 1) (.cst (.int 5)))])] [], .ite (.cmp .eq (.var 1) (.cst (.int 6))) [.ret (.call 356 [(.var 0), (.var 3), (.var 4)])] [], .ite (.cmp .eq (.var 1) (.cst (.int 7))) [.ret (.call 357 [(.var 0), (.var 3), (.var 4)])] [], .ite (.cmp .eq (.var 1) (.cst (.int 8))) [.ret (.call 358 [(.var 0), (.var 3), (.var 4)])] [], .ite (.cmp .eq (.var 1) (.cst (.int 9))) [.ret (.call 360 [(.var 0), (.var 3)])] [], .ret (.call 359 [(.var 0), (.var 3), (.var 4), (.bin .mod (.var 1) (.cst (.int 2)))])]⟩
/-- law -/
def d362 : FD := ⟨1, 11, [.asg 1 (.bin .mod (.bin (.add true) (.bin (.mul true) (.call 341 [(.var 0), (.cst (.int 0))]) (.cst (.int 982451653))) (.cst (.int 104395303))) (.cst (.int 999999999989))), .asg 2 (.call 344 [(.var 0)]), .asg 3 (.call 342 [(.call 341 [(.var 0), (.cst (.int 2))])]), .asg 4 (.call 342 [(.call 341 [(.var 0), (.cst (.int 3))])]), .asgT [7, 8, 9] (.call 361 [(.var 2), (.bin .mod (.var 1) (.cst (.int 12))), (.bin .sub (.bin .mod (.bin .fdiv (.var 1) (.cst (.int 12))) (.cst (.int 16))) (.cst (.int 2))), (.var 3), (.var 4)]), .asg 5 (.bin .mod (.bin .fdiv (.var 1) (.cst (.int 192))) (.cst (.int 13))), .ite (.cmp .eq (.bin .mod (.bin .fdiv (.var 1) (.cst (.int 2496))) (.cst (.int 2))) (.cst (.int 1))) [.asg 5 (.bi .max2 [(.cst (.int 0)), (.bi .min2 [(.cst (.int 12)), (.bin .sub (.var 9) (.bin .mod (.bin .fdiv (.var 1) (.cst (.int 4992))) (.cst (.int 2))))])])] [], .for (.nm 6) .seq [(.lst true [(.var 5), (.bin .sub (.cst (.int 12)) (.var 5)), (.var 5)])] [.asg 10 (.var 8), .ite (.cmp .lt (.var 6) (.var 9)) [.asg 10 (.tup [(.cst (.str [115, 112, 101, 110, 116]))])] [], .ite (.not (.call 312 [(.call 303 [(.var 7), (.lst true []), (.var 6)]), (.var 10)])) [.ret (.cst (.bl false))] []], .ret (.cst (.bl true))]⟩
end Bw
open Bw
/-! Kd: kinds, and what is due. -/
namespace Bw
open PySem (sizeLine)
inductive Kd where
  | whole | truth | unt | row (a : Kd) | to (a b : Kd) | pair (a b : Kd)
  deriving DecidableEq
def hS : Kd → List Nat
  | .whole => [119, 104, 111, 108, 101]
  | .truth => [116, 114, 117, 116, 104]
  | .unt => [63]
  | .row _ => [114, 111, 119]
  | .to _ _ => [116, 111]
  | .pair _ _ => [112, 97, 105, 114]
def parts : Kd → List Kd
  | .row a => [a]
  | .to a b => [a, b]
  | .pair a b => [a, b]
  | _ => []
def kW : Kd → W
  | .whole => .tup [.str [119, 104, 111, 108, 101]]
  | .truth => .tup [.str [116, 114, 117, 116, 104]]
  | .unt => .tup [.str [63]]
  | .row a => .tup [.str [114, 111, 119], kW a]
  | .to a b => .tup [.str [116, 111], kW a, kW b]
  | .pair a b => .tup [.str [112, 97, 105, 114], kW a, kW b]
theorem kW_eq (k : Kd) : kW k = .tup (.str (hS k) :: (parts k).map kW) := by cases k <;> rfl
def kdep : Kd → Nat
  | .row a => kdep a + 1
  | .to a b => max (kdep a) (kdep b) + 1
  | .pair a b => max (kdep a) (kdep b) + 1
  | _ => 1
/-! what may be due: tuples, lists known by content -/
mutual
def due2 : W → Bool
  | .non => true
  | .int _ => true
  | .bl _ => true
  | .str _ => true
  | .tup ws => decide (ws.length ≤ 1000) && due2s ws
  | .rl ws => decide (ws.length ≤ 1000) && due2s ws
  | _ => false
def due2s : List W → Bool
  | [] => true
  | w :: ws => due2 w && due2s ws
end
theorem due2s_of : ∀ {ws : List W}, (∀ w ∈ ws, due2 w = true) → due2s ws = true
  | [], _ => rfl
  | w :: ws, h => by
    show (due2 w && due2s ws) = true
    rw [h w List.mem_cons_self, due2s_of fun x hx => h x (List.mem_cons_of_mem _ hx)]; rfl
theorem due2_tup {ws : List W} (hl : ws.length ≤ 1000) (h : ∀ w ∈ ws, due2 w = true) : due2 (.tup ws) = true := by
  show (decide (ws.length ≤ 1000) && due2s ws) = true
  rw [decide_eq_true hl, due2s_of h]; rfl
theorem due2_k : ∀ k : Kd, due2 (kW k) = true
  | .whole => rfl
  | .truth => rfl
  | .unt => rfl
  | .row a => due2_tup (by simp) fun w hw => by
    simp only [List.mem_cons, List.not_mem_nil, or_false] at hw
    rcases hw with rfl | rfl
    · rfl
    · exact due2_k a
  | .to a b => due2_tup (by simp) fun w hw => by
    simp only [List.mem_cons, List.not_mem_nil, or_false] at hw
    rcases hw with rfl | rfl | rfl
    · rfl
    · exact due2_k a
    · exact due2_k b
  | .pair a b => due2_tup (by simp) fun w hw => by
    simp only [List.mem_cons, List.not_mem_nil, or_false] at hw
    rcases hw with rfl | rfl | rfl
    · rfl
    · exact due2_k a
    · exact due2_k b
mutual
theorem eqv_refl2 : ∀ {w : W}, due2 w = true → eqv w w = true
  | .non, _ => rfl
  | .bl b, _ => by simp [eqv]
  | .int i, _ => by simp [eqv]
  | .str x, _ => by simp [eqv]
  | .tup ws, h => by
    have h : (decide (ws.length ≤ 1000) && due2s ws) = true := h
    rw [Bool.and_eq_true] at h
    exact eqvs_refl2 h.2
  | .rl ws, h => by
    have h : (decide (ws.length ≤ 1000) && due2s ws) = true := h
    rw [Bool.and_eq_true] at h
    exact eqvs_refl2 h.2
  | .sc _, h => by cases h
  | .ref _, h => by cases h
  | .fn _, h => by cases h
theorem eqvs_refl2 : ∀ {ws : List W}, due2s ws = true → eqvs ws ws = true
  | [], _ => rfl
  | w :: ws, h => by
    have h : (due2 w && due2s ws) = true := h
    rw [Bool.and_eq_true] at h
    show (eqv w w && eqvs ws ws) = true
    rw [eqv_refl2 h.1, eqvs_refl2 h.2]; rfl
end
mutual
theorem data_due2 : ∀ {w : W}, due2 w = true → dataW w = true
  | .non, _ => rfl
  | .bl b, _ => rfl
  | .int i, _ => rfl
  | .str x, _ => rfl
  | .tup ws, h => by
    have h : (decide (ws.length ≤ 1000) && due2s ws) = true := h
    rw [Bool.and_eq_true] at h
    exact datas_due2 h.2
  | .rl ws, h => by
    have h : (decide (ws.length ≤ 1000) && due2s ws) = true := h
    rw [Bool.and_eq_true] at h
    exact datas_due2 h.2
  | .sc _, h => by cases h
  | .ref _, h => by cases h
  | .fn _, h => by cases h
theorem datas_due2 : ∀ {ws : List W}, due2s ws = true → dataWs ws = true
  | [], _ => rfl
  | w :: ws, h => by
    have h : (due2 w && due2s ws) = true := h
    rw [Bool.and_eq_true] at h
    show (dataW w && dataWs ws) = true
    rw [data_due2 h.1, datas_due2 h.2]; rfl
end
theorem eqv_k : ∀ a b : Kd, eqv (kW a) (kW b) = decide (a = b)
  | .whole, b => by cases b <;> simp [kW, eqv, eqvs]
  | .truth, b => by cases b <;> simp [kW, eqv, eqvs]
  | .unt, b => by cases b <;> simp [kW, eqv, eqvs]
  | .row a, b => by
    cases b with
    | row c => simp [kW, eqv, eqvs, eqv_k a c]
    | _ => simp [kW, eqv, eqvs]
  | .to a a', b => by
    cases b with
    | to c c' => simp [kW, eqv, eqvs, eqv_k a c, eqv_k a' c']
    | _ => simp [kW, eqv, eqvs]
  | .pair a a', b => by
    cases b with
    | pair c c' => simp [kW, eqv, eqvs, eqv_k a c, eqv_k a' c']
    | _ => simp [kW, eqv, eqvs]
section
variable {S : Sto} {Q : VQ} {X : XQ} {k a b : Kd} {fz neg : Bool} {t f : Prop}
theorem deref_k : deref S (kW k) = kW k := by rw [kW_eq]; rfl
theorem k_sl1 : wSl fz (kW k) [.int 1] [] S Q = Q (.tup ((parts k).map kW)) S := by
  rw [kW_eq]
  show Q (.tup (cutW _ (some 1) none)) S = _
  rw [cut1]; rfl
theorem k_sl01 : wSl fz (kW k) [] [.int 1] S Q = Q (.tup [.str (hS k)]) S := by
  rw [kW_eq]
  show Q (.tup (cutW _ none (some 1))) S = _
  rw [cut01]; rfl
theorem k_idx0 : wIdx (kW k) (.int 0) S Q = Q (.str (hS k)) S := by
  rw [kW_eq, wIdx_tup, at0]; rfl
theorem k_len : wLen (kW k) S Q = Q (.int (((parts k).length + 1 : Nat) : Int)) S := by
  rw [kW_eq, wLen_tup]; simp
theorem k_non : wNon (kW k) t f = f := by rw [kW_eq]; rfl
theorem k_isi_tuple : isiW .tuple S (kW k) = some true := by rw [kW_eq]; rfl
theorem k_isi_int : isiW .int S (kW k) = some false := by rw [kW_eq]; rfl
theorem k_isi_bool : isiW .bool S (kW k) = some false := by rw [kW_eq]; rfl
theorem k_isi_str : isiW .str S (kW k) = some false := by rw [kW_eq]; rfl
theorem k_isi_list : isiW .list S (kW k) = some false := by rw [kW_eq]; rfl
theorem k_equ : wEq neg (kW k) (.tup [.str [63]]) S Q = Q (.bl (decide (k = .unt) != neg)) S := by
  have e := eqv_k k .unt
  unfold wEq
  rw [deref_k, deref_tup]
  rw [show eqv (kW k) (.tup [.str [63]]) = decide (k = .unt) from e, data_due2 (due2_k k)]
  have h1 : dataW (.tup [.str [63]]) = true := rfl
  have h2 : min (depW (kW k)) (depW (.tup [.str [63]])) ≤ 60 := Nat.le_trans (Nat.min_le_right _ _) (by show 1 ≤ 60; omega)
  rw [h1]
  simp [h2]
/-- two like data -/
theorem same_eq {x y : W} (e : deref S x = deref S y) (h : due2 (deref S y) = true) (hd : depW (deref S y) ≤ 60) (q : Q (.bl (true != neg)) S) : wEq neg x y S Q := by
  refine wEq_c ?_ (data_due2 h) hd ?_ q
  · rw [e]; exact data_due2 h
  · rw [e]; exact eqv_refl2 h
end
/-! ### comprehensions over a mapped list -/
theorem compA {α : Type} {f : W → Sto → (List W → Sto → Prop) → Prop} {S : Sto} {P : PySem.Addr → List W → Sto → Prop} {lk : Lk} (l : List α) (φ ψ : α → W) (hl : liveS lk S)
    (h : ∀ a ∈ l, ∀ D, S D = none → ∀ R : List W → Sto → Prop, R [ψ a] (S.set D .hid) → f (φ a) (S.set D .hid) R) (q : ∀ D, S D = none → P D (l.map ψ) (S.set D .hid)) :
    ∀ D, S D = none → wMap lk f (l.map φ) (S.set D .hid) (P D) := fun D hD => by
  have lv := liveS_set (o := .hid) hl hD
  have key : ∀ (l : List α) (Q : List W → Sto → Prop), (∀ a ∈ l, ∀ R : List W → Sto → Prop, R [ψ a] (S.set D .hid) → f (φ a) (S.set D .hid) R) → Q (l.map ψ) (S.set D .hid) → wMap lk f (l.map φ) (S.set D .hid) Q := by
    intro l
    induction l with
    | nil => intro Q _ q; exact ⟨lv, q⟩
    | cons a l ih => intro Q h q; exact ⟨lv, h a List.mem_cons_self _ (ih _ (fun b hb => h b (List.mem_cons_of_mem _ hb)) q)⟩
  exact key l _ (fun a ha R r => h a ha D hD R r) (q D hD)
/-- a walk through a mapped list, by what is left -/
theorem forR {α : Type} {lk : Lk} {tg : Tg} {body : Env → Sto → Dn → Prop} {D : Dn} (φ : α → W) (I : List α → Env → Sto → Prop) : ∀ {l : List α} {env : Env} {S : Sto}, I l env S → (∀ l env S, I l env S → liveS lk S) →
    (∀ a l env S (nx : Env → Sto → Prop), I (a :: l) env S → (∀ e S', I l e S' → nx e S') → wSome (bindTg tg (φ a) env) fun env' => body env' S { D with nx := nx, ct := nx, bk := D.nx }) →
    (∀ env S, I [] env S → D.nx env S) → wFor lk tg body (l.map φ) env S D
  | [], env, S, i, lv, _, fin => ⟨lv _ _ _ i, fin env S i⟩
  | a :: l, env, S, i, lv, step, fin => ⟨lv _ _ _ i, step a l env S _ i fun e S' i' => forR φ I i' lv step fin⟩
theorem set_comm {S : Sto} {p p2 : PySem.Addr} {x y : O} (h : p ≠ p2) : (S.set p x).set p2 y = (S.set p2 y).set p x := by
  funext b
  unfold Sto.set
  by_cases e : b = p2
  · subst e; simp [Ne.symm h]
  · simp [e]
theorem fresh_ne {S : Sto} {p p2 : PySem.Addr} {o : O} (h : S.set p o p2 = none) : p2 ≠ p := fun e => by rw [e, Sto.set_same] at h; cases h
theorem fresh_old {S : Sto} {p p2 : PySem.Addr} {o : O} (h : S.set p o p2 = none) : S p2 = none := by rw [Sto.set_ne (fresh_ne h)] at h; exact h
theorem wB_or {b c : Bool} {A B : Prop} (hA : b = true ∨ c = true → A) (hB : b = false → c = false → B) : wB (.bl b) A (wB (.bl c) A B) := by
  cases b
  · cases c
    · exact hB rfl rfl
    · exact hA (.inr rfl)
  · exact hA (.inl rfl)
/-! ### stacks of cells -/
theorem set_self {S : Sto} {p : PySem.Addr} {o : O} (h : S p = some o) : S.set p o = S := by
  funext b
  unfold Sto.set
  by_cases e : b = p
  · rw [if_pos e, e, h]
  · rw [if_neg e]
theorem set_set {S : Sto} {p : PySem.Addr} {o u : O} : (S.set p o).set p u = S.set p u := by funext b; unfold Sto.set; by_cases e : b = p <;> simp [e]
end Bw

/-! AL: the laws' own small functions. -/
namespace Bw
open PySem (sizeLine)
section
variable {T : Nat → Option FD} {S : Sto} {Q : VQ} {X : XQ} {n : Nat}

end 
end Bw
local macro_rules | `(tactic| walk_at "w") => `(tactic| try simp -implicitDefEqProofs only [wSs, wS, wHs, wHn, wE, wEs, wAnd, wOr, wB_t, wB_f, wSome_s, wWalk_s, entry, cF, Option.map_some, Option.bind_some, List.map_cons, List.map_nil, List.length_cons, List.length_nil, List.length_map, List.replicate, List.cons_append, List.nil_append, List.getElem?_cons_zero, List.getElem?_cons_succ, List.set_cons_zero, List.set_cons_succ, Nat.reduceSub, Nat.reduceAdd, Int.reduceAdd, Int.reduceSub, at0, at1, at2, at3, cut1, cut01, Option.isSome_some, true_and, and_true, if_true, Bool.false_eq_true, if_false, Bool.not_true, Bool.not_false, beq_self_eq_true, Bool.or_true, Bool.true_or, Bool.or_false, Bool.bne_false, Bool.bne_true, implies_true, Int.toNat_natCast, List.drop_succ_cons, List.drop_zero, List.take_succ_cons, List.take_zero, List.take_nil, List.drop_nil, dn_rt, dn_nx, dn_xc, wVar_s, wNon_non, wNon_bl, wNon_int, wNon_str, wNon_tup, wNon_rl, wNon_sc, wNot_b, wI1_i, wInts_i, wIdx_tup, wLen_tup, wSl_tup0, wSl_tup1, wSl_tup2, wSl_tup3, walkOf_tup, seqOf_tup, deref_tup, wIdx_rl, wLen_rl, wSl_rl0, wSl_rl1, wSl_rl2, wSl_rl3, walkOf_rl, seqOf_rl, deref_rl, wIdx_sc, wLen_sc, wSl_sc0, wSl_sc1, wSl_sc2, wSl_sc3, walkOf_sc, seqOf_sc, deref_sc, walkL_rl, walkL_sc, deref_non, deref_bl, deref_int, deref_str, lstOf_rl, wLen_dic, wLen_str, optI0, optI1, optS0, optS1, mkL_t, mkL_f, wEq_i, wEq_s, wEq_b, wAdd_i, wAdd_s, wAdd_t, wBin_add, wBin_sub, wBin_fdiv, wBin_mod, wBin_pow, wMeb_count, wMeb_index, wMeb_dget1, wMeb_dget2, wMeb_dcopy, recv_count, recv_index, recv_dget1, recv_dget2, recv_dcopy, dicOf_dct, kyOf_int, kyOf_str, wIdx_dct, wIn_dct, fld_obj, fld_exn, obj_obj, isCW_non, isCW_bl, isCW_int, isCW_exn, bindH_n, bindH_s, goneH_n, goneH_s, sutD_nx, sutD_rt, wOrd_s, pair0, pair_i, strs0, strs1, wBin_mul_i, wBin_mul_t, wCmp_eq, wCmp_ne, wCmp_lt, wCmp_le, wCmp_gt, wCmp_ge, wCmp_isin, wCmp_notin, wBi_len, wBi_int1, wBi_max2, wBi_max3, wBi_min2, wBi_abs, wBi_maxd, wBi_tuple1, wBi_list1, wBi_listrev, wBi_all1, wBi_any1, wBi_sum1, wBi_ord1, wBi_lenset, wBi_dict1, wBi_max1, it_seq, it_rng1, it_rng2, it_enum, it_rev, it_zipT, wipe0, wipe1, bt_nm, bt_pr, bt_prl, bi0, bi1, wCmp_is, wCmp_isnot, wIs_b, oOr_t, oOr_f, isiL0, isiL1, kys0, kys_s, kys_i, wStr_s, wMeb_join, wMeb_find, wMeb_starts, wMeb_isdig, wMeb_split, recv_join, recv_find, recv_starts, recv_isdig, recv_split, wStp_rl, wStp_sc, wStp_sc1, wStp_rl1, sz0, sz1, sz2, sz3, sz4, sz5, sz6, sz7, sz8, sz9, sz10, sz11, sz12, isi_dict_dct, isi_tuple_dct, isi_int_non, isi_bool_non, isi_str_non, isi_tuple_non, isi_list_non, isi_dict_non, isi_int_bl, isi_bool_bl, isi_str_bl, isi_tuple_bl, isi_list_bl, isi_dict_bl, isi_int_int, isi_bool_int, isi_str_int, isi_tuple_int, isi_list_int, isi_dict_int, isi_int_str, isi_bool_str, isi_str_str, isi_tuple_str, isi_list_str, isi_dict_str, isi_int_tup, isi_bool_tup, isi_str_tup, isi_tuple_tup, isi_list_tup, isi_dict_tup, isi_int_rl, isi_bool_rl, isi_str_rl, isi_tuple_rl, isi_list_rl, isi_dict_rl, isi_int_sc, isi_bool_sc, isi_str_sc, isi_tuple_sc, isi_list_sc, isi_dict_sc, k_sl1, k_sl01, k_idx0, k_len, k_non, k_isi_tuple, k_isi_int, k_isi_bool, k_isi_str, k_isi_list, k_equ])
namespace Bw
open PySem (sizeLine)
section
variable {T : Nat → Option FD} {S : Sto} {Q : VQ} {X : XQ} {n : Nat}
end
end Bw

/-! Kd2: kinds made from cells, looser, meet, join, paths (plain). -/
namespace Bw
open PySem (sizeLine)
/-! ### kinds from cells -/
/-! ### looser, join, meet -/
/-! ### paths -/
end Bw

/-! TR: programs as trees; parts, names (printed by gtr.py) -/
namespace Bw
open PySem (sizeLine)
inductive Wo where
  | whole | truth | given | name | fn | self | call | let_ | if_ | do_ | row | at_ | size | pair | one | two | as_ | look
  deriving DecidableEq
def woS : Wo → List Nat
  | .whole => [119, 104, 111, 108, 101]
  | .truth => [116, 114, 117, 116, 104]
  | .given => [103, 105, 118, 101, 110]
  | .name => [110, 97, 109, 101]
  | .fn => [102, 110]
  | .self => [115, 101, 108, 102]
  | .call => [99, 97, 108, 108]
  | .let_ => [108, 101, 116]
  | .if_ => [105, 102]
  | .do_ => [100, 111]
  | .row => [114, 111, 119]
  | .at_ => [97, 116]
  | .size => [115, 105, 122, 101]
  | .pair => [112, 97, 105, 114]
  | .one => [111, 110, 101]
  | .two => [116, 119, 111]
  | .as_ => [97, 115]
  | .look => [108, 111, 111, 107]
/-- names, signs, numbers in front -/
def nF : Wo → Nat
  | .whole => 1
  | .truth => 1
  | .given => 1
  | .name => 1
  | .fn => 1
  | .self => 2
  | .call => 0
  | .let_ => 1
  | .if_ => 0
  | .do_ => 1
  | .row => 0
  | .at_ => 0
  | .size => 0
  | .pair => 0
  | .one => 0
  | .two => 0
  | .as_ => 0
  | .look => 0
/-- kinds -/
def nK : Wo → Nat
  | .whole => 0
  | .truth => 0
  | .given => 0
  | .name => 0
  | .fn => 1
  | .self => 2
  | .call => 0
  | .let_ => 0
  | .if_ => 0
  | .do_ => 0
  | .row => 1
  | .at_ => 0
  | .size => 0
  | .pair => 0
  | .one => 0
  | .two => 0
  | .as_ => 1
  | .look => 2
def shp (w : Wo) (p : Int) (fr ks us : List W) : W :=
  match w with
  | .row => .tup (.str (woS .row) :: .int p :: (ks ++ [.tup us]))
  | w => .tup (.str (woS w) :: .int p :: (fr ++ (ks ++ us)))
theorem woS_inj : ∀ {a b : Wo}, woS a = woS b → a = b := by
  intro a b h
  cases a <;> cases b <;> first | rfl | (simp [woS] at h)
theorem woS_beq (a b : Wo) : (woS a == woS b) = decide (a = b) := by
  by_cases h : a = b
  · subst h; simp
  · rw [decide_eq_false h]
    exact beq_eq_false_iff_ne.mpr fun z => h (woS_inj z)
theorem len0 {α : Type} {l : List α} (h : l.length = 0) : l = [] := List.eq_nil_of_length_eq_zero h
theorem len1 {α : Type} {l : List α} (h : l.length = 1) : ∃ a, l = [a] := List.length_eq_one_iff.mp h
theorem len2 {α : Type} {l : List α} (h : l.length = 2) : ∃ a b, l = [a, b] := by
  match l, h with
  | [a, b], _ => exact ⟨a, b, rfl⟩
theorem cut_f2 {α : Type} {xs : List α} : cutW xs (some 2) none = xs.drop 2 := cut_from (k := 2)
theorem cut_f3 {α : Type} {xs : List α} : cutW xs (some 3) none = xs.drop 3 := cut_from (k := 3)
theorem cut_f4 {α : Type} {xs : List α} : cutW xs (some 4) none = xs.drop 4 := cut_from (k := 4)
theorem cut_f6 {α : Type} {xs : List α} : cutW xs (some 6) none = xs.drop 6 := cut_from (k := 6)
section
variable {T : Nat → Option FD} {S : Sto} {Q : VQ} {X : XQ} {n : Nat} {w : Wo} {p : Int} {fr ks us : List W}
theorem shp_idx0 : wIdx (shp w p fr ks us) (.int 0) S Q = Q (.str (woS w)) S := by
  cases w <;> (show wIdx (.tup _) _ _ _ = _; rw [wIdx_tup, at0]; rfl)
theorem shp_idx1 : wIdx (shp w p fr ks us) (.int 1) S Q = Q (.int p) S := by
  cases w <;> (show wIdx (.tup _) _ _ _ = _; rw [wIdx_tup, at1]; rfl)
theorem shp_idx2 {f : W} {r : List W} (h : w ≠ .row) (e : fr = f :: r) : wIdx (shp w p fr ks us) (.int 2) S Q = Q f S := by
  subst e
  cases w <;> first | exact absurd rfl h | (show wIdx (.tup _) _ _ _ = _; rw [wIdx_tup]; simp only [List.cons_append, at2]; rfl)
theorem shp_idx3 {f g : W} {r : List W} (h : w ≠ .row) (e : fr = f :: g :: r) : wIdx (shp w p fr ks us) (.int 3) S Q = Q g S := by
  subst e
  cases w <;> first | exact absurd rfl h | (show wIdx (.tup _) _ _ _ = _; rw [wIdx_tup]; simp only [List.cons_append, at3]; rfl)
theorem parts_shp (h : T 87 = some d87) (hf : fr.length = nF w) (hk : ks.length = nK w) (q : ∀ a, S a = none → Ret (.ref a) (S.set a (.lst us)) Q) : wF T (n + 1) 87 [shp w p fr ks us] S Q X := by
  rw [wF_eq h, d87]
  walk_at "w"
  rw [shp_idx0, wEq_s, show [114, 111, 119] = woS .row from rfl, woS_beq]
  cases w <;> ((first | (obtain ⟨f1, f2, rfl⟩ := len2 hf) | (obtain ⟨f1, rfl⟩ := len1 hf) | (obtain rfl := len0 hf)); (first | (obtain ⟨k1, k2, rfl⟩ := len2 hk) | (obtain ⟨k1, rfl⟩ := len1 hk) | (obtain rfl := len0 hk)))
  all_goals simp only [reduceCtorEq, decide_true, decide_false]
  all_goals walk_at "w"
  all_goals first | (rw [shp_idx0]; refine wTab_c rfl ?_) | skip
  all_goals simp only [shp]
  all_goals walk_at "w"
  all_goals (try simp only [cut_f2, cut_f3, cut_f4, cut_f6, at3])
  all_goals walk_at "w"
  all_goals exact q
end
/-! ### trees -/
abbrev Ns := List (List Nat)
def nmW : W → List Nat
  | .str z => z
  | _ => []
inductive Tr where
  | nd (w : Wo) (p : Int) (fr : List W) (ks : List Kd) (ps : List Tr)
mutual
def tW : Tr → W
  | .nd w p fr ks ps => shp w p fr (ks.map kW) (tWs ps)
def tWs : List Tr → List W
  | [] => []
  | t :: ts => tW t :: tWs ts
end
mutual
def dT : Tr → Nat
  | .nd _ _ _ _ ps => dTs ps + 1
def dTs : List Tr → Nat
  | [] => 0
  | t :: ts => max (dT t) (dTs ts)
end
def binds (w : Wo) : Bool := w == .name || w == .fn || w == .self || w == .let_
def okN (w : Wo) (fr : List W) (ks : List Kd) (n : Nat) : Prop := fr.length = nF w ∧ ks.length = nK w ∧ n ≤ 100 ∧ (binds w = true → fr = fr.map fun x => W.str (nmW x))
mutual
def okTr : Tr → Prop
  | .nd w _ fr ks ps => okN w fr ks ps.length ∧ okTrs ps
def okTrs : List Tr → Prop
  | [] => True
  | t :: ts => okTr t ∧ okTrs ts
end
theorem tWs_map : ∀ ts : List Tr, tWs ts = ts.map tW
  | [] => rfl
  | t :: ts => by rw [tWs, tWs_map ts]; rfl
theorem okTrs_mem : ∀ {ts : List Tr} {t : Tr}, okTrs ts → t ∈ ts → okTr t
  | x :: ts, t, h, m => by
    rcases List.mem_cons.mp m with rfl | m
    · exact h.1
    · exact okTrs_mem h.2 m
theorem dTs_mem : ∀ {ts : List Tr} {t : Tr}, t ∈ ts → dT t ≤ dTs ts
  | x :: ts, t, m => by
    rcases List.mem_cons.mp m with rfl | m
    · exact Nat.le_max_left _ _
    · exact Nat.le_trans (dTs_mem m) (Nat.le_max_right _ _)
/-! ### names -/
def within (w : Wo) (fr : List W) (i : Nat) (ns : Ns) : Ns := if w = .fn ∨ w = .self ∨ (w = .let_ ∧ i = 1) then ns ++ fr.map nmW else ns
mutual
def frees : Tr → Ns → List (Int × List Nat)
  | .nd w p fr _ ps, ns => (if w = .name ∧ nmW (fr.headD .non) ∉ ns then [(p, nmW (fr.headD .non))] else []) ++ freess w fr 0 ps ns
def freess (w : Wo) (fr : List W) : Nat → List Tr → Ns → List (Int × List Nat)
  | _, [], _ => []
  | i, t :: ts, ns => frees t (within w fr i ns) ++ freess w fr (i + 1) ts ns
end
def woI : Option Int → W
  | some i => .int i
  | none => .non
theorem inW_str {z : List Nat} : ∀ {zs : Ns}, inW (.str z) (zs.map W.str) = decide (z ∈ zs)
  | [] => by simp [inW]
  | y :: ys => by
    show (eqv (.str y) (.str z) || inW (.str z) (ys.map W.str)) = _
    rw [inW_str (zs := ys)]
    by_cases e : y = z
    · simp [eqv, e]
    · have : ¬ z = y := fun h => e h.symm
      simp [eqv, e, this]
theorem strs_flat {zs : Ns} : (zs.map W.str).all flatW = true := by
  rw [List.all_map]; exact List.all_eq_true.mpr fun _ _ => rfl
theorem wIn_rls {neg : Bool} {z : List Nat} {zs : Ns} {S : Sto} {Q : VQ} : wIn neg (.str z) (.rl (zs.map W.str)) S Q = Q (.bl (decide (z ∈ zs) != neg)) S := by
  have ok : inOk S (.str z) (zs.map W.str) = true := by unfold inOk; rw [strs_flat]; rfl
  have e : (inOk S (.str z) (zs.map W.str) = true ∧ Q (.bl (inW (.str z) (zs.map W.str) != neg)) S) = Q (.bl (decide (z ∈ zs) != neg)) S := by
    rw [ok, inW_str]; simp
  rw [← e]
  unfold wIn
  simp only [dicOf]
  cases z with
  | nil => rfl
  | cons a r => cases r <;> rfl
section
variable {T : Nat → Option FD} {S : Sto} {Q : VQ} {X : XQ} {n : Nat} {w : Wo} {p : Int} {fr ks us : List W}
theorem within_ok (h : T 139 = some d139) {i : Nat} {ns : Ns} (hf : fr.length = nF w) (hb : binds w = true → fr = fr.map fun x => W.str (nmW x)) (hl : ns.length ≤ 1000) (q : Q (.rl ((within w fr i ns).map W.str)) S) :
    wF T (n + 1) 139 [shp w p fr ks us, .int (i : Int), .rl (ns.map W.str)] S Q X := by
  rw [wF_eq h, d139]
  walk_at "w"
  have fin : ∀ l : List W, l.length ≤ 2 → l = (l.map fun x => W.str (nmW x)) → within w fr i ns = ns ++ l.map nmW → wAdd false (.rl (ns.map W.str)) (.rl l) S (dnOf Q X).rt := fun l hl2 e0 e => by
    have sz : 1002 ≤ sizeLine := by decide
    refine wAdd_l rfl rfl ⟨by simp; omega, fun a ha => ?_⟩
    have e3 : ns.map W.str ++ l = (within w fr i ns).map W.str := by
      rw [e, List.map_append, List.map_map]
      congr 1
    rw [e3]
    exact retL (Sub.set ha) Sto.set_same ha q
  rw [shp_idx0, wEq_s, show [102, 110] = woS .fn from rfl, woS_beq]
  by_cases e1 : w = .fn
  · subst e1
    obtain ⟨f1, rfl⟩ := len1 hf
    have hb := hb rfl
    rw [decide_eq_true rfl]
    walk_at "w"
    rw [shp_idx2 (by simp) rfl]
    walk_at "w"
    exact fin [f1] (by simp) hb (by simp [within])
  · rw [decide_eq_false e1]
    walk_at "w"
    rw [shp_idx0, wEq_s, show [108, 101, 116] = woS .let_ from rfl, woS_beq]
    by_cases e2 : w = .let_
    · subst e2
      obtain ⟨f1, rfl⟩ := len1 hf
      have hb := hb rfl
      rw [decide_eq_true rfl]
      walk_at "w"
      refine wB_if (fun e3 => ?_) (fun e3 => ?_)
      · have e3 : i = 1 := by
          have e4 : ((i : Int) == 1) = true := e3
          have := beq_iff_eq.mp e4
          omega
        rw [shp_idx2 (by simp) rfl]
        walk_at "w"
        exact fin [f1] (by simp) hb (by simp [within, e3])
      · have e3 : i ≠ 1 := fun z => by subst z; simp at e3
        rw [shp_idx0, wEq_s, show [115, 101, 108, 102] = woS .self from rfl, woS_beq, decide_eq_false (by simp)]
        walk_at "w"
        refine ret0 ?_
        simpa [within, e3] using q
    · rw [decide_eq_false e2]
      walk_at "w"
      rw [shp_idx0, wEq_s, show [115, 101, 108, 102] = woS .self from rfl, woS_beq]
      by_cases e3 : w = .self
      · subst e3
        obtain ⟨f1, f2, rfl⟩ := len2 hf
        have hb := hb rfl
        rw [decide_eq_true rfl]
        walk_at "w"
        rw [shp_idx2 (by simp) rfl, shp_idx3 (by simp) rfl]
        walk_at "w"
        exact fin [f1, f2] (by simp) hb (by simp [within])
      · rw [decide_eq_false e3]
        walk_at "w"
        refine ret0 ?_
        simpa [within, e1, e2, e3] using q
theorem name_test {ns : Ns} {A B : Sto → Prop} (hf : fr.length = nF w) (hb : binds w = true → fr = fr.map fun x => W.str (nmW x)) (hA : w = .name → nmW (fr.headD .non) ∉ ns → A S) (hB : ¬ (w = .name ∧ nmW (fr.headD .non) ∉ ns) → B S) :
    wB (W.bl (decide (w = Wo.name) != false)) (wIdx (shp w p fr ks us) (W.int 2) S fun x S1 => wIn true x (W.rl (ns.map W.str)) S1 fun x S1 => wB x (A S1) (B S1)) (B S) := by
  by_cases e : w = .name
  · subst e
    obtain ⟨f1, rfl⟩ := len1 hf
    have hb := hb rfl
    have hz : f1 = .str (nmW f1) := by simpa using hb
    rw [decide_eq_true rfl, shp_idx2 (by simp) rfl]
    have e1 : wB (W.bl (true != false)) = fun t f => t := rfl
    rw [e1]
    dsimp only
    rw [hz, wIn_rls]
    refine wB_if (fun e => ?_) (fun e => ?_)
    · exact hA rfl (by simpa using e)
    · exact hB fun z => z.2 (by simpa using e)
  · rw [decide_eq_false e]
    exact hB fun z => e z.1
theorem free_ok (h : T 140 = some d140) (h87 : T 87 = some d87) (h139 : T 139 = some d139) : ∀ {n : Nat} {t : Tr} {ns : Ns} {S : Sto} {Q : VQ} {X : XQ}, dT t ≤ n → okTr t → ns.length + 2 * dT t ≤ 900 → Q (woI ((frees t ns).head?.map (·.1))) S → wF T (n + 1) 140 [tW t, .rl (ns.map W.str)] S Q X := by
  intro n
  induction n with
  | zero => intro t ns S Q X hd; cases t; simp [dT] at hd
  | succ n ih =>
    intro t ns S Q X hd hok hl q
    cases t with
    | nd w p fr ks ps =>
    obtain ⟨⟨hf, hk, hn, hb⟩, hps⟩ := hok
    have hk' : (ks.map kW).length = nK w := by rw [List.length_map]; exact hk
    rw [wF_eq h, d140]
    show _ ∧ _
    walk_at "w"
    simp only [tW]
    rw [shp_idx0, wEq_s, show [110, 97, 109, 101] = woS .name from rfl, woS_beq]
    refine name_test hf hb (fun e1 e2 => ?_) (fun e1 => ?_)
    · rw [shp_idx1]
      refine ret0 ?_
      have : frees (.nd w p fr ks ps) ns = [(p, nmW (fr.headD .non))] ++ freess w fr 0 ps ns := by rw [frees, if_pos ⟨e1, e2⟩]
      rw [this] at q
      exact q
    · have ef : frees (.nd w p fr ks ps) ns = freess w fr 0 ps ns := by rw [frees, if_neg e1]; rfl
      rw [ef] at q
      refine parts_shp h87 hf hk' fun a ha => retL (Sub.set ha) Sto.set_same ha ?_
      walk_at "w"
      have hlen : (tWs ps).length = ps.length := by rw [tWs_map, List.length_map]
      refine forI (fun i e S' => S' = S ∧ ∃ x y z, e = [some (shp w p fr (ks.map kW) (tWs ps)), some (.rl (ns.map W.str)), x, y, z] ∧ (freess w fr i (ps.drop i) ns).head?.map (·.1) = (freess w fr 0 ps ns).head?.map (·.1)) 0 ⟨rfl, _, _, _, rfl, rfl⟩ (fun _ _ _ _ _ => trivial) ?_ ?_
      · rintro i w0 e S' nx hi ⟨rfl, x, y, z, rfl, hh⟩ hn2
        rw [enumW_get, tWs_map, List.getElem?_map] at hi
        cases hs : ps[i]? with
        | none => rw [hs] at hi; cases hi
        | some t =>
          rw [hs] at hi
          cases hi
          have hlt : i < ps.length := by
            rcases Nat.lt_or_ge i ps.length with h | h
            · exact h
            · rw [List.getElem?_eq_none h] at hs; cases hs
          have hm : t ∈ ps := List.mem_of_getElem? hs
          have hdr : ps.drop i = t :: ps.drop (i + 1) := by
            rw [List.drop_eq_getElem_cons hlt]
            rw [List.getElem?_eq_getElem hlt] at hs
            rw [Option.some.inj hs]
          rw [Nat.zero_add] at hh hn2
          rw [hdr, freess] at hh
          walk_at "w"
          rw [Nat.zero_add]
          have hdt : dT t ≤ dTs ps := dTs_mem hm
          have hd1 : dT (.nd w p fr ks ps) = dTs ps + 1 := rfl
          refine within_ok h139 hf hb (by omega) ?_
          have hwl : (within w fr i ns).length ≤ ns.length + 2 := by
            unfold within
            split
            · have : nF w ≤ 2 := by cases w <;> simp [nF]
              simp; omega
            · omega
          refine ih (t := t) (ns := within w fr i ns) (by omega) (okTrs_mem hps hm) (by omega) ?_
          walk_at "w"
          cases hfr : (frees t (within w fr i ns)) with
          | nil =>
            rw [hfr] at hh
            simp only [List.head?_nil, Option.map_none, woI]
            walk_at "w"
            exact hn2 _ _ ⟨rfl, _, _, _, rfl, by simpa using hh⟩
          | cons a r =>
            rw [hfr] at hh
            simp only [List.head?_cons, Option.map_some, woI]
            walk_at "w"
            refine ret0 ?_
            rw [← hh] at q
            exact q
      · rintro e S' ⟨rfl, x, y, z, rfl, hh⟩
        rw [enumW_len, hlen, Nat.zero_add, List.drop_of_length_le (Nat.le_refl _)] at hh
        refine ret0 ?_
        rw [← hh] at q
        exact q
end
end Bw

namespace Bw
open PySem (sizeLine)
section
variable {T : Nat → Option FD} {S : Sto} {Q : VQ} {X : XQ} {n : Nat}
end
end Bw

/-! PR: parting, depth (from M23, M21) -/
namespace Bw
open PySem (sizeLine)
section
variable {T : Nat → Option FD} {S : Sto} {Q : VQ} {X : XQ} {n : Nat}
end
end Bw

/-! LO: the looker -/
namespace Bw
open PySem (sizeLine)
abbrev Tbl := List (Int × Kd)
def getT : Tbl → Int → Option Kd
  | [], _ => none
  | (q, k) :: r, p => if q = p then some k else getT r p
def putT (F : Tbl) (p : Int) (k : Kd) : Tbl := if (F.any fun e => decide (e.1 = p)) = true then F.map (fun e => if e.1 = p then (e.1, k) else e) else F ++ [(p, k)]
def kyT (F : Tbl) : List Ky := F.map fun e => .inl e.1
def wsT (F : Tbl) : List W := F.map fun e => kW e.2
def dO (F : Tbl) : O := .dic (kyT F) (wsT F)
/-! names -/
/-! ### what the looker does -/
def fP : List Nat := [112, 108, 97, 99, 101]
def xDeep (p : Int) : Xn := ⟨5, [fP], [.int p]⟩
inductive RL where
  | ok (k : Kd) (F G : Tbl)
  | bad (x : Xn) (F G : Tbl)
def RL.bind (r : RL) (f : Kd → Tbl → Tbl → RL) : RL := match r with
  | .ok k F G => f k F G
  | .bad x F G => .bad x F G
def fin (p : Int) (r : RL) : RL := r.bind fun k F G => if 4 < kdep k then .bad (xDeep p) F G else .ok k (putT F p k) (putT G p k)
section
variable {pl pf pw : PySem.Addr}
/-- the store with the looker's two dicts -/
def up (pf pw : PySem.Addr) (S : Sto) (F G : Tbl) : Sto := (S.set pf (dO F)).set pw (dO G)
end
section
variable {T : Nat → Option FD} {S : Sto} {Q : VQ} {X : XQ} {n : Nat} {pl pf pw : PySem.Addr}
theorem meth1 {a : PySem.Addr} {c : Nat} {kk : List (List Nat)} {ws0 : List W} {tb : List (Nat × Nat)} {m : List Nat} {f : Nat} {P : Nat → Prop} (h : S a = some (.ins c kk ws0)) (hf : lookF kk ws0 m = none) (ht : tb.lookup c = some f) :
    (wSome (objOf S (.ref a)) fun p => lookF p.2.1 p.2.2 m = none ∧ wSome (tb.lookup p.1) P) = P f := by
  rw [obj_ref h]
  simp only [wSome, hf, ht, true_and]
theorem Sub.setO {S : Sto} {p : PySem.Addr} {o : O} (h : S p = none) (ho : o ≠ .hid) : Sub S (S.set p o) := by
  refine ⟨fun a u e => ?_, fun a e => ?_⟩
  · have n : a ≠ p := fun z => by rw [z, h] at e; cases e
    rw [Sto.set_ne n]; exact e
  · by_cases n : a = p
    · subst n
      rw [Sto.set_same] at e
      cases e
      exact absurd rfl ho
    · rw [Sto.set_ne n] at e; exact e
/-! ### by its word -/
def kp (k : Kd) (i : Nat) : Kd := (parts k).getD i .unt
def nm0 (fr : List W) : List Nat := nmW (fr.headD .non)
def k0 (ks : List Kd) : Kd := ks.headD .unt
def k1 (ks : List Kd) : Kd := ks.getD 1 .unt
/-! what is known of what is found -/
end
end Bw

/-! PL0: the plain run, as a function -/
namespace Bw
open PySem (sizeLine)
inductive PV where
  | num (i : Int) | tru (b : Bool) | clo (t : Tr) (e : List (List Nat × PV)) | row (vs : List PV) | pr (vs : List PV)
abbrev PEn := List (List Nat × PV)
def fTree : List Nat := [116, 114, 101, 101]
def fNames : List Nat := [110, 97, 109, 101, 115]
def fThings : List Nat := [116, 104, 105, 110, 103, 115]
def fLeft : List Nat := [108, 101, 102, 116]
def fNumbers : List Nat := [110, 117, 109, 98, 101, 114, 115]
def fTog : List Nat := [116, 111, 103, 101, 116, 104, 101, 114]
def fNotes : List Nat := [110, 111, 116, 101, 115]
def fEnding : List Nat := [101, 110, 100, 105, 110, 103]
mutual
def pvW : PV → W
  | .num i => .int i
  | .tru b => .bl b
  | .clo t e => .obj 12 [fTree, fNames] [tW t, .dct (e.map fun p => .inr p.1) (pvVs e)]
  | .row vs => .obj 13 [fThings] [.rl (pvWs vs)]
  | .pr vs => .obj 14 [fThings] [.rl (pvWs vs)]
def pvWs : List PV → List W
  | [] => []
  | v :: vs => pvW v :: pvWs vs
def pvVs : List (List Nat × PV) → List W
  | [] => []
  | p :: e => pvW p.2 :: pvVs e
end
theorem pvWs_map : ∀ vs : List PV, pvWs vs = vs.map pvW
  | [] => rfl
  | v :: vs => by rw [pvWs, pvWs_map vs]; rfl
theorem pvVs_map : ∀ e : PEn, pvVs e = e.map fun p => pvW p.2
  | [] => rfl
  | p :: e => by rw [pvVs, pvVs_map e]; rfl
def kyE (e : PEn) : List Ky := e.map fun p => .inr p.1
def wsE (e : PEn) : List W := e.map fun p => pvW p.2
/-- names in a dict -/
def enW (e : PEn) : W := .dct (kyE e) (wsE e)
def getE : PEn → List Nat → Option PV
  | [], _ => none
  | p :: e, z => if p.1 = z then some p.2 else getE e z
def putE (e : PEn) (z : List Nat) (v : PV) : PEn := if (e.any fun p => decide (p.1 = z)) = true then e.map (fun p => if p.1 = z then (p.1, v) else p) else e ++ [(z, v)]
theorem look_E : ∀ {e : PEn} {z : List Nat}, lookD (kyE e) (wsE e) (.inr z) = (getE e z).map pvW
  | [], _ => rfl
  | p :: e, z => by
    show (if (Sum.inr p.1 : Ky) = .inr z then some (pvW p.2) else lookD (kyE e) (wsE e) (.inr z)) = _
    unfold getE
    by_cases h : p.1 = z
    · rw [if_pos (by rw [h]), if_pos h]; rfl
    · rw [if_neg (fun q => h (by cases q; rfl)), if_neg h, look_E]
theorem put_E {e : PEn} {z : List Nat} {v : PV} : putD (kyE e) (wsE e) (.inr z) (pvW v) = (kyE (putE e z v), wsE (putE e z v)) := by
  have ea : ((kyE e).any fun k => decide (k = (.inr z : Ky))) = e.any fun p => decide (p.1 = z) := by
    unfold kyE
    rw [List.any_map]
    congr 1
    funext p
    simp
  unfold putD putE
  rw [ea]
  by_cases h : (e.any fun p => decide (p.1 = z)) = true
  · rw [if_pos h, if_pos h]
    have h1 : kyE (e.map fun p => if p.1 = z then (p.1, v) else p) = kyE e := by
      unfold kyE
      rw [List.map_map]
      refine List.map_congr_left fun p _ => ?_
      show (Sum.inr (if p.1 = z then (p.1, v) else p).1 : Ky) = _
      split <;> rfl
    have h2 : repD (kyE e) (wsE e) (.inr z) (pvW v) = wsE (e.map fun p => if p.1 = z then (p.1, v) else p) := by
      clear h h1 ea
      induction e with
      | nil => rfl
      | cons p e ih =>
        show (if (Sum.inr p.1 : Ky) = .inr z then pvW v else pvW p.2) :: repD (kyE e) (wsE e) (.inr z) (pvW v) = _
        rw [ih]
        show _ = pvW (if p.1 = z then (p.1, v) else p).2 :: wsE (e.map fun p => if p.1 = z then (p.1, v) else p)
        congr 1
        by_cases q : p.1 = z
        · rw [if_pos q, if_pos (by rw [q])]
        · rw [if_neg q, if_neg (fun s => q (by cases s; rfl))]
    rw [h1, h2]
  · rw [if_neg h, if_neg h]
    unfold kyE wsE
    simp
theorem putE_len {e : PEn} {z : List Nat} {v : PV} : (putE e z v).length ≤ e.length + 1 := by
  unfold putE
  split
  · rw [List.length_map]; omega
  · simp
theorem getE_put {e : PEn} {z y : List Nat} {v : PV} : getE (putE e z v) y = if y = z then some v else getE e y := by
  unfold putE
  by_cases h : (e.any fun p => decide (p.1 = z)) = true
  · rw [if_pos h]
    induction e with
    | nil => simp at h
    | cons p e ih =>
      rw [List.map_cons]
      unfold getE
      by_cases q : p.1 = z
      · rw [if_pos q]
        by_cases s : y = z
        · subst s; rw [if_pos q, if_pos rfl]
        · rw [if_neg s, if_neg (fun t => s (t.symm.trans q)), if_neg (fun t => s (t.symm.trans q))]
          clear ih h
          induction e with
          | nil => rfl
          | cons a e ih2 =>
            rw [List.map_cons]
            unfold getE
            by_cases u : a.1 = z
            · rw [if_pos u, if_neg (fun t => s (t.symm.trans u)), if_neg (fun t => s (t.symm.trans u)), ih2]
            · rw [if_neg u, ih2]
      · rw [if_neg q]
        have h2 : (e.any fun p => decide (p.1 = z)) = true := by simpa [q] using h
        rw [ih h2]
        by_cases s : p.1 = y
        · rw [if_pos s, if_pos s, if_neg (fun t => q (s.trans t))]
        · rw [if_neg s, if_neg s]
  · rw [if_neg h]
    induction e with
    | nil => show (if z = y then some v else none) = if y = z then some v else none; by_cases s : z = y <;> simp [s, eq_comm]
    | cons p e ih =>
      have q : ¬ p.1 = z := fun t => h (by simp [t])
      have h2 : ¬ (e.any fun p => decide (p.1 = z)) = true := fun t => h (by rw [List.any_cons, t]; simp)
      show getE (p :: (e ++ [(z, v)])) y = _
      unfold getE
      by_cases s : p.1 = y
      · rw [if_pos s, if_pos s, if_neg (fun t => q (s.trans t))]
      · rw [if_neg s, if_neg s, ih h2]
/-! ### the run -/
inductive PR where
  | ok (v : PV) (c : Int) | stop (w : W) (c : Int) | out
def big : Int := 10000000000000000000000000000000000000000
def smal (i : Int) : Bool := decide (-big < i) && decide (i < big)
def pvH : PV → List Nat
  | .tru _ => [116, 114, 117, 116, 104]
  | .num _ => [119, 104, 111, 108, 101]
  | .clo _ _ => [116, 111]
  | .pr _ => [112, 97, 105, 114]
  | .row _ => [114, 111, 119]
def needT (w : Wo) (i : Nat) : Option (List Nat) :=
  match w, i with
  | .call, 0 => some [116, 111]
  | .do_, 0 => some [119, 104, 111, 108, 101]
  | .do_, 1 => some [119, 104, 111, 108, 101]
  | .at_, 0 => some [114, 111, 119]
  | .at_, 1 => some [119, 104, 111, 108, 101]
  | .size, 0 => some [114, 111, 119]
  | .one, 0 => some [112, 97, 105, 114]
  | .two, 0 => some [112, 97, 105, 114]
  | .if_, 0 => some [116, 114, 117, 116, 104]
  | _, _ => none
def wrongW (p : Int) : W := .tup [.str [119, 114, 111, 110, 103], .int p]
def spentW : W := .tup [.str [115, 112, 101, 110, 116]]
def faultW (p : Int) (z : List Nat) : W := .tup [.str [102, 97, 117, 108, 116], .int p, .str z]
def greatZ : List Nat := [103, 114, 101, 97, 116]
def noneZ : List Nat := [110, 111, 110, 101]
/-- what is made of two numbers -/
def reckP (z : List Nat) (i j : Int) (p : Int) (c : Int) : PR :=
  if z = [60] then .ok (.tru (decide (i < j))) c
  else if z = [61] then .ok (.tru (i == j)) c
  else
    let f := if z = [43] then i + j else if z = [45] then i - j else i * j
    if smal f = true then .ok (.num f) c else .stop (faultW p greatZ) c
def deedP (w : Wo) (p : Int) (fr : List W) (vs : List PV) (c : Int) : PR :=
  match w, fr, vs with
  | .do_, [.str z], [.num i, .num j] => if (smal i && smal j) = true then reckP z i j p c else .out
  | .row, _, vs => .ok (.row vs) c
  | .pair, _, [a, b] => .ok (.pr [a, b]) c
  | .at_, _, [.row us, .num i] => if 0 ≤ i ∧ i < (us.length : Int) then (match us[i.toNat]? with | some v => .ok v c | none => .out) else .stop (faultW p noneZ) c
  | .size, _, [.row us] => .ok (.num us.length) c
  | .one, _, [.pr [a, _]] => .ok a c
  | .two, _, [.pr [_, b]] => .ok b c
  | .as_, _, [a] => .ok a c
  | _, _, _ => .out
def withinP (t : Tr) (e : PEn) (own arg : PV) : PEn :=
  match t with
  | .nd .self _ [.str f, .str x] _ _ => putE (putE e f own) x arg
  | .nd _ _ [.str x] _ _ => putE e x arg
  | _ => e
def bodyP : Tr → Option Tr
  | .nd .fn _ [.str _] _ [b] => some b
  | .nd .self _ [.str _, .str _] _ [b] => some b
  | _ => none
def plP : Tr → Int
  | .nd _ p _ _ _ => p
/-- a part's value held against what its node needs -/
def heldPl (w : Wo) (i : Nat) (t : Tr) (v : PV) (c : Int) (k : PR) : PR :=
  match needT w i with
  | some h => if pvH v = h then k else .stop (wrongW (plP t)) c
  | none => k
def partsP (f : Tr → Int → PR) (w : Wo) : List Tr → List PV → Int → (List PV → Int → PR) → PR
  | [], vs, c, k => k vs c
  | t :: ts, vs, c, k => match f t c with
    | .ok v c' => heldPl w vs.length t v c' (partsP f w ts (vs ++ [v]) c' k)
    | .stop x c' => .stop x c'
    | .out => .out
def followP (nums : List Int) : Nat → Tr → PEn → Int → PR
  | 0, _, _, _ => .out
  | n + 1, .nd w p fr ks ps, e, c =>
    match w, fr, ps with
    | .whole, [.int i], [] => .ok (.num i) c
    | .truth, [.bl b], [] => .ok (.tru b) c
    | .given, [.int k], [] => if 0 ≤ k then .ok (.num (nums.getD k.toNat 0)) c else .out
    | .name, [.str z], [] => match getE e z with
      | some v => .ok v c
      | none => .out
    | .fn, _, _ => .ok (.clo (.nd w p fr ks ps) e) c
    | .self, _, _ => .ok (.clo (.nd w p fr ks ps) e) c
    | .let_, [.str x], [a, b] => match followP nums n a e c with
      | .ok v c' => followP nums n b (putE e x v) c'
      | .stop y c' => .stop y c'
      | .out => .out
    | .if_, _, [a, b, d] => match followP nums n a e c with
      | .ok (.tru true) c' => followP nums n b e c'
      | .ok (.tru false) c' => followP nums n d e c'
      | .ok _ c' => .stop (wrongW (plP a)) c'
      | .stop y c' => .stop y c'
      | .out => .out
    | .call, _, [a, b] => partsP (fun t c => followP nums n t e c) .call [a, b] [] c fun vs c' =>
      match vs with
      | [.clo t e', v] => if c' ≤ 0 then .stop spentW c' else match bodyP t with
        | some b => followP nums n b (withinP t e' (.clo t e') v) (c' - 1)
        | none => .out
      | _ => .out
    | .let_, _, _ => .out
    | .if_, _, _ => .out
    | .whole, _, _ => .out
    | .truth, _, _ => .out
    | .given, _, _ => .out
    | .name, _, _ => .out
    | .look, _, _ => .out
    | .call, _, _ => .out
    | _, _, _ => partsP (fun t c => followP nums n t e c) w ps [] c fun vs c' => deedP w p fr vs c'
/-! ### the text -/
def dotsZ : List Nat := [46, 46]
def textP : Nat → Int → PV → Option (List Nat)
  | 0, _, _ => none
  | n + 1, l, v => if l > 3 then some dotsZ else match v with
    | .num i => if smal i = true then some (decW i) else none
    | .tru b => some (if b = true then [121, 101, 115] else [110, 111])
    | .clo _ _ => some [102, 110]
    | .row vs => (vs.mapM (textP n (l + 1))).bind fun zs => if (zs.map (·.length)).sum + zs.length ≤ 1000000 then some ([91] ++ joinZ [32] zs ++ [93]) else none
    | .pr vs => (vs.mapM (textP n (l + 1))).bind fun zs => if (zs.map (·.length)).sum + zs.length ≤ 1000000 then some ([60] ++ joinZ [32] zs ++ [62]) else none
/-- the answer -/
def plainP (nums : List Int) (n : Nat) (t : Tr) (c : Int) : Option W :=
  match followP nums n t [] c with
  | .ok v _ => (textP 6 1 v).map fun z => .tup [.str [100, 111, 110, 101], .str z]
  | .stop w _ => some w
  | .out => none
end Bw

/-! PL1: the small defs of the plain run -/
namespace Bw
open PySem (sizeLine)
def GoO (pn pm : PySem.Addr) (c : Int) : O := .ins 11 [fNumbers, fLeft, fTog, fNotes] [.ref pn, .int c, .bl false, .ref pm]
def xStop (w : W) : Xn := ⟨10, [fEnding], [w]⟩
section
variable {T : Nat → Option FD} {S : Sto} {Q : VQ} {X : XQ} {n : Nat} {pg pn pm : PySem.Addr}
theorem isCo {yes no : List Nat} {c : Nat} {ks : List (List Nat)} {ws : List W} : isCW yes no S (.obj c ks ws) = if c ∈ yes then some true else if c ∈ no then some false else none := rfl
theorem isio {t : Ty} {c : Nat} {ks : List (List Nat)} {ws : List W} : isiW t S (.obj c ks ws) = some false := by cases t <;> rfl
theorem objo {c : Nat} {ks : List (List Nat)} {ws : List W} : objOf S (.obj c ks ws) = some (c, ks, ws) := rfl
theorem fldo {c : Nat} {ks : List (List Nat)} {ws : List W} {f : List Nat} {w : W} {cs : List Nat} (h : lookF ks ws f = some w) : wFld cs (.obj c ks ws) f S Q = Q w S := by
  unfold wFld
  show wSome (some (c, ks, ws)) _ = _
  simp only [wSome, h]

end 
end Bw
local macro_rules | `(tactic| walk_at "w") => `(tactic| try simp -implicitDefEqProofs only [wSs, wS, wHs, wHn, wE, wEs, wAnd, wOr, wB_t, wB_f, wSome_s, wWalk_s, entry, cF, Option.map_some, Option.bind_some, List.map_cons, List.map_nil, List.length_cons, List.length_nil, List.length_map, List.replicate, List.cons_append, List.nil_append, List.getElem?_cons_zero, List.getElem?_cons_succ, List.set_cons_zero, List.set_cons_succ, Nat.reduceSub, Nat.reduceAdd, Int.reduceAdd, Int.reduceSub, at0, at1, at2, at3, cut1, cut01, Option.isSome_some, true_and, and_true, if_true, Bool.false_eq_true, if_false, Bool.not_true, Bool.not_false, beq_self_eq_true, Bool.or_true, Bool.true_or, Bool.or_false, Bool.bne_false, Bool.bne_true, implies_true, Int.toNat_natCast, List.drop_succ_cons, List.drop_zero, List.take_succ_cons, List.take_zero, List.take_nil, List.drop_nil, dn_rt, dn_nx, dn_xc, wVar_s, wNon_non, wNon_bl, wNon_int, wNon_str, wNon_tup, wNon_rl, wNon_sc, wNot_b, wI1_i, wInts_i, wIdx_tup, wLen_tup, wSl_tup0, wSl_tup1, wSl_tup2, wSl_tup3, walkOf_tup, seqOf_tup, deref_tup, wIdx_rl, wLen_rl, wSl_rl0, wSl_rl1, wSl_rl2, wSl_rl3, walkOf_rl, seqOf_rl, deref_rl, wIdx_sc, wLen_sc, wSl_sc0, wSl_sc1, wSl_sc2, wSl_sc3, walkOf_sc, seqOf_sc, deref_sc, walkL_rl, walkL_sc, deref_non, deref_bl, deref_int, deref_str, lstOf_rl, wLen_dic, wLen_str, optI0, optI1, optS0, optS1, mkL_t, mkL_f, wEq_i, wEq_s, wEq_b, wAdd_i, wAdd_s, wAdd_t, wBin_add, wBin_sub, wBin_fdiv, wBin_mod, wBin_pow, wMeb_count, wMeb_index, wMeb_dget1, wMeb_dget2, wMeb_dcopy, recv_count, recv_index, recv_dget1, recv_dget2, recv_dcopy, dicOf_dct, kyOf_int, kyOf_str, wIdx_dct, wIn_dct, fld_obj, fld_exn, obj_obj, isCW_non, isCW_bl, isCW_int, isCW_exn, bindH_n, bindH_s, goneH_n, goneH_s, sutD_nx, sutD_rt, wOrd_s, pair0, pair_i, strs0, strs1, wBin_mul_i, wBin_mul_t, wCmp_eq, wCmp_ne, wCmp_lt, wCmp_le, wCmp_gt, wCmp_ge, wCmp_isin, wCmp_notin, wBi_len, wBi_int1, wBi_max2, wBi_max3, wBi_min2, wBi_abs, wBi_maxd, wBi_tuple1, wBi_list1, wBi_listrev, wBi_all1, wBi_any1, wBi_sum1, wBi_ord1, wBi_lenset, wBi_dict1, wBi_max1, it_seq, it_rng1, it_rng2, it_enum, it_rev, it_zipT, wipe0, wipe1, bt_nm, bt_pr, bt_prl, bi0, bi1, wCmp_is, wCmp_isnot, wIs_b, oOr_t, oOr_f, isiL0, isiL1, kys0, kys_s, kys_i, wStr_s, wMeb_join, wMeb_find, wMeb_starts, wMeb_isdig, wMeb_split, recv_join, recv_find, recv_starts, recv_isdig, recv_split, wStp_rl, wStp_sc, wStp_sc1, wStp_rl1, sz0, sz1, sz2, sz3, sz4, sz5, sz6, sz7, sz8, sz9, sz10, sz11, sz12, isi_dict_dct, isi_tuple_dct, isi_int_non, isi_bool_non, isi_str_non, isi_tuple_non, isi_list_non, isi_dict_non, isi_int_bl, isi_bool_bl, isi_str_bl, isi_tuple_bl, isi_list_bl, isi_dict_bl, isi_int_int, isi_bool_int, isi_str_int, isi_tuple_int, isi_list_int, isi_dict_int, isi_int_str, isi_bool_str, isi_str_str, isi_tuple_str, isi_list_str, isi_dict_str, isi_int_tup, isi_bool_tup, isi_str_tup, isi_tuple_tup, isi_list_tup, isi_dict_tup, isi_int_rl, isi_bool_rl, isi_str_rl, isi_tuple_rl, isi_list_rl, isi_dict_rl, isi_int_sc, isi_bool_sc, isi_str_sc, isi_tuple_sc, isi_list_sc, isi_dict_sc, k_sl1, k_sl01, k_idx0, k_len, k_non, k_isi_tuple, k_isi_int, k_isi_bool, k_isi_str, k_isi_list, k_equ, List.cons_beq_cons, Nat.reduceBEq, Bool.false_and, Bool.true_and, List.beq_nil_eq, List.nil_beq_eq, List.isEmpty_cons, List.isEmpty_nil, Int.reduceBEq, isio, isCo, objo, Option.isSome_some, Option.isSome_none])
namespace Bw
open PySem (sizeLine)
section
variable {T : Nat → Option FD} {S : Sto} {Q : VQ} {X : XQ} {n : Nat} {pg pn pm : PySem.Addr}
theorem head_pl (h : T 294 = some d294) {v : PV} (q : Q (.str (pvH v)) S) : wF T (n + 1) 294 [pvW v] S Q X := by
  rw [wF_eq h, d294]
  cases v with
  | num i => simp only [pvW]; walk_at "w"; exact ret0 q
  | tru i => simp only [pvW]; walk_at "w"; exact ret0 q
  | clo t e =>
    simp only [pvW]
    iterate 4 (walk_at "w"; try simp (decide := true) only [↓reduceIte])
    exact ret0 q
  | row vs =>
    simp only [pvW]
    iterate 4 (walk_at "w"; try simp (decide := true) only [↓reduceIte])
    exact ret0 q
  | pr vs =>
    simp only [pvW]
    iterate 4 (walk_at "w"; try simp (decide := true) only [↓reduceIte])
    exact ret0 q
theorem smal_ge {i : Int} : decide (10 ^ Int.toNat 40 ≤ if i < 0 then -i else i) = !smal i := by
  have e : (10 : Int) ^ Int.toNat 40 = big := by decide +kernel
  rw [e]
  unfold smal
  have hb : (0 : Int) < big := by decide
  by_cases h : i < 0
  · rw [if_pos h]
    by_cases h2 : -big < i
    · rw [decide_eq_true h2, decide_eq_true (show i < big by omega), decide_eq_false (by omega)]; rfl
    · rw [decide_eq_false h2, decide_eq_true (show big ≤ -i by omega)]; rfl
  · rw [if_neg h]
    rw [decide_eq_true (show -big < i by omega), Bool.true_and]
    by_cases h2 : i < big
    · rw [decide_eq_true h2, decide_eq_false (by omega)]; rfl
    · rw [decide_eq_false h2, decide_eq_true (show big ≤ i by omega)]; rfl
theorem smal_abs {i : Int} (h : smal i = true) : i.natAbs < 2 ^ 133 := by
  unfold smal at h
  simp only [Bool.and_eq_true, decide_eq_true_eq] at h
  have : big < 2 ^ 133 := by decide +kernel
  omega
theorem reck_pl (h : T 295 = some d295) {z : List Nat} {i j p c : Int} (hi : smal i = true) (hj : smal j = true) (q : match reckP z i j p c with | .ok v _ => Q (pvW v) S | .stop w _ => X (xStop w) S | .out => False) : wF T (n + 1) 295 [.str z, .int i, .int j, .int p] S Q X := by
  rw [wF_eq h, d295]
  unfold reckP at q
  walk_at "w"
  have fin : ∀ f : Int, (match (if smal f = true then PR.ok (.num f) c else .stop (faultW p greatZ) c) with | .ok v _ => Q (pvW v) S | .stop w _ => X (xStop w) S | .out => False) → wB (W.bl (decide (10 ^ Int.toNat 40 ≤ if f < 0 then -f else f)))
      (1 ≤ 20 ∧ RetX { c := 10, ks := [[101, 110, 100, 105, 110, 103]].reverse, ws := if [[101, 110, 100, 105, 110, 103]] = [] then [] else [W.tup [W.str [102, 97, 117, 108, 116], W.int p, W.str [103, 114, 101, 97, 116]]].reverse } S X)
      (Ret (W.int f) S Q) := fun f q => by
    rw [smal_ge]
    cases hs : smal f with
    | true => rw [hs, if_pos rfl] at q; exact ret0 q
    | false => rw [hs, if_neg (by decide)] at q; exact ⟨by decide, retX0 q⟩
  by_cases h1 : z = [60]
  · subst h1; rw [if_pos rfl] at q; walk_at "w"; exact ret0 q
  rw [if_neg h1] at q
  by_cases h2 : z = [61]
  · subst h2; rw [if_pos rfl] at q; walk_at "w"; exact ret0 q
  rw [if_neg h2] at q
  rw [show (z == [60]) = false by simpa using h1, show (z == [61]) = false by simpa using h2]
  walk_at "w"
  by_cases h3 : z = [43]
  · subst h3; rw [if_pos rfl] at q; walk_at "w"
    exact ⟨⟨by decide, by decide, by decide⟩, fin _ q⟩
  rw [if_neg h3] at q
  rw [show (z == [43]) = false by simpa using h3]
  walk_at "w"
  by_cases h4 : z = [45]
  · subst h4; rw [if_pos rfl] at q; walk_at "w"
    exact ⟨⟨by decide, by decide, by decide⟩, fin _ q⟩
  rw [if_neg h4] at q
  rw [show (z == [45]) = false by simpa using h4]
  walk_at "w"
  exact ⟨.inr (L2.wide_mul (smal_abs hi) (smal_abs hj) (by decide) (by decide) (by decide)), ⟨by decide, by decide, by decide⟩, fin _ q⟩
theorem thing_pl (h : T 296 = some d296) {us : List PV} {i p : Int} (q : if 0 ≤ i ∧ i < (us.length : Int) then (match us[i.toNat]? with | some v => Q (pvW v) S | none => False) else X (xStop (faultW p noneZ)) S) : wF T (n + 1) 296 [.rl (us.map pvW), .int i, .int p] S Q X := by
  rw [wF_eq h, d296]
  walk_at "w"
  by_cases h0 : 0 ≤ i
  · rw [decide_eq_true h0]
    walk_at "w"
    by_cases h1 : i < (us.length : Int)
    · rw [if_pos ⟨h0, h1⟩] at q
      rw [decide_eq_true h1]
      walk_at "w"
      unfold atW ixW
      rw [List.length_map, if_pos h0, if_pos h1]
      show wSome (us.map pvW)[i.toNat]? _
      rw [List.getElem?_map]
      cases e : us[i.toNat]? with
      | none => rw [e] at q; exact q.elim
      | some v => rw [e] at q; exact ret0 q
    · rw [if_neg (fun z => h1 z.2)] at q
      rw [decide_eq_false h1]
      walk_at "w"
      exact ⟨by decide, retX0 q⟩
  · rw [if_neg (fun z => h0 z.1)] at q
    rw [decide_eq_false h0]
    walk_at "w"
    exact ⟨by decide, retX0 q⟩
theorem fldG {f : List Nat} {w : W} {c : Int} (hg : S pg = some (GoO pn pm c)) (h : lookF [fNumbers, fLeft, fTog, fNotes] [.ref pn, .int c, .bl false, .ref pm] f = some w) {cs : List Nat} : wFld cs (.ref pg) f S Q = Q w S := by
  unfold wFld
  rw [fld_ref (show S pg = some (.ins 11 _ _) from hg)]
  simp only [wSome, h]
theorem number_pl (h : T 284 = some d284) {nums : List Int} {k c : Int} (hk : 0 ≤ k) (hg : S pg = some (GoO pn pm c)) (hn : S pn = some (.lst (nums.map W.int))) (q : Q (.int (nums.getD k.toNat 0)) S) : wF T (n + 1) 284 [.ref pg, .int k] S Q X := by
  rw [wF_eq h, d284]
  walk_at "w"
  rw [fldG hg (w := .ref pn) rfl, wLen_ref hn]
  walk_at "w"
  rw [fldG hg (w := .ref pn) rfl]
  by_cases h1 : k < (nums.length : Int)
  · rw [decide_eq_true h1]
    walk_at "w"
    rw [wIdx_ref hn]
    unfold atW ixW
    rw [List.length_map, if_pos hk, if_pos h1]
    show wSome (nums.map W.int)[k.toNat]? _
    rw [List.getElem?_map]
    have e : nums[k.toNat]? = some (nums.getD k.toNat 0) := by
      rw [List.getD_eq_getElem?_getD, List.getElem?_eq_getElem (by omega)]; rfl
    rw [e]
    exact ret0 q
  · rw [decide_eq_false h1]
    walk_at "w"
    have e : nums.getD k.toNat 0 = 0 := by
      rw [List.getD_eq_getElem?_getD, List.getElem?_eq_none (by omega)]; rfl
    rw [e] at q
    exact ret0 q
theorem spend_pl (h : T 283 = some d283) {c : Int} (hg : S pg = some (GoO pn pm c)) (q : if c ≤ 0 then X (xStop spentW) S else Q .non (S.set pg (GoO pn pm (c - 1)))) : wF T (n + 1) 283 [.ref pg] S Q X := by
  rw [wF_eq h, d283]
  walk_at "w"
  rw [fldG hg (w := .int c) rfl]
  walk_at "w"
  rw [fldG hg (w := .int c) rfl]
  by_cases h1 : c ≤ 0
  · rw [if_pos h1] at q
    rw [decide_eq_true h1]
    walk_at "w"
    exact ⟨by decide, retX0 q⟩
  · rw [if_neg h1] at q
    rw [decide_eq_false h1]
    walk_at "w"
    unfold wFldS
    simp only [show S pg = some (.ins 11 _ _) from hg]
    exact ⟨by decide, by simp, retN0 q⟩
theorem body_cases {t b : Tr} (hb : bodyP t = some b) : (∃ p x ks, t = .nd .fn p [.str x] ks [b]) ∨ ∃ p f x ks, t = .nd .self p [.str f, .str x] ks [b] := by
  unfold bodyP at hb
  split at hb
  · cases hb; exact .inl ⟨_, _, _, rfl⟩
  · cases hb; exact .inr ⟨_, _, _, _, rfl⟩
  · cases hb
theorem node_pl (h : T 288 = some d288) {t b : Tr} {e : PEn} (hb : bodyP t = some b) (ho : okTr t) (q : Q (tW b) S) : wF T (n + 1) 288 [pvW (.clo t e)] S Q X := by
  rw [wF_eq h, d288]
  simp only [pvW]
  walk_at "w"
  rw [fldo rfl]
  rcases body_cases hb with ⟨p, x, ks, rfl⟩ | ⟨p, f, x, ks, rfl⟩
  · obtain ⟨k, rfl⟩ := len1 ho.1.2.1
    exact ret0 q
  · obtain ⟨k, l, rfl⟩ := len2 ho.1.2.1
    exact ret0 q
theorem within_pl (h : T 287 = some d287) {t b : Tr} {e : PEn} {own v : PV} (hb : bodyP t = some b) (ho : okTr t) (hl : e.length ≤ 1000) (q : Q (enW (withinP t e own v)) S) : wF T (n + 1) 287 [pvW (.clo t e), pvW own, pvW v] S Q X := by
  have sz : 1000000 ≤ sizeLine := by decide
  rw [wF_eq h, d287]
  rw [show pvW (.clo t e) = .obj 12 [fTree, fNames] [tW t, enW e] by rw [pvW, pvVs_map]; rfl]
  walk_at "w"
  rw [fldo rfl]
  refine ⟨rfl, ?_⟩
  show wSome (some (kyE e, wsE e)) _
  walk_at "w"
  intro a ha
  rw [fldo rfl]
  have wl : (wsE e).length = e.length := List.length_map _
  have wl2 : ∀ z v, (wsE (putE e z v)).length ≤ e.length + 1 := fun z v => by
    show ((putE e z v).map _).length ≤ _
    rw [List.length_map]; exact putE_len
  rcases body_cases hb with ⟨p, x, ks, rfl⟩ | ⟨p, f, x, ks, rfl⟩
  · obtain ⟨k, rfl⟩ := len1 ho.1.2.1
    rw [tW, shp_idx0, wEq_s]
    rw [show (woS Wo.fn == [115, 101, 108, 102]) = false from rfl]
    walk_at "w"
    rw [fldo rfl, shp_idx2 (by simp) rfl, wSetD_ref Sto.set_same]
    refine ⟨by omega, ?_⟩
    rw [set_set, put_E]
    exact retD (Sub.setO ha (fun z => by cases z)) Sto.set_same ha q
  · obtain ⟨k, l, rfl⟩ := len2 ho.1.2.1
    rw [tW, shp_idx0, wEq_s]
    rw [show (woS Wo.self == [115, 101, 108, 102]) = true from rfl]
    walk_at "w"
    rw [fldo rfl, shp_idx2 (by simp) rfl, wSetD_ref Sto.set_same]
    refine ⟨by omega, ?_⟩
    rw [set_set, put_E, fldo rfl, shp_idx3 (by simp) rfl, wSetD_ref Sto.set_same]
    have := wl2 f own
    refine ⟨by show (wsE (putE e f own)).length < sizeLine; omega, ?_⟩
    rw [set_set, put_E]
    exact retD (Sub.setO ha (fun z => by cases z)) Sto.set_same ha q
theorem single_pl (h : T 297 = some d297) (h294 : T 294 = some d294) {v : PV} (hs : match v with | .row _ => False | .pr _ => False | .num i => smal i = true | _ => True) (q : Q (.str (match v with | .num i => decW i | .tru b => (if b = true then [121, 101, 115] else [110, 111]) | _ => [102, 110])) S) : wF T (n + 2) 297 [pvW v] S Q X := by
  rw [wF_eq h, d297]
  walk_at "w"
  refine head_pl h294 ?_
  walk_at "w"
  cases v with
  | row vs => exact hs.elim
  | pr vs => exact hs.elim
  | num i =>
    simp only [pvH, pvW]
    walk_at "w"
    refine ⟨?_, ret0 q⟩
    have := smal_abs hs
    have h2 := PySem.Flt.log2_lt_of (by decide) this
    omega
  | tru b =>
    simp only [pvH, pvW]
    walk_at "w"
    cases b <;> exact ret0 q
  | clo t e =>
    simp only [pvH]
    walk_at "w"
    exact ret0 q
end
end Bw

/-! PL2: leaves, deeds, needs of the plain run -/
namespace Bw
open PySem (sizeLine)
/-! ### values well made -/
mutual
def GV (D : Nat) : PV → Prop
  | .num _ => True
  | .tru _ => True
  | .clo t e => okTr t ∧ e.length + 2 * dT t ≤ 2 * D ∧ GE D e
  | .row vs => GVs D vs
  | .pr vs => GVs D vs
def GVs (D : Nat) : List PV → Prop
  | [] => True
  | v :: vs => GV D v ∧ GVs D vs
def GE (D : Nat) : List (List Nat × PV) → Prop
  | [] => True
  | p :: e => GV D p.2 ∧ GE D e
end
theorem GVs_mem {D : Nat} : ∀ {vs : List PV}, GVs D vs ↔ ∀ v ∈ vs, GV D v
  | [] => by simp [GVs]
  | v :: vs => by rw [GVs, GVs_mem]; simp
theorem GE_mem {D : Nat} : ∀ {e : PEn}, GE D e ↔ ∀ p ∈ e, GV D p.2
  | [] => by simp [GE]
  | v :: vs => by rw [GE, GE_mem]; simp
theorem GE_get {D : Nat} {e : PEn} {z : List Nat} {v : PV} (h : GE D e) (hg : getE e z = some v) : GV D v := by
  induction e with
  | nil => cases hg
  | cons p e ih =>
    unfold getE at hg
    rw [GE] at h
    split at hg
    · cases hg; exact h.1
    · exact ih h.2 hg
theorem GE_put {D : Nat} {e : PEn} {z : List Nat} {v : PV} (h : GE D e) (hv : GV D v) : GE D (putE e z v) := by
  rw [GE_mem] at h ⊢
  intro p hp
  unfold putE at hp
  split at hp
  · obtain ⟨q, hq, rfl⟩ := List.mem_map.mp hp
    split
    · exact hv
    · exact h q hq
  · rcases List.mem_append.mp hp with hp | hp
    · exact h p hp
    · obtain rfl : p = (z, v) := by simpa using hp
      exact hv
def PRg (D : Nat) : PR → Prop
  | .ok v _ => GV D v
  | _ => True
theorem parts_good {D : Nat} {f : Tr → Int → PR} {w : Wo} {k : List PV → Int → PR} (hk : ∀ vs c, GVs D vs → PRg D (k vs c)) : ∀ {ts : List Tr} {vs : List PV} {c : Int}, (∀ t ∈ ts, ∀ c, PRg D (f t c)) → GVs D vs → PRg D (partsP f w ts vs c k)
  | [], vs, c, _, hv => hk vs c hv
  | t :: ts, vs, c, hf, hv => by
    unfold partsP
    have h0 := hf t List.mem_cons_self c
    cases e : f t c with
    | stop x c' => trivial
    | out => trivial
    | ok v c' =>
      rw [e] at h0
      dsimp only
      have h1 : PRg D (partsP f w ts (vs ++ [v]) c' k) := parts_good hk (fun t ht => hf t (List.mem_cons_of_mem _ ht)) (GVs_mem.mpr fun x hx => by
        rcases List.mem_append.mp hx with hx | hx
        · exact GVs_mem.mp hv x hx
        · obtain rfl : x = v := by simpa using hx
          exact h0)
      unfold heldPl
      split
      · split
        · exact h1
        · trivial
      · exact h1
theorem reck_good {D : Nat} {z : List Nat} {i j p c : Int} : PRg D (reckP z i j p c) := by
  unfold reckP
  split
  · trivial
  · split
    · trivial
    · have g : ∀ f : Int, PRg D (if smal f = true then PR.ok (.num f) c else .stop (faultW p greatZ) c) := fun f => by split <;> trivial
      exact g _
theorem deed_good {D : Nat} {w : Wo} {p : Int} {fr : List W} {vs : List PV} {c : Int} (h : GVs D vs) : PRg D (deedP w p fr vs c) := by
  unfold deedP
  split
  · split
    · exact reck_good
    · trivial
  · exact h
  · exact h
  · split
    · split
      · rename_i us i _ v e
        rw [GVs] at h
        exact GVs_mem.mp h.1 v (List.mem_of_getElem? e)
      · trivial
    · trivial
  · trivial
  · rw [GVs, GV, GVs] at h; exact h.1.1
  · rw [GVs, GV, GVs, GVs] at h; exact h.1.2.1
  · rw [GVs] at h; exact h.1
  · trivial
theorem within_len {t b : Tr} {e : PEn} {o v : PV} (hb : bodyP t = some b) : (withinP t e o v).length ≤ e.length + 2 ∧ dT b + 1 ≤ dT t := by
  rcases body_cases hb with ⟨p, x, ks, rfl⟩ | ⟨p, f, x, ks, rfl⟩
  · refine ⟨Nat.le_trans putE_len (by omega), by simp [dT, dTs]⟩
  · refine ⟨Nat.le_trans putE_len (Nat.succ_le_succ putE_len), by simp [dT, dTs]⟩
theorem within_good {D : Nat} {t b : Tr} {e : PEn} {o v : PV} (hb : bodyP t = some b) (he : GE D e) (ho : GV D o) (hv : GV D v) : GE D (withinP t e o v) := by
  rcases body_cases hb with ⟨p, x, ks, rfl⟩ | ⟨p, f, x, ks, rfl⟩
  · exact GE_put he hv
  · exact GE_put (GE_put he ho) hv
theorem body_ok {t b : Tr} (hb : bodyP t = some b) (ho : okTr t) : okTr b := by
  rcases body_cases hb with ⟨p, x, ks, rfl⟩ | ⟨p, f, x, ks, rfl⟩ <;> exact ho.2.1
theorem follow_good {D : Nat} {nums : List Int} : ∀ (n : Nat) {t : Tr} {e : PEn} {c : Int}, okTr t → e.length + 2 * dT t ≤ 2 * D → GE D e → PRg D (followP nums n t e c)
  | 0, _, _, _, _, _, _ => trivial
  | n + 1, .nd w p fr ks ps, e, c, ho, hl, he => by
    have hd : ∀ t ∈ ps, okTr t ∧ e.length + 2 * dT t + 2 ≤ 2 * D := fun t ht => ⟨okTrs_mem ho.2 ht, by
      have := dTs_mem ht
      simp only [dT] at hl
      omega⟩
    have ihp : ∀ t ∈ ps, ∀ c, PRg D (followP nums n t e c) := fun t ht c => follow_good n (hd t ht).1 (by have := (hd t ht).2; omega) he
    unfold followP
    split
    · trivial
    · trivial
    · split <;> trivial
    · split
      · exact GE_get he (by assumption)
      · trivial
    · exact ⟨ho, hl, he⟩
    · exact ⟨ho, hl, he⟩
    · rename_i x a b
      have ha := ihp a (by simp) c
      revert ha
      cases followP nums n a e c with
      | stop y c' => intro _; trivial
      | out => intro _; trivial
      | ok v c' =>
        intro ha
        refine follow_good n (hd b (by simp)).1 ?_ (GE_put he ha)
        have := (hd b (by simp)).2
        have := @putE_len e x v
        omega
    · rename_i a b d
      cases followP nums n a e c with
      | stop y c' => trivial
      | out => trivial
      | ok v c' =>
        cases v with
        | tru q => cases q <;> exact ihp _ (by simp) _
        | _ => trivial
    · rename_i a b
      refine parts_good (fun vs c' hv => ?_) ihp (by trivial)
      split
      · rename_i t e' v
        rw [GVs, GVs, GV] at hv
        split
        · trivial
        · split
          · rename_i b' hb
            have := @within_len t b' e' (.clo t e') v hb
            refine follow_good n (body_ok hb hv.1.1) ?_ (within_good hb hv.1.2.2 hv.1 hv.2.1)
            have := hv.1.2.1
            omega
          · trivial
      · trivial
    · trivial
    · trivial
    · trivial
    · trivial
    · trivial
    · trivial
    · trivial
    · trivial
    · exact parts_good (fun vs c' hv => deed_good hv) ihp (by trivial)
end Bw

/-! PL3: leaves, deeds, needs, walked -/
namespace Bw
open PySem (sizeLine)
structure PT (T : Nat → Option FD) : Prop where
  h87 : T 87 = some d87
  h282 : T 282 = some d282
  h283 : T 283 = some d283
  h284 : T 284 = some d284
  h286 : T 286 = some d286
  h287 : T 287 = some d287
  h288 : T 288 = some d288
  h289 : T 289 = some d289
  h291 : T 291 = some d291
  h293 : T 293 = some d293
  h294 : T 294 = some d294
  h295 : T 295 = some d295
  h296 : T 296 = some d296
  h297 : T 297 = some d297
  h298 : T 298 = some d298
  h299 : T 299 = some d299
  h300 : T 300 = some d300
  h301 : T 301 = some d301
  h302 : T 302 = some d302
section
variable {T : Nat → Option FD} {S : Sto} {Q : VQ} {X : XQ} {n : Nat} {pg pn pm : PySem.Addr}
def tblN : List (List Ky × W) := [([.inr [99, 97, 108, 108], .inl 0], .str [116, 111]), ([.inr [100, 111], .inl 0], .str [119, 104, 111, 108, 101]), ([.inr [100, 111], .inl 1], .str [119, 104, 111, 108, 101]), ([.inr [97, 116], .inl 0], .str [114, 111, 119]), ([.inr [97, 116], .inl 1], .str [119, 104, 111, 108, 101]), ([.inr [115, 105, 122, 101], .inl 0], .str [114, 111, 119]), ([.inr [111, 110, 101], .inl 0], .str [112, 97, 105, 114]), ([.inr [116, 119, 111], .inl 0], .str [112, 97, 105, 114]), ([.inr [105, 102], .inl 0], .str [116, 114, 117, 116, 104])]
theorem need_look {w : Wo} {i : Nat} : lookTT tblN [.inr (woS w), .inl (i : Int)] = (needT w i).map W.str := by
  match i with
  | 0 => cases w <;> rfl
  | 1 => cases w <;> rfl
  | i + 2 =>
    have h0 : ∀ z : List Nat, ¬ ([.inr z, .inl 0] : List Ky) = [.inr (woS w), .inl ((i + 2 : Nat) : Int)] := fun z h => by
      injection h with _ h; injection h with h _; injection h with h; omega
    have h1 : ∀ z : List Nat, ¬ ([.inr z, .inl 1] : List Ky) = [.inr (woS w), .inl ((i + 2 : Nat) : Int)] := fun z h => by
      injection h with _ h; injection h with h _; injection h with h; omega
    have : needT w (i + 2) = none := by cases w <;> rfl
    rw [this]
    unfold tblN lookTT
    simp only [lookTT, if_neg (h0 _), if_neg (h1 _)]
    rfl
theorem parts_rlP {w : Wo} {p : Int} {fr : List W} {ps : List Tr} {ks : List Kd} (h : T 87 = some d87) (hf : fr.length = nF w) (hk : ks.length = nK w) (q : Q (.rl (ps.map tW)) S) : wF T (n + 1) 87 [tW (.nd w p fr ks ps)] S Q X := by
  rw [tW]
  refine parts_shp h hf (by rw [List.length_map]; exact hk) fun a ha => ?_
  rw [tWs_map]
  exact retL (Sub.set ha) Sto.set_same ha q
theorem tW_ix0 {w : Wo} {p : Int} {fr : List W} {ps : List Tr} {ks : List Kd} : wIdx (tW (.nd w p fr ks ps)) (.int 0) S Q = Q (.str (woS w)) S := by rw [tW, shp_idx0]
theorem tW_ix1 {t : Tr} : wIdx (tW t) (.int 1) S Q = Q (.int (plP t)) S := by
  cases t with | nd w p fr ks ps => rw [tW, shp_idx1]; rfl
theorem mk2_pl (h : T 286 = some d286) {a : PySem.Addr} {x y : W} (q : Q .non (S.set a (.ins 12 [fTree, fNames] [x, y]))) : wF T (n + 1) 286 [.ref a, x, y] (S.set a (.ins 12 [] [])) Q X := by
  rw [wF_eq h, d286]
  walk_at "w"
  unfold wFldS
  simp only [Sto.set_same]
  refine ⟨by decide, by decide, by decide, by show 1 < 900; decide, ?_⟩
  rw [set_set, set_set]
  exact retN0 q
theorem mk1_pl (h : T 289 = some d289) {a : PySem.Addr} {c : Nat} {x : W} (hc : c ∈ [11, 12, 13, 14]) (q : Q .non (S.set a (.ins c [fThings] [x]))) : wF T (n + 1) 289 [.ref a, x] (S.set a (.ins c [] [])) Q X := by
  rw [wF_eq h, d289]
  walk_at "w"
  unfold wFldS
  simp only [Sto.set_same]
  refine ⟨hc, by decide, ?_⟩
  rw [set_set]
  walk_at "w"
  exact retN0 q
theorem needed_pl (E : PT T) {w : Wo} {p : Int} {fr : List W} {ks : List Kd} {ps : List Tr} {i : Nat} {t : Tr} {v : PV} (ho : okTr (.nd w p fr ks ps)) (hi : ps[i]? = some t) (q : match needT w i with | some h => if pvH v = h then Q (pvW v) S else X (xStop (wrongW (plP t))) S | none => Q (pvW v) S) : wF T (n + 2) 300 [tW (.nd w p fr ks ps), .int (i : Nat), pvW v] S Q X := by
  rw [wF_eq E.h300, d300]
  walk_at "w"
  rw [tW_ix0]
  walk_at "w"
  have hl := need_look (w := w) (i := i)
  unfold tblN at hl
  rw [hl]
  cases hn : needT w i with
  | none =>
    rw [hn] at q
    exact ret0 q
  | some h =>
    rw [hn] at q
    dsimp only at q
    simp only [Option.map_some, Option.getD_some]
    walk_at "w"
    refine head_pl E.h294 ?_
    walk_at "w"
    by_cases e : pvH v = h
    · rw [if_pos e] at q
      rw [show (pvH v == h) = true by simpa using e]
      walk_at "w"
      exact ret0 q
    · rw [if_neg e] at q
      rw [show (pvH v == h) = false by simpa using e]
      walk_at "w"
      refine parts_rlP E.h87 ho.1.1 ho.1.2.1 ?_
      walk_at "w"
      have hlt : i < ps.length := by
        rcases Nat.lt_or_ge i ps.length with h | h
        · exact h
        · rw [List.getElem?_eq_none h] at hi; cases hi
      have ea : atW (ps.map tW) (i : Int) = some (tW t) := by
        unfold atW ixW
        rw [List.length_map, if_pos (by omega), if_pos (by omega)]
        show (ps.map tW)[((i : Nat) : Int).toNat]? = _
        rw [Int.toNat_natCast, List.getElem?_map, hi]; rfl
      rw [ea]
      walk_at "w"
      rw [tW_ix1]
      exact ⟨by decide, retX0 q⟩
theorem leaf_pl (E : PT T) {nums : List Int} {m : Nat} {w : Wo} {p : Int} {fr : List W} {ks : List Kd} {ps : List Tr} {e : PEn} {c : Int} (hw : w = .whole ∨ w = .truth ∨ w = .given ∨ w = .name ∨ w = .fn ∨ w = .self) (ho : okTr (.nd w p fr ks ps)) (hg : S pg = some (GoO pn pm c)) (hn : S pn = some (.lst (nums.map W.int)))
    (q : match followP nums (m + 1) (.nd w p fr ks ps) e c with | .ok v _ => Q (pvW v) S | .stop x _ => X (xStop x) S | .out => False) : wF T (n + 2) 298 [tW (.nd w p fr ks ps), enW e, .ref pg] S Q X := by
  rw [wF_eq E.h298, d298]
  walk_at "w"
  rw [tW_ix0]
  walk_at "w"
  have hf := ho.1.1
  have clo : ∀ t : Tr, Q (pvW (.clo t e)) S → ∀ (a : PySem.Addr), S a = none → wF T (n + 1) 286 [W.ref a, tW t, enW e] (S.set a (O.ins 12 [] [])) (fun w S2 => w = W.non ∧ Ret (W.ref a) S2 Q) fun x S1 => RetX x S1 X := fun t q a ha => by
    refine mk2_pl E.h286 ⟨rfl, ?_⟩
    refine retI (Sub.setO ha (fun z => by cases z)) Sto.set_same ha ?_
    rw [pvW, pvVs_map] at q
    exact q
  rcases hw with rfl | rfl | rfl | rfl | rfl | rfl
  · obtain ⟨f, rfl⟩ := len1 hf
    simp only [woS]
    walk_at "w"
    rw [tW, shp_idx2 (by simp) rfl]
    unfold followP at q
    cases f <;> cases ps <;> first | exact q.elim | exact ret0 q
  · obtain ⟨f, rfl⟩ := len1 hf
    simp only [woS]
    walk_at "w"
    rw [tW, shp_idx2 (by simp) rfl]
    unfold followP at q
    cases f <;> cases ps <;> first | exact q.elim | exact ret0 q
  · obtain ⟨f, rfl⟩ := len1 hf
    simp only [woS]
    walk_at "w"
    rw [meth1 (f := 284) (show S pg = some (.ins 11 _ _) from hg) rfl rfl]
    rw [tW, shp_idx2 (by simp) rfl]
    unfold followP at q
    cases f with
    | int k =>
      cases ps with
      | nil =>
        dsimp only at q
        by_cases hk : 0 ≤ k
        · rw [if_pos hk] at q
          exact number_pl E.h284 hk hg hn (ret0 q)
        · rw [if_neg hk] at q; exact q.elim
      | cons _ _ => exact q.elim
    | _ => cases ps <;> exact q.elim
  · obtain ⟨f, rfl⟩ := len1 hf
    simp only [woS]
    walk_at "w"
    rw [tW, shp_idx2 (by simp) rfl]
    unfold followP at q
    cases f with
    | str z =>
      cases ps with
      | nil =>
        dsimp only at q
        unfold wIdx
        simp only [enW, dicOf, kyOf, look_E]
        cases e1 : getE e z with
        | none => rw [e1] at q; exact q.elim
        | some v => rw [e1] at q; exact ret0 q
      | cons _ _ => exact q.elim
    | _ => cases ps <;> exact q.elim
  · simp only [woS]
    walk_at "w"
    unfold followP at q
    exact clo _ q
  · simp only [woS]
    walk_at "w"
    unfold followP at q
    exact clo _ q
theorem deed_pl (E : PT T) {w : Wo} {p : Int} {fr : List W} {ks : List Kd} {ps : List Tr} {vs : List PV} {c : Int} (ho : okTr (.nd w p fr ks ps)) (q : match deedP w p fr vs c with | .ok v _ => Q (pvW v) S | .stop x _ => X (xStop x) S | .out => False) : wF T (n + 2) 299 [tW (.nd w p fr ks ps), .rl (vs.map pvW)] S Q X := by
  have hf := ho.1.1
  rw [wF_eq E.h299, d299]
  walk_at "w"
  rw [tW_ix0]
  walk_at "w"
  have mk : ∀ (cc : Nat) (us : List PV), cc ∈ [11, 12, 13, 14] → Q (.obj cc [fThings] [.rl (us.map pvW)]) S → ∀ (a : PySem.Addr), S a = none → wF T (n + 1) 289 [W.ref a, W.rl (us.map pvW)] (S.set a (O.ins cc [] [])) (fun w S2 => w = W.non ∧ Ret (W.ref a) S2 Q) fun x S1 => RetX x S1 X := fun cc us hc q a ha => by
    refine mk1_pl E.h289 hc ⟨rfl, ?_⟩
    exact retI (Sub.setO ha (fun z => by cases z)) Sto.set_same ha q
  have wr : ∀ us : List PV, pvW (.row us) = .obj 13 [fThings] [.rl (us.map pvW)] := fun us => by rw [pvW, pvWs_map]
  have wp : ∀ us : List PV, pvW (.pr us) = .obj 14 [fThings] [.rl (us.map pvW)] := fun us => by rw [pvW, pvWs_map]
  cases w with
  | do_ =>
    obtain ⟨f, rfl⟩ := len1 hf
    simp only [woS]
    walk_at "w"
    rw [tW, shp_idx2 (by simp) rfl]
    match f, vs, q with
    | .str z, [.num i, .num j], q =>
      unfold deedP at q
      dsimp only at q
      by_cases hs : (smal i && smal j) = true
      · rw [if_pos hs] at q
        rw [Bool.and_eq_true] at hs
        walk_at "w"
        rw [shp_idx1]
        refine reck_pl (c := c) E.h295 hs.1 hs.2 ?_
        revert q
        cases reckP z i j p c with
        | ok v _ => exact fun q => ret0 q
        | stop x _ => exact fun q => retX0 q
        | out => exact fun q => q
      · rw [if_neg hs] at q; exact q.elim
  | row =>
    simp only [woS]
    walk_at "w"
    unfold deedP at q
    dsimp only at q
    rw [wr] at q
    exact mk 13 vs (by decide) q
  | pair =>
    simp only [woS]
    walk_at "w"
    match vs, q with
    | [a, b], q =>
      unfold deedP at q
      dsimp only at q
      rw [wp] at q
      exact mk 14 [a, b] (by decide) q
  | at_ =>
    simp only [woS]
    walk_at "w"
    match vs, q with
    | [.row us, .num i], q =>
      unfold deedP at q
      dsimp only at q
      simp only [List.map_cons, List.map_nil, wr]
      walk_at "w"
      rw [fldo rfl]
      walk_at "w"
      rw [tW_ix1]
      refine thing_pl E.h296 ?_
      by_cases hh : 0 ≤ i ∧ i < (us.length : Int)
      · rw [if_pos hh] at q ⊢
        cases e : us[i.toNat]? with
        | none => rw [e] at q; exact q.elim
        | some v => rw [e] at q; exact ret0 q
      · rw [if_neg hh] at q ⊢
        exact retX0 q
  | size =>
    simp only [woS]
    walk_at "w"
    match vs, q with
    | [.row us], q =>
      unfold deedP at q
      dsimp only at q
      simp only [List.map_cons, List.map_nil, wr]
      walk_at "w"
      rw [fldo rfl]
      walk_at "w"
      exact ret0 q
  | one =>
    simp only [woS]
    walk_at "w"
    match vs, q with
    | [.pr [a, b]], q =>
      unfold deedP at q
      dsimp only at q
      simp only [List.map_cons, List.map_nil, wp]
      walk_at "w"
      rw [fldo rfl]
      walk_at "w"
      exact ret0 q
  | two =>
    simp only [woS]
    walk_at "w"
    match vs, q with
    | [.pr [a, b]], q =>
      unfold deedP at q
      dsimp only at q
      simp only [List.map_cons, List.map_nil, wp]
      walk_at "w"
      rw [fldo rfl]
      walk_at "w"
      exact ret0 q
  | as_ =>
    simp only [woS]
    walk_at "w"
    match vs, q with
    | [a], q =>
      simp only [List.map_cons, List.map_nil]
      walk_at "w"
      exact ret0 q
  | _ => exact q.elim
end
end Bw

/-! PL4: the plain run walked -/
namespace Bw
open PySem (sizeLine)
def PQ (S : Sto) (pg pn pm : PySem.Addr) (Q : VQ) (X : XQ) : PR → Prop
  | .ok v c => Q (pvW v) (S.set pg (GoO pn pm c))
  | .stop x c => X (xStop x) (S.set pg (GoO pn pm c))
  | .out => False
def FoI (T : Nat → Option FD) (pg pn pm : PySem.Addr) (nums : List Int) (D m n : Nat) : Prop :=
  ∀ {t : Tr} {e : PEn} {c : Int} {S : Sto} {Q : VQ} {X : XQ}, okTr t → e.length + 2 * dT t ≤ 2 * D → GE D e → S pg = some (GoO pn pm c) → S pn = some (.lst (nums.map W.int)) → PQ S pg pn pm Q X (followP nums m t e c) → wF T n 301 [tW t, enW e, .ref pg] S Q X
section
variable {T : Nat → Option FD} {S : Sto} {Q : VQ} {X : XQ} {n : Nat} {pg pn pm : PySem.Addr}
theorem PQ_of {S' : Sto} {Q' : VQ} {X' : XQ} {r : PR} (hQ : ∀ v c, r = .ok v c → Q (pvW v) (S.set pg (GoO pn pm c)) → Q' (pvW v) (S'.set pg (GoO pn pm c))) (hX : ∀ x c, X (xStop x) (S.set pg (GoO pn pm c)) → X' (xStop x) (S'.set pg (GoO pn pm c))) (q : PQ S pg pn pm Q X r) : PQ S' pg pn pm Q' X' r := by
  cases r with
  | ok v c => exact hQ v c rfl q
  | stop x c => exact hX x c q
  | out => exact q
theorem wFz_newD {a : PySem.Addr} {ks : List Ky} {ws : List W} (h : S a = none) : wFz (.ref a) (S.set a (.dic ks ws)) Q = Q (.dct ks ws) S := by
  unfold wFz
  simp only [Sto.set_same]
  rw [show (S.set a (O.dic ks ws)).del a = S from by
    funext b
    unfold Sto.del Sto.set
    by_cases e : b = a
    · subst e; simp [h]
    · simp [e]]
theorem wFz_newL {a : PySem.Addr} {ws : List W} (h : S a = none) : wFz (.ref a) (S.set a (.lst ws)) Q = Q (.rl ws) S := by
  unfold wFz
  simp only [Sto.set_same]
  rw [show (S.set a (O.lst ws)).del a = S from by
    funext b
    unfold Sto.del Sto.set
    by_cases e : b = a
    · subst e; simp [h]
    · simp [e]]
theorem at4P {a b c d e : W} {l : List W} : atW (a :: b :: c :: d :: e :: l) 4 = some e := by
  unfold atW ixW
  rw [if_pos (by decide), if_pos (by simp only [List.length_cons]; omega)]
  rfl
def six : List W := [.str [119, 104, 111, 108, 101], .str [116, 114, 117, 116, 104], .str [103, 105, 118, 101, 110], .str [110, 97, 109, 101], .str [102, 110], .str [115, 101, 108, 102]]
theorem in_six {w : Wo} : wIn false (.str (woS w)) (.tup six) S Q = Q (.bl (decide (w = .whole ∨ w = .truth ∨ w = .given ∨ w = .name ∨ w = .fn ∨ w = .self))) S := by
  cases w <;> exact (by simp [wIn, dicOf, woS, seqOf, deref, six, inOk, flatW, inW, eqv])
def PRl (c : Int) : PR → Prop
  | .ok _ c' => c' = c
  | .stop _ _ => False
  | .out => True
def PRc (c : Int) : PR → Prop
  | .ok _ c' => c' = c
  | .stop _ c' => c' = c
  | .out => True
theorem leaf_c {nums : List Int} {m : Nat} {w : Wo} {p : Int} {fr : List W} {ks : List Kd} {ps : List Tr} {e : PEn} {c : Int} (hw : w = .whole ∨ w = .truth ∨ w = .given ∨ w = .name ∨ w = .fn ∨ w = .self) :
    PRl c (followP nums (m + 1) (.nd w p fr ks ps) e c) := by
  rcases hw with rfl | rfl | rfl | rfl | rfl | rfl <;> unfold followP
  · split <;> first | rfl | trivial | simp_all
  · split <;> first | rfl | trivial | simp_all
  · split <;> first | rfl | trivial | (split <;> first | rfl | trivial) | simp_all
  · split <;> first | rfl | trivial | (split <;> first | rfl | trivial) | simp_all
  · rfl
  · rfl
theorem reck_c {z : List Nat} {i j p c : Int} : PRc c (reckP z i j p c) := by
  have g : ∀ f : Int, PRc c (if smal f = true then PR.ok (.num f) c else .stop (faultW p greatZ) c) := fun f => by
    split <;> rfl
  unfold reckP
  split
  · rfl
  · split
    · rfl
    · exact g _
theorem deed_c {w : Wo} {p : Int} {fr : List W} {vs : List PV} {c : Int} : PRc c (deedP w p fr vs c) := by
  unfold deedP
  split
  · split
    · exact reck_c
    · trivial
  · rfl
  · rfl
  · split
    · split
      · rfl
      · trivial
    · rfl
  · rfl
  · rfl
  · rfl
  · rfl
  · trivial
theorem methC {t : Tr} {e : PEn} {tb : List (Nat × Nat)} {z : List Nat} {f : Nat} {P : Nat → Prop} (hf : lookF [fTree, fNames] [tW t, .non] z = none) (ht : tb.lookup 12 = some f) :
    (wSome (objOf S (pvW (.clo t e))) fun p => lookF p.2.1 p.2.2 z = none ∧ wSome (tb.lookup p.1) P) = P f := by
  have hf2 : lookF [fTree, fNames] [tW t, .dct (e.map fun p => .inr p.1) (pvVs e)] z = none := by
    unfold lookF at hf ⊢
    split at hf
    · cases hf
    · rename_i h1
      rw [if_neg h1]
      unfold lookF at hf ⊢
      split at hf
      · cases hf
      · rename_i h2
        rw [if_neg h2]
        exact hf
  rw [pvW]
  show (wSome (some (12, [fTree, fNames], [tW t, .dct (e.map fun p => .inr p.1) (pvVs e)])) _) = _
  simp only [wSome, hf2, ht, true_and]
/-- what is done with the parts -/
def kP (nums : List Int) (m : Nat) (w : Wo) (p : Int) (fr : List W) (vs : List PV) (c' : Int) : PR :=
  if w = .call then
    match vs with
      | [.clo t e', v] => if c' ≤ 0 then .stop spentW c' else match bodyP t with
        | some b => followP nums m b (withinP t e' (.clo t e') v) (c' - 1)
        | none => .out
      | _ => .out
  else deedP w p fr vs c'
theorem follow_parts {nums : List Int} {m : Nat} {w : Wo} {p : Int} {fr : List W} {ks : List Kd} {ps : List Tr} {e : PEn} {c : Int} (hw : ¬ (w = .whole ∨ w = .truth ∨ w = .given ∨ w = .name ∨ w = .fn ∨ w = .self)) (h1 : w ≠ .let_) (h2 : w ≠ .if_) :
    followP nums (m + 1) (.nd w p fr ks ps) e c = .out ∨ followP nums (m + 1) (.nd w p fr ks ps) e c = partsP (fun t c => followP nums m t e c) w ps [] c (kP nums m w p fr) := by
  cases w
  case call =>
    match ps with
    | [a, b] => exact .inr rfl
    | [] => exact .inl rfl
    | [a] => exact .inl rfl
    | a :: b :: d :: l => exact .inl rfl
  case look => exact .inl rfl
  all_goals first | exact .inr rfl | simp_all
theorem follow_step (E : PT T) {nums : List Int} {D m : Nat} (hD : D ≤ 400) (hn : m + 4 ≤ n) (ih : FoI T pg pn pm nums D m n) : FoI T pg pn pm nums D (m + 1) (n + 1) := by
  intro t e c S Q X ho hl he hg hpn q
  have sz : 1000000 ≤ sizeLine := by decide
  have ng : pn ≠ pg := fun z => by rw [z, hg] at hpn; cases hpn
  cases t with
  | nd w p fr ks ps =>
  have hd : ∀ t ∈ ps, okTr t ∧ e.length + 2 * dT t + 2 ≤ 2 * D := fun t ht => ⟨okTrs_mem ho.2 ht, by
    have := dTs_mem ht
    simp only [dT] at hl
    omega⟩
  rw [wF_eq E.h301, d301]
  walk_at "w"
  rw [tW_ix0]
  walk_at "w"
  rw [show ([W.str [119, 104, 111, 108, 101], W.str [116, 114, 117, 116, 104], W.str [103, 105, 118, 101, 110], W.str [110, 97, 109, 101], W.str [102, 110], W.str [115, 101, 108, 102]] : List W) = six from rfl, in_six]
  by_cases hw : w = .whole ∨ w = .truth ∨ w = .given ∨ w = .name ∨ w = .fn ∨ w = .self
  · rw [decide_eq_true hw]
    walk_at "w"
    obtain ⟨n, rfl⟩ : ∃ n', n = n' + 2 := ⟨n - 2, by omega⟩
    refine leaf_pl E (m := m) (nums := nums) (c := c) hw ho hg hpn ?_
    have hc := leaf_c (nums := nums) (m := m) (p := p) (fr := fr) (ks := ks) (ps := ps) (e := e) (c := c) hw
    revert q hc
    cases followP nums (m + 1) (.nd w p fr ks ps) e c with
    | ok v c' =>
      intro q hc
      simp only [PRl] at hc
      subst hc
      simp only [PQ] at q
      rw [set_self hg] at q
      exact ret0 q
    | stop x c' => exact fun _ hc => hc.elim
    | out => exact fun q _ => q
  · rw [decide_eq_false hw]
    walk_at "w"
    by_cases h1 : w = .let_
    · subst h1
      simp only [woS]
      walk_at "w"
      refine ⟨rfl, ?_⟩
      show wSome (some (kyE e, wsE e)) _
      walk_at "w"
      intro a ha
      have nga : a ≠ pg := fun z => by rw [z, hg] at ha; cases ha
      have npa : pn ≠ a := fun z => by rw [← z, hpn] at ha; cases ha
      obtain ⟨f, rfl⟩ := len1 ho.1.1
      obtain rfl := len0 ho.1.2.1
      match f, ps, q with
      | .str x, [u, b], q =>
        rw [show tW (.nd .let_ p [.str x] [] [u, b]) = .tup [.str (woS .let_), .int p, .str x, tW u, tW b] from rfl]
        walk_at "w"
        simp only [at4P]
        walk_at "w"
        unfold followP at q
        dsimp only at q
        refine ih (hd u (by simp)).1 (by have := (hd u (by simp)).2; omega) he (by rw [Sto.set_ne (Ne.symm nga)]; exact hg) (by rw [Sto.set_ne npa]; exact hpn) ?_
        have hgd := follow_good (D := D) (nums := nums) m (c := c) (hd u (by simp)).1 (by have := (hd u (by simp)).2; omega) he
        revert q hgd
        cases followP nums m u e c with
        | out => exact fun q _ => q
        | stop y c' =>
          intro q _
          simp only [PQ] at q ⊢
          rw [set_comm nga]
          exact retXG (Sub.setO (by rw [Sto.set_ne nga]; exact ha) (fun z => by cases z)) q
        | ok v c' =>
          intro q hgd
          simp only [PQ]
          dsimp only at q
          have ha2 : S.set pg (GoO pn pm c') a = none := by rw [Sto.set_ne nga]; exact ha
          rw [set_comm nga, wSetD_ref Sto.set_same]
          refine ⟨by show ((e.map _).length) < _; rw [List.length_map]; omega, ?_⟩
          rw [set_set, put_E, wFz_newD ha2]
          have hlb := (hd b (by simp)).2
          have := @putE_len e x v
          refine ih (hd b (by simp)).1 (by omega) (GE_put he hgd) Sto.set_same (by rw [Sto.set_ne ng]; exact hpn) ?_
          refine PQ_of (S := S) (Q := Q) (X := X) (fun v c _ q => ?_) (fun x c q => ?_) q
          · rw [set_set]; exact ret0 q
          · rw [set_set]; exact retX0 q
      | .str x, [], q => exact q.elim
      | .str x, [_], q => exact q.elim
      | .str x, _ :: _ :: _ :: _, q => exact q.elim
    by_cases h2 : w = .if_
    · subst h2
      simp only [woS]
      walk_at "w"
      obtain rfl := len0 ho.1.1
      obtain rfl := len0 ho.1.2.1
      match ps, q with
      | [], q => exact q.elim
      | [_], q => exact q.elim
      | [_, _], q => exact q.elim
      | _ :: _ :: _ :: _ :: _, q => exact q.elim
      | [u, b, d], q =>
        obtain ⟨n, rfl⟩ : ∃ n', n = n' + 2 := ⟨n - 2, by omega⟩
        have et : tW (.nd .if_ p [] [] [u, b, d]) = .tup [.str (woS .if_), .int p, tW u, tW b, tW d] := rfl
        rw [et]
        walk_at "w"
        simp only [at4P]
        walk_at "w"
        unfold followP at q
        dsimp only at q
        refine ih (hd u (by simp)).1 (by have := (hd u (by simp)).2; omega) he hg hpn ?_
        revert q
        cases followP nums m u e c with
        | out => exact fun q => q
        | stop y c' =>
          intro q
          simp only [PQ] at q ⊢
          exact retX0 q
        | ok v c' =>
          intro q
          simp only [PQ]
          try dsimp only at q
          rw [← et]
          refine needed_pl (i := 0) E ho rfl ?_
          have go : ∀ t ∈ [u, b, d], PQ S pg pn pm Q X (followP nums m t e c') → wF T (n + 2) 301 [tW t, enW e, .ref pg] (S.set pg (GoO pn pm c')) (dnOf Q X).rt fun x S1 => RetX x S1 X := fun t ht q => by
            refine ih (hd t ht).1 (by have := (hd t ht).2; omega) he Sto.set_same (by rw [Sto.set_ne ng]; exact hpn) ?_
            refine PQ_of (S := S) (Q := Q) (X := X) (fun v c _ q => ?_) (fun x c q => ?_) q
            · rw [set_set]; exact ret0 q
            · rw [set_set]; exact retX0 q
          show if pvH v = [116, 114, 117, 116, 104] then _ else _
          cases v with
          | tru z =>
            rw [if_pos (show pvH (PV.tru z) = [116, 114, 117, 116, 104] from rfl)]
            simp only [pvW]
            cases z
            · walk_at "w"
              exact go d (by simp) q
            · walk_at "w"
              exact go b (by simp) q
          | _ => rw [if_neg (by simp [pvH])]; exact retX0 q
    have h3 : ∀ z, (woS w == woS z) = decide (w = z) := fun z => woS_beq w z
    rw [show ([108, 101, 116] : List Nat) = woS .let_ from rfl, h3, decide_eq_false h1]
    walk_at "w"
    rw [show ([105, 102] : List Nat) = woS .if_ from rfl, h3, decide_eq_false h2]
    walk_at "w"
    intro pk hk
    have nkg : pk ≠ pg := fun z => by rw [z, hg] at hk; cases hk
    have nnk : pn ≠ pk := fun z => by rw [← z, hpn] at hk; cases hk
    rcases follow_parts (nums := nums) (m := m) (p := p) (fr := fr) (ks := ks) (ps := ps) (e := e) (c := c) hw h1 h2 with hq | hq
    · rw [hq] at q; exact q.elim
    rw [hq] at q
    clear hq
    obtain ⟨n, rfl⟩ : ∃ n', n = n' + 2 := ⟨n - 2, by omega⟩
    refine parts_rlP E.h87 ho.1.1 ho.1.2.1 ?_
    walk_at "w"
    have hk2 : ∀ c, S.set pg (GoO pn pm c) pk = none := fun c => by rw [Sto.set_ne nkg]; exact hk
    refine forR tW (fun l env S' => ∃ vs c' x5 x7, env = [some (tW (.nd w p fr ks ps)), some (enW e), some (.ref pg), some (.str (woS w)), some (.ref pk), x5, none, x7, none] ∧ S' = (S.set pg (GoO pn pm c')).set pk (.lst (vs.map pvW)) ∧ GVs D vs ∧ (∃ done, ps = done ++ l ∧ vs.length = done.length) ∧ PQ S pg pn pm Q X (partsP (fun t c => followP nums m t e c) w l vs c' (kP nums m w p fr))) ⟨[], c, none, none, rfl, by rw [set_self hg]; rfl, trivial, ⟨[], rfl, rfl⟩, q⟩ (fun _ _ _ _ => trivial) ?_ ?_
    · rintro t l env S' nx ⟨vs, c', x5, x7, rfl, rfl, hgv, ⟨done, hps, hlen⟩, q⟩ hnx
      have ht := hd t (by rw [hps]; simp)
      walk_at "w"
      have hgd := follow_good (D := D) (nums := nums) m (c := c') ht.1 (by omega) he
      unfold partsP at q
      refine ih ht.1 (by omega) he (by rw [Sto.set_ne (Ne.symm nkg)]; exact Sto.set_same) (by rw [Sto.set_ne nnk, Sto.set_ne ng]; exact hpn) ?_
      revert q hgd
      cases followP nums m t e c' with
      | out => exact fun _ q => q
      | stop y c2 =>
        intro _ q
        simp only [PQ] at q ⊢
        rw [set_comm nkg, set_set]
        exact retXG (Sub.setO (hk2 _) (fun z => by cases z)) q
      | ok v c2 =>
        intro hgd q
        simp only [PQ]
        try dsimp only at q
        rw [set_comm nkg, set_set]
        refine ⟨by rw [lstOf_ref Sto.set_same]; rfl, ?_⟩
        rw [wLen_ref Sto.set_same, List.length_map]
        refine needed_pl E ho (t := t) (by rw [hps, hlen]; simp) ?_
        have nxt : PQ S pg pn pm Q X (partsP (fun t c => followP nums m t e c) w l (vs ++ [v]) c2 (kP nums m w p fr)) → wApp (.ref pk) (pvW v) ((S.set pg (GoO pn pm c2)).set pk (.lst (vs.map pvW))) fun x S1 => nx [some (tW (.nd w p fr ks ps)), some (enW e), some (.ref pg), some (.str (woS w)), some (.ref pk), some (tW t), none, some (pvW v), none] S1 := fun q => by
          rw [wApp_ref Sto.set_same]
          refine ⟨?_, ?_⟩
          · rw [List.length_map]; have := ho.1.2.2.1; rw [hps, List.length_append] at this; omega
          refine hnx _ _ ⟨vs ++ [v], c2, _, _, rfl, by rw [set_set, List.map_append]; rfl, GVs_mem.mpr fun x hx => ?_, ⟨done ++ [t], by rw [hps]; simp, by simp [hlen]⟩, q⟩
          rcases List.mem_append.mp hx with hx | hx
          · exact GVs_mem.mp hgv x hx
          · obtain rfl : x = v := by simpa using hx
            exact hgd
        unfold heldPl at q
        cases hne : needT w vs.length with
        | none =>
          rw [hne] at q
          exact nxt q
        | some h =>
          rw [hne] at q
          dsimp only at q ⊢
          by_cases hh : pvH v = h
          · rw [if_pos hh] at q ⊢
            exact nxt q
          · rw [if_neg hh] at q ⊢
            exact retXG (Sub.setO (hk2 _) (fun z => by cases z)) q
    · rintro env S' ⟨vs, c', x5, x7, rfl, rfl, hgv, _, q⟩
      walk_at "w"
      unfold partsP kP at q
      rw [show ([99, 97, 108, 108] : List Nat) = woS .call from rfl, h3]
      by_cases h4 : w = .call
      · rw [if_pos h4] at q
        rw [decide_eq_true h4]
        walk_at "w"
        have hgS : (S.set pg (GoO pn pm c')).set pk (O.lst (List.map pvW vs)) pg = some (GoO pn pm c') := by rw [Sto.set_ne (Ne.symm nkg)]; exact Sto.set_same
        rw [meth1 (f := 283) hgS rfl rfl]
        match vs, q with
        | [.clo t e', v], q =>
          dsimp only at q
          refine spend_pl E.h283 hgS ?_
          by_cases h5 : c' ≤ 0
          · rw [if_pos h5] at q ⊢
            exact retXG (Sub.setO (hk2 _) (fun z => by cases z)) q
          · rw [if_neg h5] at q ⊢
            rw [set_comm nkg, set_set]
            cases hb : bodyP t with
            | none => rw [hb] at q; exact q.elim
            | some b =>
              rw [hb] at q
              dsimp only at q
              rw [wIdx_ref Sto.set_same]
              simp only [List.map_cons, List.map_nil]
              walk_at "w"
              rw [methC (f := 288) rfl rfl]
              rw [GVs, GVs, GV] at hgv
              have hwl := @within_len t b e' (.clo t e') v hb
              have h6 := hgv.1.2.1
              refine node_pl E.h288 hb hgv.1.1 ?_
              rw [methC (f := 287) rfl rfl, wIdx_ref Sto.set_same]
              walk_at "w"
              refine within_pl E.h287 hb hgv.1.1 (by omega) ?_
              refine ih (body_ok hb hgv.1.1) (by omega) (within_good hb hgv.1.2.2 hgv.1 hgv.2.1) (by rw [Sto.set_ne (Ne.symm nkg)]; exact Sto.set_same) (by rw [Sto.set_ne nnk, Sto.set_ne ng]; exact hpn) ?_
              refine PQ_of (S := S) (Q := Q) (X := X) (fun v c _ q => ?_) (fun x c q => ?_) q
              · rw [set_comm nkg, set_set]; exact retG (Sub.setO (hk2 _) (fun z => by cases z)) q
              · rw [set_comm nkg, set_set]; exact retXG (Sub.setO (hk2 _) (fun z => by cases z)) q
      · rw [if_neg h4] at q
        rw [decide_eq_false h4]
        walk_at "w"
        rw [wFz_newL (hk2 _)]
        refine deed_pl (c := c') E ho ?_
        have hc : PRc c' (deedP w p fr vs c') := deed_c
        revert q hc
        cases deedP w p fr vs c' with
        | ok v c2 => intro q hc; simp only [PRc] at hc; subst hc; exact ret0 q
        | stop x c2 => intro q hc; simp only [PRc] at hc; subst hc; exact retX0 q
        | out => exact fun q _ => q
end
end Bw

/-! PL5: the plain run's text and its answer -/
namespace Bw
open PySem (sizeLine)
section
variable {T : Nat → Option FD} {S : Sto} {Q : VQ} {X : XQ} {n : Nat} {pg pn pm : PySem.Addr}
theorem follow_pl (E : PT T) {nums : List Int} {D : Nat} (hD : D ≤ 400) : ∀ {m n : Nat}, m + 4 ≤ n → FoI T pg pn pm nums D m n
  | 0, n, _ => fun _ _ _ _ _ q => q.elim
  | m + 1, n, h => by
    obtain ⟨n, rfl⟩ : ∃ n', n = n' + 1 := ⟨n - 1, by omega⟩
    exact follow_step E hD (by omega) (follow_pl E hD (by omega))
theorem mapM_some {α β : Type} {f : α → Option β} {d : β} : ∀ {vs : List α} {zs : List β}, vs.mapM f = some zs → zs = vs.map (fun v => (f v).getD d) ∧ ∀ v ∈ vs, f v = some ((f v).getD d)
  | [], zs, h => by
    rw [List.mapM_nil] at h
    cases h
    exact ⟨rfl, by simp⟩
  | v :: vs, zs, h => by
    rw [List.mapM_cons] at h
    cases e : f v with
    | none => rw [e] at h; cases h
    | some z =>
      rw [e] at h
      cases e2 : vs.mapM f with
      | none => rw [e2] at h; cases h
      | some us =>
        rw [e2] at h
        cases h
        have ih := mapM_some (d := d) e2
        refine ⟨by rw [List.map_cons, e, ih.1.symm]; rfl, fun x hx => ?_⟩
        rcases List.mem_cons.mp hx with rfl | hx
        · rw [e]; rfl
        · exact ih.2 x hx
theorem joinZ_len : ∀ zs : List (List Nat), (joinZ [32] zs).length ≤ (zs.map (·.length)).sum + zs.length
  | [] => Nat.le_refl _
  | [y] => by simp [joinZ]
  | y :: x :: ys => by
    have := joinZ_len (x :: ys)
    show (y ++ [32] ++ joinZ [32] (x :: ys)).length ≤ _
    rw [List.length_append, List.length_append, List.map_cons, List.sum_cons]
    simp only [List.length_cons, List.length_nil] at this ⊢
    omega
theorem strsOf_map : ∀ zs : List (List Nat), strsOf (zs.map W.str) = some zs
  | [] => rfl
  | z :: zs => by show (strsOf (zs.map W.str)).map _ = _; rw [strsOf_map zs]; rfl
theorem need_okP (E : PT T) (h141 : T 141 = some d141) (h140 : T 140 = some d140) (h139 : T 139 = some d139) {t : Tr} (hd : dT t ≤ n) (hd2 : dT t ≤ 100) (ho : okTr t) (q : match frees t [] with | [] => Q .non S | e :: _ => X ⟨4, [[112, 108, 97, 99, 101]], [.int e.1]⟩ S) : wF T (n + 2) 141 [tW t] S Q X := by
  rw [wF_eq h141, d141]
  walk_at "w"
  refine free_ok (ns := []) h140 E.h87 h139 hd ho (by simp; omega) ?_
  cases hf : frees t [] with
  | nil =>
    rw [hf] at q
    simp only [List.head?_nil, Option.map_none, woI]
    walk_at "w"
    exact retN0 q
  | cons e r =>
    rw [hf] at q
    simp only [List.head?_cons, Option.map_some, woI]
    walk_at "w"
    exact ⟨by omega, retX0 q⟩
theorem shown_row (E : PT T) {x : W} {zs : List (List Nat)} (h : (zs.map (·.length)).sum + zs.length ≤ 1000000) (q : Q (.str ([91] ++ joinZ [32] zs ++ [93])) S) : wF T (n + 1) 291 [x, .rl (zs.map W.str)] S Q X := by
  rw [wF_eq E.h291, d291]
  walk_at "w"
  have hj : (joinZ [32] zs).length ≤ 1000000 := Nat.le_trans (joinZ_len zs) h
  have sz : 2000000 ≤ sizeLine := by decide
  rw [strsOf_map]
  walk_at "w"
  exact ⟨by omega, by omega, by omega, ret0 q⟩
theorem shown_pr (E : PT T) {x : W} {zs : List (List Nat)} (h : (zs.map (·.length)).sum + zs.length ≤ 1000000) (q : Q (.str ([60] ++ joinZ [32] zs ++ [62])) S) : wF T (n + 1) 293 [x, .rl (zs.map W.str)] S Q X := by
  rw [wF_eq E.h293, d293]
  walk_at "w"
  have hj : (joinZ [32] zs).length ≤ 1000000 := Nat.le_trans (joinZ_len zs) h
  have sz : 2000000 ≤ sizeLine := by decide
  rw [strsOf_map]
  walk_at "w"
  exact ⟨by omega, by omega, by omega, ret0 q⟩
theorem text_pl (E : PT T) : ∀ {m n : Nat} {l : Int} {v : PV} {z : List Nat} {S : Sto} {Q : VQ} {X : XQ}, m + 4 ≤ n → textP m l v = some z → Q (.str z) S → wF T n 302 [pvW v, .int l] S Q X
  | 0, n, l, v, z, S, Q, X, _, h, q => by cases h
  | m + 1, n, l, v, z, S, Q, X, hn, h, q => by
    obtain ⟨n, rfl⟩ : ∃ n', n = n' + 3 := ⟨n - 3, by omega⟩
    rw [wF_eq E.h302, d302]
    unfold textP at h
    walk_at "w"
    by_cases hl : l > 3
    · rw [if_pos hl] at h
      cases h
      rw [decide_eq_true (show 3 < l from hl)]
      walk_at "w"
      exact ret0 q
    rw [if_neg hl] at h
    rw [decide_eq_false (show ¬ 3 < l from hl)]
    cases v with
    | num i =>
      dsimp only at h
      simp only [pvW]
      walk_at "w"
      rw [show W.int i = pvW (.num i) from by rw [pvW]]
      by_cases hs : smal i = true
      · rw [if_pos hs] at h
        cases h
        exact single_pl E.h297 E.h294 hs (ret0 q)
      · rw [if_neg hs] at h; cases h
    | tru b =>
      dsimp only at h
      simp only [pvW]
      walk_at "w"
      rw [show W.bl b = pvW (.tru b) from by rw [pvW]]
      cases h
      exact single_pl E.h297 E.h294 trivial (ret0 q)
    | clo t e =>
      dsimp only at h
      cases h
      rw [show isCW [13, 14] [4, 10, 11, 12] S (pvW (.clo t e)) = some false from by rw [pvW]; rfl]
      walk_at "w"
      exact single_pl E.h297 E.h294 trivial (ret0 q)
    | row vs =>
      dsimp only at h
      simp only [pvW]
      walk_at "w"
      cases hm : vs.mapM (textP m (l + 1)) with
      | none => rw [hm] at h; cases h
      | some zs =>
      rw [hm] at h
      simp only [Option.bind_some] at h
      split at h
      case isFalse => cases h
      rename_i hz
      cases h
      obtain ⟨e1, e2⟩ := mapM_some (d := []) hm
      rw [if_pos (by decide)]
      walk_at "w"
      refine ⟨rfl, ?_⟩
      rw [show List.lookup 13 [(13, 291), (14, 293)] = some 291 from rfl]
      walk_at "w"
      rw [fldo rfl]
      walk_at "w"
      rw [pvWs_map]
      have hzl : vs.length = zs.length := by rw [e1, List.length_map]
      have sz : 1000000 ≤ sizeLine := by decide
      refine ⟨by rw [List.length_map]; omega, ?_⟩
      refine compA vs pvW (fun v => .str ((textP m (l + 1) v).getD [])) trivial (fun v hv D hD R rr => ?_) fun D hD => ?_
      · exact text_pl E (by omega) (e2 v hv) rr
      · rw [show (S.set D O.hid).del D = S from by
          funext b
          unfold Sto.del Sto.set
          by_cases e : b = D
          · subst e; simp [hD]
          · simp [e]]
        rw [show (vs.map fun v => W.str ((textP m (l + 1) v).getD [])) = zs.map W.str from by rw [e1, List.map_map]; rfl]
        exact shown_row E hz (ret0 q)
    | pr vs =>
      dsimp only at h
      simp only [pvW]
      walk_at "w"
      cases hm : vs.mapM (textP m (l + 1)) with
      | none => rw [hm] at h; cases h
      | some zs =>
      rw [hm] at h
      simp only [Option.bind_some] at h
      split at h
      case isFalse => cases h
      rename_i hz
      cases h
      obtain ⟨e1, e2⟩ := mapM_some (d := []) hm
      rw [if_pos (by decide)]
      walk_at "w"
      refine ⟨rfl, ?_⟩
      rw [show List.lookup 14 [(13, 291), (14, 293)] = some 293 from rfl]
      walk_at "w"
      rw [fldo rfl]
      walk_at "w"
      rw [pvWs_map]
      have hzl : vs.length = zs.length := by rw [e1, List.length_map]
      have sz : 1000000 ≤ sizeLine := by decide
      refine ⟨by rw [List.length_map]; omega, ?_⟩
      refine compA vs pvW (fun v => .str ((textP m (l + 1) v).getD [])) trivial (fun v hv D hD R rr => ?_) fun D hD => ?_
      · exact text_pl E (by omega) (e2 v hv) rr
      · rw [show (S.set D O.hid).del D = S from by
          funext b
          unfold Sto.del Sto.set
          by_cases e : b = D
          · subst e; simp [hD]
          · simp [e]]
        rw [show (vs.map fun v => W.str ((textP m (l + 1) v).getD [])) = zs.map W.str from by rw [e1, List.map_map]; rfl]
        exact shown_pr E hz (ret0 q)
theorem plain_ok (E : PT T) (h303 : T 303 = some d303) (h141 : T 141 = some d141) (h140 : T 140 = some d140) (h139 : T 139 = some d139) {x : W} {nums : List Int} {t : Tr} {c : Int} {r : W} {m : Nat} (ho : okTr t) (hd : dT t ≤ 100) (hdn : dT t ≤ n) (hm : m + 4 ≤ n) (hm2 : 10 ≤ n) (hf : frees t [] = []) (hx : ∀ p o, S p = none → seqOf (S.set p o) x = some (nums.map W.int)) (hp : plainP nums m t c = some r) (q : Q r S) : wF T (n + 3) 303 [tW t, x, .int c] S Q X := by
  rw [wF_eq h303, d303]
  walk_at "w"
  refine need_okP E h141 h140 h139 (by omega) hd ho ?_
  rw [hf]
  dsimp only
  walk_at "w"
  intro a ha
  rw [wFz_newD ha]
  intro pg hg
  rw [wF_eq E.h282, d282]
  walk_at "w"
  rw [hx pg _ hg]
  walk_at "w"
  intro pn hpn
  have n1 : pn ≠ pg := fresh_ne hpn
  unfold wFldS
  simp only [Sto.set_ne (Ne.symm n1), Sto.set_same]
  refine ⟨by decide, by decide, by decide, by show 1 < 900; decide, by decide, by show 2 < 900; decide, ?_⟩
  intro pm hpm
  have e0 : ∀ o u v : O, ((S.set pg o).set pn u).set pg v = (S.set pg v).set pn u := fun o u v => by rw [set_comm n1, set_set]
  simp only [e0] at hpm ⊢
  have n2 : pm ≠ pn := fresh_ne hpm
  have n3 : pm ≠ pg := fresh_ne (fresh_old hpm)
  simp only [Sto.set_ne (Ne.symm n3), Sto.set_ne (Ne.symm n1), Sto.set_same]
  refine ⟨by decide, by show 3 < 900; decide, ?_⟩
  rw [set_comm n3, e0]
  change RetN (((S.set pg (GoO pn pm c)).set pn (.lst (nums.map W.int))).set pm (.lst [])) _
  refine retN0 ⟨rfl, ?_⟩
  have sb : ∀ c, Sub S (((S.set pg (GoO pn pm c)).set pn (.lst (nums.map W.int))).set pm (.lst [])) := fun c =>
    Sub.trans (Sub.setO hg (fun z => by cases z)) (Sub.trans (Sub.setO (by rw [Sto.set_ne n1]; exact fresh_old hpn) (fun z => by cases z)) (Sub.setO (by rw [Sto.set_ne n2, Sto.set_ne n3]; exact fresh_old (fresh_old hpm)) (fun z => by cases z)))
  have es : ∀ c c2, (((S.set pg (GoO pn pm c)).set pn (.lst (nums.map W.int))).set pm (.lst [])).set pg (GoO pn pm c2) = (((S.set pg (GoO pn pm c2)).set pn (.lst (nums.map W.int))).set pm (.lst [])) := fun c c2 => by rw [set_comm n3, e0]
  refine follow_pl E (m := m) (n := n + 2) (D := 100) (by omega) (by omega) (e := []) ho (by show 0 + 2 * dT t ≤ _; omega) trivial (by rw [Sto.set_ne (Ne.symm n3), Sto.set_ne (Ne.symm n1)]; exact Sto.set_same) (by rw [Sto.set_ne (Ne.symm n2)]; exact Sto.set_same) ?_
  unfold plainP at hp
  cases hfo : followP nums m t [] c with
  | out => rw [hfo] at hp; cases hp
  | stop w c' =>
    rw [hfo] at hp
    obtain rfl : w = r := by simpa using hp
    simp only [PQ, es]
    rw [if_pos (show (xStop w).c ∈ [10] from List.mem_singleton.mpr rfl)]
    show Ret w _ Q
    exact retG (sb _) q
  | ok v c' =>
    rw [hfo] at hp
    dsimp only at hp
    cases ht : textP 6 1 v with
    | none => rw [ht] at hp; cases hp
    | some z =>
      rw [ht] at hp
      cases hp
      simp only [PQ, es]
      refine text_pl E (m := 6) (by omega) ht ?_
      exact retG (sb _) q
end
end Bw

/-! PL6: programs of rows and pairs: what they come to -/
namespace Bw
open PySem (sizeLine)
section
variable {T : Nat → Option FD} {S : Sto} {Q : VQ} {X : XQ} {n : Nat}
theorem wSs_appP {C : CT} : ∀ {A B : List St} {env : Env} {S : Sto} {D : Dn}, wSs C (A ++ B) env S D = wSs C A env S { D with nx := fun e S => wSs C B e S D }
  | [], B, env, S, D => rfl
  | s :: A, B, env, S, D => by
    show wS C s env S _ = wS C s env S _
    congr 1
    show Dn.mk _ _ _ _ _ = Dn.mk _ _ _ _ _
    congr 1
    funext e S
    exact wSs_appP
end
end Bw

/-! PL7: the texts, and the answers asked -/
namespace Bw
open PySem (sizeLine)
theorem decW_len {i : Int} (h : smal i = true) : (decW i).length ≤ 60 := by
  have hs : i.natAbs < 10 ^ 40 := by
    unfold smal at h
    simp only [Bool.and_eq_true, decide_eq_true_eq] at h
    have : big = ((10 ^ 40 : Nat) : Int) := by decide +kernel
    omega
  have key : ∀ n : Nat, n < 10 ^ 40 → (toString n).toList.length ≤ 40 := fun n hn => by
    show (Nat.repr n).toList.length ≤ 40
    unfold Nat.repr
    rw [String.toList_ofList]
    exact (Nat.length_toDigits_le_iff (by decide) (by decide)).mpr hn
  unfold decW
  rw [List.length_map]
  cases i with
  | ofNat n =>
    have := key n hs
    exact Nat.le_trans this (by decide)
  | negSucc n =>
    have := key (n + 1) hs
    show ("-" ++ toString (n + 1)).toList.length ≤ 60
    rw [String.toList_append, List.length_append]
    have : "-".toList.length = 1 := rfl
    omega
section
variable {T : Nat → Option FD} {S : Sto} {Q : VQ} {X : XQ} {n : Nat}
def flA : W → Prop
  | .str _ => True
  | .int _ => True
  | _ => False
theorem alikeG (h : T 312 = some d312) {ws : List W} (hw : ∀ w ∈ ws, flA w) (hd : due2 (.tup ws) = true) (hdp : depW (.tup ws) ≤ 60) (q : Q (.bl true) S) : wF T (n + 1) 312 [.tup ws, .tup ws] S Q X := by
  rw [wF_eq h, d312]
  walk_at "w"
  have hz : zipW ws ws = ws.map fun w => .tup [w, w] := by
    clear hw hd hdp
    induction ws with
    | nil => rfl
    | cons w ws ih => show W.tup [w, w] :: zipW ws ws = _; rw [ih]; rfl
  rw [hz]
  refine forR (fun w => W.tup [w, w]) (fun l env S' => S' = S ∧ (∃ x y, env = [some (.tup ws), some (.tup ws), x, y]) ∧ ∀ w ∈ l, flA w) ⟨rfl, ⟨_, _, rfl⟩, hw⟩ (fun _ _ _ _ => trivial) ?_ ?_
  · rintro w l env S' nx ⟨rfl, ⟨x, y, rfl⟩, hl⟩ hnx
    have h0 := hl w List.mem_cons_self
    have go := hnx [some (.tup ws), some (.tup ws), some w, some w] S' ⟨rfl, ⟨_, _, rfl⟩, fun u hu => hl u (List.mem_cons_of_mem _ hu)⟩
    match w, h0 with
    | .str z, _ => walk_at "w"; exact go
    | .int z, _ => walk_at "w"; exact go
  · rintro env S' ⟨rfl, ⟨x, y, rfl⟩, _⟩
    walk_at "w"
    exact same_eq rfl hd hdp (ret0 q)
end
end Bw

/-! PL8: the programs drawn, and the law -/
namespace Bw
open PySem (sizeLine)
theorem wSetL_refP {a : PySem.Addr} {S : Sto} {ws : List W} {i : Int} {j : Nat} {w : W} {Q : Sto → Prop} (h : S a = some (.lst ws)) (hj : ixW ws.length i = some j) : wSetIx (.ref a) (.int i) w S Q = Q (S.set a (.lst (ws.set j w))) := by
  unfold wSetIx
  simp only [h, hj]
theorem fits_ofP {i : Int} (h0 : 0 ≤ i) (h : i < 1000) : fits i = true := by
  unfold fits
  simp only [decide_eq_true_eq]
  omega
section
variable {T : Nat → Option FD} {S : Sto} {Q : VQ} {X : XQ} {n : Nat} {pd : PySem.Addr} {ns : List Int} {b i c : Int}
end
end Bw

/-! PL9: the law of rows and pairs -/
namespace Bw
open PySem (sizeLine)
def QT61 : VQ := fun w _ => w = .bl true
section
variable {T : Nat → Option FD} {S : Sto} {Q : VQ} {X : XQ} {n : Nat} {pd : PySem.Addr} {ns : List Int} {b i c : Int}
end
end Bw

/-! QA1: programs of sums: what they come to, and the law's own walk -/
namespace Bw
open PySem (sizeLine)
/-- a do node's two parts -/
def do60 (f : Tr → Int → PR) (z : List Nat) (p : Int) (a b : Tr) (c : Int) : PR :=
  match f a c with
  | .ok (.num i) c1 => (match f b c1 with
    | .ok (.num j) c2 => if (smal i && smal j) = true then reckP z i j p c2 else .out
    | .ok _ c2 => .stop (wrongW (plP b)) c2
    | .stop x c2 => .stop x c2
    | .out => .out)
  | .ok _ c1 => .stop (wrongW (plP a)) c1
  | .stop x c1 => .stop x c1
  | .out => .out
theorem parts_do {f : Tr → Int → PR} {z : List Nat} {p : Int} {a b : Tr} {c : Int} : partsP f .do_ [a, b] [] c (fun vs c' => deedP .do_ p [.str z] vs c') = do60 f z p a b c := by
  have n0 : needT .do_ 0 = some [119, 104, 111, 108, 101] := rfl
  have n1 : needT .do_ 1 = some [119, 104, 111, 108, 101] := rfl
  unfold partsP do60
  cases f a c with
  | out => rfl
  | stop x c1 => rfl
  | ok v c1 =>
    dsimp only
    show heldPl .do_ 0 a v c1 _ = _
    unfold heldPl
    rw [n0]
    dsimp only
    cases v with
    | num i =>
      rw [if_pos (show pvH (PV.num i) = [119, 104, 111, 108, 101] from rfl)]
      show partsP f .do_ [b] [.num i] c1 _ = (match f b c1 with
        | .ok (.num j) c2 => if (smal i && smal j) = true then reckP z i j p c2 else .out
        | .ok _ c2 => .stop (wrongW (plP b)) c2
        | .stop x c2 => .stop x c2
        | .out => .out)
      unfold partsP
      cases f b c1 with
      | out => rfl
      | stop x c2 => rfl
      | ok u c2 =>
        dsimp only
        show heldPl .do_ 1 b u c2 _ = _
        unfold heldPl
        rw [n1]
        dsimp only
        cases u with
        | num j => rw [if_pos (show pvH (PV.num j) = [119, 104, 111, 108, 101] from rfl)]; rfl
        | tru _ => rw [if_neg (by simp [pvH])]
        | clo _ _ => rw [if_neg (by simp [pvH])]
        | row _ => rw [if_neg (by simp [pvH])]
        | pr _ => rw [if_neg (by simp [pvH])]
    | tru _ => rw [if_neg (by simp [pvH])]
    | clo _ _ => rw [if_neg (by simp [pvH])]
    | row _ => rw [if_neg (by simp [pvH])]
    | pr _ => rw [if_neg (by simp [pvH])]
theorem forN {lk : Lk} {tg : Tg} {body : Env → Sto → Dn → Prop} {env : Env} {S : Sto} {D : Dn} (lv : liveS lk S) (h : D.nx env S) : wFor lk tg body [] env S D := ⟨lv, h⟩
section
variable {T : Nat → Option FD} {S : Sto} {Q : VQ} {X : XQ} {n : Nat}
end
end Bw

/-! QA2: programs of sums: the programs drawn -/
namespace Bw
open PySem (sizeLine)
theorem smal_le {i : Int} (h : -(10 ^ 40) < i) (h2 : i < 10 ^ 40) : smal i = true := by
  unfold smal big
  simp only [Bool.and_eq_true, decide_eq_true_eq]
  omega
section
variable {T : Nat → Option FD} {S : Sto} {Q : VQ} {X : XQ} {n : Nat} {pd : PySem.Addr} {ns : List Int} {b i c : Int}
theorem at_all {ws : List W} {j : Int} (h0 : 0 ≤ j) (h1 : j < ws.length) {P : W → Prop} (h : ∀ w ∈ ws, P w) : wSome (atW ws j) P := by
  rw [at_int (x := ws[j.toNat]'(by omega)) h0 (List.getElem?_eq_getElem (by omega))]
  exact h _ (List.getElem_mem _)
end
end Bw

/-! QA3: the law of sums -/
namespace Bw
open PySem (sizeLine)
def isAns60 (w : W) : Prop := (∃ p, w = wrongW p ∨ w = faultW p greatZ) ∨ ∃ z, w = .tup [.str [100, 111, 110, 101], .str z]
def plA (r : PR) : Option W :=
  match r with
  | .ok v _ => (textP 6 1 v).map fun z => .tup [.str [100, 111, 110, 101], .str z]
  | .stop w _ => some w
  | .out => none
theorem plainP_A {nums : List Int} {m : Nat} {t : Tr} {c : Int} : plainP nums m t c = plA (followP nums m t [] c) := by
  unfold plainP plA
  cases followP nums m t [] c <;> rfl
theorem smal_log {i : Int} (h : smal i = true) : i.natAbs.log2 < 1920 := by
  have h1 : i.natAbs < 2 ^ 200 := by
    unfold smal big at h
    simp only [Bool.and_eq_true, decide_eq_true_eq] at h
    omega
  have h2 := PySem.Flt.log2_lt_of (by decide) h1
  omega
section
variable {T : Nat → Option FD} {S : Sto} {Q : VQ} {X : XQ} {n : Nat} {pd : PySem.Addr} {ns : List Int} {b i c : Int}
theorem alike60 (h : T 312 = some d312) {w : W} (hw : isAns60 w) (q : Q (.bl true) S) : wF T (n + 1) 312 [w, w] S Q X := by
  rcases hw with ⟨p, rfl | rfl⟩ | ⟨z, rfl⟩
  · exact alikeG h (fun w hw => by simp at hw; rcases hw with rfl | rfl <;> trivial) rfl (by show 1 ≤ 60; decide) q
  · exact alikeG h (fun w hw => by simp at hw; rcases hw with rfl | rfl | rfl <;> trivial) rfl (by show 1 ≤ 60; decide) q
  · exact alikeG h (fun w hw => by simp at hw; rcases hw with rfl | rfl <;> trivial) rfl (by show 1 ≤ 60; decide) q
structure M60 (T : Nat → Option FD) : Prop where
  E : PT T
  h139 : T 139 = some d139
  h140 : T 140 = some d140
  h141 : T 141 = some d141
  h303 : T 303 = some d303
end
end Bw

/-! QB1: programs of functions: what the forms come to -/
namespace Bw
open PySem (sizeLine)
abbrev nL (p i : Int) : Tr := .nd .whole p [.int i] [] []
abbrev nN (p : Int) (z : List Nat) : Tr := .nd .name p [.str z] [] []
abbrev nD (p : Int) (s : List Nat) (a b : Tr) : Tr := .nd .do_ p [.str s] [] [a, b]
abbrev nC (p : Int) (a b : Tr) : Tr := .nd .call p [] [] [a, b]
abbrev nF' (p : Int) (z : List Nat) (k : Kd) (b : Tr) : Tr := .nd .fn p [.str z] [k] [b]
abbrev nS (p : Int) (f x : List Nat) (k1 k2 : Kd) (b : Tr) : Tr := .nd .self p [.str f, .str x] [k1, k2] [b]
abbrev nT (p : Int) (x : List Nat) (a b : Tr) : Tr := .nd .let_ p [.str x] [] [a, b]
abbrev nI (p : Int) (a b c : Tr) : Tr := .nd .if_ p [] [] [a, b, c]
abbrev nB (p : Int) (b : Bool) : Tr := .nd .truth p [.bl b] [] []
abbrev nR (p : Int) (k : Kd) (ts : List Tr) : Tr := .nd .row p [] [k] ts
abbrev nA (p : Int) (a b : Tr) : Tr := .nd .at_ p [] [] [a, b]
section
variable {m : Nat} {e e' : PEn} {c c1 c2 p i j : Int} {z s : List Nat} {a b d t : Tr} {v u : PV}
abbrev fo (m : Nat) (t : Tr) (e : PEn) (c : Int) : PR := followP [] m t e c
theorem fo_L : fo (m + 1) (nL p i) e c = .ok (.num i) c := rfl
theorem fo_B {x : Bool} : fo (m + 1) (nB p x) e c = .ok (.tru x) c := rfl
theorem fo_N (h : getE e z = some v) : fo (m + 1) (nN p z) e c = .ok v c := by
  show (match getE e z with | some v => PR.ok v c | none => .out) = _
  rw [h]
theorem fo_F {k : Kd} : fo (m + 1) (nF' p z k b) e c = .ok (.clo (nF' p z k b) e) c := rfl
theorem fo_S {k1 k2 : Kd} : fo (m + 1) (nS p z s k1 k2 b) e c = .ok (.clo (nS p z s k1 k2 b) e) c := rfl
theorem fo_T (ha : fo m a e c = .ok v c1) : fo (m + 1) (nT p z a b) e c = fo m b (putE e z v) c1 := by
  show (match fo m a e c with | .ok v c' => fo m b (putE e z v) c' | .stop y c' => .stop y c' | .out => .out) = _
  rw [ha]
theorem fo_I {x : Bool} (ha : fo m a e c = .ok (.tru x) c1) : fo (m + 1) (nI p a b d) e c = if x = true then fo m b e c1 else fo m d e c1 := by
  show (match fo m a e c with | .ok (.tru true) c' => fo m b e c' | .ok (.tru false) c' => fo m d e c' | .ok _ c' => .stop (wrongW (plP a)) c' | .stop y c' => .stop y c' | .out => .out) = _
  rw [ha]
  cases x <;> rfl
theorem fo_D : fo (m + 1) (nD p s a b) e c = do60 (fun t c => fo m t e c) s p a b c := by
  have h : followP [] (m + 1) (nD p s a b) e c = partsP (fun t c => fo m t e c) .do_ [a, b] [] c (fun vs c' => deedP .do_ p [.str s] vs c') := by
    conv => lhs; unfold followP
  exact h.trans parts_do
theorem do_ok {f : Tr → Int → PR} (ha : f a c = .ok (.num i) c1) (hb : f b c1 = .ok (.num j) c2) (hi : smal i = true) (hj : smal j = true) : do60 f s p a b c = reckP s i j p c2 := by
  unfold do60
  rw [ha]
  dsimp only
  rw [hb]
  dsimp only
  rw [hi, hj]
  rfl
theorem fo_Dn (ha : fo m a e c = .ok (.num i) c1) (hb : fo m b e c1 = .ok (.num j) c2) (hi : smal i = true) (hj : smal j = true) : fo (m + 1) (nD p s a b) e c = reckP s i j p c2 := by
  rw [fo_D]
  exact do_ok ha hb hi hj
theorem fo_Ds1 {w : W} (ha : fo m a e c = .stop w c1) : fo (m + 1) (nD p s a b) e c = .stop w c1 := by
  rw [fo_D]
  unfold do60
  dsimp only
  rw [ha]
theorem fo_Ds2 {w : W} (ha : fo m a e c = .ok (.num i) c1) (hb : fo m b e c1 = .stop w c2) : fo (m + 1) (nD p s a b) e c = .stop w c2 := by
  rw [fo_D]
  unfold do60
  dsimp only
  rw [ha]
  dsimp only
  rw [hb]
/-- a call of what is called and what is handed -/
def callR (m : Nat) (t : Tr) (e : PEn) (v : PV) (c : Int) : PR :=
  if c ≤ 0 then .stop spentW c else match bodyP t with
  | some b => fo m b (withinP t e (.clo t e) v) (c - 1)
  | none => .out
theorem fo_C (ha : fo m a e c = .ok (.clo t e') c1) (hb : fo m b e c1 = .ok v c2) : fo (m + 1) (nC p a b) e c = callR m t e' v c2 := by
  show partsP (fun t c => fo m t e c) .call [a, b] [] c _ = _
  unfold partsP
  rw [ha]
  dsimp only
  unfold heldPl
  rw [show needT .call ([] : List PV).length = some [116, 111] from rfl]
  dsimp only
  rw [if_pos (show pvH (PV.clo t e') = [116, 111] from rfl)]
  unfold partsP
  rw [hb]
  dsimp only
  unfold heldPl
  rw [show ([] ++ [PV.clo t e'] : List PV).length = 1 from rfl, show needT .call 1 = none from rfl]
  dsimp only
  unfold partsP
  rfl
theorem fo_Cs {w : W} (ha : fo m a e c = .stop w c1) : fo (m + 1) (nC p a b) e c = .stop w c1 := by
  show partsP (fun t c => fo m t e c) .call [a, b] [] c _ = _
  unfold partsP
  rw [ha]
theorem fo_Cw (ha : fo m a e c = .ok v c1) (h : pvH v ≠ [116, 111]) : fo (m + 1) (nC p a b) e c = .stop (wrongW (plP a)) c1 := by
  show partsP (fun t c => fo m t e c) .call [a, b] [] c _ = _
  unfold partsP
  rw [ha]
  dsimp only
  unfold heldPl
  rw [show needT .call ([] : List PV).length = some [116, 111] from rfl]
  dsimp only
  rw [if_neg h]
theorem call_sp (h : c ≤ 0) : callR m t e v c = .stop spentW c := if_pos h
theorem call_F {k : Kd} (h : 0 < c) : callR m (nF' p z k b) e v c = fo m b (putE e z v) (c - 1) := if_neg (by omega)
theorem call_S {k1 k2 : Kd} (h : 0 < c) : callR m (nS p s z k1 k2 b) e v c = fo m b (putE (putE e s (.clo (nS p s z k1 k2 b) e)) z v) (c - 1) := if_neg (by omega)
end
/-- the text of a sum -/
def totW (s : List Nat) (i j p : Int) : W :=
  let f := if s = [43] then i + j else if s = [45] then i - j else i * j
  if smal f = true then .tup [.str [100, 111, 110, 101], .str (decW f)] else faultW p greatZ
theorem plA_num {f c : Int} (h : smal f = true) : plA (.ok (.num f) c) = some (.tup [.str [100, 111, 110, 101], .str (decW f)]) := by
  show Option.map (fun z => W.tup [.str [100, 111, 110, 101], .str z]) (textP 6 1 (.num f)) = _
  have e : textP 6 1 (.num f) = some (decW f) := by
    unfold textP
    rw [if_neg (by decide)]
    exact if_pos h
  rw [e]
  rfl
theorem plA_reck {s : List Nat} {i j p c : Int} (h1 : s ≠ [60]) (h2 : s ≠ [61]) : plA (reckP s i j p c) = some (totW s i j p) := by
  unfold reckP totW
  rw [if_neg h1, if_neg h2]
  dsimp only
  generalize (if s = [43] then i + j else if s = [45] then i - j else i * j) = f
  by_cases h : smal f = true
  · rw [if_pos h, if_pos h]
    exact plA_num h
  · rw [if_neg h, if_neg h]
    rfl
/-- a form: its program, what is due, the calls it needs -/
structure okF (t : Tr) (due : W) (least : Int) : Prop where
  o : okTr t
  d : dT t ≤ 90
  f : frees t [] = []
  r : ∀ c : Int, 0 ≤ c → plA (fo 90 t [] c) = some (if c < least then spentW else due)
  a : isAns60 due
theorem totW_ans {s : List Nat} {i j p : Int} : isAns60 (totW s i j p) := by
  unfold totW
  dsimp only
  generalize (if s = [43] then i + j else if s = [45] then i - j else i * j) = f
  by_cases h : smal f = true
  · rw [if_pos h]
    exact .inr ⟨_, rfl⟩
  · rw [if_neg h]
    exact .inl ⟨p, .inr rfl⟩
/-- a call in two ends -/
theorem plA_call {m : Nat} {t : Tr} {e : PEn} {v : PV} {c : Int} {due : W} {l : Int} (h1 : 1 ≤ l) (h : 0 < c → plA (callR m t e v c) = some (if c < l then spentW else due)) : plA (callR m t e v c) = some (if c < l then spentW else due) := by
  by_cases h0 : c ≤ 0
  · rw [call_sp h0, if_pos (by omega)]
    rfl
  · exact h (by omega)
theorem g1 {e : PEn} {z : List Nat} {v : PV} : getE (putE e z v) z = some v := by rw [getE_put, if_pos rfl]
theorem g2 {e : PEn} {z y : List Nat} {v : PV} (h : y ≠ z) : getE (putE e z v) y = getE e y := by rw [getE_put, if_neg h]
theorem ok_alone {p1 p2 p3 p4 p5 p6 one two : Int} {w : List Nat} {k1 k2 : Kd} (h1 : smal one = true) (h2 : smal two = true) :
    okF (nC p1 (nS p2 w w k1 k2 (nD p3 [42] (nN p4 w) (nL p5 two))) (nL p6 one)) (totW [42] one two p3) 1 where
  o := by simp [okTr, okTrs, okN, nF, nK, binds, nmW]
  d := by simp [dT, dTs]
  f := by simp [frees, freess, within, nmW]
  a := totW_ans
  r c h := by
    rw [fo_C fo_S fo_L]
    refine plA_call (by decide) fun h0 => ?_
    rw [call_S h0, fo_Dn (fo_N g1) fo_L h1 h2, plA_reck (by decide) (by decide), if_neg (by omega)]
theorem ok_double {p1 p2 p3 p4 p5 p6 p7 p8 p9 one two : Int} {w o : List Nat} {k1 k2 : Kd} (h1 : smal one = true) (h2 : smal two = true) :
    okF (nC p1 (nC p2 (nF' p3 w k1 (nF' p4 o k2 (nD p5 [45] (nN p6 w) (nN p7 o)))) (nL p8 one)) (nL p9 two)) (totW [45] (if w = o then two else one) two p5) 2 where
  o := by simp [okTr, okTrs, okN, nF, nK, binds, nmW]
  d := by simp [dT, dTs]
  f := by simp [frees, freess, within, nmW]
  a := totW_ans
  r c h := by
    have hi : fo 89 (nC p2 (nF' p3 w k1 (nF' p4 o k2 (nD p5 [45] (nN p6 w) (nN p7 o)))) (nL p8 one)) [] c = callR 88 (nF' p3 w k1 (nF' p4 o k2 (nD p5 [45] (nN p6 w) (nN p7 o)))) [] (.num one) c := fo_C fo_F fo_L
    by_cases c0 : c ≤ 0
    · rw [call_sp c0] at hi
      rw [fo_Cs hi, if_pos (by omega)]
      rfl
    rw [call_F (by omega), fo_F] at hi
    rw [fo_C hi fo_L]
    by_cases c1 : c - 1 ≤ 0
    · rw [call_sp c1, if_pos (by omega)]
      rfl
    rw [call_F (by omega), if_neg (by omega)]
    by_cases e : w = o
    · subst e
      rw [fo_Dn (fo_N g1) (fo_N g1) h2 h2, plA_reck (by decide) (by decide), if_pos rfl]
    · rw [fo_Dn (fo_N ((g2 e).trans g1)) (fo_N g1) h1 h2, plA_reck (by decide) (by decide), if_neg e]
theorem ok_handed {p1 p2 p3 p4 p5 p6 p7 p8 p9 p10 p11 one two : Int} {w o : List Nat} {k1 k2 : Kd} (h1 : smal one = true) (h2 : smal two = true) :
    okF (nC p1 (nF' p2 o k1 (nD p3 [45] (nC p4 (nN p5 o) (nL p6 one)) (nC p7 (nN p8 o) (nL p9 two)))) (nF' p10 w k2 (nN p11 w))) (totW [45] one two p3) 3 where
  o := by simp [okTr, okTrs, okN, nF, nK, binds, nmW]
  d := by simp [dT, dTs]
  f := by simp [frees, freess, within, nmW]
  a := totW_ans
  r c h := by
    rw [fo_C fo_F fo_F]
    by_cases c0 : c ≤ 0
    · rw [call_sp c0, if_pos (by omega)]
      rfl
    rw [call_F (by omega)]
    have l : ∀ {i q q2 c : Int}, fo 88 (nC q (nN q2 o) (nL p6 i)) (putE [] o (.clo (nF' p10 w k2 (nN p11 w)) [])) c = callR 87 (nF' p10 w k2 (nN p11 w)) [] (.num i) c := fo_C (fo_N g1) fo_L
    have l1 : fo 88 (nC p4 (nN p5 o) (nL p6 one)) (putE [] o (.clo (nF' p10 w k2 (nN p11 w)) [])) (c - 1) = callR 87 (nF' p10 w k2 (nN p11 w)) [] (.num one) (c - 1) := fo_C (fo_N g1) fo_L
    by_cases c1 : c - 1 ≤ 0
    · rw [call_sp c1] at l1
      rw [fo_Ds1 l1, if_pos (by omega)]
      rfl
    rw [call_F (by omega), fo_N g1] at l1
    have l2 : fo 88 (nC p7 (nN p8 o) (nL p9 two)) (putE [] o (.clo (nF' p10 w k2 (nN p11 w)) [])) (c - 1 - 1) = callR 87 (nF' p10 w k2 (nN p11 w)) [] (.num two) (c - 1 - 1) := fo_C (fo_N g1) fo_L
    by_cases c2 : c - 1 - 1 ≤ 0
    · rw [call_sp c2] at l2
      rw [fo_Ds2 l1 l2, if_pos (by omega)]
      rfl
    rw [call_F (by omega), fo_N g1] at l2
    rw [fo_Dn l1 l2 h1 h2, plA_reck (by decide) (by decide), if_neg (by omega)]
theorem ok_row {p1 p2 p3 p4 p5 p6 p7 p8 p9 p10 p11 i5 i6 one two : Int} {w : List Nat} {k1 k2 : Kd} (h1 : smal one = true) (h2 : smal two = true) :
    okF (nC p1 (nA p2 (nR p3 k1 [nL p4 i5, nF' p5 w k2 (nD p6 [43] (nN p7 w) (nL p8 two)), nL p9 i6]) (nL p10 1)) (nL p11 one)) (totW [43] one two p6) 1 where
  o := by simp [okTr, okTrs, okN, nF, nK, binds, nmW]
  d := by simp [dT, dTs]
  f := by simp [frees, freess, within, nmW]
  a := totW_ans
  r c h := by
    have l : fo 89 (nA p2 (nR p3 k1 [nL p4 i5, nF' p5 w k2 (nD p6 [43] (nN p7 w) (nL p8 two)), nL p9 i6]) (nL p10 1)) [] c = .ok (.clo (nF' p5 w k2 (nD p6 [43] (nN p7 w) (nL p8 two))) []) c := rfl
    rw [fo_C l fo_L]
    refine plA_call (by decide) fun h0 => ?_
    rw [call_F h0, fo_Dn (fo_N g1) fo_L h1 h2, plA_reck (by decide) (by decide), if_neg (by omega)]
theorem ok_nocall {p1 p2 p3 p4 one : Int} {hd : Tr} (hh : (∃ p i, hd = nL p i) ∨ (∃ p b, hd = nB p b) ∨ ∃ p k, hd = nR p k []) :
    okF (nC p1 hd (nD p2 [43] (nB p3 true) (nL p4 one))) (wrongW (plP hd)) 0 where
  o := by rcases hh with ⟨p, i, rfl⟩ | ⟨p, i, rfl⟩ | ⟨p, i, rfl⟩ <;> simp [okTr, okTrs, okN, nF, nK, binds, nmW]
  d := by rcases hh with ⟨p, i, rfl⟩ | ⟨p, i, rfl⟩ | ⟨p, i, rfl⟩ <;> simp [dT, dTs]
  f := by rcases hh with ⟨p, i, rfl⟩ | ⟨p, i, rfl⟩ | ⟨p, i, rfl⟩ <;> simp [frees, freess, within, nmW]
  a := .inl ⟨_, .inl rfl⟩
  r c h := by
    rw [if_neg (by omega)]
    rcases hh with ⟨p, i, rfl⟩ | ⟨p, i, rfl⟩ | ⟨p, i, rfl⟩
    · rw [fo_Cw fo_L (show ([119, 104, 111, 108, 101] : List Nat) ≠ [116, 111] by decide)]; rfl
    · rw [fo_Cw fo_B (show ([116, 114, 117, 116, 104] : List Nat) ≠ [116, 111] by decide)]; rfl
    · rw [fo_Cw (v := .row []) (c1 := c) rfl (by decide)]; rfl
theorem ok_shown {p1 p2 p3 p4 one : Int} {w o : List Nat} {k1 k2 : Kd} (hn : o ≠ w) :
    okF (nC p1 (nS p2 o w k1 k2 (nN p3 o)) (nL p4 one)) (.tup [.str [100, 111, 110, 101], .str [102, 110]]) 1 where
  o := by simp [okTr, okTrs, okN, nF, nK, binds, nmW]
  d := by simp [dT, dTs]
  f := by simp [frees, freess, within, nmW]
  a := .inr ⟨_, rfl⟩
  r c h := by
    rw [fo_C fo_S fo_L]
    refine plA_call (by decide) fun h0 => ?_
    rw [call_S h0, fo_N ((g2 hn).trans g1), if_neg (by omega)]
    rfl
theorem ok_again0 {p1 p2 p3 p4 p5 p6 p7 one two : Int} {w : List Nat} (h1 : smal one = true) (h2 : smal two = true) :
    okF (nT p1 w (nL p2 one) (nD p3 [45] (nT p4 w (nL p5 two) (nN p6 w)) (nN p7 w))) (totW [45] two one p3) 0 where
  o := by simp [okTr, okTrs, okN, nF, nK, binds, nmW]
  d := by simp [dT, dTs]
  f := by simp [frees, freess, within, nmW]
  a := totW_ans
  r c h := by
    rw [fo_T fo_L]
    have l : fo 88 (nT p4 w (nL p5 two) (nN p6 w)) (putE [] w (.num one)) c = .ok (.num two) c := by rw [fo_T fo_L, fo_N g1]
    rw [fo_Dn l (fo_N g1) h2 h1, plA_reck (by decide) (by decide), if_neg (by omega)]
theorem ok_again1 {p1 p2 p3 p4 p5 p6 p7 p8 p9 one two : Int} {w : List Nat} {k1 k2 : Kd} (h1 : smal one = true) (h2 : smal two = true) :
    okF (nC p1 (nF' p2 w k1 (nD p3 [45] (nC p4 (nF' p5 w k2 (nN p6 w)) (nL p7 two)) (nN p8 w))) (nL p9 one)) (totW [45] two one p3) 2 where
  o := by simp [okTr, okTrs, okN, nF, nK, binds, nmW]
  d := by simp [dT, dTs]
  f := by simp [frees, freess, within, nmW]
  a := totW_ans
  r c h := by
    rw [fo_C fo_F fo_L]
    by_cases c0 : c ≤ 0
    · rw [call_sp c0, if_pos (by omega)]
      rfl
    rw [call_F (by omega)]
    have l : fo 88 (nC p4 (nF' p5 w k2 (nN p6 w)) (nL p7 two)) (putE [] w (.num one)) (c - 1) = callR 87 (nF' p5 w k2 (nN p6 w)) (putE [] w (.num one)) (.num two) (c - 1) := fo_C fo_F fo_L
    by_cases c1 : c - 1 ≤ 0
    · rw [call_sp c1] at l
      rw [fo_Ds1 l, if_pos (by omega)]
      rfl
    rw [call_F (by omega), fo_N g1] at l
    rw [fo_Dn l (fo_N g1) h2 h1, plA_reck (by decide) (by decide), if_neg (by omega)]
theorem reck_a0 {i p c : Int} (h : smal i = true) : reckP [43] i 0 p c = .ok (.num i) c := by
  unfold reckP
  rw [if_neg (by decide), if_neg (by decide)]
  dsimp only
  rw [if_pos rfl, Int.add_zero, if_pos h]
theorem ok_kept {p1 p2 p3 p4 p5 p6 p7 p8 p9 p10 p11 p12 p13 p14 one two : Int} {w own o : List Nat} {k : Kd} (h1 : smal one = true) (h2 : smal two = true) (n1 : own ≠ w) (n2 : w ≠ o) :
    okF (nT p1 w (nL p2 one) (nT p3 own (nF' p4 o k (nD p5 [45] (nN p6 w) (nN p7 o))) (nT p8 w (nL p9 two) (nC p10 (nN p11 own) (nD p12 [43] (nN p13 w) (nL p14 0)))))) (totW [45] one two p5) 1 where
  o := by simp [okTr, okTrs, okN, nF, nK, binds, nmW]
  d := by simp [dT, dTs]
  f := by simp [frees, freess, within, nmW]
  a := totW_ans
  r c h := by
    rw [fo_T fo_L, fo_T fo_F, fo_T fo_L]
    have l : ∀ {e : PEn}, fo 86 (nD p12 [43] (nN p13 w) (nL p14 0)) (putE e w (.num two)) c = .ok (.num two) c := by
      intro e
      rw [fo_Dn (fo_N g1) fo_L h2 (by decide), reck_a0 h2]
    rw [fo_C (fo_N ((g2 n1).trans g1)) l]
    refine plA_call (by decide) fun h0 => ?_
    rw [call_F h0, fo_Dn (fo_N ((g2 n2).trans g1)) (fo_N g1) h1 h2, plA_reck (by decide) (by decide), if_neg (by omega)]
/-! ### the loops -/
/-- the sums of the turns, as the law reckons them -/
def accS (N st pm pa : Int) : Nat → Int ⊕ W
  | 0 => .inl N
  | k + 1 => match accS N st pm pa k with
    | .inl n => if smal ((k : Int) + 1 + st) = true then (if smal (n + ((k : Int) + 1 + st)) = true then .inl (n + ((k : Int) + 1 + st)) else .inr (faultW pa greatZ)) else .inr (faultW pm greatZ)
    | .inr w => .inr w
def accW : Int ⊕ W → W
  | .inl n => .tup [.str [100, 111, 110, 101], .str (decW n)]
  | .inr w => w
def accR (r : Int ⊕ W) (c : Int) : PR :=
  match r with
  | .inl n => .ok (.num n) c
  | .inr w => .stop w c
theorem accS_ok {N st pm pa : Int} (hN : smal N = true) : ∀ k, (∃ n, accS N st pm pa k = .inl n ∧ smal n = true) ∨ ∃ p, accS N st pm pa k = .inr (faultW p greatZ)
  | 0 => .inl ⟨N, rfl, hN⟩
  | k + 1 => by
    rcases accS_ok hN k with ⟨n, e, hn⟩ | ⟨p, e⟩
    · unfold accS
      rw [e]
      dsimp only
      by_cases h1 : smal ((k : Int) + 1 + st) = true
      · rw [if_pos h1]
        by_cases h2 : smal (n + ((k : Int) + 1 + st)) = true
        · rw [if_pos h2]; exact .inl ⟨_, rfl, h2⟩
        · rw [if_neg h2]; exact .inr ⟨_, rfl⟩
      · rw [if_neg h1]; exact .inr ⟨_, rfl⟩
    · unfold accS
      rw [e]
      exact .inr ⟨_, rfl⟩
section
variable {p3 p4 p5 p6 p7 p8 p9 p10 p11 p12 p13 p14 p15 p16 p17 N st : Int} {w o : List Nat} {k1 k2 : Kd}
/-- the call by its own name -/
abbrev agT (p9 p10 p11 p12 p13 : Int) (w o : List Nat) : Tr := nC p9 (nN p10 o) (nD p11 [45] (nN p12 w) (nL p13 1))
abbrev bdT (p4 p5 p6 p7 p8 : Int) (w : List Nat) (N : Int) (ag : Tr) : Tr := nI p4 (nD p5 [60] (nN p6 w) (nL p7 1)) (nL p8 N) ag
abbrev smT (p14 p15 p16 p17 : Int) (w : List Nat) (st : Int) (ag : Tr) : Tr := nD p14 [43] ag (nD p15 [43] (nN p16 w) (nL p17 st))
theorem small_c {x : Int} (h0 : -100 ≤ x) (h1 : x ≤ 100) : smal x = true := smal_le (by omega) (by omega)
theorem reck_lt {i j p c : Int} : reckP [60] i j p c = .ok (.tru (decide (i < j))) c := rfl
theorem reck_m1 {i p c : Int} (h0 : -90 ≤ i) (h1 : i ≤ 90) : reckP [45] i 1 p c = .ok (.num (i - 1)) c := by
  show (if smal (i - 1) = true then PR.ok (.num (i - 1)) c else .stop (faultW p greatZ) c) = _
  rw [if_pos (small_c (by omega) (by omega))]
theorem bd_small {m : Nat} {ag : Tr} {e : PEn} {x c : Int} (h0 : -90 ≤ x) (h1 : x < 1) (hx : getE e w = some (.num x)) : fo (m + 3) (bdT p4 p5 p6 p7 p8 w N ag) e c = .ok (.num N) c := by
  have t : fo (m + 2) (nD p5 [60] (nN p6 w) (nL p7 1)) e c = .ok (.tru true) c := by
    rw [fo_Dn (fo_N hx) fo_L (small_c (by omega) (by omega)) (by decide), reck_lt, decide_eq_true h1]
  rw [fo_I t]
  rfl
theorem bd_more {m : Nat} {ag : Tr} {e : PEn} {x c : Int} (h0 : 1 ≤ x) (h1 : x ≤ 90) (hx : getE e w = some (.num x)) : fo (m + 3) (bdT p4 p5 p6 p7 p8 w N ag) e c = fo (m + 2) ag e c := by
  have t : fo (m + 2) (nD p5 [60] (nN p6 w) (nL p7 1)) e c = .ok (.tru false) c := by
    rw [fo_Dn (fo_N hx) fo_L (small_c (by omega) (by omega)) (by decide), reck_lt, decide_eq_false (by omega)]
  rw [fo_I t]
  rfl
theorem ag_call {m : Nat} {e : PEn} {v : PV} {x c : Int} {t : Tr} {e' : PEn} (h0 : 1 ≤ x) (h1 : x ≤ 90) (hx : getE e w = some (.num x)) (ho : getE e o = some (.clo t e')) : fo (m + 3) (agT p9 p10 p11 p12 p13 w o) e c = callR (m + 2) t e' (.num (x - 1)) c := by
  have l : fo (m + 2) (nD p11 [45] (nN p12 w) (nL p13 1)) e c = .ok (.num (x - 1)) c := by
    rw [fo_Dn (fo_N hx) fo_L (small_c (by omega) (by omega)) (by decide), reck_m1 (by omega) h1]
  exact fo_C (fo_N ho) l
theorem turn_last (hn : o ≠ w) {p2 : Int} {t : Tr} (ht : t = nS p2 o w k1 k2 (bdT p4 p5 p6 p7 p8 w N (agT p9 p10 p11 p12 p13 w o))) : ∀ (k m : Nat) (x c : Int), 4 * k + 6 ≤ m → k ≤ 90 → (x = (k : Int) ∨ (k = 0 ∧ x ≤ 0 ∧ -90 ≤ x)) → 0 ≤ c →
    fo m (bdT p4 p5 p6 p7 p8 w N (agT p9 p10 p11 p12 p13 w o)) (putE (putE [] o (.clo t [])) w (.num x)) c = if c < k then .stop spentW 0 else .ok (.num N) (c - k)
  | 0, m, x, c, hm, _, hx, hc => by
    obtain ⟨m, rfl⟩ : ∃ m', m = m' + 3 := ⟨m - 3, by omega⟩
    rw [bd_small (by omega) (by omega) g1, if_neg (by omega), show c - ((0 : Nat) : Int) = c by omega]
  | k + 1, m, x, c, hm, hk, hx, hc => by
    obtain ⟨m, rfl⟩ : ∃ m', m = m' + 4 := ⟨m - 4, by omega⟩
    have hx : x = ((k + 1 : Nat) : Int) := by omega
    rw [bd_more (m := m + 1) (by omega) (by omega) g1, ag_call (m := m) (v := .num 0) (x := x) (by omega) (by omega) g1 ((g2 hn).trans g1)]
    by_cases c0 : c ≤ 0
    · rw [call_sp c0, if_pos (by omega), show c = 0 by omega]
    subst ht
    rw [call_S (by omega), turn_last hn rfl k (m + 2) (x - 1) (c - 1) (by omega) (by omega) (by omega) (by omega)]
    by_cases h : c - 1 < (k : Int)
    · rw [if_pos h, if_pos (by omega)]
    · rw [if_neg h, if_neg (by omega), show c - 1 - (k : Int) = c - ((k + 1 : Nat) : Int) by omega]
theorem turn_sum (hn : o ≠ w) (hs : smal st = true) (hN : smal N = true) {p2 : Int} {t : Tr} (ht : t = nS p2 o w k1 k2 (bdT p4 p5 p6 p7 p8 w N (smT p14 p15 p16 p17 w st (agT p9 p10 p11 p12 p13 w o)))) : ∀ (k m : Nat) (x c : Int), 4 * k + 6 ≤ m → k ≤ 90 → (x = (k : Int) ∨ (k = 0 ∧ x ≤ 0 ∧ -90 ≤ x)) → 0 ≤ c →
    fo m (bdT p4 p5 p6 p7 p8 w N (smT p14 p15 p16 p17 w st (agT p9 p10 p11 p12 p13 w o))) (putE (putE [] o (.clo t [])) w (.num x)) c = if c < k then .stop spentW 0 else accR (accS N st p15 p14 k) (c - k)
  | 0, m, x, c, hm, _, hx, hc => by
    obtain ⟨m, rfl⟩ : ∃ m', m = m' + 3 := ⟨m - 3, by omega⟩
    rw [bd_small (by omega) (by omega) g1, if_neg (by omega), show c - ((0 : Nat) : Int) = c by omega]
    rfl
  | k + 1, m, x, c, hm, hk, hx, hc => by
    obtain ⟨m, rfl⟩ : ∃ m', m = m' + 5 := ⟨m - 5, by omega⟩
    have hx : x = ((k + 1 : Nat) : Int) := by omega
    rw [bd_more (m := m + 2) (by omega) (by omega) g1]
    have l := ag_call (m := m) (p9 := p9) (p10 := p10) (p11 := p11) (p12 := p12) (p13 := p13) (w := w) (o := o) (v := .num 0) (x := x) (c := c) (e := putE (putE [] o (.clo t [])) w (.num x)) (by omega) (by omega) g1 ((g2 hn).trans g1)
    by_cases c0 : c ≤ 0
    · rw [call_sp c0] at l
      rw [fo_Ds1 l, if_pos (by omega), show c = 0 by omega]
    have ih := turn_sum hn hs hN ht k (m + 2) (x - 1) (c - 1) (by omega) (by omega) (by omega) (by omega)
    rw [ht] at l
    rw [call_S (by omega), ← ht, ih] at l
    by_cases h : c - 1 < (k : Int)
    · rw [if_pos h] at l
      rw [fo_Ds1 l, if_pos (by omega)]
    rw [if_neg h] at l
    rw [if_neg (by omega)]
    have hr : fo (m + 3) (nD p15 [43] (nN p16 w) (nL p17 st)) (putE (putE [] o (.clo t [])) w (.num x)) (c - 1 - k) = if smal (x + st) = true then .ok (.num (x + st)) (c - 1 - k) else .stop (faultW p15 greatZ) (c - 1 - k) := by
      rw [fo_Dn (fo_N g1) fo_L (small_c (by omega) (by omega)) hs]
      rfl
    have ec : c - 1 - (k : Int) = c - ((k + 1 : Nat) : Int) := by omega
    have ex : (k : Int) + 1 = x := by omega
    unfold accS
    rw [ex]
    rcases accS_ok (st := st) (pm := p15) (pa := p14) hN k with ⟨n, e, hsn⟩ | ⟨p, e⟩
    · rw [e] at l ⊢
      have l : fo (m + 3) (agT p9 p10 p11 p12 p13 w o) (putE (putE [] o (.clo t [])) w (.num x)) c = .ok (.num n) (c - 1 - k) := l
      dsimp only
      by_cases s1 : smal (x + st) = true
      · rw [if_pos s1] at hr ⊢
        rw [fo_Dn l hr hsn s1, ← ec]
        by_cases s2 : smal (n + (x + st)) = true
        · rw [if_pos s2]
          show (if smal (n + (x + st)) = true then _ else _) = _
          rw [if_pos s2]
          rfl
        · rw [if_neg s2]
          show (if smal (n + (x + st)) = true then _ else _) = _
          rw [if_neg s2]
          rfl
      · rw [if_neg s1] at hr ⊢
        rw [fo_Ds2 l hr, ← ec]
        rfl
    · rw [e] at l ⊢
      have l : fo (m + 3) (agT p9 p10 p11 p12 p13 w o) (putE (putE [] o (.clo t [])) w (.num x)) c = .stop (faultW p greatZ) (c - 1 - k) := l
      rw [fo_Ds1 l, ← ec]
      rfl
end
theorem acc_plA {N st pm pa c : Int} {k : Nat} (hN : smal N = true) : plA (accR (accS N st pm pa k) c) = some (accW (accS N st pm pa k)) ∧ isAns60 (accW (accS N st pm pa k)) := by
  rcases accS_ok (st := st) (pm := pm) (pa := pa) hN k with ⟨n, e, hn⟩ | ⟨p, e⟩
  · rw [e]
    exact ⟨plA_num hn, .inr ⟨_, rfl⟩⟩
  · rw [e]
    exact ⟨rfl, .inl ⟨p, .inr rfl⟩⟩
theorem ok_last {p1 p2 p3 p4 p5 p6 p7 p8 p9 p10 p11 p12 p13 N x : Int} {w o : List Nat} {k1 k2 : Kd} (hn : o ≠ w) (hN : smal N = true) (h0 : -2 ≤ x) (h1 : x ≤ 13) :
    okF (nC p1 (nS p2 o w k1 k2 (bdT p4 p5 p6 p7 p8 w N (agT p9 p10 p11 p12 p13 w o))) (nL p3 x)) (.tup [.str [100, 111, 110, 101], .str (decW N)]) (1 + max x 0) where
  o := by simp [okTr, okTrs, okN, nF, nK, binds, nmW]
  d := by simp [dT, dTs]
  f := by simp [frees, freess, within, nmW]
  a := .inr ⟨_, rfl⟩
  r c h := by
    rw [fo_C fo_S fo_L]
    refine plA_call (by omega) fun h0 => ?_
    rw [call_S h0, turn_last hn rfl x.toNat 89 x (c - 1) (by omega) (by omega) (by omega) (by omega)]
    by_cases hc : c - 1 < ((x.toNat : Nat) : Int)
    · rw [if_pos hc, if_pos (by omega)]
      rfl
    · rw [if_neg hc, if_neg (by omega)]
      exact plA_num hN
theorem ok_sum {p1 p2 p3 p4 p5 p6 p7 p8 p9 p10 p11 p12 p13 p14 p15 p16 p17 N st x : Int} {w o : List Nat} {k1 k2 : Kd} (hn : o ≠ w) (hN : smal N = true) (hs : smal st = true) (h0 : -2 ≤ x) (h1 : x ≤ 13) :
    okF (nC p1 (nS p2 o w k1 k2 (bdT p4 p5 p6 p7 p8 w N (smT p14 p15 p16 p17 w st (agT p9 p10 p11 p12 p13 w o)))) (nL p3 x)) (accW (accS N st p15 p14 x.toNat)) (1 + max x 0) where
  o := by simp [okTr, okTrs, okN, nF, nK, binds, nmW]
  d := by simp [dT, dTs]
  f := by simp [frees, freess, within, nmW]
  a := (acc_plA (c := 0) hN).2
  r c h := by
    rw [fo_C fo_S fo_L]
    refine plA_call (by omega) fun h0 => ?_
    rw [call_S h0, turn_sum hn hs hN rfl x.toNat 89 x (c - 1) (by omega) (by omega) (by omega) (by omega)]
    by_cases hc : c - 1 < ((x.toNat : Nat) : Int)
    · rw [if_pos hc, if_pos (by omega)]
      rfl
    · rw [if_neg hc, if_neg (by omega)]
      exact (acc_plA hN).1
end Bw

/-! QB2: five words all unlike (as in ND7), and the deal -/
namespace Bw
open PySem (sizeLine)
theorem rng_getQ {lo : Int} {n i : Nat} {w : W} (h : (rngW lo n)[i]? = some w) : i < n ∧ w = .int (lo + (i : Int)) := by
  unfold rngW at h
  rw [List.getElem?_map] at h
  by_cases hi : i < n
  · rw [List.getElem?_range hi] at h
    exact ⟨hi, (Option.some.inj h).symm⟩
  · rw [List.getElem?_eq_none (by simpa using hi)] at h
    cases h
theorem rng_get0Q {n i : Nat} {w : W} (h : (rngW 0 n)[i]? = some w) : i < n ∧ w = .int (i : Int) := by
  obtain ⟨h1, h2⟩ := rng_getQ h
  exact ⟨h1, by rw [h2]; simp⟩
theorem log_okQ {i : Int} (h0 : 0 ≤ i) (h : i < 9000) : i.natAbs.log2 < 9000 := Nat.lt_of_le_of_lt (Nat.log2_le_self _) (by omega)
theorem intOf_bQ {b : Bool} {S : Sto} {Q : VQ} : wIntOf (.bl b) S Q = Q (.int (if b then 1 else 0)) S := rfl
def okSQ (z : List Nat) : Bool := z.all (· < 0x110000)
def azQ : List Nat := [97, 98, 99, 100, 101, 102, 103, 104, 105, 106, 107, 108, 109, 110, 111, 112, 113, 114, 115, 116, 117, 118, 119, 120, 121, 122]
theorem az_getQ : ∀ m : Nat, m < 26 → azQ[m]? = some (97 + m) := by decide
def wdPQ (at' : Nat) (v : Int) (i : Nat) (z : List Nat) : Prop := okSQ z = true ∧ z.length ≤ 20 ∧ z[at']? = some (97 + ((v + 5 * (i : Int)) % 26).toNat)
theorem okS_appQ {a b : List Nat} (h : okSQ a = true) (k : okSQ b = true) : okSQ (a ++ b) = true := by unfold okSQ at *; rw [List.all_append, h, k]; rfl
section
variable {T : Nat → Option FD} {S : Sto} {Q : VQ} {X : XQ} {n : Nat} {c : Int}
theorem idx_azQ {j : Int} (h0 : 0 ≤ j) (h : j < 26) (q : Q (.str [97 + j.toNat]) S) : wIdx (.str [97, 98, 99, 100, 101, 102, 103, 104, 105, 106, 107, 108, 109, 110, 111, 112, 113, 114, 115, 116, 117, 118, 119, 120, 121, 122]) (.int j) S Q := by
  have sz : 1000 ≤ sizeLine := by decide
  obtain ⟨m, rfl⟩ : ∃ m : Nat, j = (m : Int) := ⟨j.toNat, by omega⟩
  have hm : m < 26 := by omega
  have e : atW azQ (m : Int) = some (97 + m) := by rw [at_nat (by show m < 26; omega), az_getQ m hm]
  show azQ.length ≤ sizeLine ∧ (match atW azQ (m : Int) with | some c => Q (.str [c]) S | none => False)
  rw [e]
  exact ⟨by show 26 ≤ _; omega, q⟩
theorem words_ok4Q (h : T 176 = some d176) (hc : 0 ≤ c) (q : ∀ ws : List (List Nat), ws.length = 5 → ws.Nodup → (∀ z ∈ ws, okSQ z = true ∧ z.length ≤ 20) → Q (.rl (ws.map W.str)) S) : wF T (n + 1) 176 [.int c] S Q X := by
  have sz : 1000 ≤ sizeLine := by decide
  rw [wF_eq h, d176]
  walk_at "w"
  obtain ⟨m, hm, em⟩ : ∃ m : Nat, m ≤ 7 ∧ c % 8 = (m : Int) := ⟨(c % 8).toNat, by omega, by omega⟩
  refine ⟨by decide, ?_⟩
  rw [em, if_pos (fits_of (by omega) (by omega))]
  walk_at "w"
  rw [show (1 + (m : Int)).toNat = m + 1 by omega]
  refine ⟨by rw [rngW_len]; omega, ?_⟩
  refine compM (fun w : W => match w with | W.int k => W.int ((c / (k + 1) + k * k) % 26) | w => w) trivial (fun x hx D hD R rr => ?_) (fun D hD => ?_)
  · obtain ⟨i, hi, rfl⟩ := mem_rng0 hx
    walk_at "w"
    refine ⟨⟨by omega, log_okQ (by omega) (by omega)⟩, ?_⟩
    refine ⟨.inl (.inl ⟨by omega, by omega⟩), by decide, rr⟩
  · obtain ⟨us, hus⟩ : ∃ us, us = List.map (fun w : W => match w with | W.int k => W.int ((c / (k + 1) + k * k) % 26) | w => w) (rngW 0 (m + 1)) := ⟨_, rfl⟩
    have hl : us.length = m + 1 := by rw [hus, List.length_map, rngW_len]
    have hg : ∀ j : Nat, j < m + 1 → ∃ v, us[j]? = some (.int v) ∧ 0 ≤ v ∧ v < 26 := fun j hj => by
      refine ⟨(c / ((j : Int) + 1) + (j : Int) * (j : Int)) % 26, ?_, Int.emod_nonneg _ (by decide), Int.emod_lt_of_pos _ (by decide)⟩
      rw [hus, List.getElem?_map]
      unfold rngW
      rw [List.getElem?_map, List.getElem?_range hj]
      simp
    rw [← hus]
    clear hus
    walk_at "w"
    rw [set_del hD]
    refine ⟨⟨by decide, by decide⟩, by omega, ?_⟩
    obtain ⟨ap, hap, eap⟩ : ∃ ap : Nat, ap < m + 1 ∧ c / 8 % (us.length : Int) = (ap : Int) := by
      have h1 := Int.emod_nonneg (c / 8) (show (us.length : Int) ≠ 0 by omega)
      have h2 := Int.emod_lt_of_pos (c / 8) (show 0 < (us.length : Int) by omega)
      exact ⟨(c / 8 % (us.length : Int)).toNat, by omega, by omega⟩
    rw [eap]
    obtain ⟨va, hva, hv0, hv1⟩ := hg ap hap
    intro p hp
    rw [if_pos (fits_of (by omega) (by omega))]
    walk_at "w"
    refine forI (fun i e S' => (∃ ws : List (List Nat), S' = S.set p (.lst (ws.map W.str)) ∧ ws.length = i ∧ ∀ k z, ws[k]? = some z → wdPQ ap va k z) ∧ ∃ x y z, e = [some (.int c), some (.str [97, 98, 99, 100, 101, 102, 103, 104, 105, 106, 107, 108, 109, 110, 111, 112, 113, 114, 115, 116, 117, 118, 119, 120, 121, 122]), some (.rl us), some (.int (ap : Int)), some (.ref p), x, y, z]) 0 ⟨⟨[], rfl, rfl, by simp⟩, _, _, _, rfl⟩ (fun _ _ _ _ _ => trivial) ?_ ?_
    · rintro i w0 e S' nx hi ⟨⟨ws, rfl, hws, hwp⟩, x, y, z, rfl⟩ hn
      have hi := rng_get0Q hi
      have h5 : i < 5 := hi.1
      have e5 := hi.2
      subst e5
      rw [Nat.zero_add] at hn hws
      walk_at "w"
      rw [if_pos (fits_of (by omega) (by omega))]
      walk_at "w"
      refine forI (fun j e S' => S' = S.set p (.lst (ws.map W.str)) ∧ ∃ (z : List Nat) (x : Option W), z.length = j ∧ okSQ z = true ∧ (ap < j → z[ap]? = some (97 + ((va + 5 * (i : Int)) % 26).toNat)) ∧ e = [some (.int c), some (.str [97, 98, 99, 100, 101, 102, 103, 104, 105, 106, 107, 108, 109, 110, 111, 112, 113, 114, 115, 116, 117, 118, 119, 120, 121, 122]), some (.rl us), some (.int (ap : Int)), some (.ref p), some (.int (i : Int)), some (.str z), x]) 0 ⟨rfl, [], _, rfl, rfl, fun h => by omega, rfl⟩ (fun _ _ _ _ _ => trivial) ?_ ?_
      · rintro j w1 e S' nx2 hj ⟨rfl, z, x, hz, hzo, hza, rfl⟩ hn2
        have hj := rng_get0Q hj
        have h6 := hj.1
        have e6 := hj.2
        subst e6
        rw [Nat.zero_add] at hn2 hz hza
        walk_at "w"
        obtain ⟨v, hv, hw0, hw1⟩ := hg j (by omega)
        rw [at_nat (by omega), hv]
        walk_at "w"
        refine ⟨.inl (.inl ⟨by omega, by omega⟩), ?_⟩
        rw [intOf_bQ]
        walk_at "w"
        refine ⟨.inl (.inr ⟨by split <;> decide, by split <;> decide⟩), by decide, ?_⟩
        refine idx_azQ (by omega) (by omega) ?_
        walk_at "w"
        refine ⟨by omega, ?_⟩
        refine hn2 _ _ ⟨rfl, z ++ [_], _, by simp [hz], okS_appQ hzo (by unfold okSQ; simp; omega), fun ha => ?_, rfl⟩
        by_cases hja : ap < j
        · rw [List.getElem?_append_left (by omega)]; exact hza hja
        · have ej : j = ap := by omega
          subst ej
          rw [hva] at hv
          cases hv
          rw [List.getElem?_append_right (by omega), hz, Nat.sub_self]
          have eb : ((j : Int) == (j : Int)) = true := by simp
          rw [eb]
          simp
      · rintro e S' ⟨rfl, z, x, hz, hzo, hza, rfl⟩
        rw [rngW_len, Nat.zero_add] at hz hza
        have hza := hza (by omega)
        walk_at "w"
        have put : ∀ (z2 : List Nat) (nx3 : Sto → Prop), wdPQ ap va i z2 → (∀ (ws' : List (List Nat)) (S' : Sto), S' = S.set p (.lst (ws'.map W.str)) → ws'.length = i + 1 → (∀ k z, ws'[k]? = some z → wdPQ ap va k z) → nx3 S') → (lstOf (S.set p (.lst (ws.map W.str))) (.ref p)).isSome = true ∧ wApp (.ref p) (.str z2) (S.set p (.lst (ws.map W.str))) fun _ S1 => nx3 S1 := fun z2 nx3 hw h => by
          rw [lstOf_ref Sto.set_same, wApp_ref Sto.set_same]
          refine ⟨rfl, by simp; omega, ?_⟩
          rw [set_set]
          refine h (ws ++ [z2]) _ (by rw [List.map_append]; rfl) (by simp [hws]) fun k y e => ?_
          by_cases hk : k < ws.length
          · rw [List.getElem?_append_left hk] at e; exact hwp k y e
          · rw [List.getElem?_append_right (by omega)] at e
            have : k - ws.length = 0 := by
              by_cases q : k - ws.length = 0
              · exact q
              · rw [List.getElem?_eq_none (by simp; omega)] at e; cases e
            rw [this] at e
            cases e
            have ek : k = i := by omega
            rw [ek]; exact hw
        refine wB_or (fun _ => ?_) (fun _ _ => ?_)
        · refine ⟨by omega, ?_⟩
          refine put _ _ ⟨okS_appQ hzo rfl, by simp; omega, by rw [List.getElem?_append_left (by omega)]; exact hza⟩ fun ws' S' e1 e2 e3 => hn _ _ ⟨⟨ws', e1, by rw [e2], e3⟩, _, _, _, rfl⟩
        · exact put _ _ ⟨hzo, by omega, hza⟩ fun ws' S' e1 e2 e3 => hn _ _ ⟨⟨ws', e1, by rw [e2], e3⟩, _, _, _, rfl⟩
    · rintro e S' ⟨⟨ws, rfl, hws, hwp⟩, x, y, z, rfl⟩
      rw [rngW_len, Nat.zero_add] at hws
      walk_at "w"
      refine retL (Sub.set hp) Sto.set_same hp (q ws hws ?_ fun z hz => ?_)
      · refine List.pairwise_iff_getElem.mpr fun i j hi hj hij e => ?_
        have h1 := (hwp i _ (List.getElem?_eq_getElem hi)).2.2
        have h2 := (hwp j _ (List.getElem?_eq_getElem hj)).2.2
        rw [e, h2] at h1
        have h1 := Option.some.inj h1
        omega
      · obtain ⟨k, hk⟩ := List.mem_iff_getElem?.mp hz
        have := hwp k z hk
        exact ⟨this.1, this.2.1⟩
theorem kind62 (h : T 343 = some d343) (q : ∀ k, Q (kW k) S) : wF T (n + 1) 343 [.int c] S Q X := by
  rw [wF_eq h, d343]
  walk_at "w"
  have fl : ∀ w ∈ ([.tup [.str [119, 104, 111, 108, 101]], .tup [.str [116, 114, 117, 116, 104]], .tup [.str [63]]] : List W), ∃ k, w = kW k := by
    intro w hw
    simp only [List.mem_cons, List.not_mem_nil, or_false] at hw
    rcases hw with rfl | rfl | rfl
    · exact ⟨.whole, rfl⟩
    · exact ⟨.truth, rfl⟩
    · exact ⟨.unt, rfl⟩
  refine ⟨by decide, at_all (by omega) (by show c % 3 < (3 : Nat); omega) fun w hw => ?_⟩
  obtain ⟨k1, rfl⟩ := fl w hw
  refine ⟨⟨by decide, by decide⟩, by decide, at_all (by omega) (by show c / 3 % 3 < (3 : Nat); omega) fun w hw => ?_⟩
  obtain ⟨k2, rfl⟩ := fl w hw
  clear fl
  refine ⟨⟨by decide, by decide⟩, by decide, at_all (by omega) (by show c / 9 % 5 < (5 : Nat); omega) fun w hw => ?_⟩
  simp only [List.mem_cons, List.not_mem_nil, or_false] at hw
  rcases hw with rfl | rfl | rfl | rfl | rfl
  · exact ret0 (q k1)
  · exact ret0 (q (.to k2 k1))
  · exact ret0 (q (.row (.row k1)))
  · exact ret0 (q (.pair k1 k2))
  · exact ret0 (q k1)
theorem cell62 (h : T 341 = some d341) {ns : List Int} {k : Nat} (hk : k < 4) (q : ∀ x, Q (.int x) S) : wF T (n + 1) 341 [.sc (ns.map W.int), .int k] S Q X := by
  rw [wF_eq h, d341]
  walk_at "w"
  refine wB_dec (fun hlt => ?_) (fun _ => ?_)
  · have hlt : k < ns.length := by omega
    have e : (ns.map W.int)[((k : Nat) : Int).toNat]? = some (.int (ns[k]?.getD 0)) := by
      rw [Int.toNat_natCast, List.getElem?_map, List.getElem?_eq_getElem hlt]; rfl
    rw [at_int (by omega) e]
    exact ret0 (q _)
  · walk_at "w"
    exact ⟨.inl (.inl ⟨by decide, by decide⟩), ret0 (q _)⟩
theorem number62 (h : T 342 = some d342) (q : ∀ x, smal x = true → Q (.int x) S) : wF T (n + 1) 342 [.int c] S Q X := by
  rw [wF_eq h, d342]
  walk_at "w"
  have e40 : (10 : Int) ^ Int.toNat 40 = 10 ^ 40 := rfl
  have c4 : L2.CPow 10 40 := ⟨by decide, by decide, by decide⟩
  rw [e40]
  refine ⟨by decide, ?_⟩
  by_cases e0 : c % 3 = 0
  · rw [show (c % 3 == 0) = true by simpa using e0]
    exact ⟨⟨by decide, by decide⟩, c4, .inl (.inl ⟨by decide, by decide⟩), by decide, c4, ret0 (q _ (smal_le (by omega) (by omega)))⟩
  · rw [show (c % 3 == 0) = false by simpa using e0]
    exact ⟨⟨by decide, by decide⟩, by decide, ret0 (q _ (smal_le (by omega) (by omega)))⟩
end
/-- the deal of this law -/
structure D62 where
  w0 : List Nat
  w1 : List Nat
  w2 : List Nat
  r : List W
  k0 : Kd
  k1 : Kd
  k2 : Kd
  b : Int
  h01 : w0 ≠ w1
  h02 : w0 ≠ w2
  h12 : w1 ≠ w2
def dl62 (d : D62) (c : Int) : O := .lst [.int d.b, .int c, .rl (.str d.w0 :: .str d.w1 :: .str d.w2 :: d.r), .rl [kW d.k0, kW d.k1, kW d.k2]]
structure L62 (T : Nat → Option FD) : Prop where
  h176 : T 176 = some d176
  h341 : T 341 = some d341
  h342 : T 342 = some d342
  h343 : T 343 = some d343
  h344 : T 344 = some d344
  h345 : T 345 = some d345
  h346 : T 346 = some d346
  h347 : T 347 = some d347
  h348 : T 348 = some d348
  h349 : T 349 = some d349
  h350 : T 350 = some d350
  h351 : T 351 = some d351
  h352 : T 352 = some d352
  h353 : T 353 = some d353
  h354 : T 354 = some d354
  h355 : T 355 = some d355
  h356 : T 356 = some d356
  h357 : T 357 = some d357
  h358 : T 358 = some d358
  h359 : T 359 = some d359
  h360 : T 360 = some d360
  h361 : T 361 = some d361
  h312 : T 312 = some d312
section
variable {T : Nat → Option FD} {S : Sto} {Q : VQ} {X : XQ} {n : Nat} {c i j p : Int} {pd : PySem.Addr} {d : D62} {z s : List Nat} {x y : W}
theorem deal62 (L : L62 T) {ns : List Int} (q : ∀ pd d c, S pd = none → Q (.ref pd) (S.set pd (dl62 d c))) : wF T (n + 3) 344 [.sc (ns.map W.int)] S Q X := by
  rw [wF_eq L.h344, d344]
  walk_at "w"
  refine cell62 (k := 1) L.h341 (by decide) fun x => ?_
  walk_at "w"
  refine ⟨.inl (.inr ⟨by decide, by decide⟩), by decide, ?_⟩
  have hc : 0 ≤ (x * 982451653 + 104395303) % 999999999989 := Int.emod_nonneg _ (by decide)
  generalize (x * 982451653 + 104395303) % 999999999989 = y at hc
  refine ⟨⟨by decide, by decide⟩, kind62 L.h343 fun k0 => ?_⟩
  walk_at "w"
  refine ⟨⟨by decide, by decide⟩, kind62 L.h343 fun k1 => ?_⟩
  walk_at "w"
  refine ⟨⟨by decide, by decide⟩, kind62 L.h343 fun k2 => ?_⟩
  walk_at "w"
  refine ⟨by decide, words_ok4Q L.h176 hc fun ws hl hnd _ => ?_⟩
  match ws, hl, hnd with
  | [w0, w1, w2, w3, w4], _, hnd =>
    intro p hp
    have h01 : w0 ≠ w1 := fun e => by subst e; simp at hnd
    have h02 : w0 ≠ w2 := fun e => by subst e; simp at hnd
    have h12 : w1 ≠ w2 := fun e => by subst e; simp at hnd
    exact ret0 (q p ⟨w0, w1, w2, [.str w3, .str w4], k0, k1, k2, y % 9973, h01, h02, h12⟩ 0 hp)
theorem e62 : (S.set pd (dl62 d c)) pd = some (.lst [.int d.b, .int c, .rl (.str d.w0 :: .str d.w1 :: .str d.w2 :: d.r), .rl [kW d.k0, kW d.k1, kW d.k2]]) := Sto.set_same
theorem m0 {Q : VQ} : wIdx (.ref pd) (.int 0) (S.set pd (dl62 d c)) Q = Q (.int d.b) (S.set pd (dl62 d c)) := by rw [wIdx_ref e62, at0]; rfl
theorem m1 {Q : VQ} : wIdx (.ref pd) (.int 1) (S.set pd (dl62 d c)) Q = Q (.int c) (S.set pd (dl62 d c)) := by rw [wIdx_ref e62, at1]; rfl
theorem m2 {Q : VQ} : wIdx (.ref pd) (.int 2) (S.set pd (dl62 d c)) Q = Q (.rl (.str d.w0 :: .str d.w1 :: .str d.w2 :: d.r)) (S.set pd (dl62 d c)) := by rw [wIdx_ref e62, at2]; rfl
theorem m3 {Q : VQ} : wIdx (.ref pd) (.int 3) (S.set pd (dl62 d c)) Q = Q (.rl [kW d.k0, kW d.k1, kW d.k2]) (S.set pd (dl62 d c)) := by rw [wIdx_ref e62, at3]; rfl
theorem mS1 {Q : Sto → Prop} : wSetIx (.ref pd) (.int 1) (.int j) (S.set pd (dl62 d c)) Q = Q (S.set pd (dl62 d j)) := by
  rw [wSetL_refP e62 (j := 1) (by simp [ixW]), set_set]
  rfl
theorem place62 (L : L62 T) (q : ∀ p c', Q (.int p) (S.set pd (dl62 d c'))) : wF T (n + 1) 345 [.ref pd] (S.set pd (dl62 d c)) Q X := by
  rw [wF_eq L.h345, d345]
  walk_at "w"
  rw [m1]
  walk_at "w"
  rw [mS1]
  walk_at "w"
  rw [m0]
  walk_at "w"
  rw [m1]
  walk_at "w"
  exact ⟨.inl (.inl ⟨by decide, by decide⟩), by decide, ret0 (q _ _)⟩
theorem lit62 (L : L62 T) (q : ∀ p c', Q (.tup [.str [119, 104, 111, 108, 101], .int p, x]) (S.set pd (dl62 d c'))) : wF T (n + 2) 346 [.ref pd, x] (S.set pd (dl62 d c)) Q X := by
  rw [wF_eq L.h346, d346]
  walk_at "w"
  exact place62 L fun p c' => ret0 (q p c')
theorem name62 (L : L62 T) (q : ∀ p c', Q (.tup [.str [110, 97, 109, 101], .int p, x]) (S.set pd (dl62 d c'))) : wF T (n + 2) 347 [.ref pd, x] (S.set pd (dl62 d c)) Q X := by
  rw [wF_eq L.h347, d347]
  walk_at "w"
  exact place62 L fun p c' => ret0 (q p c')
theorem fn62 (L : L62 T) (q : ∀ p c', Q (.tup [.str [102, 110], .int p, x, kW d.k0, y]) (S.set pd (dl62 d c'))) : wF T (n + 2) 348 [.ref pd, x, y] (S.set pd (dl62 d c)) Q X := by
  rw [wF_eq L.h348, d348]
  walk_at "w"
  refine place62 L fun p c' => ?_
  walk_at "w"
  rw [m3]
  walk_at "w"
  exact ret0 (q p c')
theorem call62 (L : L62 T) (q : ∀ p c', Q (.tup [.str [99, 97, 108, 108], .int p, x, y]) (S.set pd (dl62 d c'))) : wF T (n + 2) 349 [.ref pd, x, y] (S.set pd (dl62 d c)) Q X := by
  rw [wF_eq L.h349, d349]
  walk_at "w"
  exact place62 L fun p c' => ret0 (q p c')
theorem do62 (L : L62 T) {z : W} (q : ∀ p c', Q (.tup [.str [100, 111], .int p, z, x, y]) (S.set pd (dl62 d c'))) : wF T (n + 2) 350 [.ref pd, z, x, y] (S.set pd (dl62 d c)) Q X := by
  rw [wF_eq L.h350, d350]
  walk_at "w"
  exact place62 L fun p c' => ret0 (q p c')
theorem total62 (h : T 351 = some d351) (hi : smal i = true) (hj : smal j = true) (q : Q (totW s i j p) S) : wF T (n + 1) 351 [.str s, .int i, .int j, .int p] S Q X := by
  rw [wF_eq h, d351]
  unfold totW at q
  walk_at "w"
  have fin : ∀ f : Int, Q (if smal f = true then .tup [.str [100, 111, 110, 101], .str (decW f)] else faultW p greatZ) S → wB (W.bl (decide ((10 ^ Int.toNat 40 - 1 : Int) < if f < 0 then -f else f)))
      (Ret (W.tup [W.str [102, 97, 117, 108, 116], W.int p, W.str [103, 114, 101, 97, 116]]) S Q)
      (f.natAbs.log2 < 1920 ∧ Ret (.tup [.str [100, 111, 110, 101], .str (decW f)]) S Q) := fun f q => by
    have e : decide ((10 ^ Int.toNat 40 - 1 : Int) < if f < 0 then -f else f) = !smal f := by
      rw [← smal_ge]
      exact decide_eq_decide.mpr (by omega)
    rw [e]
    by_cases hs : smal f = true
    · rw [if_pos hs] at q; rw [hs]; exact ⟨smal_log hs, ret0 q⟩
    · rw [if_neg hs] at q; rw [show smal f = false by simpa using hs]; exact ret0 q
  refine ⟨.inr (L2.wide_mul (smal_abs hi) (smal_abs hj) (by decide) (by decide) (by decide)), ?_⟩
  have c4 : L2.CPow 10 40 := ⟨by decide, by decide, by decide⟩
  by_cases h3 : s = [43]
  · subst h3
    exact ⟨c4, fin _ q⟩
  rw [show (s == [43]) = false by simpa using h3, wB_f]
  dsimp only at q
  rw [if_neg h3] at q
  by_cases h4 : s = [45]
  · subst h4
    exact ⟨c4, fin _ q⟩
  rw [show (s == [45]) = false by simpa using h4, wB_f]
  rw [if_neg h4] at q
  exact ⟨c4, fin _ q⟩
end
end Bw

/-! QB3: the forms drawn -/
namespace Bw
open PySem (sizeLine)
theorem dig_all (m : Nat) : PySem.NumText.AllDigits ((Nat.toDigits 10 m).map Char.toNat) := by
  intro c hc
  obtain ⟨ch, hch, e⟩ := List.mem_map.mp hc
  have r := PyProof.Rows.digit_range (Nat.isDigit_of_mem_toDigits (by decide) (by decide) hch)
  rw [← e]
  exact r
theorem dig_ne (m : Nat) : (Nat.toDigits 10 m).map Char.toNat ≠ [] := by
  intro e
  have h := PySem.toDigits_len_ge 10 m
  rw [List.map_eq_nil_iff.mp e] at h
  exact absurd h (by decide)
theorem dec_int {i : Int} (hl : (decW i).length ≤ 640) : PySem.intText? ⟨(decW i).toArray⟩ = some i := by
  cases i with
  | ofNat m =>
    have e : decW (Int.ofNat m) = (Nat.toDigits 10 m).map Char.toNat := by
      show (Nat.repr m).toList.map Char.toNat = _
      rw [Nat.toList_repr]
    rw [e] at hl ⊢
    have r := PySem.intText_digits (x := ⟨((Nat.toDigits 10 m).map Char.toNat).toArray⟩) (dig_all m) (dig_ne m) (by show (List.toArray _).size ≤ _; simp only [List.size_toArray]; omega)
    rw [show (⟨((Nat.toDigits 10 m).map Char.toNat).toArray⟩ : PySem.Str).cps.toList = (Nat.toDigits 10 m).map Char.toNat from rfl, PySem.W.KIN.val_back] at r
    exact r
  | negSucc m =>
    have e : decW (Int.negSucc m) = 45 :: (Nat.toDigits 10 (m + 1)).map Char.toNat := by
      show ("-" ++ toString (m + 1)).toList.map Char.toNat = _
      rw [String.toList_append]
      show Char.toNat '-' :: (Nat.repr (m + 1)).toList.map Char.toNat = _
      rw [Nat.toList_repr]
      rfl
    rw [e] at hl ⊢
    have r := PySem.intText_neg (x := ⟨(45 :: (Nat.toDigits 10 (m + 1)).map Char.toNat).toArray⟩) rfl (dig_all (m + 1)) (dig_ne (m + 1)) (by show (List.toArray _).size ≤ _; simp only [List.size_toArray]; omega)
    rw [PySem.W.KIN.val_back] at r
    exact r
theorem int_dec {m : Int} {S : Sto} {Q : VQ} (h : smal m = true) (q : Q (.int m) S) : wIntOf (.str (decW m)) S Q := by
  have hl : (decW m).length ≤ 640 := Nat.le_trans (decW_len h) (by decide)
  exact ⟨hl, m, dec_int hl, q⟩
theorem tot_p {i j p : Int} : totW [43] i j p = if smal (i + j) = true then .tup [.str [100, 111, 110, 101], .str (decW (i + j))] else faultW p greatZ := rfl
theorem accS_s {N st pm pa m : Int} {k : Nat} (e : accS N st pm pa k = .inl m) : accS N st pm pa (k + 1) = if smal ((k : Int) + 1 + st) = true then (if smal (m + ((k : Int) + 1 + st)) = true then .inl (m + ((k : Int) + 1 + st)) else .inr (faultW pa greatZ)) else .inr (faultW pm greatZ) := by
  conv => lhs; unfold accS
  rw [e]
theorem accS_t {N st pm pa : Int} {w : W} {k : Nat} (e : accS N st pm pa k = .inr w) : accS N st pm pa (k + 1) = .inr w := by
  conv => lhs; unfold accS
  rw [e]
section
variable {T : Nat → Option FD} {S : Sto} {Q : VQ} {X : XQ} {n : Nat} {c i j p one two : Int} {pd : PySem.Addr} {d : D62} {z s : List Nat} {x y : W}
def FQ (pd : PySem.Addr) (d : D62) (S : Sto) (Q : VQ) : Prop := ∀ (t : Tr) (due : W) (l c : Int), okF t due l → Q (.rl [tW t, due, .int l]) (S.set pd (dl62 d c))
theorem alone62 (L : L62 T) (h1 : smal one = true) (h2 : smal two = true) (q : FQ pd d S Q) : wF T (n + 3) 354 [.ref pd, .int one, .int two] (S.set pd (dl62 d c)) Q X := by
  rw [wF_eq L.h354, d354]
  walk_at "w"
  rw [m2]
  walk_at "w"
  refine name62 L fun p1 c1 => ?_
  walk_at "w"
  refine lit62 L fun p2 c2 => ?_
  walk_at "w"
  refine do62 L fun p3 c3 => ?_
  walk_at "w"
  refine place62 L fun p4 c4 => ?_
  walk_at "w"
  rw [m3]
  walk_at "w"
  rw [m3]
  walk_at "w"
  refine lit62 L fun p5 c5 => ?_
  walk_at "w"
  refine call62 L fun p6 c6 => ?_
  walk_at "w"
  refine total62 L.h351 h1 h2 ?_
  walk_at "w"
  intro a ha
  exact retL (Sub.set ha) Sto.set_same ha (q _ _ _ _ (ok_alone (p1 := p6) (p2 := p4) (p3 := p3) (p4 := p1) (p5 := p2) (p6 := p5) (w := d.w0) (k1 := d.k0) (k2 := d.k1) h1 h2))
theorem double62 (L : L62 T) {b : Bool} (h1 : smal one = true) (h2 : smal two = true) (q : FQ pd d S Q) : wF T (n + 3) 355 [.ref pd, .int one, .int two, .bl b] (S.set pd (dl62 d c)) Q X := by
  rw [wF_eq L.h355, d355]
  walk_at "w"
  rw [m2]
  walk_at "w"
  rw [m2]
  walk_at "w"
  rw [intOf_bQ]
  cases b with
  | false =>
    show wIdx (W.rl [.str d.w1, .str d.w0]) (.int 0) _ _
    walk_at "w"
    refine name62 L fun p1 c1 => ?_
    walk_at "w"
    refine name62 L fun p2 c2 => ?_
    walk_at "w"
    refine do62 L fun p3 c3 => ?_
    walk_at "w"
    refine fn62 L fun p4 c4 => ?_
    walk_at "w"
    refine fn62 L fun p5 c5 => ?_
    walk_at "w"
    refine lit62 L fun p6 c6 => ?_
    walk_at "w"
    refine call62 L fun p7 c7 => ?_
    walk_at "w"
    refine lit62 L fun p8 c8 => ?_
    walk_at "w"
    refine call62 L fun p9 c9 => ?_
    walk_at "w"
    refine total62 L.h351 h1 h2 ?_
    walk_at "w"
    intro a ha
    have g := ok_double (p1 := p9) (p2 := p7) (p3 := p5) (p4 := p4) (p5 := p3) (p6 := p1) (p7 := p2) (p8 := p6) (p9 := p8) (w := d.w0) (o := d.w1) (k1 := d.k0) (k2 := d.k0) h1 h2
    rw [show (if d.w0 = d.w1 then two else one) = one from if_neg d.h01] at g
    exact retL (Sub.set ha) Sto.set_same ha (q _ _ _ _ g)
  | true =>
    show wIdx (W.rl [.str d.w1, .str d.w0]) (.int 1) _ _
    walk_at "w"
    refine name62 L fun p1 c1 => ?_
    walk_at "w"
    refine name62 L fun p2 c2 => ?_
    walk_at "w"
    refine do62 L fun p3 c3 => ?_
    walk_at "w"
    refine fn62 L fun p4 c4 => ?_
    walk_at "w"
    refine fn62 L fun p5 c5 => ?_
    walk_at "w"
    refine lit62 L fun p6 c6 => ?_
    walk_at "w"
    refine call62 L fun p7 c7 => ?_
    walk_at "w"
    refine lit62 L fun p8 c8 => ?_
    walk_at "w"
    refine call62 L fun p9 c9 => ?_
    walk_at "w"
    refine total62 L.h351 h2 h2 ?_
    walk_at "w"
    intro a ha
    have g := ok_double (p1 := p9) (p2 := p7) (p3 := p5) (p4 := p4) (p5 := p3) (p6 := p1) (p7 := p2) (p8 := p6) (p9 := p8) (w := d.w0) (o := d.w0) (k1 := d.k0) (k2 := d.k0) h1 h2
    rw [show (if d.w0 = d.w0 then two else one) = two from if_pos rfl] at g
    exact retL (Sub.set ha) Sto.set_same ha (q _ _ _ _ g)
theorem handed62 (L : L62 T) (h1 : smal one = true) (h2 : smal two = true) (q : FQ pd d S Q) : wF T (n + 3) 356 [.ref pd, .int one, .int two] (S.set pd (dl62 d c)) Q X := by
  rw [wF_eq L.h356, d356]
  walk_at "w"
  rw [m2]
  walk_at "w"
  rw [m2]
  walk_at "w"
  refine name62 L fun p1 c1 => ?_
  walk_at "w"
  refine lit62 L fun p2 c2 => ?_
  walk_at "w"
  refine call62 L fun p3 c3 => ?_
  walk_at "w"
  refine name62 L fun p4 c4 => ?_
  walk_at "w"
  refine lit62 L fun p5 c5 => ?_
  walk_at "w"
  refine call62 L fun p6 c6 => ?_
  walk_at "w"
  refine do62 L fun p7 c7 => ?_
  walk_at "w"
  refine name62 L fun p8 c8 => ?_
  walk_at "w"
  refine fn62 L fun p9 c9 => ?_
  walk_at "w"
  refine fn62 L fun p10 c10 => ?_
  walk_at "w"
  refine call62 L fun p11 c11 => ?_
  walk_at "w"
  refine total62 L.h351 h1 h2 ?_
  walk_at "w"
  intro a ha
  exact retL (Sub.set ha) Sto.set_same ha (q _ _ _ _ (ok_handed (p1 := p11) (p2 := p10) (p3 := p7) (p4 := p3) (p5 := p1) (p6 := p2) (p7 := p6) (p8 := p4) (p9 := p5) (p10 := p9) (p11 := p8) (w := d.w0) (o := d.w1) (k1 := d.k0) (k2 := d.k0) h1 h2))
theorem row62 (L : L62 T) (h1 : smal one = true) (h2 : smal two = true) (q : FQ pd d S Q) : wF T (n + 3) 357 [.ref pd, .int one, .int two] (S.set pd (dl62 d c)) Q X := by
  rw [wF_eq L.h357, d357]
  walk_at "w"
  rw [m2]
  walk_at "w"
  refine name62 L fun p1 c1 => ?_
  walk_at "w"
  refine lit62 L fun p2 c2 => ?_
  walk_at "w"
  refine do62 L fun p3 c3 => ?_
  walk_at "w"
  refine lit62 L fun p4 c4 => ?_
  walk_at "w"
  refine fn62 L fun p5 c5 => ?_
  walk_at "w"
  refine lit62 L fun p6 c6 => ?_
  walk_at "w"
  refine place62 L fun p7 c7 => ?_
  walk_at "w"
  refine place62 L fun p8 c8 => ?_
  walk_at "w"
  rw [m3]
  walk_at "w"
  refine lit62 L fun p9 c9 => ?_
  walk_at "w"
  refine lit62 L fun p10 c10 => ?_
  walk_at "w"
  refine call62 L fun p11 c11 => ?_
  walk_at "w"
  refine total62 L.h351 h1 h2 ?_
  walk_at "w"
  intro a ha
  exact retL (Sub.set ha) Sto.set_same ha (q _ _ _ _ (ok_row (p1 := p11) (p2 := p7) (p3 := p8) (p4 := p4) (p5 := p5) (p6 := p3) (p7 := p1) (p8 := p2) (p9 := p6) (p10 := p9) (p11 := p10) (i5 := 5) (i6 := 6) (w := d.w0) (k1 := d.k2) (k2 := d.k0) h1 h2))
theorem nocall62 (L : L62 T) (q : FQ pd d S Q) : wF T (n + 3) 358 [.ref pd, .int one, .int two] (S.set pd (dl62 d c)) Q X := by
  rw [wF_eq L.h358, d358]
  walk_at "w"
  refine place62 L fun p1 c1 => ?_
  walk_at "w"
  refine lit62 L fun p2 c2 => ?_
  walk_at "w"
  refine do62 L fun p3 c3 => ?_
  walk_at "w"
  refine lit62 L fun p4 c4 => ?_
  walk_at "w"
  refine place62 L fun p5 c5 => ?_
  walk_at "w"
  refine place62 L fun p6 c6 => ?_
  walk_at "w"
  rw [m3]
  walk_at "w"
  have hall : ∀ w ∈ ([.tup [.str [119, 104, 111, 108, 101], .int p4, .int two], .tup [.str [116, 114, 117, 116, 104], .int p5, .bl false], .tup [.str [114, 111, 119], .int p6, kW d.k0, .tup []]] : List W), ∃ hd : Tr, w = tW hd ∧ ((∃ p i, hd = nL p i) ∨ (∃ p b, hd = nB p b) ∨ ∃ p k, hd = nR p k []) := by
    intro w hw
    simp only [List.mem_cons, List.not_mem_nil, or_false] at hw
    rcases hw with rfl | rfl | rfl
    · exact ⟨nL p4 two, rfl, .inl ⟨_, _, rfl⟩⟩
    · exact ⟨nB p5 false, rfl, .inr (.inl ⟨_, _, rfl⟩)⟩
    · exact ⟨nR p6 d.k0 [], rfl, .inr (.inr ⟨_, _, rfl⟩)⟩
  refine ⟨by decide, at_all (by omega) (by show two % 3 < (3 : Nat); omega) fun w hw => ?_⟩
  obtain ⟨hd, rfl, hh⟩ := hall w hw
  clear hall hw
  refine call62 L fun p7 c7 => ?_
  walk_at "w"
  rw [tW_ix1]
  intro a ha
  exact retL (Sub.set ha) Sto.set_same ha (q _ _ _ _ (ok_nocall (p1 := p7) (p2 := p3) (p3 := p1) (p4 := p2) (one := one) hh))
theorem shown62 (L : L62 T) (q : FQ pd d S Q) : wF T (n + 3) 360 [.ref pd, .int one] (S.set pd (dl62 d c)) Q X := by
  rw [wF_eq L.h360, d360]
  walk_at "w"
  rw [m2]
  walk_at "w"
  rw [m2]
  walk_at "w"
  refine place62 L fun p1 c1 => ?_
  walk_at "w"
  rw [m3]
  walk_at "w"
  rw [m3]
  walk_at "w"
  refine name62 L fun p2 c2 => ?_
  walk_at "w"
  refine lit62 L fun p3 c3 => ?_
  walk_at "w"
  refine call62 L fun p4 c4 => ?_
  walk_at "w"
  intro a ha
  exact retL (Sub.set ha) Sto.set_same ha (q _ _ _ _ (ok_shown (p1 := p4) (p2 := p1) (p3 := p2) (p4 := p3) (w := d.w0) (o := d.w1) (k1 := d.k0) (k2 := d.k1) (one := one) (Ne.symm d.h01)))
theorem again62 (L : L62 T) {v : Int} (h1 : smal one = true) (h2 : smal two = true) (q : FQ pd d S Q) : wF T (n + 3) 359 [.ref pd, .int one, .int two, .int v] (S.set pd (dl62 d c)) Q X := by
  rw [wF_eq L.h359, d359]
  walk_at "w"
  rw [m2]
  walk_at "w"
  by_cases hv : v = 0
  · rw [show (v == 0) = true by simpa using hv]
    walk_at "w"
    refine place62 L fun p1 c1 => ?_
    walk_at "w"
    refine lit62 L fun p2 c2 => ?_
    walk_at "w"
    refine name62 L fun p3 c3 => ?_
    walk_at "w"
    refine name62 L fun p4 c4 => ?_
    walk_at "w"
    refine do62 L fun p5 c5 => ?_
    walk_at "w"
    refine place62 L fun p6 c6 => ?_
    walk_at "w"
    refine lit62 L fun p7 c7 => ?_
    walk_at "w"
    refine total62 L.h351 h2 h1 ?_
    walk_at "w"
    intro a ha
    exact retL (Sub.set ha) Sto.set_same ha (q _ _ _ _ (ok_again0 (p1 := p6) (p2 := p7) (p3 := p5) (p4 := p1) (p5 := p2) (p6 := p3) (p7 := p4) (w := d.w0) h1 h2))
  · rw [show (v == 0) = false by simpa using hv]
    walk_at "w"
    refine name62 L fun p1 c1 => ?_
    walk_at "w"
    refine fn62 L fun p2 c2 => ?_
    walk_at "w"
    refine lit62 L fun p3 c3 => ?_
    walk_at "w"
    refine call62 L fun p4 c4 => ?_
    walk_at "w"
    refine name62 L fun p5 c5 => ?_
    walk_at "w"
    refine do62 L fun p6 c6 => ?_
    walk_at "w"
    refine fn62 L fun p7 c7 => ?_
    walk_at "w"
    refine lit62 L fun p8 c8 => ?_
    walk_at "w"
    refine call62 L fun p9 c9 => ?_
    walk_at "w"
    refine total62 L.h351 h2 h1 ?_
    walk_at "w"
    intro a ha
    exact retL (Sub.set ha) Sto.set_same ha (q _ _ _ _ (ok_again1 (p1 := p9) (p2 := p7) (p3 := p6) (p4 := p4) (p5 := p2) (p6 := p1) (p7 := p3) (p8 := p5) (p9 := p8) (w := d.w0) (k1 := d.k0) (k2 := d.k0) h1 h2))
theorem kept62 (L : L62 T) (h1 : smal one = true) (h2 : smal two = true) (q : FQ pd d S Q) : wF T (n + 3) 353 [.ref pd, .int one, .int two, .int j] (S.set pd (dl62 d c)) Q X := by
  rw [wF_eq L.h353, d353]
  walk_at "w"
  rw [m2]
  walk_at "w"
  rw [m2]
  walk_at "w"
  rw [m2]
  walk_at "w"
  refine name62 L fun p1 c1 => ?_
  walk_at "w"
  refine name62 L fun p2 c2 => ?_
  walk_at "w"
  refine do62 L fun p3 c3 => ?_
  walk_at "w"
  refine place62 L fun p4 c4 => ?_
  walk_at "w"
  refine lit62 L fun p5 c5 => ?_
  walk_at "w"
  refine name62 L fun p6 c6 => ?_
  walk_at "w"
  refine name62 L fun p7 c7 => ?_
  walk_at "w"
  refine lit62 L fun p8 c8 => ?_
  walk_at "w"
  refine do62 L fun p9 c9 => ?_
  walk_at "w"
  refine call62 L fun p10 c10 => ?_
  walk_at "w"
  refine place62 L fun p11 c11 => ?_
  walk_at "w"
  refine fn62 L fun p12 c12 => ?_
  walk_at "w"
  refine place62 L fun p13 c13 => ?_
  walk_at "w"
  refine lit62 L fun p14 c14 => ?_
  walk_at "w"
  refine total62 L.h351 h1 h2 ?_
  walk_at "w"
  intro a ha
  exact retL (Sub.set ha) Sto.set_same ha (q _ _ _ _ (ok_kept (p1 := p13) (p2 := p14) (p3 := p11) (p4 := p12) (p5 := p3) (p6 := p1) (p7 := p2) (p8 := p4) (p9 := p5) (p10 := p10) (p11 := p6) (p12 := p9) (p13 := p7) (p14 := p8) (w := d.w0) (own := d.w1) (o := d.w2) (k := d.k0) h1 h2 (Ne.symm d.h01) d.h02))
theorem turns62 (L : L62 T) {b : Bool} {st : Int} (hx0 : -2 ≤ i) (hx1 : i ≤ 13) (h1 : smal one = true) (h2 : smal st = true) (q : FQ pd d S Q) : wF T (n + 3) 352 [.ref pd, .int i, .int one, .int st, .bl b] (S.set pd (dl62 d c)) Q X := by
  rw [wF_eq L.h352, d352]
  walk_at "w"
  rw [m2]
  walk_at "w"
  rw [m2]
  walk_at "w"
  refine name62 L fun p1 c1 => ?_
  walk_at "w"
  refine lit62 L fun p2 c2 => ?_
  walk_at "w"
  refine do62 L fun p3 c3 => ?_
  walk_at "w"
  refine name62 L fun p4 c4 => ?_
  walk_at "w"
  refine call62 L fun p5 c5 => ?_
  walk_at "w"
  refine name62 L fun p6 c6 => ?_
  walk_at "w"
  refine lit62 L fun p7 c7 => ?_
  walk_at "w"
  refine do62 L fun p8 c8 => ?_
  walk_at "w"
  cases b with
  | false =>
    walk_at "w"
    refine name62 L fun p9 c9 => ?_
    walk_at "w"
    refine lit62 L fun p10 c10 => ?_
    walk_at "w"
    refine do62 L fun p11 c11 => ?_
    walk_at "w"
    refine place62 L fun p12 c12 => ?_
    walk_at "w"
    refine lit62 L fun p13 c13 => ?_
    walk_at "w"
    refine place62 L fun p14 c14 => ?_
    walk_at "w"
    rw [m3]
    walk_at "w"
    rw [m3]
    walk_at "w"
    refine ⟨smal_log h1, ?_⟩
    walk_at "w"
    rw [intOf_bQ]
    walk_at "w"
    refine ⟨.inl (.inr ⟨by decide, by decide⟩), ?_⟩
    rw [Int.mul_zero, if_pos (by decide), show rngW 0 (Int.toNat 0) = [] from rfl]
    walk_at "w"
    refine forN trivial ?_
    walk_at "w"
    refine lit62 L fun p15 c15 => ?_
    walk_at "w"
    refine call62 L fun p16 c16 => ?_
    walk_at "w"
    intro a ha
    exact retL (Sub.set ha) Sto.set_same ha (q _ _ _ _ (ok_last (p1 := p16) (p2 := p14) (p3 := p15) (p4 := p12) (p5 := p11) (p6 := p9) (p7 := p10) (p8 := p13) (p9 := p5) (p10 := p4) (p11 := p3) (p12 := p1) (p13 := p2) (N := one) (x := i) (w := d.w1) (o := d.w0) (k1 := d.k0) (k2 := d.k1) d.h01 h1 hx0 hx1))
  | true =>
    walk_at "w"
    refine do62 L fun p9 c9 => ?_
    walk_at "w"
    refine name62 L fun p10 c10 => ?_
    walk_at "w"
    refine lit62 L fun p11 c11 => ?_
    walk_at "w"
    refine do62 L fun p12 c12 => ?_
    walk_at "w"
    refine place62 L fun p13 c13 => ?_
    walk_at "w"
    refine lit62 L fun p14 c14 => ?_
    walk_at "w"
    refine place62 L fun p15 c15 => ?_
    walk_at "w"
    rw [m3]
    walk_at "w"
    rw [m3]
    walk_at "w"
    refine ⟨smal_log h1, ?_⟩
    walk_at "w"
    rw [intOf_bQ]
    walk_at "w"
    refine ⟨.inl (.inr ⟨by decide, by decide⟩), ?_⟩
    rw [Int.mul_one, if_pos (fits_ofP (by omega) (by omega))]
    walk_at "w"
    refine forI (fun k e S' => S' = S.set pd (dl62 d c15) ∧ ∃ x2 x12, e = [_, _, x2, _, _, _, _, _, _, _, _, some (accW (accS one st p8 p9 k)), x12, _, _]) 0 ⟨rfl, _, _, rfl⟩ (fun _ _ _ _ _ => trivial) ?_ ?_
    · rintro k w0 e S' nx hi ⟨rfl, x2, x12, rfl⟩ hn
      have hi := rng_get0Q hi
      have hk := hi.1
      have ek := hi.2
      subst ek
      rw [Nat.zero_add] at hn
      rw [Nat.zero_add]
      walk_at "w"
      have nx2 := fun x2 => hn _ _ ⟨rfl, x2, some (.int (k : Int)), rfl⟩
      rcases accS_ok (st := st) (pm := p8) (pa := p9) h1 k with ⟨m, e, hm⟩ | ⟨p, e⟩
      · rw [accS_s e] at nx2
        rw [e]
        simp only [accW]
        walk_at "w"
        refine int_dec hm ?_
        walk_at "w"
        refine total62 L.h351 (small_c (by omega) (by omega)) h2 ?_
        rw [tot_p]
        by_cases s1 : smal ((k : Int) + 1 + st) = true
        · rw [if_pos s1]
          rw [if_pos s1] at nx2
          walk_at "w"
          refine int_dec s1 ?_
          walk_at "w"
          refine total62 L.h351 hm s1 ?_
          rw [tot_p]
          by_cases s2 : smal (m + ((k : Int) + 1 + st)) = true
          · rw [if_pos s2]
            rw [if_pos s2] at nx2
            exact nx2 _
          · rw [if_neg s2]
            rw [if_neg s2] at nx2
            exact nx2 _
        · rw [if_neg s1]
          rw [if_neg s1] at nx2
          simp only [faultW]
          walk_at "w"
          exact nx2 _
      · rw [accS_t e] at nx2
        rw [e]
        simp only [accW, faultW]
        walk_at "w"
        exact nx2 _
    · rintro e S' ⟨rfl, x2, x12, rfl⟩
      walk_at "w"
      refine lit62 L fun p16 c16 => ?_
      walk_at "w"
      refine call62 L fun p17 c17 => ?_
      walk_at "w"
      rw [rngW_len, Nat.zero_add, show (max i 0).toNat = i.toNat by omega]
      intro a ha
      exact retL (Sub.set ha) Sto.set_same ha (q _ _ _ _ (ok_sum (p1 := p17) (p2 := p15) (p3 := p16) (p4 := p13) (p5 := p12) (p6 := p10) (p7 := p11) (p8 := p14) (p9 := p5) (p10 := p4) (p11 := p3) (p12 := p1) (p13 := p2) (p14 := p9) (p15 := p8) (p16 := p6) (p17 := p7) (N := one) (st := st) (x := i) (w := d.w1) (o := d.w0) (k1 := d.k0) (k2 := d.k1) d.h01 h1 h2 hx0 hx1))
end
end Bw

/-! QB4: the law of functions -/
namespace Bw
open PySem (sizeLine)
section
variable {T : Nat → Option FD} {S : Sto} {Q : VQ} {X : XQ} {n : Nat} {c i j p one two : Int} {pd : PySem.Addr} {d : D62} {z s : List Nat} {x y : W}
theorem form62 (L : L62 T) {v : Int} (hv0 : 0 ≤ v) (hv : v < 12) (hx0 : -2 ≤ i) (hx1 : i ≤ 13) (h1 : smal one = true) (h2 : smal two = true) (q : FQ pd d S Q) : wF T (n + 4) 361 [.ref pd, .int v, .int i, .int one, .int two] (S.set pd (dl62 d c)) Q X := by
  rw [wF_eq L.h361, d361]
  walk_at "w"
  have q : FQ pd d S (fun w S1 => Ret w S1 Q) := fun t due l c h => ret0 (q t due l c h)
  have q : FQ pd d S (dnOf Q X).rt := q
  refine wB_dec (fun _ => ?_) (fun hh => ?_)
  · exact turns62 L hx0 hx1 h1 h2 q
  have hh : ¬ v < 2 := by simpa using hh
  by_cases e2 : v = 2
  · rw [show (v == 2) = true by simpa using e2]
    walk_at "w"
    exact kept62 L h1 h2 q
  rw [show (v == 2) = false by simpa using e2]
  walk_at "w"
  by_cases e3 : v = 3
  · rw [show (v == 3) = true by simpa using e3]
    walk_at "w"
    exact alone62 L h1 h2 q
  rw [show (v == 3) = false by simpa using e3]
  walk_at "w"
  refine wB_dec (fun _ => ?_) (fun hh => ?_)
  · exact double62 L h1 h2 q
  have hh : ¬ v < 6 := by simpa using hh
  by_cases e6 : v = 6
  · rw [show (v == 6) = true by simpa using e6]
    walk_at "w"
    exact handed62 L h1 h2 q
  rw [show (v == 6) = false by simpa using e6]
  walk_at "w"
  by_cases e7 : v = 7
  · rw [show (v == 7) = true by simpa using e7]
    walk_at "w"
    exact row62 L h1 h2 q
  rw [show (v == 7) = false by simpa using e7]
  walk_at "w"
  by_cases e8 : v = 8
  · rw [show (v == 8) = true by simpa using e8]
    walk_at "w"
    exact nocall62 L q
  rw [show (v == 8) = false by simpa using e8]
  walk_at "w"
  by_cases e9 : v = 9
  · rw [show (v == 9) = true by simpa using e9]
    walk_at "w"
    exact shown62 L q
  rw [show (v == 9) = false by simpa using e9]
  walk_at "w"
  exact ⟨by decide, again62 L h1 h2 q⟩
theorem alike62 (h : T 312 = some d312) {w : W} (hw : isAns60 w ∨ w = spentW) (q : Q (.bl true) S) : wF T (n + 1) 312 [w, w] S Q X := by
  rcases hw with hw | rfl
  · exact alike60 h hw q
  · exact alikeG h (fun w hw => by simp at hw; subst hw; trivial) rfl (by show 1 ≤ 60; decide) q
theorem tail62 (L : L62 T) (M : M60 T) {t : Tr} {due : W} {l : Int} (g : okF t due l) {a : Int} (h0 : 0 ≤ a) (h1 : a ≤ 12) {y0 y1 y2 y3 y4 y6 : Option W} {X : XQ} : wSs (wF T 100) (d362.body.drop 7) [y0, y1, y2, y3, y4, some (.int a), y6, some (tW t), some due, some (.int l), none] S (dnOf QT61 X) := by
  simp only [d362, List.drop]
  walk_at "w"
  rw [show [W.int a, W.int (12 - a), W.int a] = [a, 12 - a, a].map W.int from rfl]
  have hall : ∀ k ∈ [a, 12 - a, a], 0 ≤ k := by
    intro k hk
    simp only [List.mem_cons, List.not_mem_nil, or_false] at hk
    omega
  generalize [a, 12 - a, a] = its at hall
  refine forR W.int (fun l' env S' => S' = S ∧ (∃ x6 x10, env = [y0, y1, y2, y3, y4, some (.int a), x6, some (tW t), some due, some (.int l), x10]) ∧ ∀ k ∈ l', 0 ≤ k) ⟨rfl, ⟨_, _, rfl⟩, hall⟩ (fun _ _ _ _ => trivial) ?_ ?_
  · rintro k l' env S' nx ⟨rfl, ⟨x6, x10, rfl⟩, hl'⟩ hnx
    have hk := hl' k List.mem_cons_self
    have pl : ∀ {Q : VQ} {X : XQ}, Q (if k < l then spentW else due) S' → wF T 100 303 [tW t, .rl [], .int k] S' Q X := fun q =>
      plain_ok M.E M.h303 M.h141 M.h140 M.h139 (n := 97) (m := 90) (nums := []) (r := if k < l then spentW else due) g.o (Nat.le_trans g.d (by decide)) (Nat.le_trans g.d (by decide)) (by omega) (by omega) g.f (fun _ _ _ => rfl) (by rw [plainP_A]; exact g.r k hk) q
    have nxt := fun x10 => hnx [y0, y1, y2, y3, y4, some (.int a), some (.int k), some (tW t), some due, some (.int l), x10] S' ⟨rfl, ⟨_, _, rfl⟩, fun j hj => hl' j (List.mem_cons_of_mem _ hj)⟩
    walk_at "w"
    refine wB_dec (fun h => ?_) (fun h => ?_)
    · refine pl ?_
      rw [if_pos h]
      walk_at "w"
      refine alike62 (w := spentW) L.h312 (.inr rfl) ?_
      walk_at "w"
      exact nxt _
    · have h : ¬ k < l := by simpa using h
      refine pl ?_
      rw [if_neg h]
      walk_at "w"
      refine alike62 L.h312 (.inl g.a) ?_
      walk_at "w"
      exact nxt _
  · rintro env S' ⟨rfl, ⟨x6, x10, rfl⟩, _⟩
    walk_at "w"
    exact ret0 rfl
theorem law62 (L : L62 T) (M : M60 T) (h362 : T 362 = some d362) (ns : List Int) : wF T 101 362 [.sc (ns.map W.int)] (fun _ => none) QT61 (fun _ _ => False) := by
  rw [wF_eq h362]
  refine ⟨rfl, ?_⟩
  rw [← List.take_append_drop 7 d362.body, wSs_appP]
  have tail := fun {S : Sto} {t : Tr} {due : W} {l : Int} (g : okF t due l) {a : Int} (h0 : 0 ≤ a) (h1 : a ≤ 12) {y0 y1 y2 y3 y4 y6 : Option W} => tail62 (S := S) (y0 := y0) (y1 := y1) (y2 := y2) (y3 := y3) (y4 := y4) (y6 := y6) (X := fun _ _ => False) L M g h0 h1
  generalize d362.body.drop 7 = B at tail
  simp only [d362, List.take]
  walk_at "w"
  refine cell62 (k := 0) L.h341 (by decide) fun x0 => ?_
  walk_at "w"
  refine ⟨.inl (.inr ⟨by decide, by decide⟩), by decide, ?_⟩
  have hc : 0 ≤ (x0 * 982451653 + 104395303) % 999999999989 := Int.emod_nonneg _ (by decide)
  generalize (x0 * 982451653 + 104395303) % 999999999989 = x at hc
  refine deal62 (n := 97) L fun pd d c hpd => ?_
  walk_at "w"
  refine cell62 (k := 2) L.h341 (by decide) fun x2 => ?_
  walk_at "w"
  refine number62 L.h342 fun one h1 => ?_
  walk_at "w"
  refine cell62 (k := 3) L.h341 (by decide) fun x3 => ?_
  walk_at "w"
  refine number62 L.h342 fun two h2 => ?_
  walk_at "w"
  refine ⟨by decide, ⟨by decide, by decide⟩, by decide, ?_⟩
  refine form62 (n := 96) L (by omega) (by omega) (by omega) (by omega) h1 h2 fun t due l c g => ?_
  walk_at "w"
  refine ⟨⟨by decide, by decide⟩, by decide, ⟨by decide, by decide⟩, by decide, ?_⟩
  by_cases e : x / 2496 % 2 = 1
  · rw [show (x / 2496 % 2 == 1) = true by simpa using e]
    exact ⟨⟨by decide, by decide⟩, by decide, tail g (by omega) (by omega)⟩
  · rw [show (x / 2496 % 2 == 1) = false by simpa using e]
    exact tail g (by omega) (by omega)
end
end Bw

namespace Bw.k62_plain_functions
open PySem L2 PySem.Spec PyProof.Rows Bw
/-! ### the text by places, and what stands for it -/
def top (i : Nat) : Stmt := PySem.Challenge.pw_blamewise_k62_plain_functions.main.body.getD i (.Pass ⟨0, 0, 0, 0⟩)
def clsB : Stmt → List Stmt
  | .ClassDef (body := b) .. => b
  | _ => []
def G : GT := { fns := [(("parts" : Str), 87, 1), (("names_within" : Str), 139, 3), (("free_name" : Str), 140, 2), (("need_names" : Str), 141, 1), (("_law_words" : Str), 176, 1), (("_wall" : Str), 281, 1), (("head_of" : Str), 294, 1), (("reckoned" : Str), 295, 4), (("thing_at" : Str), 296, 3), (("single_text" : Str), 297, 1), (("leaf" : Str), 298, 3), (("deed" : Str), 299, 2), (("needed" : Str), 300, 3), (("follow" : Str), 301, 3), (("text_of" : Str), 302, 2), (("plain" : Str), 303, 3), (("_law_alike" : Str), 312, 2), (("_law_cell_at" : Str), 341, 2), (("_law_number" : Str), 342, 1), (("_law_kind" : Str), 343, 1), (("_law_deal" : Str), 344, 1), (("_law_place" : Str), 345, 1), (("_law_lit" : Str), 346, 2), (("_law_name" : Str), 347, 2), (("_law_fn" : Str), 348, 3), (("_law_call" : Str), 349, 3), (("_law_do" : Str), 350, 4), (("_law_total" : Str), 351, 4), (("_law_turns" : Str), 352, 5), (("_law_kept" : Str), 353, 4), (("_law_alone" : Str), 354, 3), (("_law_double" : Str), 355, 4), (("_law_handed" : Str), 356, 3), (("_law_from_row" : Str), 357, 3), (("_law_no_call" : Str), 358, 3), (("_law_again" : Str), 359, 4), (("_law_shown" : Str), 360, 2), (("_law_form" : Str), 361, 5)], cons := [], tabs := [("AHEAD", [([119, 104, 111, 108, 101], .int 3), ([116, 114, 117, 116, 104], .int 3), ([103, 105, 118, 101, 110], .int 3), ([110, 97, 109, 101], .int 3), ([102, 110], .int 4), ([115, 101, 108, 102], .int 6), ([99, 97, 108, 108], .int 2), ([108, 101, 116], .int 3), ([105, 102], .int 2), ([100, 111], .int 3), ([97, 116], .int 2), ([115, 105, 122, 101], .int 2), ([112, 97, 105, 114], .int 2), ([111, 110, 101], .int 2), ([116, 119, 111], .int 2), ([97, 115], .int 3), ([108, 111, 111, 107], .int 4)])], bis := ["abs", "bool", "enumerate", "int", "isinstance", "len", "list", "max", "min", "range", "str", "tuple", "zip"], cls := [("Going", 11, 282), ("Closure", 12, 286), ("Several", 13, 289), ("Couple", 14, 289)], xcl := [("NoName", 4, [[112, 108, 97, 99, 101]]), ("Stopped", 10, [[101, 110, 100, 105, 110, 103]])], mth := [([110, 111, 100, 101], [(12, 288)]), ([110, 117, 109, 98, 101, 114], [(11, 284)]), ([115, 104, 111, 119, 110], [(13, 291), (14, 293)]), ([115, 112, 101, 110, 100], [(11, 283)]), ([119, 105, 116, 104, 105, 110], [(12, 287)])], fld := [(11, [[110, 117, 109, 98, 101, 114, 115], [108, 101, 102, 116], [116, 111, 103, 101, 116, 104, 101, 114], [110, 111, 116, 101, 115], [116, 114, 101, 101], [110, 97, 109, 101, 115], [116, 104, 105, 110, 103, 115]]), (12, [[110, 117, 109, 98, 101, 114, 115], [108, 101, 102, 116], [116, 111, 103, 101, 116, 104, 101, 114], [110, 111, 116, 101, 115], [116, 114, 101, 101], [110, 97, 109, 101, 115], [116, 104, 105, 110, 103, 115]]), (13, [[110, 117, 109, 98, 101, 114, 115], [108, 101, 102, 116], [116, 111, 103, 101, 116, 104, 101, 114], [110, 111, 116, 101, 115], [116, 114, 101, 101], [110, 97, 109, 101, 115], [116, 104, 105, 110, 103, 115]]), (14, [[110, 117, 109, 98, 101, 114, 115], [108, 101, 102, 116], [116, 111, 103, 101, 116, 104, 101, 114], [110, 111, 116, 101, 115], [116, 114, 101, 101], [110, 97, 109, 101, 115], [116, 104, 105, 110, 103, 115]])], isC := [("Closure", [12], [4, 10, 11, 13, 14]), ("Couple", [14], [4, 10, 11, 12, 13]), ("Several", [13, 14], [4, 10, 11, 12])], exm := [("Stopped", [10], [4])], tabT := [("NEEDS", [([.inr [99, 97, 108, 108], .inl 0], .str [116, 111]), ([.inr [100, 111], .inl 0], .str [119, 104, 111, 108, 101]), ([.inr [100, 111], .inl 1], .str [119, 104, 111, 108, 101]), ([.inr [97, 116], .inl 0], .str [114, 111, 119]), ([.inr [97, 116], .inl 1], .str [119, 104, 111, 108, 101]), ([.inr [115, 105, 122, 101], .inl 0], .str [114, 111, 119]), ([.inr [111, 110, 101], .inl 0], .str [112, 97, 105, 114]), ([.inr [116, 119, 111], .inl 0], .str [112, 97, 105, 114]), ([.inr [105, 102], .inl 0], .str [116, 114, 117, 116, 104])])] }
def T : Nat → Option FD
  | 87 => some d87
  | 139 => some d139
  | 140 => some d140
  | 141 => some d141
  | 176 => some d176
  | 281 => some d281
  | 282 => some d282
  | 283 => some d283
  | 284 => some d284
  | 285 => some d285
  | 286 => some d286
  | 287 => some d287
  | 288 => some d288
  | 289 => some d289
  | 290 => some d290
  | 291 => some d291
  | 292 => some d292
  | 293 => some d293
  | 294 => some d294
  | 295 => some d295
  | 296 => some d296
  | 297 => some d297
  | 298 => some d298
  | 299 => some d299
  | 300 => some d300
  | 301 => some d301
  | 302 => some d302
  | 303 => some d303
  | 312 => some d312
  | 341 => some d341
  | 342 => some d342
  | 343 => some d343
  | 344 => some d344
  | 345 => some d345
  | 346 => some d346
  | 347 => some d347
  | 348 => some d348
  | 349 => some d349
  | 350 => some d350
  | 351 => some d351
  | 352 => some d352
  | 353 => some d353
  | 354 => some d354
  | 355 => some d355
  | 356 => some d356
  | 357 => some d357
  | 358 => some d358
  | 359 => some d359
  | 360 => some d360
  | 361 => some d361
  | 362 => some d362
  | _ => none
def dd : Nat → DD
  | 87 => ⟨"parts", "parts", top 6, ["tree"], ["tree"]⟩
  | 139 => ⟨"names_within", "names_within", top 7, ["tree", "number", "names"], ["tree", "number", "names"]⟩
  | 140 => ⟨"free_name", "free_name", top 8, ["tree", "names", "number", "part", "found"], ["tree", "names"]⟩
  | 141 => ⟨"need_names", "need_names", top 9, ["tree", "found"], ["tree"]⟩
  | 176 => ⟨"_law_words", "_law_words", top 29, ["_law_cell", "_law_letters", "_law_base", "_law_at", "_law_words_here", "_law_k", "_law_word", "_law_j"], ["_law_cell"]⟩
  | 281 => ⟨"_wall", "_wall", top 0, ["k"], ["k"]⟩
  | 282 => ⟨"__init__", "Going.__init__", (clsB (top 12)).getD 0 (.Pass ⟨0, 0, 0, 0⟩), ["self", "numbers", "calls", "together"], ["self", "numbers", "calls", "together"]⟩
  | 283 => ⟨"spend", "Going.spend", (clsB (top 12)).getD 1 (.Pass ⟨0, 0, 0, 0⟩), ["self"], ["self"]⟩
  | 284 => ⟨"number", "Going.number", (clsB (top 12)).getD 2 (.Pass ⟨0, 0, 0, 0⟩), ["self", "at"], ["self", "at"]⟩
  | 285 => ⟨"note", "Going.note", (clsB (top 12)).getD 3 (.Pass ⟨0, 0, 0, 0⟩), ["self", "held"], ["self", "held"]⟩
  | 286 => ⟨"__init__", "Closure.__init__", (clsB (top 13)).getD 0 (.Pass ⟨0, 0, 0, 0⟩), ["self", "tree", "names"], ["self", "tree", "names"]⟩
  | 287 => ⟨"within", "Closure.within", (clsB (top 13)).getD 1 (.Pass ⟨0, 0, 0, 0⟩), ["self", "own", "argument", "inner"], ["self", "own", "argument"]⟩
  | 288 => ⟨"node", "Closure.node", (clsB (top 13)).getD 2 (.Pass ⟨0, 0, 0, 0⟩), ["self"], ["self"]⟩
  | 289 => ⟨"__init__", "Several.__init__", (clsB (top 14)).getD 0 (.Pass ⟨0, 0, 0, 0⟩), ["self", "things"], ["self", "things"]⟩
  | 290 => ⟨"look_at", "Several.look_at", (clsB (top 14)).getD 1 (.Pass ⟨0, 0, 0, 0⟩), ["self", "guard", "at"], ["self", "guard", "at"]⟩
  | 291 => ⟨"shown", "Several.shown", (clsB (top 14)).getD 2 (.Pass ⟨0, 0, 0, 0⟩), ["self", "words"], ["self", "words"]⟩
  | 292 => ⟨"look_at", "Couple.look_at", (clsB (top 15)).getD 0 (.Pass ⟨0, 0, 0, 0⟩), ["self", "guard", "at"], ["self", "guard", "at"]⟩
  | 293 => ⟨"shown", "Couple.shown", (clsB (top 15)).getD 1 (.Pass ⟨0, 0, 0, 0⟩), ["self", "words"], ["self", "words"]⟩
  | 294 => ⟨"head_of", "head_of", top 16, ["raw"], ["raw"]⟩
  | 295 => ⟨"reckoned", "reckoned", top 17, ["sign", "one", "other", "place", "found"], ["sign", "one", "other", "place"]⟩
  | 296 => ⟨"thing_at", "thing_at", top 18, ["some", "at", "place"], ["some", "at", "place"]⟩
  | 297 => ⟨"single_text", "single_text", top 19, ["raw", "head"], ["raw"]⟩
  | 298 => ⟨"leaf", "leaf", top 22, ["tree", "names", "going", "word"], ["tree", "names", "going"]⟩
  | 299 => ⟨"deed", "deed", top 25, ["tree", "some", "word"], ["tree", "some"]⟩
  | 300 => ⟨"needed", "needed", top 24, ["tree", "at", "value", "head"], ["tree", "at", "value"]⟩
  | 301 => ⟨"follow", "follow", top 23, ["tree", "names", "going", "word", "some", "part", "inner", "value", "function"], ["tree", "names", "going"]⟩
  | 302 => ⟨"text_of", "text_of", top 26, ["value", "level", "thing"], ["value", "level"]⟩
  | 303 => ⟨"plain", "plain", top 27, ["tree", "numbers", "calls", "e", "text"], ["tree", "numbers", "calls"]⟩
  | 312 => ⟨"_law_alike", "_law_alike", top 51, ["_law_found", "_law_due", "_law_one", "_law_other"], ["_law_found", "_law_due"]⟩
  | 341 => ⟨"_law_cell_at", "_law_cell_at", top 30, ["_law_script", "_law_k"], ["_law_script", "_law_k"]⟩
  | 342 => ⟨"_law_number", "_law_number", top 31, ["_law_cell"], ["_law_cell"]⟩
  | 343 => ⟨"_law_kind", "_law_kind", top 32, ["_law_cell", "_law_flat", "_law_one", "_law_two"], ["_law_cell"]⟩
  | 344 => ⟨"_law_deal", "_law_deal", top 33, ["_law_script", "_law_cell", "_law_kinds"], ["_law_script"]⟩
  | 345 => ⟨"_law_place", "_law_place", top 34, ["_law_deal_here"], ["_law_deal_here"]⟩
  | 346 => ⟨"_law_lit", "_law_lit", top 35, ["_law_deal_here", "_law_number_here"], ["_law_deal_here", "_law_number_here"]⟩
  | 347 => ⟨"_law_name", "_law_name", top 36, ["_law_deal_here", "_law_word"], ["_law_deal_here", "_law_word"]⟩
  | 348 => ⟨"_law_fn", "_law_fn", top 37, ["_law_deal_here", "_law_word", "_law_node"], ["_law_deal_here", "_law_word", "_law_node"]⟩
  | 349 => ⟨"_law_call", "_law_call", top 38, ["_law_deal_here", "_law_one", "_law_two"], ["_law_deal_here", "_law_one", "_law_two"]⟩
  | 350 => ⟨"_law_do", "_law_do", top 39, ["_law_deal_here", "_law_sign", "_law_one", "_law_two"], ["_law_deal_here", "_law_sign", "_law_one", "_law_two"]⟩
  | 351 => ⟨"_law_total", "_law_total", top 40, ["_law_sign", "_law_one", "_law_two", "_law_place_here", "_law_total_here"], ["_law_sign", "_law_one", "_law_two", "_law_place_here"]⟩
  | 352 => ⟨"_law_turns", "_law_turns", top 41, ["_law_deal_here", "_law_turns_here", "_law_number_here", "_law_step", "_law_summed", "_law_less", "_law_again_here", "_law_more", "_law_small", "_law_fork", "_law_loop", "_law_due", "_law_k", "_law_own", "_law_word"], ["_law_deal_here", "_law_turns_here", "_law_number_here", "_law_step", "_law_summed"]⟩
  | 353 => ⟨"_law_kept", "_law_kept", top 42, ["_law_deal_here", "_law_one", "_law_two", "_law_number_here", "_law_body", "_law_again_here", "_law_inner", "_law_tree", "_law_word", "_law_own", "_law_other"], ["_law_deal_here", "_law_one", "_law_two", "_law_number_here"]⟩
  | 354 => ⟨"_law_alone", "_law_alone", top 43, ["_law_deal_here", "_law_one", "_law_two", "_law_word", "_law_body", "_law_loop"], ["_law_deal_here", "_law_one", "_law_two"]⟩
  | 355 => ⟨"_law_double", "_law_double", top 44, ["_law_deal_here", "_law_one", "_law_two", "_law_alike_here", "_law_word", "_law_other", "_law_body", "_law_outer", "_law_tree"], ["_law_deal_here", "_law_one", "_law_two", "_law_alike_here"]⟩
  | 356 => ⟨"_law_handed", "_law_handed", top 45, ["_law_deal_here", "_law_one", "_law_two", "_law_left", "_law_right", "_law_body", "_law_taken", "_law_word", "_law_own"], ["_law_deal_here", "_law_one", "_law_two"]⟩
  | 357 => ⟨"_law_from_row", "_law_from_row", top 46, ["_law_deal_here", "_law_one", "_law_two", "_law_word", "_law_body", "_law_some", "_law_taken"], ["_law_deal_here", "_law_one", "_law_two"]⟩
  | 358 => ⟨"_law_no_call", "_law_no_call", top 47, ["_law_deal_here", "_law_one", "_law_two", "_law_bad", "_law_head"], ["_law_deal_here", "_law_one", "_law_two"]⟩
  | 359 => ⟨"_law_again", "_law_again", top 48, ["_law_deal_here", "_law_one", "_law_two", "_law_way", "_law_word", "_law_inner", "_law_body"], ["_law_deal_here", "_law_one", "_law_two", "_law_way"]⟩
  | 360 => ⟨"_law_shown", "_law_shown", top 49, ["_law_deal_here", "_law_one", "_law_node", "_law_word", "_law_own"], ["_law_deal_here", "_law_one"]⟩
  | 361 => ⟨"_law_form", "_law_form", top 50, ["_law_deal_here", "_law_way", "_law_turns_here", "_law_one", "_law_two"], ["_law_deal_here", "_law_way", "_law_turns_here", "_law_one", "_law_two"]⟩
  | 362 => ⟨"law", "law", top 52, ["_law_script", "_law_cell", "_law_deal_here", "_law_one", "_law_two", "_law_calls", "_law_limit", "_law_tree", "_law_due", "_law_least", "_law_wanted"], ["_law_script"]⟩
  | _ => ⟨"", "", top 0, [], []⟩
theorem sc87 : FnScope ["tree"] ["tree"] (defScope (top 6)) := ⟨rfl, rfl, rfl, by decide +kernel, rfl, by decide +kernel, by decide +kernel⟩
theorem ch87 : chL (chS ["tree"] G 60 (defScope (top 6))) (defBody (top 6)) d87.body = true := by decide +kernel
theorem sc139 : FnScope ["tree", "number", "names"] ["tree", "number", "names"] (defScope (top 7)) := ⟨rfl, rfl, rfl, by decide +kernel, rfl, by decide +kernel, by decide +kernel⟩
theorem ch139 : chL (chS ["tree", "number", "names"] G 60 (defScope (top 7))) (defBody (top 7)) d139.body = true := by decide +kernel
theorem sc140 : FnScope ["tree", "names", "number", "part", "found"] ["tree", "names"] (defScope (top 8)) := ⟨rfl, rfl, rfl, by decide +kernel, rfl, by decide +kernel, by decide +kernel⟩
theorem ch140 : chL (chS ["tree", "names", "number", "part", "found"] G 60 (defScope (top 8))) (defBody (top 8)) d140.body = true := by decide +kernel
theorem sc141 : FnScope ["tree", "found"] ["tree"] (defScope (top 9)) := ⟨rfl, rfl, rfl, by decide +kernel, rfl, by decide +kernel, by decide +kernel⟩
theorem ch141 : chL (chS ["tree", "found"] G 60 (defScope (top 9))) (defBody (top 9)) d141.body = true := by decide +kernel
theorem sc176 : FnScope ["_law_cell", "_law_letters", "_law_base", "_law_at", "_law_words_here", "_law_k", "_law_word", "_law_j"] ["_law_cell"] (defScope (top 29)) := ⟨rfl, rfl, rfl, by decide +kernel, rfl, by decide +kernel, by decide +kernel⟩
theorem ch176 : chL (chS ["_law_cell", "_law_letters", "_law_base", "_law_at", "_law_words_here", "_law_k", "_law_word", "_law_j"] G 60 (defScope (top 29))) (defBody (top 29)) d176.body = true := by decide +kernel
theorem sc281 : FnScope ["k"] ["k"] (defScope (top 0)) := ⟨rfl, rfl, rfl, by decide +kernel, rfl, by decide +kernel, by decide +kernel⟩
theorem ch281 : chL (chS ["k"] G 60 (defScope (top 0))) (defBody (top 0)) d281.body = true := by decide +kernel
theorem sc282 : FnScope ["self", "numbers", "calls", "together"] ["self", "numbers", "calls", "together"] (defScope ((clsB (top 12)).getD 0 (.Pass ⟨0, 0, 0, 0⟩))) := ⟨rfl, rfl, rfl, by decide +kernel, rfl, by decide +kernel, by decide +kernel⟩
theorem ch282 : chL (chS ["self", "numbers", "calls", "together"] G 60 (defScope ((clsB (top 12)).getD 0 (.Pass ⟨0, 0, 0, 0⟩)))) (defBody ((clsB (top 12)).getD 0 (.Pass ⟨0, 0, 0, 0⟩))) d282.body = true := by decide +kernel
theorem sc283 : FnScope ["self"] ["self"] (defScope ((clsB (top 12)).getD 1 (.Pass ⟨0, 0, 0, 0⟩))) := ⟨rfl, rfl, rfl, by decide +kernel, rfl, by decide +kernel, by decide +kernel⟩
theorem ch283 : chL (chS ["self"] G 60 (defScope ((clsB (top 12)).getD 1 (.Pass ⟨0, 0, 0, 0⟩)))) (defBody ((clsB (top 12)).getD 1 (.Pass ⟨0, 0, 0, 0⟩))) d283.body = true := by decide +kernel
theorem sc284 : FnScope ["self", "at"] ["self", "at"] (defScope ((clsB (top 12)).getD 2 (.Pass ⟨0, 0, 0, 0⟩))) := ⟨rfl, rfl, rfl, by decide +kernel, rfl, by decide +kernel, by decide +kernel⟩
theorem ch284 : chL (chS ["self", "at"] G 60 (defScope ((clsB (top 12)).getD 2 (.Pass ⟨0, 0, 0, 0⟩)))) (defBody ((clsB (top 12)).getD 2 (.Pass ⟨0, 0, 0, 0⟩))) d284.body = true := by decide +kernel
theorem sc285 : FnScope ["self", "held"] ["self", "held"] (defScope ((clsB (top 12)).getD 3 (.Pass ⟨0, 0, 0, 0⟩))) := ⟨rfl, rfl, rfl, by decide +kernel, rfl, by decide +kernel, by decide +kernel⟩
theorem ch285 : chL (chS ["self", "held"] G 60 (defScope ((clsB (top 12)).getD 3 (.Pass ⟨0, 0, 0, 0⟩)))) (defBody ((clsB (top 12)).getD 3 (.Pass ⟨0, 0, 0, 0⟩))) d285.body = true := by decide +kernel
theorem sc286 : FnScope ["self", "tree", "names"] ["self", "tree", "names"] (defScope ((clsB (top 13)).getD 0 (.Pass ⟨0, 0, 0, 0⟩))) := ⟨rfl, rfl, rfl, by decide +kernel, rfl, by decide +kernel, by decide +kernel⟩
theorem ch286 : chL (chS ["self", "tree", "names"] G 60 (defScope ((clsB (top 13)).getD 0 (.Pass ⟨0, 0, 0, 0⟩)))) (defBody ((clsB (top 13)).getD 0 (.Pass ⟨0, 0, 0, 0⟩))) d286.body = true := by decide +kernel
theorem sc287 : FnScope ["self", "own", "argument", "inner"] ["self", "own", "argument"] (defScope ((clsB (top 13)).getD 1 (.Pass ⟨0, 0, 0, 0⟩))) := ⟨rfl, rfl, rfl, by decide +kernel, rfl, by decide +kernel, by decide +kernel⟩
theorem ch287 : chL (chS ["self", "own", "argument", "inner"] G 60 (defScope ((clsB (top 13)).getD 1 (.Pass ⟨0, 0, 0, 0⟩)))) (defBody ((clsB (top 13)).getD 1 (.Pass ⟨0, 0, 0, 0⟩))) d287.body = true := by decide +kernel
theorem sc288 : FnScope ["self"] ["self"] (defScope ((clsB (top 13)).getD 2 (.Pass ⟨0, 0, 0, 0⟩))) := ⟨rfl, rfl, rfl, by decide +kernel, rfl, by decide +kernel, by decide +kernel⟩
theorem ch288 : chL (chS ["self"] G 60 (defScope ((clsB (top 13)).getD 2 (.Pass ⟨0, 0, 0, 0⟩)))) (defBody ((clsB (top 13)).getD 2 (.Pass ⟨0, 0, 0, 0⟩))) d288.body = true := by decide +kernel
theorem sc289 : FnScope ["self", "things"] ["self", "things"] (defScope ((clsB (top 14)).getD 0 (.Pass ⟨0, 0, 0, 0⟩))) := ⟨rfl, rfl, rfl, by decide +kernel, rfl, by decide +kernel, by decide +kernel⟩
theorem ch289 : chL (chS ["self", "things"] G 60 (defScope ((clsB (top 14)).getD 0 (.Pass ⟨0, 0, 0, 0⟩)))) (defBody ((clsB (top 14)).getD 0 (.Pass ⟨0, 0, 0, 0⟩))) d289.body = true := by decide +kernel
theorem sc290 : FnScope ["self", "guard", "at"] ["self", "guard", "at"] (defScope ((clsB (top 14)).getD 1 (.Pass ⟨0, 0, 0, 0⟩))) := ⟨rfl, rfl, rfl, by decide +kernel, rfl, by decide +kernel, by decide +kernel⟩
theorem ch290 : chL (chS ["self", "guard", "at"] G 60 (defScope ((clsB (top 14)).getD 1 (.Pass ⟨0, 0, 0, 0⟩)))) (defBody ((clsB (top 14)).getD 1 (.Pass ⟨0, 0, 0, 0⟩))) d290.body = true := by decide +kernel
theorem sc291 : FnScope ["self", "words"] ["self", "words"] (defScope ((clsB (top 14)).getD 2 (.Pass ⟨0, 0, 0, 0⟩))) := ⟨rfl, rfl, rfl, by decide +kernel, rfl, by decide +kernel, by decide +kernel⟩
theorem ch291 : chL (chS ["self", "words"] G 60 (defScope ((clsB (top 14)).getD 2 (.Pass ⟨0, 0, 0, 0⟩)))) (defBody ((clsB (top 14)).getD 2 (.Pass ⟨0, 0, 0, 0⟩))) d291.body = true := by decide +kernel
theorem sc292 : FnScope ["self", "guard", "at"] ["self", "guard", "at"] (defScope ((clsB (top 15)).getD 0 (.Pass ⟨0, 0, 0, 0⟩))) := ⟨rfl, rfl, rfl, by decide +kernel, rfl, by decide +kernel, by decide +kernel⟩
theorem ch292 : chL (chS ["self", "guard", "at"] G 60 (defScope ((clsB (top 15)).getD 0 (.Pass ⟨0, 0, 0, 0⟩)))) (defBody ((clsB (top 15)).getD 0 (.Pass ⟨0, 0, 0, 0⟩))) d292.body = true := by decide +kernel
theorem sc293 : FnScope ["self", "words"] ["self", "words"] (defScope ((clsB (top 15)).getD 1 (.Pass ⟨0, 0, 0, 0⟩))) := ⟨rfl, rfl, rfl, by decide +kernel, rfl, by decide +kernel, by decide +kernel⟩
theorem ch293 : chL (chS ["self", "words"] G 60 (defScope ((clsB (top 15)).getD 1 (.Pass ⟨0, 0, 0, 0⟩)))) (defBody ((clsB (top 15)).getD 1 (.Pass ⟨0, 0, 0, 0⟩))) d293.body = true := by decide +kernel
theorem sc294 : FnScope ["raw"] ["raw"] (defScope (top 16)) := ⟨rfl, rfl, rfl, by decide +kernel, rfl, by decide +kernel, by decide +kernel⟩
theorem ch294 : chL (chS ["raw"] G 60 (defScope (top 16))) (defBody (top 16)) d294.body = true := by decide +kernel
theorem sc295 : FnScope ["sign", "one", "other", "place", "found"] ["sign", "one", "other", "place"] (defScope (top 17)) := ⟨rfl, rfl, rfl, by decide +kernel, rfl, by decide +kernel, by decide +kernel⟩
theorem ch295 : chL (chS ["sign", "one", "other", "place", "found"] G 60 (defScope (top 17))) (defBody (top 17)) d295.body = true := by decide +kernel
theorem sc296 : FnScope ["some", "at", "place"] ["some", "at", "place"] (defScope (top 18)) := ⟨rfl, rfl, rfl, by decide +kernel, rfl, by decide +kernel, by decide +kernel⟩
theorem ch296 : chL (chS ["some", "at", "place"] G 60 (defScope (top 18))) (defBody (top 18)) d296.body = true := by decide +kernel
theorem sc297 : FnScope ["raw", "head"] ["raw"] (defScope (top 19)) := ⟨rfl, rfl, rfl, by decide +kernel, rfl, by decide +kernel, by decide +kernel⟩
theorem ch297 : chL (chS ["raw", "head"] G 60 (defScope (top 19))) (defBody (top 19)) d297.body = true := by decide +kernel
theorem sc298 : FnScope ["tree", "names", "going", "word"] ["tree", "names", "going"] (defScope (top 22)) := ⟨rfl, rfl, rfl, by decide +kernel, rfl, by decide +kernel, by decide +kernel⟩
theorem ch298 : chL (chS ["tree", "names", "going", "word"] G 60 (defScope (top 22))) (defBody (top 22)) d298.body = true := by decide +kernel
theorem sc299 : FnScope ["tree", "some", "word"] ["tree", "some"] (defScope (top 25)) := ⟨rfl, rfl, rfl, by decide +kernel, rfl, by decide +kernel, by decide +kernel⟩
theorem ch299 : chL (chS ["tree", "some", "word"] G 60 (defScope (top 25))) (defBody (top 25)) d299.body = true := by decide +kernel
theorem sc300 : FnScope ["tree", "at", "value", "head"] ["tree", "at", "value"] (defScope (top 24)) := ⟨rfl, rfl, rfl, by decide +kernel, rfl, by decide +kernel, by decide +kernel⟩
theorem ch300 : chL (chS ["tree", "at", "value", "head"] G 60 (defScope (top 24))) (defBody (top 24)) d300.body = true := by decide +kernel
theorem sc301 : FnScope ["tree", "names", "going", "word", "some", "part", "inner", "value", "function"] ["tree", "names", "going"] (defScope (top 23)) := ⟨rfl, rfl, rfl, by decide +kernel, rfl, by decide +kernel, by decide +kernel⟩
theorem ch301 : chL (chS ["tree", "names", "going", "word", "some", "part", "inner", "value", "function"] G 60 (defScope (top 23))) (defBody (top 23)) d301.body = true := by decide +kernel
theorem sc302 : FnScope ["value", "level", "thing"] ["value", "level"] (defScope (top 26)) := ⟨rfl, rfl, rfl, by decide +kernel, rfl, by decide +kernel, by decide +kernel⟩
theorem ch302 : chL (chS ["value", "level", "thing"] G 60 (defScope (top 26))) (defBody (top 26)) d302.body = true := by decide +kernel
theorem sc303 : FnScope ["tree", "numbers", "calls", "e", "text"] ["tree", "numbers", "calls"] (defScope (top 27)) := ⟨rfl, rfl, rfl, by decide +kernel, rfl, by decide +kernel, by decide +kernel⟩
theorem ch303 : chL (chS ["tree", "numbers", "calls", "e", "text"] G 60 (defScope (top 27))) (defBody (top 27)) d303.body = true := by decide +kernel
theorem sc312 : FnScope ["_law_found", "_law_due", "_law_one", "_law_other"] ["_law_found", "_law_due"] (defScope (top 51)) := ⟨rfl, rfl, rfl, by decide +kernel, rfl, by decide +kernel, by decide +kernel⟩
theorem ch312 : chL (chS ["_law_found", "_law_due", "_law_one", "_law_other"] G 60 (defScope (top 51))) (defBody (top 51)) d312.body = true := by decide +kernel
theorem sc341 : FnScope ["_law_script", "_law_k"] ["_law_script", "_law_k"] (defScope (top 30)) := ⟨rfl, rfl, rfl, by decide +kernel, rfl, by decide +kernel, by decide +kernel⟩
theorem ch341 : chL (chS ["_law_script", "_law_k"] G 60 (defScope (top 30))) (defBody (top 30)) d341.body = true := by decide +kernel
theorem sc342 : FnScope ["_law_cell"] ["_law_cell"] (defScope (top 31)) := ⟨rfl, rfl, rfl, by decide +kernel, rfl, by decide +kernel, by decide +kernel⟩
theorem ch342 : chL (chS ["_law_cell"] G 60 (defScope (top 31))) (defBody (top 31)) d342.body = true := by decide +kernel
theorem sc343 : FnScope ["_law_cell", "_law_flat", "_law_one", "_law_two"] ["_law_cell"] (defScope (top 32)) := ⟨rfl, rfl, rfl, by decide +kernel, rfl, by decide +kernel, by decide +kernel⟩
theorem ch343 : chL (chS ["_law_cell", "_law_flat", "_law_one", "_law_two"] G 60 (defScope (top 32))) (defBody (top 32)) d343.body = true := by decide +kernel
theorem sc344 : FnScope ["_law_script", "_law_cell", "_law_kinds"] ["_law_script"] (defScope (top 33)) := ⟨rfl, rfl, rfl, by decide +kernel, rfl, by decide +kernel, by decide +kernel⟩
theorem ch344 : chL (chS ["_law_script", "_law_cell", "_law_kinds"] G 60 (defScope (top 33))) (defBody (top 33)) d344.body = true := by decide +kernel
theorem sc345 : FnScope ["_law_deal_here"] ["_law_deal_here"] (defScope (top 34)) := ⟨rfl, rfl, rfl, by decide +kernel, rfl, by decide +kernel, by decide +kernel⟩
theorem ch345 : chL (chS ["_law_deal_here"] G 60 (defScope (top 34))) (defBody (top 34)) d345.body = true := by decide +kernel
theorem sc346 : FnScope ["_law_deal_here", "_law_number_here"] ["_law_deal_here", "_law_number_here"] (defScope (top 35)) := ⟨rfl, rfl, rfl, by decide +kernel, rfl, by decide +kernel, by decide +kernel⟩
theorem ch346 : chL (chS ["_law_deal_here", "_law_number_here"] G 60 (defScope (top 35))) (defBody (top 35)) d346.body = true := by decide +kernel
theorem sc347 : FnScope ["_law_deal_here", "_law_word"] ["_law_deal_here", "_law_word"] (defScope (top 36)) := ⟨rfl, rfl, rfl, by decide +kernel, rfl, by decide +kernel, by decide +kernel⟩
theorem ch347 : chL (chS ["_law_deal_here", "_law_word"] G 60 (defScope (top 36))) (defBody (top 36)) d347.body = true := by decide +kernel
theorem sc348 : FnScope ["_law_deal_here", "_law_word", "_law_node"] ["_law_deal_here", "_law_word", "_law_node"] (defScope (top 37)) := ⟨rfl, rfl, rfl, by decide +kernel, rfl, by decide +kernel, by decide +kernel⟩
theorem ch348 : chL (chS ["_law_deal_here", "_law_word", "_law_node"] G 60 (defScope (top 37))) (defBody (top 37)) d348.body = true := by decide +kernel
theorem sc349 : FnScope ["_law_deal_here", "_law_one", "_law_two"] ["_law_deal_here", "_law_one", "_law_two"] (defScope (top 38)) := ⟨rfl, rfl, rfl, by decide +kernel, rfl, by decide +kernel, by decide +kernel⟩
theorem ch349 : chL (chS ["_law_deal_here", "_law_one", "_law_two"] G 60 (defScope (top 38))) (defBody (top 38)) d349.body = true := by decide +kernel
theorem sc350 : FnScope ["_law_deal_here", "_law_sign", "_law_one", "_law_two"] ["_law_deal_here", "_law_sign", "_law_one", "_law_two"] (defScope (top 39)) := ⟨rfl, rfl, rfl, by decide +kernel, rfl, by decide +kernel, by decide +kernel⟩
theorem ch350 : chL (chS ["_law_deal_here", "_law_sign", "_law_one", "_law_two"] G 60 (defScope (top 39))) (defBody (top 39)) d350.body = true := by decide +kernel
theorem sc351 : FnScope ["_law_sign", "_law_one", "_law_two", "_law_place_here", "_law_total_here"] ["_law_sign", "_law_one", "_law_two", "_law_place_here"] (defScope (top 40)) := ⟨rfl, rfl, rfl, by decide +kernel, rfl, by decide +kernel, by decide +kernel⟩
theorem ch351 : chL (chS ["_law_sign", "_law_one", "_law_two", "_law_place_here", "_law_total_here"] G 60 (defScope (top 40))) (defBody (top 40)) d351.body = true := by decide +kernel
theorem sc352 : FnScope ["_law_deal_here", "_law_turns_here", "_law_number_here", "_law_step", "_law_summed", "_law_less", "_law_again_here", "_law_more", "_law_small", "_law_fork", "_law_loop", "_law_due", "_law_k", "_law_own", "_law_word"] ["_law_deal_here", "_law_turns_here", "_law_number_here", "_law_step", "_law_summed"] (defScope (top 41)) := ⟨rfl, rfl, rfl, by decide +kernel, rfl, by decide +kernel, by decide +kernel⟩
theorem ch352 : chL (chS ["_law_deal_here", "_law_turns_here", "_law_number_here", "_law_step", "_law_summed", "_law_less", "_law_again_here", "_law_more", "_law_small", "_law_fork", "_law_loop", "_law_due", "_law_k", "_law_own", "_law_word"] G 60 (defScope (top 41))) (defBody (top 41)) d352.body = true := by decide +kernel
theorem sc353 : FnScope ["_law_deal_here", "_law_one", "_law_two", "_law_number_here", "_law_body", "_law_again_here", "_law_inner", "_law_tree", "_law_word", "_law_own", "_law_other"] ["_law_deal_here", "_law_one", "_law_two", "_law_number_here"] (defScope (top 42)) := ⟨rfl, rfl, rfl, by decide +kernel, rfl, by decide +kernel, by decide +kernel⟩
theorem ch353 : chL (chS ["_law_deal_here", "_law_one", "_law_two", "_law_number_here", "_law_body", "_law_again_here", "_law_inner", "_law_tree", "_law_word", "_law_own", "_law_other"] G 60 (defScope (top 42))) (defBody (top 42)) d353.body = true := by decide +kernel
theorem sc354 : FnScope ["_law_deal_here", "_law_one", "_law_two", "_law_word", "_law_body", "_law_loop"] ["_law_deal_here", "_law_one", "_law_two"] (defScope (top 43)) := ⟨rfl, rfl, rfl, by decide +kernel, rfl, by decide +kernel, by decide +kernel⟩
theorem ch354 : chL (chS ["_law_deal_here", "_law_one", "_law_two", "_law_word", "_law_body", "_law_loop"] G 60 (defScope (top 43))) (defBody (top 43)) d354.body = true := by decide +kernel
theorem sc355 : FnScope ["_law_deal_here", "_law_one", "_law_two", "_law_alike_here", "_law_word", "_law_other", "_law_body", "_law_outer", "_law_tree"] ["_law_deal_here", "_law_one", "_law_two", "_law_alike_here"] (defScope (top 44)) := ⟨rfl, rfl, rfl, by decide +kernel, rfl, by decide +kernel, by decide +kernel⟩
theorem ch355 : chL (chS ["_law_deal_here", "_law_one", "_law_two", "_law_alike_here", "_law_word", "_law_other", "_law_body", "_law_outer", "_law_tree"] G 60 (defScope (top 44))) (defBody (top 44)) d355.body = true := by decide +kernel
theorem sc356 : FnScope ["_law_deal_here", "_law_one", "_law_two", "_law_left", "_law_right", "_law_body", "_law_taken", "_law_word", "_law_own"] ["_law_deal_here", "_law_one", "_law_two"] (defScope (top 45)) := ⟨rfl, rfl, rfl, by decide +kernel, rfl, by decide +kernel, by decide +kernel⟩
theorem ch356 : chL (chS ["_law_deal_here", "_law_one", "_law_two", "_law_left", "_law_right", "_law_body", "_law_taken", "_law_word", "_law_own"] G 60 (defScope (top 45))) (defBody (top 45)) d356.body = true := by decide +kernel
theorem sc357 : FnScope ["_law_deal_here", "_law_one", "_law_two", "_law_word", "_law_body", "_law_some", "_law_taken"] ["_law_deal_here", "_law_one", "_law_two"] (defScope (top 46)) := ⟨rfl, rfl, rfl, by decide +kernel, rfl, by decide +kernel, by decide +kernel⟩
theorem ch357 : chL (chS ["_law_deal_here", "_law_one", "_law_two", "_law_word", "_law_body", "_law_some", "_law_taken"] G 60 (defScope (top 46))) (defBody (top 46)) d357.body = true := by decide +kernel
theorem sc358 : FnScope ["_law_deal_here", "_law_one", "_law_two", "_law_bad", "_law_head"] ["_law_deal_here", "_law_one", "_law_two"] (defScope (top 47)) := ⟨rfl, rfl, rfl, by decide +kernel, rfl, by decide +kernel, by decide +kernel⟩
theorem ch358 : chL (chS ["_law_deal_here", "_law_one", "_law_two", "_law_bad", "_law_head"] G 60 (defScope (top 47))) (defBody (top 47)) d358.body = true := by decide +kernel
theorem sc359 : FnScope ["_law_deal_here", "_law_one", "_law_two", "_law_way", "_law_word", "_law_inner", "_law_body"] ["_law_deal_here", "_law_one", "_law_two", "_law_way"] (defScope (top 48)) := ⟨rfl, rfl, rfl, by decide +kernel, rfl, by decide +kernel, by decide +kernel⟩
theorem ch359 : chL (chS ["_law_deal_here", "_law_one", "_law_two", "_law_way", "_law_word", "_law_inner", "_law_body"] G 60 (defScope (top 48))) (defBody (top 48)) d359.body = true := by decide +kernel
theorem sc360 : FnScope ["_law_deal_here", "_law_one", "_law_node", "_law_word", "_law_own"] ["_law_deal_here", "_law_one"] (defScope (top 49)) := ⟨rfl, rfl, rfl, by decide +kernel, rfl, by decide +kernel, by decide +kernel⟩
theorem ch360 : chL (chS ["_law_deal_here", "_law_one", "_law_node", "_law_word", "_law_own"] G 60 (defScope (top 49))) (defBody (top 49)) d360.body = true := by decide +kernel
theorem sc361 : FnScope ["_law_deal_here", "_law_way", "_law_turns_here", "_law_one", "_law_two"] ["_law_deal_here", "_law_way", "_law_turns_here", "_law_one", "_law_two"] (defScope (top 50)) := ⟨rfl, rfl, rfl, by decide +kernel, rfl, by decide +kernel, by decide +kernel⟩
theorem ch361 : chL (chS ["_law_deal_here", "_law_way", "_law_turns_here", "_law_one", "_law_two"] G 60 (defScope (top 50))) (defBody (top 50)) d361.body = true := by decide +kernel
theorem sc362 : FnScope ["_law_script", "_law_cell", "_law_deal_here", "_law_one", "_law_two", "_law_calls", "_law_limit", "_law_tree", "_law_due", "_law_least", "_law_wanted"] ["_law_script"] (defScope (top 52)) := ⟨rfl, rfl, rfl, by decide +kernel, rfl, by decide +kernel, by decide +kernel⟩
theorem ch362 : chL (chS ["_law_script", "_law_cell", "_law_deal_here", "_law_one", "_law_two", "_law_calls", "_law_limit", "_law_tree", "_law_due", "_law_least", "_law_wanted"] G 60 (defScope (top 52))) (defBody (top 52)) d362.body = true := by decide +kernel
theorem law_holds : ∀ ns : List Int, ns.length ≤ 63 → (∀ z ∈ ns, Builtin.Int.intBits z ≤ 1048576) → wF T 101 362 [.sc (ns.map W.int)] (fun _ => none) (fun w _ => w = .bl true) (fun _ _ => False) := fun ns _ _ => law62 ⟨rfl, rfl, rfl, rfl, rfl, rfl, rfl, rfl, rfl, rfl, rfl, rfl, rfl, rfl, rfl, rfl, rfl, rfl, rfl, rfl, rfl, rfl, rfl⟩ ⟨⟨rfl, rfl, rfl, rfl, rfl, rfl, rfl, rfl, rfl, rfl, rfl, rfl, rfl, rfl, rfl, rfl, rfl, rfl, rfl⟩, rfl, rfl, rfl, rfl⟩ rfl ns
/-! ### what the head is asked -/
def at_ : Nat → Str × Option Str
  | 87 => ("parts", none)
  | 139 => ("names_within", none)
  | 140 => ("free_name", none)
  | 141 => ("need_names", none)
  | 176 => ("_law_words", none)
  | 281 => ("_wall", none)
  | 282 => ("Going", some "__init__")
  | 283 => ("Going", some "spend")
  | 284 => ("Going", some "number")
  | 285 => ("Going", some "note")
  | 286 => ("Closure", some "__init__")
  | 287 => ("Closure", some "within")
  | 288 => ("Closure", some "node")
  | 289 => ("Several", some "__init__")
  | 290 => ("Several", some "look_at")
  | 291 => ("Several", some "shown")
  | 292 => ("Couple", some "look_at")
  | 293 => ("Couple", some "shown")
  | 294 => ("head_of", none)
  | 295 => ("reckoned", none)
  | 296 => ("thing_at", none)
  | 297 => ("single_text", none)
  | 298 => ("leaf", none)
  | 299 => ("deed", none)
  | 300 => ("needed", none)
  | 301 => ("follow", none)
  | 302 => ("text_of", none)
  | 303 => ("plain", none)
  | 312 => ("_law_alike", none)
  | 341 => ("_law_cell_at", none)
  | 342 => ("_law_number", none)
  | 343 => ("_law_kind", none)
  | 344 => ("_law_deal", none)
  | 345 => ("_law_place", none)
  | 346 => ("_law_lit", none)
  | 347 => ("_law_name", none)
  | 348 => ("_law_fn", none)
  | 349 => ("_law_call", none)
  | 350 => ("_law_do", none)
  | 351 => ("_law_total", none)
  | 352 => ("_law_turns", none)
  | 353 => ("_law_kept", none)
  | 354 => ("_law_alone", none)
  | 355 => ("_law_double", none)
  | 356 => ("_law_handed", none)
  | 357 => ("_law_from_row", none)
  | 358 => ("_law_no_call", none)
  | 359 => ("_law_again", none)
  | 360 => ("_law_shown", none)
  | 361 => ("_law_form", none)
  | 362 => ("law", none)
  | _ => ("", none)
def cn : Nat → Str
  | 0 => "BlameError"
  | 4 => "NoName"
  | 10 => "Stopped"
  | 11 => "Going"
  | 12 => "Closure"
  | 13 => "Several"
  | 14 => "Couple"
  | _ => ""
def xis : List XI := [⟨"NoName", 4, [[112, 108, 97, 99, 101]], true, some "BlameError", (clsB (top 3)).getD 0 (.Pass ⟨0, 0, 0, 0⟩), "NoName.__init__", ["self", "place"]⟩,
  ⟨"Stopped", 10, [[101, 110, 100, 105, 110, 103]], false, none, (clsB (top 11)).getD 0 (.Pass ⟨0, 0, 0, 0⟩), "Stopped.__init__", ["self", "ending"]⟩]
def N : HN := ⟨G, at_, cn, xis, 362⟩
def ixs : List Nat := [87, 139, 140, 141, 176, 281, 282, 283, 284, 285, 286, 287, 288, 289, 290, 291, 292, 293, 294, 295, 296, 297, 298, 299, 300, 301, 302, 303, 312, 341] ++ [342, 343, 344, 345, 346, 347, 348, 349, 350, 351, 352, 353, 354, 355, 356, 357, 358, 359, 360, 361, 362]
def fn : List He.DefD := ixs.map (ddD at_ dd) ++ xis.map xiD
theorem fq87 : FnQ N dd 87 d87 := fun K fd F => ⟨FunD.y F, sc87, rfl, rfl, ch87, FunD.bindsN (ps := ["tree"]) F fun _ _ _ _ _ _ us hl => match us, hl with | [_], _ => rfl⟩
theorem fq139 : FnQ N dd 139 d139 := fun K fd F => ⟨FunD.y F, sc139, rfl, rfl, ch139, FunD.bindsN (ps := ["tree", "number", "names"]) F fun _ _ _ _ _ _ us hl => match us, hl with | [_, _, _], _ => rfl⟩
theorem fq140 : FnQ N dd 140 d140 := fun K fd F => ⟨FunD.y F, sc140, rfl, rfl, ch140, FunD.bindsN (ps := ["tree", "names"]) F fun _ _ _ _ _ _ us hl => match us, hl with | [_, _], _ => rfl⟩
theorem fq141 : FnQ N dd 141 d141 := fun K fd F => ⟨FunD.y F, sc141, rfl, rfl, ch141, FunD.bindsN (ps := ["tree"]) F fun _ _ _ _ _ _ us hl => match us, hl with | [_], _ => rfl⟩
theorem fq176 : FnQ N dd 176 d176 := fun K fd F => ⟨FunD.y F, sc176, rfl, rfl, ch176, FunD.bindsN (ps := ["_law_cell"]) F fun _ _ _ _ _ _ us hl => match us, hl with | [_], _ => rfl⟩
theorem fq281 : FnQ N dd 281 d281 := fun K fd F => ⟨FunD.y F, sc281, rfl, rfl, ch281, FunD.bindsN (ps := ["k"]) F fun _ _ _ _ _ _ us hl => match us, hl with | [_], _ => rfl⟩
theorem fq282 : FnQ N dd 282 d282 := fun K fd F => ⟨FunD.y F, sc282, rfl, rfl, ch282, FunD.bindsN (ps := ["self", "numbers", "calls", "together"]) F fun _ _ _ _ _ _ us hl => match us, hl with | [_, _, _, _], _ => rfl⟩
theorem fq283 : FnQ N dd 283 d283 := fun K fd F => ⟨FunD.y F, sc283, rfl, rfl, ch283, FunD.bindsN (ps := ["self"]) F fun _ _ _ _ _ _ us hl => match us, hl with | [_], _ => rfl⟩
theorem fq284 : FnQ N dd 284 d284 := fun K fd F => ⟨FunD.y F, sc284, rfl, rfl, ch284, FunD.bindsN (ps := ["self", "at"]) F fun _ _ _ _ _ _ us hl => match us, hl with | [_, _], _ => rfl⟩
theorem fq285 : FnQ N dd 285 d285 := fun K fd F => ⟨FunD.y F, sc285, rfl, rfl, ch285, FunD.bindsN (ps := ["self", "held"]) F fun _ _ _ _ _ _ us hl => match us, hl with | [_, _], _ => rfl⟩
theorem fq286 : FnQ N dd 286 d286 := fun K fd F => ⟨FunD.y F, sc286, rfl, rfl, ch286, FunD.bindsN (ps := ["self", "tree", "names"]) F fun _ _ _ _ _ _ us hl => match us, hl with | [_, _, _], _ => rfl⟩
theorem fq287 : FnQ N dd 287 d287 := fun K fd F => ⟨FunD.y F, sc287, rfl, rfl, ch287, FunD.bindsN (ps := ["self", "own", "argument"]) F fun _ _ _ _ _ _ us hl => match us, hl with | [_, _, _], _ => rfl⟩
theorem fq288 : FnQ N dd 288 d288 := fun K fd F => ⟨FunD.y F, sc288, rfl, rfl, ch288, FunD.bindsN (ps := ["self"]) F fun _ _ _ _ _ _ us hl => match us, hl with | [_], _ => rfl⟩
theorem fq289 : FnQ N dd 289 d289 := fun K fd F => ⟨FunD.y F, sc289, rfl, rfl, ch289, FunD.bindsN (ps := ["self", "things"]) F fun _ _ _ _ _ _ us hl => match us, hl with | [_, _], _ => rfl⟩
theorem fq290 : FnQ N dd 290 d290 := fun K fd F => ⟨FunD.y F, sc290, rfl, rfl, ch290, FunD.bindsN (ps := ["self", "guard", "at"]) F fun _ _ _ _ _ _ us hl => match us, hl with | [_, _, _], _ => rfl⟩
theorem fq291 : FnQ N dd 291 d291 := fun K fd F => ⟨FunD.y F, sc291, rfl, rfl, ch291, FunD.bindsN (ps := ["self", "words"]) F fun _ _ _ _ _ _ us hl => match us, hl with | [_, _], _ => rfl⟩
theorem fq292 : FnQ N dd 292 d292 := fun K fd F => ⟨FunD.y F, sc292, rfl, rfl, ch292, FunD.bindsN (ps := ["self", "guard", "at"]) F fun _ _ _ _ _ _ us hl => match us, hl with | [_, _, _], _ => rfl⟩
theorem fq293 : FnQ N dd 293 d293 := fun K fd F => ⟨FunD.y F, sc293, rfl, rfl, ch293, FunD.bindsN (ps := ["self", "words"]) F fun _ _ _ _ _ _ us hl => match us, hl with | [_, _], _ => rfl⟩
theorem fq294 : FnQ N dd 294 d294 := fun K fd F => ⟨FunD.y F, sc294, rfl, rfl, ch294, FunD.bindsN (ps := ["raw"]) F fun _ _ _ _ _ _ us hl => match us, hl with | [_], _ => rfl⟩
theorem fq295 : FnQ N dd 295 d295 := fun K fd F => ⟨FunD.y F, sc295, rfl, rfl, ch295, FunD.bindsN (ps := ["sign", "one", "other", "place"]) F fun _ _ _ _ _ _ us hl => match us, hl with | [_, _, _, _], _ => rfl⟩
theorem fq296 : FnQ N dd 296 d296 := fun K fd F => ⟨FunD.y F, sc296, rfl, rfl, ch296, FunD.bindsN (ps := ["some", "at", "place"]) F fun _ _ _ _ _ _ us hl => match us, hl with | [_, _, _], _ => rfl⟩
theorem fq297 : FnQ N dd 297 d297 := fun K fd F => ⟨FunD.y F, sc297, rfl, rfl, ch297, FunD.bindsN (ps := ["raw"]) F fun _ _ _ _ _ _ us hl => match us, hl with | [_], _ => rfl⟩
theorem fq298 : FnQ N dd 298 d298 := fun K fd F => ⟨FunD.y F, sc298, rfl, rfl, ch298, FunD.bindsN (ps := ["tree", "names", "going"]) F fun _ _ _ _ _ _ us hl => match us, hl with | [_, _, _], _ => rfl⟩
theorem fq299 : FnQ N dd 299 d299 := fun K fd F => ⟨FunD.y F, sc299, rfl, rfl, ch299, FunD.bindsN (ps := ["tree", "some"]) F fun _ _ _ _ _ _ us hl => match us, hl with | [_, _], _ => rfl⟩
theorem fq300 : FnQ N dd 300 d300 := fun K fd F => ⟨FunD.y F, sc300, rfl, rfl, ch300, FunD.bindsN (ps := ["tree", "at", "value"]) F fun _ _ _ _ _ _ us hl => match us, hl with | [_, _, _], _ => rfl⟩
theorem fq301 : FnQ N dd 301 d301 := fun K fd F => ⟨FunD.y F, sc301, rfl, rfl, ch301, FunD.bindsN (ps := ["tree", "names", "going"]) F fun _ _ _ _ _ _ us hl => match us, hl with | [_, _, _], _ => rfl⟩
theorem fq302 : FnQ N dd 302 d302 := fun K fd F => ⟨FunD.y F, sc302, rfl, rfl, ch302, FunD.bindsN (ps := ["value", "level"]) F fun _ _ _ _ _ _ us hl => match us, hl with | [_, _], _ => rfl⟩
theorem fq303 : FnQ N dd 303 d303 := fun K fd F => ⟨FunD.y F, sc303, rfl, rfl, ch303, FunD.bindsN (ps := ["tree", "numbers", "calls"]) F fun _ _ _ _ _ _ us hl => match us, hl with | [_, _, _], _ => rfl⟩
theorem fq312 : FnQ N dd 312 d312 := fun K fd F => ⟨FunD.y F, sc312, rfl, rfl, ch312, FunD.bindsN (ps := ["_law_found", "_law_due"]) F fun _ _ _ _ _ _ us hl => match us, hl with | [_, _], _ => rfl⟩
theorem fq341 : FnQ N dd 341 d341 := fun K fd F => ⟨FunD.y F, sc341, rfl, rfl, ch341, FunD.bindsN (ps := ["_law_script", "_law_k"]) F fun _ _ _ _ _ _ us hl => match us, hl with | [_, _], _ => rfl⟩
theorem fq342 : FnQ N dd 342 d342 := fun K fd F => ⟨FunD.y F, sc342, rfl, rfl, ch342, FunD.bindsN (ps := ["_law_cell"]) F fun _ _ _ _ _ _ us hl => match us, hl with | [_], _ => rfl⟩
theorem fq343 : FnQ N dd 343 d343 := fun K fd F => ⟨FunD.y F, sc343, rfl, rfl, ch343, FunD.bindsN (ps := ["_law_cell"]) F fun _ _ _ _ _ _ us hl => match us, hl with | [_], _ => rfl⟩
theorem fq344 : FnQ N dd 344 d344 := fun K fd F => ⟨FunD.y F, sc344, rfl, rfl, ch344, FunD.bindsN (ps := ["_law_script"]) F fun _ _ _ _ _ _ us hl => match us, hl with | [_], _ => rfl⟩
theorem fq345 : FnQ N dd 345 d345 := fun K fd F => ⟨FunD.y F, sc345, rfl, rfl, ch345, FunD.bindsN (ps := ["_law_deal_here"]) F fun _ _ _ _ _ _ us hl => match us, hl with | [_], _ => rfl⟩
theorem fq346 : FnQ N dd 346 d346 := fun K fd F => ⟨FunD.y F, sc346, rfl, rfl, ch346, FunD.bindsN (ps := ["_law_deal_here", "_law_number_here"]) F fun _ _ _ _ _ _ us hl => match us, hl with | [_, _], _ => rfl⟩
theorem fq347 : FnQ N dd 347 d347 := fun K fd F => ⟨FunD.y F, sc347, rfl, rfl, ch347, FunD.bindsN (ps := ["_law_deal_here", "_law_word"]) F fun _ _ _ _ _ _ us hl => match us, hl with | [_, _], _ => rfl⟩
theorem fq348 : FnQ N dd 348 d348 := fun K fd F => ⟨FunD.y F, sc348, rfl, rfl, ch348, FunD.bindsN (ps := ["_law_deal_here", "_law_word", "_law_node"]) F fun _ _ _ _ _ _ us hl => match us, hl with | [_, _, _], _ => rfl⟩
theorem fq349 : FnQ N dd 349 d349 := fun K fd F => ⟨FunD.y F, sc349, rfl, rfl, ch349, FunD.bindsN (ps := ["_law_deal_here", "_law_one", "_law_two"]) F fun _ _ _ _ _ _ us hl => match us, hl with | [_, _, _], _ => rfl⟩
theorem fq350 : FnQ N dd 350 d350 := fun K fd F => ⟨FunD.y F, sc350, rfl, rfl, ch350, FunD.bindsN (ps := ["_law_deal_here", "_law_sign", "_law_one", "_law_two"]) F fun _ _ _ _ _ _ us hl => match us, hl with | [_, _, _, _], _ => rfl⟩
theorem fq351 : FnQ N dd 351 d351 := fun K fd F => ⟨FunD.y F, sc351, rfl, rfl, ch351, FunD.bindsN (ps := ["_law_sign", "_law_one", "_law_two", "_law_place_here"]) F fun _ _ _ _ _ _ us hl => match us, hl with | [_, _, _, _], _ => rfl⟩
theorem fq352 : FnQ N dd 352 d352 := fun K fd F => ⟨FunD.y F, sc352, rfl, rfl, ch352, FunD.bindsN (ps := ["_law_deal_here", "_law_turns_here", "_law_number_here", "_law_step", "_law_summed"]) F fun _ _ _ _ _ _ us hl => match us, hl with | [_, _, _, _, _], _ => rfl⟩
theorem fq353 : FnQ N dd 353 d353 := fun K fd F => ⟨FunD.y F, sc353, rfl, rfl, ch353, FunD.bindsN (ps := ["_law_deal_here", "_law_one", "_law_two", "_law_number_here"]) F fun _ _ _ _ _ _ us hl => match us, hl with | [_, _, _, _], _ => rfl⟩
theorem fq354 : FnQ N dd 354 d354 := fun K fd F => ⟨FunD.y F, sc354, rfl, rfl, ch354, FunD.bindsN (ps := ["_law_deal_here", "_law_one", "_law_two"]) F fun _ _ _ _ _ _ us hl => match us, hl with | [_, _, _], _ => rfl⟩
theorem fq355 : FnQ N dd 355 d355 := fun K fd F => ⟨FunD.y F, sc355, rfl, rfl, ch355, FunD.bindsN (ps := ["_law_deal_here", "_law_one", "_law_two", "_law_alike_here"]) F fun _ _ _ _ _ _ us hl => match us, hl with | [_, _, _, _], _ => rfl⟩
theorem fq356 : FnQ N dd 356 d356 := fun K fd F => ⟨FunD.y F, sc356, rfl, rfl, ch356, FunD.bindsN (ps := ["_law_deal_here", "_law_one", "_law_two"]) F fun _ _ _ _ _ _ us hl => match us, hl with | [_, _, _], _ => rfl⟩
theorem fq357 : FnQ N dd 357 d357 := fun K fd F => ⟨FunD.y F, sc357, rfl, rfl, ch357, FunD.bindsN (ps := ["_law_deal_here", "_law_one", "_law_two"]) F fun _ _ _ _ _ _ us hl => match us, hl with | [_, _, _], _ => rfl⟩
theorem fq358 : FnQ N dd 358 d358 := fun K fd F => ⟨FunD.y F, sc358, rfl, rfl, ch358, FunD.bindsN (ps := ["_law_deal_here", "_law_one", "_law_two"]) F fun _ _ _ _ _ _ us hl => match us, hl with | [_, _, _], _ => rfl⟩
theorem fq359 : FnQ N dd 359 d359 := fun K fd F => ⟨FunD.y F, sc359, rfl, rfl, ch359, FunD.bindsN (ps := ["_law_deal_here", "_law_one", "_law_two", "_law_way"]) F fun _ _ _ _ _ _ us hl => match us, hl with | [_, _, _, _], _ => rfl⟩
theorem fq360 : FnQ N dd 360 d360 := fun K fd F => ⟨FunD.y F, sc360, rfl, rfl, ch360, FunD.bindsN (ps := ["_law_deal_here", "_law_one"]) F fun _ _ _ _ _ _ us hl => match us, hl with | [_, _], _ => rfl⟩
theorem fq361 : FnQ N dd 361 d361 := fun K fd F => ⟨FunD.y F, sc361, rfl, rfl, ch361, FunD.bindsN (ps := ["_law_deal_here", "_law_way", "_law_turns_here", "_law_one", "_law_two"]) F fun _ _ _ _ _ _ us hl => match us, hl with | [_, _, _, _, _], _ => rfl⟩
theorem fq362 : FnQ N dd 362 d362 := fun K fd F => ⟨FunD.y F, sc362, rfl, rfl, ch362, FunD.bindsN (ps := ["_law_script"]) F fun _ _ _ _ _ _ us hl => match us, hl with | [_], _ => rfl⟩
theorem hT : ∀ i d, T i = some d → FnQ N dd i d ∧ ddD N.at_ dd i ∈ fn := fun i d h => by
  have key : ∀ j, j ∈ ixs → ddD N.at_ dd j ∈ fn := fun j hj => List.mem_append_left _ (List.mem_map.mpr ⟨j, hj, rfl⟩)
  unfold T at h
  split at h
  · cases h; exact ⟨fq87, key _ (by decide +kernel)⟩
  · cases h; exact ⟨fq139, key _ (by decide +kernel)⟩
  · cases h; exact ⟨fq140, key _ (by decide +kernel)⟩
  · cases h; exact ⟨fq141, key _ (by decide +kernel)⟩
  · cases h; exact ⟨fq176, key _ (by decide +kernel)⟩
  · cases h; exact ⟨fq281, key _ (by decide +kernel)⟩
  · cases h; exact ⟨fq282, key _ (by decide +kernel)⟩
  · cases h; exact ⟨fq283, key _ (by decide +kernel)⟩
  · cases h; exact ⟨fq284, key _ (by decide +kernel)⟩
  · cases h; exact ⟨fq285, key _ (by decide +kernel)⟩
  · cases h; exact ⟨fq286, key _ (by decide +kernel)⟩
  · cases h; exact ⟨fq287, key _ (by decide +kernel)⟩
  · cases h; exact ⟨fq288, key _ (by decide +kernel)⟩
  · cases h; exact ⟨fq289, key _ (by decide +kernel)⟩
  · cases h; exact ⟨fq290, key _ (by decide +kernel)⟩
  · cases h; exact ⟨fq291, key _ (by decide +kernel)⟩
  · cases h; exact ⟨fq292, key _ (by decide +kernel)⟩
  · cases h; exact ⟨fq293, key _ (by decide +kernel)⟩
  · cases h; exact ⟨fq294, key _ (by decide +kernel)⟩
  · cases h; exact ⟨fq295, key _ (by decide +kernel)⟩
  · cases h; exact ⟨fq296, key _ (by decide +kernel)⟩
  · cases h; exact ⟨fq297, key _ (by decide +kernel)⟩
  · cases h; exact ⟨fq298, key _ (by decide +kernel)⟩
  · cases h; exact ⟨fq299, key _ (by decide +kernel)⟩
  · cases h; exact ⟨fq300, key _ (by decide +kernel)⟩
  · cases h; exact ⟨fq301, key _ (by decide +kernel)⟩
  · cases h; exact ⟨fq302, key _ (by decide +kernel)⟩
  · cases h; exact ⟨fq303, key _ (by decide +kernel)⟩
  · cases h; exact ⟨fq312, key _ (by decide +kernel)⟩
  · cases h; exact ⟨fq341, key _ (by decide +kernel)⟩
  · cases h; exact ⟨fq342, key _ (by decide +kernel)⟩
  · cases h; exact ⟨fq343, key _ (by decide +kernel)⟩
  · cases h; exact ⟨fq344, key _ (by decide +kernel)⟩
  · cases h; exact ⟨fq345, key _ (by decide +kernel)⟩
  · cases h; exact ⟨fq346, key _ (by decide +kernel)⟩
  · cases h; exact ⟨fq347, key _ (by decide +kernel)⟩
  · cases h; exact ⟨fq348, key _ (by decide +kernel)⟩
  · cases h; exact ⟨fq349, key _ (by decide +kernel)⟩
  · cases h; exact ⟨fq350, key _ (by decide +kernel)⟩
  · cases h; exact ⟨fq351, key _ (by decide +kernel)⟩
  · cases h; exact ⟨fq352, key _ (by decide +kernel)⟩
  · cases h; exact ⟨fq353, key _ (by decide +kernel)⟩
  · cases h; exact ⟨fq354, key _ (by decide +kernel)⟩
  · cases h; exact ⟨fq355, key _ (by decide +kernel)⟩
  · cases h; exact ⟨fq356, key _ (by decide +kernel)⟩
  · cases h; exact ⟨fq357, key _ (by decide +kernel)⟩
  · cases h; exact ⟨fq358, key _ (by decide +kernel)⟩
  · cases h; exact ⟨fq359, key _ (by decide +kernel)⟩
  · cases h; exact ⟨fq360, key _ (by decide +kernel)⟩
  · cases h; exact ⟨fq361, key _ (by decide +kernel)⟩
  · cases h; exact ⟨fq362, key _ (by decide +kernel)⟩
  · cases h
theorem nq : NmQ N T fn := ⟨rfl, rfl, by decide +kernel, by decide +kernel, by decide +kernel, by decide +kernel, fun p hp => AllL.mem (l := xis) (φ := XiQ fn) (.cons ⟨⟨rfl, rfl, rfl, by decide +kernel, rfl, by decide +kernel, by decide +kernel⟩, rfl, by decide +kernel, fun _ => rfl, List.mem_append_right _ (List.mem_map.mpr ⟨_, List.mem_of_getElem? (i := 0) rfl, rfl⟩), fun K fd f F => FunD.bindsN (ps := ["self", "place"]) F fun _ _ _ _ _ _ us hl => match us, hl with | [_, _], _ => rfl⟩ (.cons ⟨⟨rfl, rfl, rfl, by decide +kernel, rfl, by decide +kernel, by decide +kernel⟩, rfl, by decide +kernel, (fun h => by cases h), List.mem_append_right _ (List.mem_map.mpr ⟨_, List.mem_of_getElem? (i := 1) rfl, rfl⟩), fun K fd f F => FunD.bindsN (ps := ["self", "ending"]) F fun _ _ _ _ _ _ us hl => match us, hl with | [_, _], _ => rfl⟩ .nil)) hp⟩
abbrev Rw : PySem.W.OpenRow := PySem.W.OpenLaw.row PySem.Challenge.rw_blamewise_k62_plain_functions
abbrev qv : Program := PySem.W.view Rw.prog [52]
def names : List Str := (["_wall", "BlameError", "NoName", "AHEAD", "parts", "names_within", "free_name", "need_names", "Stopped", "Going", "Closure", "Several", "Couple", "head_of", "reckoned", "thing_at", "single_text", "NEEDS", "leaf", "follow"] : List Str) ++ (["needed", "deed", "text_of", "plain", "_law_words", "_law_cell_at", "_law_number", "_law_kind", "_law_deal", "_law_place", "_law_lit", "_law_name", "_law_fn", "_law_call", "_law_do", "_law_total", "_law_turns", "_law_kept", "_law_alone", "_law_double"] : List Str) ++ (["_law_handed", "_law_from_row", "_law_no_call", "_law_again", "_law_shown", "_law_form", "_law_alike"] : List Str)
set_option maxHeartbeats 0
abbrev hk : PySem.W.Hook := hookN Rw.prog 0 N fn
abbrev ob : PySem.W.SharedT → hk.α := obN 0 N fn
def ens : List Go.En := [⟨"call", 0, "to", ⟨133, 10, 133, 16⟩, ⟨133, 18, 133, 19⟩, ⟨133, 9, 133, 20⟩, ⟨133, 22, 133, 26⟩⟩,
  ⟨"do", 0, "whole", ⟨133, 29, 133, 33⟩, ⟨133, 35, 133, 36⟩, ⟨133, 28, 133, 37⟩, ⟨133, 39, 133, 46⟩⟩,
  ⟨"do", 1, "whole", ⟨133, 49, 133, 53⟩, ⟨133, 55, 133, 56⟩, ⟨133, 48, 133, 57⟩, ⟨133, 59, 133, 66⟩⟩,
  ⟨"at", 0, "row", ⟨133, 69, 133, 73⟩, ⟨133, 75, 133, 76⟩, ⟨133, 68, 133, 77⟩, ⟨133, 79, 133, 84⟩⟩,
  ⟨"at", 1, "whole", ⟨133, 87, 133, 91⟩, ⟨133, 93, 133, 94⟩, ⟨133, 86, 133, 95⟩, ⟨133, 97, 133, 104⟩⟩,
  ⟨"size", 0, "row", ⟨133, 107, 133, 113⟩, ⟨133, 115, 133, 116⟩, ⟨133, 106, 133, 117⟩, ⟨133, 119, 133, 124⟩⟩,
  ⟨"one", 0, "pair", ⟨133, 127, 133, 132⟩, ⟨133, 134, 133, 135⟩, ⟨133, 126, 133, 136⟩, ⟨133, 138, 133, 144⟩⟩,
  ⟨"two", 0, "pair", ⟨133, 147, 133, 152⟩, ⟨133, 154, 133, 155⟩, ⟨133, 146, 133, 156⟩, ⟨133, 158, 133, 164⟩⟩,
  ⟨"if", 0, "truth", ⟨133, 167, 133, 171⟩, ⟨133, 173, 133, 174⟩, ⟨133, 166, 133, 175⟩, ⟨133, 177, 133, 184⟩⟩]
def rest : List Stmt := Rw.prog.main.body.drop 22
theorem ne_false (w : World) : Go.NeE Rw qv hk ob names "NEEDS" ⟨133, 0, 133, 5⟩ ⟨133, 8, 133, 185⟩ ⟨133, 0, 133, 185⟩ ens rest 6500 (w.withFollow "special-get-raises" false) := ⟨fun os => by kernel_rfl, fun os => by kernel_rfl, fun os pos kp => by kernel_rfl⟩
theorem ne_true (w : World) : Go.NeE Rw qv hk ob names "NEEDS" ⟨133, 0, 133, 5⟩ ⟨133, 8, 133, 185⟩ ⟨133, 0, 133, 185⟩ ens rest 6500 (w.withFollow "special-get-raises" true) := ⟨fun os => by kernel_rfl, fun os => by kernel_rfl, fun os pos kp => by kernel_rfl⟩
theorem ne (w : World) : Go.NeE Rw qv hk ob names "NEEDS" ⟨133, 0, 133, 5⟩ ⟨133, 8, 133, 185⟩ ⟨133, 0, 133, 185⟩ ens rest 6500 w := PySem.W.byRow2 "special-get-raises" ne_false ne_true w
end Bw.k62_plain_functions
open PySem PySem.W PyProof.Rows
set_option maxRecDepth 100000 in
set_option maxHeartbeats 0 in
theorem PySem.Challenge.cw_blamewise_k62_plain_functions_holds : PySem.Challenge.rw_blamewise_k62_plain_functions.Holds := by
  w_on; o_law
  refine Go.head_needs (r := Bw.k62_plain_functions.Rw) (q := Bw.k62_plain_functions.qv) (H := Bw.k62_plain_functions.hk) (ob := Bw.k62_plain_functions.ob) (M := 6500) (loose := Bw.k62_plain_functions.names) (d := HandSHeadRun.topDef Bw.k62_plain_functions.Rw.prog 52) (kwd := []) (Bw.obN_eq _ _ _ _) Bw.k62_plain_functions.ne
    (by kernel_rfl) (fun s => by kernel_rfl) (by decide) (by decide) (by decide +kernel) (by decide +kernel) (fun _ _ => rfl) (fun _ _ => rfl) (by kernel_rfl) (by kernel_rfl) (by kernel_rfl) (by rfl) (by first | assumption | decide +kernel) (by decide +kernel) ⟨rfl, rfl, rfl, rfl, rfl, by decide +kernel⟩ ?hw ?hc
  case hw => w_witness2
  case hc => exact Bw.walk_n (l := PySem.Challenge.rw_blamewise_k62_plain_functions) (lev := 101) (lp := "_law_script") rfl rfl (by kernel_rfl) ⟨rfl, by decide, by decide⟩ Bw.k62_plain_functions.nq (by decide +kernel) Bw.k62_plain_functions.hT rfl rfl (fun _ _ _ _ _ _ us hl => match us, hl with | [_], _ => rfl) Bw.k62_plain_functions.law_holds

