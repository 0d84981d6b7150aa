import PyProof.Rows.All
import Wide.All
import OpenK.AllK
import Wide.FinOn
import HandS.ForMost
import HandS.Exc
import HandS.ExcOwn
import HandS.ExcInit
import HandS.ExcIs
import HandS.ExcField
import HandS.ExcValue
import HandS.IsInst
import HandS.Conv
import HandS.Wide
import HandS.TupAny
import HandS.WordsExc
import HandS.TryOnly
import KE.GoesMore
import PySem.Challenge.RW_tightwood_k75_refused
import HandS.HeadHook4
import HandS.HeadWalk
import HandS.Head2
import HandS.Codes
import HandS.WideBits
import HandS.Small
set_option Elab.async false
set_option linter.all false
set_option maxRecDepth 100000
set_option maxHeartbeats 0
namespace Tw
open PySem PySem.Spec PyProof.Rows L2
def ItS (x : Str) : It := ⟨fun i _ => i < x.cps.size, fun i H v H' => ∃ T c, v = .ref T ∧ H T = none ∧ x.cps[i]? = some c ∧ H' = upd H T (.tup [.int (i : Nat), .str ⟨#[c]⟩]), fun i _ => i = x.cps.size⟩
theorem draws_txt {prog : Program} {w : World} {A : Around} (hh : A.handled = none) (it : Addr) (x : Str) (t : Tok) :
    Draws prog w A it [it] x.cps.size (fun i v => ∃ c u, x.cps[i]? = some c ∧ v = .str ⟨#[c]⟩ u) (fun i h => h.IsStrIter it (strIterType x) x t i) := by
  unfold strIterType
  split
  · exact Draws.strAscii hh it x t
  · exact Draws.strWide hh it x t
theorem turn_enumS {P : Program} {w : World} {K : PySem.W.Frag} {elts : List Expr} {kk : Nat} {tpos : Pos} (x : Str) (t : Tok) (e it : Addr) :
    Turn P w K (.Tuple elts kk tpos) (ItS x) [e, it] e (fun i h => (∃ old, IsEnum h e it ((i : Nat) : Int) old) ∧ h.IsStrIter it (strIterType x) x t i ∧ e ≠ it) where
  mem := by simp
  obj := fun i h st b hb => by
    obtain ⟨⟨old, he⟩, ⟨o, ho, hc, hd⟩, _⟩ := st
    have e' : b = e ∨ b = it := by simpa using hb
    rcases e' with z | z
    · rw [z]; exact ⟨_, he, fun v q => nomatch q⟩
    · rw [z]; exact ⟨o, ho, fun v q => by rw [hd] at q; cases q⟩
  keep := fun i h h' st k => let ⟨⟨old, he⟩, ⟨o, ho, r⟩, hne⟩ := st; ⟨⟨old, k e (by simp) _ he⟩, ⟨o, k it (by simp) o ho, r⟩, hne⟩
  item := by
    intro X hP hw hK hc i pins s σ H E I hf st hg
    subst hP hw hK
    obtain ⟨⟨old, he⟩, hit, hne⟩ := st
    have hel : e < s.heap.objs.size := Heap.lt_size he
    have hil : it < s.heap.objs.size := by obtain ⟨_, q, _⟩ := hit; exact Heap.lt_size q
    have D := draws_txt (prog := X.prog) (w := X.w) (A := X.A.in1) (I.ok.hd hc) it x t
    refine wpAny_pyNext_enum_itemD D he hit hg hne (by simpa using hne) fun v h' tk hv ho hit' hT hsz hk => ?_
    obtain ⟨c, u, hx, rfl⟩ := hv
    refine ⟨_, rfl, wpAny_letOwnedTupleGo_enum (s := { s with heap := h', toks := tk + 1 }) ho fun h'' he' sb => ?_⟩
    have hT2 : h''.get? s.heap.objs.size = some { cls := .type "tuple", data := .seq #[.int i tk, .str ⟨#[c]⟩ u] } := (sb.2 _ (Nat.ne_of_gt hel)).trans hT
    have new : ObjOk X.prog X.w (upd H s.heap.objs.size (.tup [.int (i : Nat), .str ⟨#[c]⟩])) h'' s.heap.objs.size (.tup [.int (i : Nat), .str ⟨#[c]⟩]) :=
      ⟨by show 2 ≤ sizeLine; decide, [.int i tk, .str ⟨#[c]⟩ u], .cons ⟨_, rfl⟩ (.cons ⟨_, rfl⟩ .nil), ⟨_, hT2, rfl, _, rfl⟩⟩
    have I1 : Inv X pins σ (upd H s.heap.objs.size (.tup [.int (i : Nat), .str ⟨#[c]⟩])) { s with heap := h'', toks := tk + 1 } :=
      I.turnedNew (ch := [e, it]) (fun b ob hb q => (sb.2 b (fun z => hb (by simp [z]))).trans (hk b ob (fun z => hb (by simp [z])) (fun z => hb (by simp [z])) q)) hf (Nat.le_refl _) new
    refine ⟨.ref s.heap.objs.size, _, I1, rfl, ⟨_, c, rfl, I.hok.fresh (Nat.le_refl _), hx, rfl⟩, ⟨⟨.str ⟨#[c]⟩ u, ?_⟩, ?_, hne⟩, fun b hb => ?_⟩
    · have e1 : ((i + 1 : Nat) : Int) = (i : Int) + 1 := by omega
      rw [e1]; exact he'
    · obtain ⟨o, q, r⟩ := hit'
      exact ⟨o, (sb.2 it (Ne.symm hne)).trans q, r⟩
    · have hb' : b < s.heap.objs.size := by
        have e' : b = e ∨ b = it := by simpa using hb
        rcases e' with z | z
        · rw [z]; exact hel
        · rw [z]; exact hil
      rw [upd_ne (Nat.ne_of_lt hb')]
      exact (hf b hb).1
  done := by
    intro X hP hw hK hc i pins s σ H E I hf st hg
    subst hP hw hK
    obtain ⟨⟨old, he⟩, hit, hne⟩ := st
    obtain ⟨f0, f1, f2, f3, f4, f5⟩ := hf it (by simp)
    obtain ⟨o, ho, hc', hd'⟩ := id hit
    have hi : i = x.cps.size := hg
    subst hi
    have D := draws_txt (prog := X.prog) (w := X.w) (A := X.A.in1) (I.ok.hd hc) it x t
    exact wpAny_pyNext_enum_endD D he hit fun h' eb => ⟨rfl, I.turned (t' := s.toks) (fun b o hb q => eb b o hb q) f0 f1 f3 f4 f5⟩
  self := fun A i s Q E st h => let ⟨⟨_, he⟩, _⟩ := st; wpAny_pyIter_enum he h
def iEnumS (ta : TA) : TI := fun σ H R => ta σ H fun vs H1 => ∃ x, vs = [.str x] ∧ R (ItS x) H1
theorem pi_enumS {X : Cx} {e : Expr} {ta : TA} {p pos tpos : Pos} {elts : List Expr} {kk : Nat} (hg : Gl X "enumerate") (hm : X.mg "enumerate" = none) (ha : PA X [e] ta) (hs : starEach [e] X.env = [(false, eval e X.env)] := by rfl) :
    PI X (.Tuple elts kk tpos) (.Call (.Name "enumerate" p) [e] [] pos) (iEnumS ta) := by
  refine ⟨fun pins s σ H R I h => ?_⟩
  refine Call_ (ld_blt I hg hm boot_enumerate (PyProof.Rows.callWith_type1 (thn (ha.run pos pins s σ H _ I h) fun us s1 ⟨vs, H1, I1, r1, q1⟩ => ?_) hs rfl))
  obtain ⟨x, ex, q⟩ := q1
  subst ex
  cases r1 with
  | cons r rr =>
    cases rr
    obtain ⟨t, rfl⟩ := r
    refine call_enumerate_str fun h' he hit hsz hk => wpAny_pyIter_enum he ?_
    have I2 : Inv X pins σ H1 { s1 with heap := h' } := I1.kept (t' := s1.toks) hk
    refine ⟨s1.heap.objs.size + 1, [s1.heap.objs.size + 1, s1.heap.objs.size], _, _, H1, rfl, I2, turn_enumS x t (s1.heap.objs.size + 1) s1.heap.objs.size, ⟨⟨.none, he⟩, hit, Nat.succ_ne_self _⟩, fun b hb => ?_, q⟩
    have e' : b = s1.heap.objs.size + 1 ∨ b = s1.heap.objs.size := by simpa using hb
    have hle : s1.heap.objs.size ≤ b := by
      rcases e' with z | z
      · rw [z]; exact Nat.le_add_right _ _
      · rw [z]; exact Nat.le_refl _
    exact I1.fpOk hle (I1.hok.fresh hle)
theorem for_enumS {x : Str} {g : TG} {tb : TS} {D : Ends} {σ : L2.St} {H : Hp} (Pv : Nat → L2.St → Hp → Prop) (h0 : Pv 0 σ H)
    (hs : ∀ i c T σ H, x.cps[i]? = some c → Pv i σ H → H T = none → g (.ref T) σ (upd H T (.tup [.int (i : Nat), .str ⟨#[c]⟩])) fun σ2 H2 => tb { D with nx := Pv (i + 1), ct := Pv (i + 1), bk := D.nx } σ2 H2)
    (hd : ∀ σ H, Pv x.cps.size σ H → D.nx σ H) :
    ∃ W : Nat → Nat → L2.St → Hp → Prop, (∃ m, W 0 m σ H) ∧ ∀ i m σ H, W i m σ H →
      ((ItS x).stop i H ∧ D.nx σ H) ∨ ((ItS x).go i H ∧ ∃ N : L2.St → Hp → Prop, (∀ σ' H', N σ' H' → ∃ m', m' < m ∧ W (i + 1) m' σ' H') ∧ ∀ v H', (ItS x).yld i H v H' → g v σ H' fun σ2 H2 => tb { D with nx := N, ct := N, bk := D.nx } σ2 H2) := by
  refine ⟨fun i m σ H => m = x.cps.size - i ∧ i ≤ x.cps.size ∧ Pv i σ H, ⟨x.cps.size, by simp, Nat.zero_le _, h0⟩, ?_⟩
  rintro i m σ H ⟨rfl, hi, p⟩
  by_cases hlt : i < x.cps.size
  · refine .inr ⟨hlt, Pv (i + 1), fun σ' H' p' => ⟨x.cps.size - (i + 1), by omega, rfl, hlt, p'⟩, fun v H' y => ?_⟩
    obtain ⟨T, c, rfl, hT, hc, rfl⟩ := y
    exact hs i c T σ H hc p hT
  · have e : i = x.cps.size := by omega
    subst e
    exact .inl ⟨rfl, hd σ H p⟩
theorem op_mul_str {X : Cx} : OpR X (binaryOp .Mult) (fun x y H Q => ∃ z n, x = .str z ∧ y = .int n ∧ 0 ≤ n ∧ n < 2 ^ 63 ∧ z.length * n.toNat ≤ sizeLine ∧ Q (.str (Txt.mul z n)) H) := by
  intro pins s σ H x y v u Q I rx ry h
  obtain ⟨z, n, rfl, rfl, h0, h1, h2, q⟩ := h
  obtain ⟨t, rfl⟩ := rx
  obtain ⟨t', rfl⟩ := ry
  refine PySem.SB.mul ⟨?_, fun _ _ => ?_, fun _ _ => ?_⟩ fun t' k => ⟨.str (Txt.mul z n), H, I.tok _, ⟨_, rfl⟩, q⟩
  · rw [decide_eq_false (by omega), decide_eq_false (by omega)] <;> rfl
  · have h3 : (z.length : Int) * n ≤ 2 ^ 63 - 1 := by
      have e1 : ((z.length * n.toNat : Nat) : Int) = (z.length : Int) * n := by
        rw [Int.natCast_mul, Int.toNat_of_nonneg h0]
      have e2 : ((z.length * n.toNat : Nat) : Int) ≤ (sizeLine : Nat) := Int.ofNat_le.mpr h2
      have e3 := line63
      omega
    intro h4
    by_cases hn : 0 < n
    · have h5 := (Int.le_ediv_iff_mul_le hn).mpr h3
      omega
    · omega
  · exact decide_eq_false (by omega)
theorem mul_toList (z : Str) (n : Int) : (Txt.mul z n).cps.toList = (List.replicate n.toNat z.cps.toList).flatten := by
  unfold Txt.mul
  by_cases h1 : n < 1
  · rw [if_pos h1, show n.toNat = 0 by omega] <;> rfl
  · rw [if_neg h1]
    by_cases h2 : (n == 1 || z.length == 0) = true
    · rw [if_pos h2]
      rcases Bool.or_eq_true_iff.mp h2 with h3 | h3
      · have e : n = 1 := beq_iff_eq.mp h3
        subst e
        simp
      · have e : z.cps.toList = [] := by
          have e : z.cps.size = 0 := beq_iff_eq.mp h3
          simpa using e
        rw [e]
        simp
    · rw [if_neg h2]
      have key : ∀ (k : Nat) (acc : Array Nat), ((List.replicate k z.cps).foldl (· ++ ·) acc).toList = acc.toList ++ (List.replicate k z.cps.toList).flatten := by
        intro k
        induction k with
        | zero => intro acc; simp
        | succ k ih =>
          intro acc
          rw [List.replicate_succ, List.foldl_cons, ih]
          simp [List.replicate_succ]
      have := key n.toNat #[]
      simpa using this
end Tw
namespace Tw
open PySem PySem.Spec PyProof.Rows L2
def ExV (cls : Value) (d : Option Addr) (a : Addr) : HO := .ext fun h => ∃ (oe : Obj) (vs : Array Value), h.get? a = some oe ∧ Zc cls d oe ∧ oe.data = .fields vs
theorem exV_ok {P : Program} {w : World} {H : Hp} {h : Heap} {a : Addr} {cls : Value} {d : Option Addr} {oe : Obj} {vs : Array Value} (e : h.get? a = some oe) (z : Zc cls d oe) (hd : oe.data = .fields vs) : ObjOk P w H h a (ExV cls d a) :=
  ⟨⟨oe, vs, e, z, hd⟩, ⟨oe, e⟩, fun _ _ ⟨o, v, q, r⟩ k => ⟨o, v, k o q, r⟩⟩
theorem exV_own {cls : Value} {d : Option Addr} {a x : Addr} : ExV cls d a ≠ .own x := fun z => by
  have z' : HO.ext _ = HO.own x := z
  cases z'
section
variable {X : Cx} {pins : List (Addr × Obj)} {σ : L2.St} {H : Hp} {s : Shared}
theorem inv_track {a : Addr} {o : HO} {oe : Obj} {vs : Array Value} (I : Inv X pins σ H s) (he : s.heap.get? a = some oe) (hd : oe.data = .fields vs) (n0 : X.s_0.heap.get? a = none) (na : H a = none) (nL : a ≠ X.env.locals)
    (np : ∀ p ∈ X.pn ++ pins, p.1 ≠ a) (new : ObjOk X.prog X.w (upd H a o) s.heap a o) : Inv X pins σ (upd H a o) s := by
  have ne0 : ∀ b ob, X.s_0.heap.get? b = some ob → b ≠ a := fun b ob e z => by
    rw [z, n0] at e
    cases e
  refine ⟨I.ok, I.os, I.bare, ⟨I.base.keep, I.base.slot, fun b ob e n hx => ?_, I.base.there, fun b xs e => ?_, fun b ob xs e => ?_, fun b ps e => ?_⟩, I.loc, I.cell, ?_, fun x c e => ?_, fun p hp => ?_, fun b u e => ?_, I.len⟩
  · rw [upd_ne (ne0 b ob e)]
    exact I.base.free b ob e n hx
  · have q := I.base.tups b xs e
    rw [upd_ne (ne_of_none q na)]
    exact q
  · have q := I.base.frzs b ob xs e
    rw [upd_ne (ne_of_none q na)]
    exact q
  · obtain ⟨m, q⟩ := I.base.tbls b ps e
    exact ⟨m, by rw [upd_ne (ne_of_none q na)]; exact q⟩
  · rw [upd_ne (Ne.symm nL)]
    exact I.free
  · have hne : c ≠ a := fun z => by
      obtain ⟨v, oc, ho, hc⟩ := I.cell x c e
      rw [z, he] at ho
      cases ho
      rw [hd] at hc
      cases hc
    rw [upd_ne hne]
    exact I.freeC x c e
  · obtain ⟨e, n, ne, nf, dd⟩ := I.pin p hp
    exact ⟨e, by rw [upd_ne (np p hp)]; exact n, ne, nf, dd⟩
  · by_cases hb : b = a
    · subst hb
      rw [upd_same] at e
      cases e
      exact new
    · rw [upd_ne hb] at e
      exact (I.hok b u e).stay (fun c v _ q => q) (fun c q => by rw [upd_ne (ne_of_none q na)]; exact q) fun c xs q => by rw [upd_ne (ne_of_none q na)]; exact q
abbrev suiteV (X : Cx) (a : Addr) (pn : List (Addr × Obj)) : Cx := { X with A := X.A.mark (some (.ref a)), calm := false, pn := pn, xe := fun _ _ => False }
theorem ok_suiteV (ok : X.Ok) (a : Addr) (pn : List (Addr × Obj)) : (suiteV X a pn).Ok :=
  ⟨ok.mod, ok.kind, ok.glob, ok.blt, ok.above, ok.inj, ok.has, ok.cab, (fun z => absurd (show false = true from z) Bool.false_ne_true), ok.frames, ok.stk, ok.exf, ok.bs, ok.bsz, ok.noex, ok.exfs, ok.funs, ok.frf⟩
theorem inv_suiteV (I : Inv X pins σ H s) (a : Addr) : Inv (suiteV X a (X.pn ++ pins)) [] σ H s :=
  ⟨ok_suiteV I.ok _ _, I.os, I.bare, I.base, I.loc, I.cell, I.free, I.freeC, fun p hp => I.pin p (by rw [List.append_nil] at hp; exact hp), I.hok, I.len⟩
theorem inv_unsuiteV {a : Addr} {pn' : List (Addr × Obj)} (I : Inv (suiteV X a (X.pn ++ pins)) pn' σ H s) (ok : X.Ok) : Inv X pins σ H s :=
  ⟨ok, I.os, I.bare, I.base, I.loc, I.cell, I.free, I.freeC, fun p hp => I.pin p (List.mem_append_left _ hp), I.hok, I.len⟩
end
def wAsV (K : PySem.W.Frag) (c : Value) (i : Nat) (ts : TS) (D : Ends) : WX := fun cls d σ H =>
  PySem.W.exmOne K cls c = some true ∧ ∀ a, H a = none → ts { nx := fun σ' H' => D.nx (σ'.set i none) H', rt := D.rt, bk := fun σ' H' => D.bk (σ'.set i none) H', ct := fun σ' H' => D.ct (σ'.set i none) H' } (σ.set i (some (.ref a))) (upd H a (ExV cls d a))
section
variable {X : Cx} {x n : Str} {c : Value} {i : Nat} {body suite : List Stmt} {b₀ : Stmt} {np pos pos' : Pos} {tb : WX → TS} {ts : TS}
theorem ps_try_asV (hex : X.ex = []) (hs : X.stack = X.env :: X.outer) (hf : X.env.frame = some X.env.locals) (hN : X.N.Nodup) (hi : X.N[i]? = some n) (hln : X.env.kindOf n = some .local) (hc : Names X x c)
    (hb : ∀ (W : WX) (pn : List (Addr × Obj)) (xe : Value → Shared → Prop), Takes (X.tr pn xe) W → PassesOwn (model X.prog X.w) X.A X.env xe → PSs (X.tr pn xe) body (tb W))
    (hsu : ∀ (a : Addr) (pn : List (Addr × Obj)), PSs (suiteV X a pn) (b₀ :: suite) ts) :
    PS X (.Try body [.ExceptHandler (some (.Name x np)) (some n) (b₀ :: suite) pos'] [] [] pos) (fun D σ H => tb (wAsV X.K c i ts D) D σ H) := by
  refine ⟨fun pins s σ H D I h => ?_⟩
  have ok := I.ok
  have hfr : X.A.frames = some (X.env :: X.outer) := by rw [ok.frames, hs]
  have hloc : Loc X.env.scope n := .inl hln
  refine wpAny_Try_except ?_
  refine wpAny_mono ((hb (wAsV X.K c i ts D) (X.pn ++ pins) (fun e s₁ => wpAny (model X.prog X.w) X.A (noteFrame e X.env) (fun _ s₂ => wpAny (model X.prog X.w) X.A (setFlight e none) (fun _ s₃ =>
    wpAny (model X.prog X.w) X.A (handleBy e X.env [.ExceptHandler (some (.Name x np)) (some n) (b₀ :: suite) pos']) (SP X pins D) X.xe s₃) X.xe s₂) X.xe s₁) (fun u s' xx => ?_) PassesOwn.looking).run [] s σ H D (I.toTry _) h) (fun f s1 hsp => ?_) (fun e s1 he => he)
  · obtain ⟨a, B, sI, pins', σ', H', cls, d, rfl, J', nb, up, sky, na, os, ag, hb1, hyes⟩ := xx
    have J : Inv X pins σ' H' sI := J'.ofTry ok
    have sky' : Sky B (X.env :: X.outer) a (Zc cls d) X.env.locals s'.heap := by rw [← hs]; exact sky
    show wpAny (model X.prog X.w) X.A (noteFrame (.ref a) X.env) _ _ _
    refine Sky.land Zc.steady hfr hf sky' fun h3 fl3 up3 => ?_
    have J3 : Inv X pins σ' H' { s' with heap := h3 } := J.landed nb fl3.1 (up.trans up3) os ag
    obtain ⟨oe3, vs3, he3, hz3, hd3⟩ := fl3.there
    have nfr : a ∉ frs (X.env :: X.outer) := fun hm => by
      obtain ⟨_, o', e', hnf⟩ := fl3.2.2.1.mem hm
      rw [he3] at e'; cases e'
      exact hnf _ hd3
    have nL : a ≠ X.env.locals := fun z => nfr (List.mem_filterMap.mpr ⟨X.env, List.mem_cons_self, by rw [hf, z]⟩)
    have nF : a ∉ X.fs := fun hm => by
      obtain ⟨e, he, q⟩ := List.mem_filterMap.mp hm
      exact nfr (List.mem_filterMap.mpr ⟨e, List.mem_cons_of_mem _ he, q⟩)
    have nI : sI.heap.get? a = none := by
      cases q : sI.heap.get? a with
      | none => rfl
      | some o =>
        have z := nb a o q (by rw [hs]; exact nfr)
        rw [fl3.2.1] at z
        cases z
    have n0 : X.s_0.heap.get? a = none := by
      cases q : X.s_0.heap.get? a with
      | none => rfl
      | some o =>
        obtain ⟨o', z⟩ := J.base.there a o q (by rw [hex]; exact fun z => nomatch z)
        rw [nI] at z
        cases z
    have np' : ∀ p ∈ X.pn ++ pins, p.1 ≠ a := fun p hp z => by
      have q := (J.pin p hp).1
      rw [z, nI] at q
      cases q
    have S3 := J3.suite he3 hd3 na nL nF
    refine wpAny_handleBy_cons (codeAny_handlers_test ?_) (by intro q; cases q)
    have LT : PySem.W.Looks (model X.prog X.w) h3 (typeOf (.ref a)) cls := fun A Q E s k q => wpAny_typeOf_ref (k _ _ he3) (by rw [hz3.1]; exact q)
    have LM := PySem.W.exm_one (M := model X.prog X.w) (J3.kIn) LT hb1
    have test : ∀ {Q : Value → Shared → Prop} {E : Value → Shared → Prop}, Q c { s' with heap := h3 } → wpAny (model X.prog X.w) (X.A.mark (some (.ref a))) (eval (.Name x np) X.env) Q E { s' with heap := h3 } := fun {Q E} q => by
      obtain ⟨hg, hdbg, hm | ⟨hm, hv, hnn⟩⟩ := hc
      · exact ld_glob (X := X.suite a ((a, oe3) :: (X.pn ++ pins))) S3 hg hm q hdbg
      · exact ld_blt (X := X.suite a ((a, oe3) :: (X.pn ++ pins))) S3 hg hm hv q hnn hdbg
    refine test (LM.here ?_)
    refine codeAny_handlers_suite_as ?_
    refine HandSPX.lands_againZ fl3 fun h4 fl4 up4 => ?_
    have J4 : Inv X pins σ' H' { s' with heap := h4 } := J.landed nb fl4.1 ((up.trans up3).trans up4) os ag
    obtain ⟨oe4, vs4, he4, hz4, hd4⟩ := fl4.there
    have T4 : Inv X pins σ' (upd H' a (ExV cls d a)) { s' with heap := h4 } := inv_track J4 he4 hd4 n0 na nL np' (exV_ok he4 hz4 hd4)
    have S4 := inv_suiteV T4 a
    refine store_ok (X := suiteV X a (X.pn ++ pins)) (v := .ref a) S4 hN hi hloc rfl (fun s5 S5 => ?_) (.inr hln)
    refine wpAny_mono ((hsu a (X.pn ++ pins)).run [] s5 _ _ _ S5 (hyes a na)) (fun f s6 hsp => ?_) (fun _ _ z => False.elim z)
    have end_ : ∀ {σ6 : L2.St} {H6 : Hp} {Q : Shared → Prop}, Inv (suiteV X a (X.pn ++ pins)) [] σ6 H6 s6 → (∀ s7, Inv X pins (σ6.set i none) H6 s7 → Q s7) →
        wpAny (model X.prog X.w) X.A (do bindName X.env n .none; unbindBehindTheSuite X.env n pos') (fun _ s7 => Q s7) X.xe s6 := fun {σ6 H6 Q} S6 hq => gone_ok (inv_unsuiteV S6 ok) hN hi hln hq
    cases f with
    | next =>
      obtain ⟨σ6, H6, S6, q6⟩ := hsp
      exact end_ S6 fun s7 J7 => ⟨_, _, J7, q6⟩
    | brk =>
      obtain ⟨σ6, H6, S6, q6⟩ := hsp
      exact end_ S6 fun s7 J7 => ⟨_, _, J7, q6⟩
    | cont =>
      obtain ⟨σ6, H6, S6, q6⟩ := hsp
      exact end_ S6 fun s7 J7 => ⟨_, _, J7, q6⟩
    | ret u =>
      obtain ⟨v6, σ6, H6, S6, r6, q6⟩ := hsp
      exact end_ S6 fun s7 J7 => ⟨_, _, _, J7, r6, q6⟩
  · cases f with
    | next =>
      obtain ⟨σ', H', J', q⟩ := hsp
      exact wpAny_execs_nil ⟨σ', H', J'.ofTry ok, q⟩
    | brk =>
      obtain ⟨σ', H', J', q⟩ := hsp
      exact ⟨σ', H', J'.ofTry ok, q⟩
    | cont =>
      obtain ⟨σ', H', J', q⟩ := hsp
      exact ⟨σ', H', J'.ofTry ok, q⟩
    | ret u =>
      obtain ⟨v, σ', H', J', r, q⟩ := hsp
      exact ⟨v, σ', H', J'.ofTry ok, r, q⟩
end
end Tw
namespace Tw
open PySem PySem.Spec PyProof.Rows L2
section
open PySem.W PySem.Calls
variable {prog : Program} {w : World} {A : Around} {E : Value → Shared → Prop} {s : Shared} {K : Frag} {x D : Addr} {ox : Obj} {od : Option Obj}
theorem find_dataV {C : Addr} {name : Str} {a g : Value} (hc : (clsIn K C).isSome = true) (ha : findIn K (.ref C) name = some (some a)) (hg : specialIn K a "__get__" = some (some g)) (ht : takesIn K a = some true) : findObj K C od name = some (.bind g a) := by
  obtain ⟨cd, hc⟩ := Option.isSome_iff_exists.mp hc
  unfold findObj
  rw [hc, Option.bind_some, ha, Option.bind_some]
  simp [hg, ht]
theorem get_classV {Q : Option Value → Shared → Prop} (T : ExcC K D) (X : K.In s.heap) (I : InstAt s.heap x ox D od) (h : Q (some (.ref D)) { s with toks := s.toks + 1 }) : wpAny (model prog w) A (getAttr? (.ref x) "__class__") Q E s := by
  have hf : findObj K D od "__class__" = some (.bind (.builtin "getset_descriptor.__get__") (.builtin "object.__class__")) := find_dataV (by obtain ⟨cd, hc, _⟩ := any_some T.hd; rw [hc]; rfl) T.ha T.hn T.ht
  obtain ⟨hp, g, d, t, os⟩ := s
  have L0 := I.type (M := model prog w)
  have L1 := looks_findIn (M := model prog w) X T.hg
  have L2 := looks_findIn (M := model prog w) X T.hk
  have L3 := looks_find (M := model prog w) X I hf
  have sub : Looks (model prog w) hp (isInstance (.ref x) (.type "BaseException")) true := L0.andThen (looks_subIn X T.hs)
  have hx2 : (Value.builtin "BaseException.__getattribute__" == Value.builtin "object.__getattribute__") = false := by decide +kernel
  have hx1 : (onTheHeap (Value.ref D) && Value.builtin "BaseException.__getattribute__" == Value.builtin "object.__getattribute__") = false := by rw [hx2]; rfl
  unfold getAttr? getAttrBy? getAttrBy
  refine wpAny_bind (wpAny_mkText (wpAny_bind (wpAny_attempt (wpAny_holding (wpAny_bind (L0.at (wpAny_bind (L1.at ?_))))))))
  show wpAny _ _ (if (onTheHeap (Value.ref D) && Value.builtin "BaseException.__getattribute__" == Value.builtin "object.__getattribute__") = true then _ else _) _ _ _
  rw [hx1, if_neg Bool.false_ne_true]
  unfold getAttrByItsOwn hookBefore
  refine wpAny_bind ?_
  rw [if_pos (show onTheHeap (Value.ref D) = true from rfl)]
  refine L2.at ?_
  refine wpAny_bind (wpAny_attempt (wpAny_holding ?_))
  unfold callGetattribute
  rw [show (false && onTheHeap (Value.builtin "BaseException.__getattribute__")) = false from rfl, if_neg Bool.false_ne_true]
  unfold boundAndCalled
  rw [PySem.F.excAttr_ValueError.ga.bind (.ref x)]
  refine wpAny_bind (wpAny_pure ?_)
  show wpAny _ _ (call (.builtin "BaseException.__getattribute__") [.ref x, .str "__class__" t]) _ _ _
  refine wpAny_call (codeAny_call_builtin PySem.F.excAttr_ValueError.ga.plain PySem.F.entry_bexc_ga ?_)
  refine @check_slot (model prog w) _ _ ⟨hp, g, d, t + 1, os⟩ "BaseException.__getattribute__" "BaseException" "__getattribute__" (.ref x) [.str "__class__" t] [] _ (by decide +kernel) (by decide +kernel) sub (PySem.F.args_bexc_ga (.ref x) (.str "__class__" t)) ?_
  unfold Builtin.«object.__getattribute__»
  refine wpAny_bind (wpAny_of_eq (a := ((Value.ref x : Value), [Value.str "__class__" t])) (by first | rfl | (simp only [slotArgs]; rfl)) ?_)
  refine wpAny_bind (wpAny_pure (wpAny_bind (L0.at (wpAny_bind (L3.at ?_)))))
  show wpAny _ _ (holding [Value.builtin "object.__class__"] (call (.builtin "getset_descriptor.__get__") [.builtin "object.__class__", .ref x, .ref D]) >>= ret) _ _ _
  refine wpAny_bind (wpAny_holding (wpAny_call (class_get (s := ⟨hp, g, d, t + 1, os⟩) (ox := ox) (od := od) X I T.hm ?_)))
  refine wpAny_pure ?_
  show wpAny _ _ (handedOut (.ref D)) _ _ _
  rw [handedOut_of (v := .ref D) rfl]
  first
    | exact wpAny_pure (wpAny_pure h)
    | exact wpAny_pure h
    | exact wpAny_pure (wpAny_bind (wpAny_pure (wpAny_pure h)))
theorem kitV (T : ExcC K D) : KitX K (.ref x) (.ref D) (fun h => ∃ ox od, InstAt h x ox D od) where
  ty := fun _ _ _ ⟨_, _, I⟩ => I.type
  it := fun _ _ X _ => by
    obtain ⟨cdD, hcD, _⟩ := any_some T.hd
    unfold clsIn at hcD
    split at hcD
    · rename_i ho
      intro A' Q' E' s' k q
      unfold isType loadHead
      exact wpAny_bind (wpAny_loadPart (k _ _ (X _ _ ho)) (wpAny_pure q))
    · cases hcD
  ne := (handS_kitx_exc (x := x) (ox := default) T.hg T.hk T.hs T.hd T.ha T.hn T.ht T.hm).ne
  ca := fun X ⟨_, _, I⟩ k => get_classV T X I k
end
def DOk (H : Hp) (d : Option Addr) : Prop := d = none ∨ ∃ dd fs, d = some dd ∧ H dd = some (.xd fs)
def rIsV (K : PySem.W.Frag) : List V → Hp → VK → Prop := fun xs H Q => ∃ (a D : Addr) (d : Option Addr) (c : V) (cv : Value) (b : Bool), xs = [.ref a, c] ∧ ClsV c cv ∧ H a = some (ExV (.ref D) d a) ∧ DOk H d ∧ ExcC K D ∧ PySem.W.kitOne K (.ref D) cv = some b ∧ Q (.bl b) H
section
variable {X : Cx}
theorem exV_at {P : Program} {w : World} {H : Hp} {h : Heap} {a : Addr} {cls : Value} {d : Option Addr} (hok : HOk P w H h) (e : H a = some (ExV cls d a)) : ∃ (oe : Obj) (vs : Array Value), h.get? a = some oe ∧ Zc cls d oe ∧ oe.data = .fields vs := by
  have x : ObjOk P w H h a (.ext fun h => ∃ (oe : Obj) (vs : Array Value), h.get? a = some oe ∧ Zc cls d oe ∧ oe.data = .fields vs) := hok a _ e
  exact x.1
theorem inst_of {pins : List (Addr × Obj)} {σ : L2.St} {H : Hp} {s : Shared} {a D : Addr} {d : Option Addr} (I : Inv X pins σ H s) (e : H a = some (ExV (.ref D) d a)) (hd : DOk H d) : ∃ ox od, PySem.W.InstAt s.heap a ox D od := by
  obtain ⟨oe, vs, h1, h2, h3⟩ := exV_at I.hok e
  obtain ⟨h4, h5⟩ := h2
  have hn : PySem.W.notCls oe = true := by unfold PySem.W.notCls; rw [h3] <;> rfl
  rcases hd with rfl | ⟨dd, fs, rfl, hx⟩
  · exact ⟨oe, none, h1, h4, hn, by rw [h5]; trivial⟩
  · have q : ObjOk X.prog X.w H s.heap dd (.xd fs) := I.hok dd _ hx
    obtain ⟨mA, ⟨od, es, ep, ho, _⟩, _⟩ := q
    exact ⟨oe, some od, h1, h4, hn, by rw [h5]; exact ho⟩
theorem call_isV : CallR X (.builtin "isinstance") (rIsV X.K) := by
  intro pins s σ H xs us Q I r h
  obtain ⟨a, D, d, c, cv, b, rfl, k, ea, hd, T, e, q⟩ := h
  obtain ⟨u1, u2, rfl, r1, r2⟩ := vals2 r
  have e2 := k.eq r2
  subst e2
  cases r1
  exact PySem.W.kia_one (kitV T) I.kIn (inst_of I ea hd) e (fun z => nomatch z) fun tk => ⟨.bl b, H, I.tok tk, rfl, q⟩
def tXv (K : PySem.W.Frag) (f : Str) (te : TE) : TE := fun σ H Q => te σ H fun x H1 => ∃ (a C dd : Addr) (fs : List (Str × V)) (v : V), x = .ref a ∧ H1 a = some (ExV (.ref C) (some dd) a) ∧ H1 dd = some (.xd fs) ∧ XfC K C ∧ PySem.W.findIn K (.ref C) f = some none ∧ fs.lookup f = some v ∧ Q v H1
theorem pe_xv {e : Expr} {te : TE} {pos : Pos} {n : Str} (he : PE X e te) (hb : attributeBase e n X.env (eval e X.env) = eval e X.env := by rfl) : PE X (.Attribute e n pos) (tXv X.K n te) := by
  refine ⟨fun pins s σ H Q I h => ?_⟩
  refine attr_of hb (thn (he.run pins s σ H _ I h) fun u s1 hh => ?_)
  obtain ⟨x, H1, I1, rx, a, C, dd, fs, v, ex, ea, ed, T, hno, l, q⟩ := hh
  subst ex
  obtain rfl : u = Value.ref a := rx
  obtain ⟨oe, vs, ha, hz, hd⟩ := exV_at I1.hok ea
  have hx : ObjOk X.prog X.w H1 s1.heap dd (.xd fs) := I1.hok dd _ ed
  obtain ⟨mA, hns, hr⟩ := hx
  obtain ⟨od, ho, hl⟩ := lookIn_ns hns
  obtain ⟨u, hu, ru⟩ := RelO.some_of (v := v) (o := mA n) (by rw [← l]; exact hr n)
  have J : PySem.W.InstAt s1.heap a oe C (some od) := ⟨ha, hz.1, by unfold PySem.W.notCls; rw [hd] <;> rfl, by rw [hz.2]; exact ho⟩
  exact HandSPX.exc_get I1.kIn J T.ga T.gg T.exC (PySem.W.findObj_own T.hdC hno rfl (by rw [hl, hu])) (handed_of ru) ⟨v, H1, I1.tok _, ru, q⟩
end
section
variable {X : Cx} {e : Expr} {es : List Expr} {ta : TA} {x : Str} {p1 p2 pos : Pos} {W : Addr}
theorem pe_owninit {pl : Sem Bool} (hg : Gl X x) (hm : X.mg x = some (.ref W)) (hga : PySem.W.specialIn X.K (.ref W) "__getattribute__" = some (some (.builtin "type.__getattribute__"))) (hrd : PySem.W.readsIn X.K W (.type "type") = true)
    (vV : PySem.W.findCls X.K (.ref W) (.type "type") "__init__" = some (.val (.builtin "ValueError.__init__"))) (ha : PA X (e :: es) ta) (hdb : (x == ("__debug__" : Str)) = false := by decide)
    (hc : eval (.Call (.Attribute (.Name x p1) "__init__" p2) (e :: es) [] pos) X.env = (do
      let ov ← eval (.Name x p1) X.env
      standAt p2.atName
      let (f, first) ← holding [ov] (getMethod ov "__init__" pl)
      callWith pos f first (backTo pos (starEach (e :: es) X.env)) (backToKw pos (keywordEach [] X.env))) := by rfl)
    (he : starEach (e :: es) X.env = (false, eval e X.env) :: starEach es X.env := by rfl) (hpl : (backTo pos (starEach es X.env)).any (·.1) = false := by rfl) :
    PE X (.Call (.Attribute (.Name x p1) "__init__" p2) (e :: es) [] pos) (tVeI X.K ta) := by
  refine ⟨fun pins s σ H Q I h => ?_⟩
  refine PySem.W.methodCall_KW (ld_glob I hg hm ?_ hdb) hc
  refine PySem.W.method_cls I.kIn hga (PySem.W.cls_value I.kIn hrd vV (by rfl) ?_)
  show wpAny _ _ (callWith pos (Value.builtin "ValueError.__init__") [] (backTo pos (starEach (e :: es) X.env)) []) _ _ _
  refine PyProof.Rows.callWith_method1 (thn (ha.run pos pins _ σ H _ (I.tok _) h) fun us s1 ⟨vs, H1, I1, r1, a, C, ws, ev, hl, T, ea, q⟩ => ?_) he hpl
  subst ev
  cases r1 with
  | @cons _ u0 _ ur ra rw' =>
    obtain rfl : u0 = Value.ref a := ra
    have hlen : ur.length ≤ sizeLine := by
      rw [← Paired.length rw', sizeLine_eq]
      omega
    exact oinit_ok T I1 ea hlen fun s' J => ⟨.non, H1, J, rfl, q⟩
end
structure Cal (P : Program) (w : World) (K : PySem.W.Frag) (mg : Str → Option Value) (base : Heap) (k : Nat) (x : Str) (ps : List Str) (sp : Sp) : Prop where
  ex : ∃ f fd, mg x = some (.ref f) ∧ PySem.W.keepIn K (.ref f) = true ∧ FnOk P w K mg base (L2.CX P w) k f fd ps sp ∧ Binds K fd ps []
structure Mtd (P : Program) (w : World) (K : PySem.W.Frag) (mg : Str → Option Value) (base : Heap) (k : Nat) (C : Addr) (m : Str) (ps : List Str) (sp : Sp) : Prop where
  ex : ∃ f fd, Meth K C m f ∧ FnOk P w K mg base (L2.CX P w) k f fd ps sp ∧ Binds K fd ps []
structure Mkr (P : Program) (w : World) (K : PySem.W.Frag) (mg : Str → Option Value) (base : Heap) (k : Nat) (x : Str) (C : Addr) (ps : List Str) (sp : Sp) : Prop where
  ex : ∃ f fd, mg x = some (.ref C) ∧ Mk K C f ∧ FnOk P w K mg base (L2.CX P w) k f fd ps sp ∧ Binds K fd ps []
def tMethS (C : Addr) (m : Str) (sp : Sp) (E : L2.St → XK) (ta : TE) (t : TA) : TE := fun σ H Q => ta σ H fun x H1 => ∃ a dx fs, x = .ref a ∧ H1 a = some (.ins C dx fs) ∧ fs.lookup m = none ∧ t σ H1 fun vs H2 => sp (x :: vs) H2 Q (E σ)
def tMakeS (C : Addr) (sp : Sp) (E : L2.St → XK) (t : TA) : TE := fun σ H Q => t σ H fun vs H1 => ∀ x dx, H1 x = none → H1 dx = none → dx ≠ x →
  sp (.ref x :: vs) (upd (upd H1 dx (.own x)) x (.ins C dx [])) (fun v H2 => v = .non ∧ Q (.ref x) H2) (E σ)
section
variable {X : Cx} {j k : Nat} {C : Addr} {ps : List Str} {sp : Sp} {W : WX} {x m : Str} {p pos apos : Pos} {e o : Expr} {es : List Expr} {ta : TE} {t : TA}
theorem pe_c (c : Cal X.prog X.w X.K X.mg X.base k x ps sp) (hr : Room j X.A) (tk : Takes X W) (ha : PA X (e :: es) t) (hk : k ≤ j := by decide) (hg : Gl X x := by rfl) (hdb : (x == ("__debug__" : Str)) = false := by decide)
    (he : starEach (e :: es) X.env = (false, eval e X.env) :: starEach es X.env := by rfl) (hpl : (backTo pos (starEach es X.env)).any (·.1) = false := by rfl) : PE X (.Call (.Name x p) (e :: es) [] pos) (tCallS sp (WE W) t) := by
  obtain ⟨f, fd, hm, kp, F, b⟩ := c.ex
  exact pe_callS F (hr.mono hk) hg hm kp b (fun σ => passAt tk σ) ha hdb he hpl
theorem pe_m {pl : Sem Bool} (c : Mtd X.prog X.w X.K X.mg X.base k C m ps sp) (T : Cls X.K C) (hr : Room j X.A) (tk : Takes X W) (ho : PE X o ta) (ha : PA X (e :: es) t) (hk : k ≤ j := by decide)
    (hst : starEach (e :: es) X.env = (false, eval e X.env) :: starEach es X.env := by rfl) (hpl : (backTo pos (starEach es X.env)).any (·.1) = false := by rfl)
    (ht : eval (.Call (.Attribute o m apos) (e :: es) [] pos) X.env = (do
      let ov ← eval o X.env
      standAt apos.atName
      let (f, first) ← holding [ov] (getMethod ov m pl)
      callWith pos f first (backTo pos (starEach (e :: es) X.env)) (backToKw pos (keywordEach [] X.env))) := by rfl) :
    PE X (.Call (.Attribute o m apos) (e :: es) [] pos) (tMethS C m sp (WE W) ta t) := by
  obtain ⟨f, fd, hm, F, b⟩ := c.ex
  refine ⟨fun pins s σ H Q I h => ?_⟩
  refine PySem.W.methodCall_KW (pl := pl) (thn (ho.run pins s σ H _ I h) fun u s1 ⟨x, H1, I1, rx, a, dx, fs, ex, ea, l, q⟩ => ?_) ht
  subst ex
  obtain rfl : u = Value.ref a := rx
  refine getmeth_ok I1 ea T hm l ?_
  refine PySem.W.callWith_K (first := [.ref a]) (h₀ := X.base) I.ok.mod.kin hm.kp (thn (ha.run pos pins s1 σ H1 _ I1 q) fun us s2 ⟨vs, H2, I2, r, q2⟩ => ⟨I2.kIn, ?_⟩) hst hpl
  exact run_fnS (us := .ref a :: us) (vs := .ref a :: vs) F (hr.mono hk) b (passAt tk σ) I2 (.cons rfl r) q2
theorem pe_m0 {pl : Sem Bool} (c : Mtd X.prog X.w X.K X.mg X.base k C m ps sp) (T : Cls X.K C) (hr : Room j X.A) (tk : Takes X W) (ho : PE X o ta) (hk : k ≤ j := by decide)
    (ht : eval (.Call (.Attribute o m apos) [] [] pos) X.env = (do
      let ov ← eval o X.env
      standAt apos.atName
      let (f, first) ← holding [ov] (getMethod ov m pl)
      callWith pos f first (backTo pos (starEach [] X.env)) (backToKw pos (keywordEach [] X.env))) := by rfl) :
    PE X (.Call (.Attribute o m apos) [] [] pos) (tMethS C m sp (WE W) ta tNil) := by
  obtain ⟨f, fd, hm, F, b⟩ := c.ex
  refine ⟨fun pins s σ H Q I h => ?_⟩
  refine PySem.W.methodCall_KW (pl := pl) (thn (ho.run pins s σ H _ I h) fun u s1 ⟨x, H1, I1, rx, a, dx, fs, ex, ea, l, q⟩ => ?_) ht
  subst ex
  obtain rfl : u = Value.ref a := rx
  refine getmeth_ok I1 ea T hm l ?_
  exact PySem.W.callWith_K0 (first := [.ref a]) I1.kIn hm.kp (run_fnS (us := [.ref a]) (vs := [.ref a]) F (hr.mono hk) b (passAt tk σ) I1 (.cons rfl .nil) q)
theorem run_mkS {f : Addr} {fd : FuncData} {E : L2.St → XK} {pins : List (Addr × Obj)} {σ : L2.St} {H : Hp} {s : Shared} {Q : VK} {us : List Value} {vs : List V} (M : Mk X.K C f) (F : FnOk X.prog X.w X.K X.mg X.base (L2.CX X.prog X.w) k f fd ps sp) (hr : Room (k + 1) X.A) (hb : Binds X.K fd ps [])
    (hx : PassesAt (L2.CX X.prog X.w) X σ (E σ)) (I : Inv X pins σ H s) (r : Vals vs us)
    (h : ∀ x dx, H x = none → H dx = none → dx ≠ x → sp (.ref x :: vs) (upd (upd H dx (.own x)) x (.ins C dx [])) (fun v H2 => v = .non ∧ Q (.ref x) H2) (E σ)) :
    wpAny (model X.prog X.w) X.A (call (.ref C) us) (EP X pins σ Q) X.xe s := by
  have hq := h (s.heap.objs.size + 1) s.heap.objs.size (I.hok.fresh (Nat.le_succ _)) (I.hok.fresh (Nat.le_refl _)) (Nat.ne_of_lt (Nat.lt_succ_self _))
  have I2 := Inv.made (C := C) I
  have r2 : Vals (V.ref (s.heap.objs.size + 1) :: vs) (Value.ref (s.heap.objs.size + 1) :: us) := .cons rfl r
  have hl : (Value.ref (s.heap.objs.size + 1) :: us).length = ps.length := by
    have e := r2.length
    rw [F.len _ _ _ _ hq] at e
    exact e.symm
  have b2 := hb _ (Value.ref (s.heap.objs.size + 1) :: us) I2.kIn (by rw [List.append_nil]; exact hl)
  rw [List.append_nil] at b2
  refine wpAny_call (make_map (f := f) I.kIn M.makes M.init (beq_iff_eq.mp M.fn) (codeAny_mono (F.run _ X.stack _ _ ⟨Value.ref (s.heap.objs.size + 1) :: us, []⟩ (Value.ref (s.heap.objs.size + 1) :: us) _ _ (E σ) (hr.make C us [])
    (I2.env0.make C us []) b2 r2 hq) fun r s' hq' => ?_))
  cases r with
  | error e => exact hx pins _ _ e s' I2 hq'
  | ok fl =>
    cases fl with
    | ret u =>
      obtain ⟨v, H', I3, rv, ev, q3⟩ := I2.after hq'
      subst ev
      exact ⟨rv, ⟨V.ref (s.heap.objs.size + 1), H', I3, rfl, q3⟩⟩
    | next => exact False.elim hq'
    | brk => exact False.elim hq'
    | cont => exact False.elim hq'
theorem pe_k (c : Mkr X.prog X.w X.K X.mg X.base k x C ps sp) (hr : Room j X.A) (tk : Takes X W) (ha : PA X (e :: es) t) (hk : k + 1 ≤ j := by decide) (hg : Gl X x := by rfl) (hdb : (x == ("__debug__" : Str)) = false := by decide)
    (he : starEach (e :: es) X.env = (false, eval e X.env) :: starEach es X.env := by rfl) (hpl : (backTo pos (starEach es X.env)).any (·.1) = false := by rfl) : PE X (.Call (.Name x p) (e :: es) [] pos) (tMakeS C sp (WE W) t) := by
  obtain ⟨f, fd, hm, M, F, b⟩ := c.ex
  refine ⟨fun pins s σ H Q I h => ?_⟩
  refine wpAny_Call_Name_kw (ld_glob I hg hm ?_ hdb)
  refine PySem.W.callWith_K (h₀ := X.base) I.ok.mod.kin M.kp (thn (ha.run pos pins s σ H _ I h) fun us s1 ⟨vs, H1, I1, r, q⟩ => ⟨I1.kIn, ?_⟩) he hpl
  exact run_mkS M F (hr.mono hk) b (passAt tk σ) I1 r q
end
end Tw
namespace Tw
open PySem PySem.Spec PyProof.Rows L2
def top (i : Nat) : Stmt := PySem.Challenge.pw_tightwood_k75_refused.main.body.getD i (.Pass ⟨0, 0, 0, 0⟩)
abbrev s_sums_of : Stmt := top 13
abbrev s_tops_in : Stmt := top 14
abbrev s_cut_evenly : Stmt := top 15
abbrev s_put_for : Stmt := top 16
abbrev s_ones_in : Stmt := top 19
abbrev s_is_amid : Stmt := top 23
abbrev s_words_of : Stmt := top 24
abbrev s_ask_row : Stmt := top 35
abbrev s_table_of : Stmt := top 36
abbrev s_look_at : Stmt := top 40
abbrev s_row_of : Stmt := top 41
abbrev s_elders_of : Stmt := top 42
abbrev s_is_number : Stmt := top 46
abbrev s_law_cell_at : Stmt := top 49
abbrev s_law_whole : Stmt := top 50
abbrev s_law_mixed : Stmt := top 51
abbrev s_law_digits : Stmt := top 52
abbrev s_law_wood : Stmt := top 53
abbrev s_law_kind : Stmt := top 54
abbrev s_law_done : Stmt := top 55
abbrev s_law_no_wood : Stmt := top 56
abbrev s_law_fault : Stmt := top 57
abbrev s_law_due : Stmt := top 58
abbrev s_law_chain : Stmt := top 59
abbrev s_law_of_none : Stmt := top 60
abbrev s_law_beyond : Stmt := top 61
abbrev s_law : Stmt := top 62
abbrev s_Bits_init : Stmt := inClass (top 25) 0
abbrev s_Bits_size : Stmt := inClass (top 25) 1
abbrev s_Bits_words : Stmt := inClass (top 25) 3
abbrev s_Bits_need : Stmt := inClass (top 25) 4
abbrev s_Bits_at : Stmt := inClass (top 25) 5
abbrev s_Bits_stretch : Stmt := inClass (top 25) 7
abbrev s_Bits_text : Stmt := inClass (top 25) 8
abbrev s_Counts_init : Stmt := inClass (top 31) 0
abbrev s_Pairs_init : Stmt := inClass (top 37) 0
abbrev s_Pairs_text : Stmt := inClass (top 37) 2
abbrev s_Shaped_init : Stmt := inClass (top 47) 0
abbrev s_Shaped_pieces : Stmt := inClass (top 47) 1
abbrev s_Shaped_row : Stmt := inClass (top 47) 3
abbrev s_Shaped_elders : Stmt := inClass (top 47) 4
abbrev s_Shaped_many_knots : Stmt := inClass (top 47) 5
abbrev s_Shaped_look_at_knot : Stmt := inClass (top 47) 6
abbrev s_Shaped_spot_of : Stmt := inClass (top 47) 7
abbrev s_Shaped_closing_from : Stmt := inClass (top 47) 8
abbrev s_Shaped_row_place : Stmt := inClass (top 47) 11
abbrev s_Shaped_ends_of : Stmt := inClass (top 47) 15
abbrev s_Shaped_children : Stmt := inClass (top 47) 21
abbrev s_Shaped_nth : Stmt := inClass (top 47) 23
abbrev s_Shaped_shape : Stmt := inClass (top 47) 24
abbrev s_Shaped_cut : Stmt := inClass (top 47) 25
abbrev s_Shaped_graft : Stmt := inClass (top 47) 26
abbrev s_Shaped_take_back : Stmt := inClass (top 47) 27
abbrev s_NoWood_init : Stmt := inClass (top 6) 0
end Tw
namespace Tw
open PySem PySem.Spec PyProof.Rows L2
inductive ErrK where
  | knot | graft | wood (z : Int) | large | deed
def ErrK.name : ErrK → Str
  | .knot => "NoKnot"
  | .graft => "NoGraft"
  | .wood _ => "NoWood"
  | .large => "TooLarge"
  | .deed => "NoDeed"
def errN : List Str := ["NoKnot", "NoGraft", "NoWood", "TooLarge", "NoDeed"]
def excB (K : PySem.W.Frag) (D : Addr) : Bool :=
  He.eqO (PySem.W.findIn K (.ref D) "__getattribute__") (some (some (.builtin "BaseException.__getattribute__"))) && (He.eqO (PySem.W.findIn K (.ref D) "__getattr__") (some none) &&
  (decide (PySem.W.subIn K (.ref D) (.type "BaseException") = some true) && (PySem.W.hasDictIn K D && (He.eqO (PySem.W.findIn K (.ref D) "__class__") (some (some (.builtin "object.__class__"))) &&
  (He.eqO (PySem.W.specialIn K (.builtin "object.__class__") "__get__") (some (some (.builtin "getset_descriptor.__get__"))) &&
  (decide (PySem.W.takesIn K (.builtin "object.__class__") = some true) && decide (PySem.W.mroIn K D (.type "object") = some true)))))))
theorem excB_ok {K : PySem.W.Frag} {D : Addr} (h : excB K D = true) : ExcC K D := by
  obtain ⟨h1, h⟩ := Bool.and_eq_true_iff.mp h
  obtain ⟨h2, h⟩ := Bool.and_eq_true_iff.mp h
  obtain ⟨h3, h⟩ := Bool.and_eq_true_iff.mp h
  obtain ⟨h4, h⟩ := Bool.and_eq_true_iff.mp h
  obtain ⟨h5, h⟩ := Bool.and_eq_true_iff.mp h
  obtain ⟨h6, h⟩ := Bool.and_eq_true_iff.mp h
  obtain ⟨h7, h8⟩ := Bool.and_eq_true_iff.mp h
  exact ⟨He.eqO_ok h1, He.eqO_ok h2, of_decide_eq_true h3, h4, He.eqO_ok h5, He.eqO_ok h6, of_decide_eq_true h7, of_decide_eq_true h8⟩
def kitB5 (K : PySem.W.Frag) (x y : Str) (b : Bool) : Bool := decide (PySem.W.kitOne K (.ref (He.ga K x)) (.ref (He.ga K y)) = some b)
def kitAll (K : PySem.W.Frag) : Bool := errN.all fun x => excB K (He.ga K x) && (decide (PySem.W.kitOne K (.ref (He.ga K x)) (.type "ValueError") = some true) && errN.all fun y => kitB5 K x y (decide (x = y)))
def oexB (K : PySem.W.Frag) (C : Addr) : Bool := match K.lookup C with
  | some ⟨.type "type", _, .cls cd, sl⟩ => (match cd.mro, sl.toList with
    | .ref C' :: bm, [_, _, _, _, some (.builtin n), _] => C' == C && (n == "ValueError.__new__" && (!cd.hasDel && (cd.hasDict && PySem.HandSPX.refsVE bm)))
    | _, _ => false)
  | _ => false
theorem oexB_ok {K : PySem.W.Frag} {C : Addr} (h : oexB K C = true) : ∃ nm q N bs bm sn sub ab col dd k0 k1 k2 k3 k5, K.lookup C = some (excClassObj nm q C N bs bm true sn sub ab col dd k0 k1 k2 k3 k5 "ValueError.__new__") ∧ PySem.HandSPX.refsVE bm = true := by
  unfold oexB at h
  split at h
  · rename_i dd cd sl ho
    split at h
    · rename_i C' bm k0 k1 k2 k3 n k5 hm hs
      simp only [Bool.and_eq_true, beq_iff_eq, Bool.not_eq_true'] at h
      obtain ⟨rfl, rfl, hdel, hdi, hr⟩ := h
      obtain ⟨nm, bs, mro, ns, qn, hd, sn, sub, ab, col, del⟩ := cd
      dsimp only at hm hdel hdi
      subst hm hdel hdi
      have hsl : sl = #[k0, k1, k2, k3, some (.builtin "ValueError.__new__"), k5] := by
        obtain ⟨l⟩ := sl
        simp only at hs
        rw [hs]
      subst hsl
      exact ⟨nm, qn, ns, bs, bm, sn, sub, ab, col, dd, k0, k1, k2, k3, k5, ho, hr⟩
    · cases h
  · cases h
def nwB (K : PySem.W.Frag) (C W : Addr) : Bool := oexB K C && (He.eqO (PySem.W.findIn K (.ref C) "__setattr__") (some (some (.builtin "object.__setattr__"))) && (decide (PySem.W.typeIn K (.ref C) = some (.type "type")) && (PySem.W.keepIn K (.ref C) &&
  (He.eqO (PySem.W.findIn K (.ref C) "place") (some none) && (He.eqO (PySem.W.specialIn K (.ref W) "__getattribute__") (some (some (.builtin "type.__getattribute__"))) && (PySem.W.readsIn K W (.type "type") &&
  (match PySem.W.findCls K (.ref W) (.type "type") "__init__" with
    | some (.val (.builtin n)) => n == "ValueError.__init__"
    | _ => false)))))))
structure NwC (K : PySem.W.Frag) (C W : Addr) : Prop where
  cls : ∃ nm q N bs bm sn sub ab col dd k0 k1 k2 k3 k5, K.lookup C = some (excClassObj nm q C N bs bm true sn sub ab col dd k0 k1 k2 k3 k5 "ValueError.__new__") ∧ PySem.HandSPX.refsVE bm = true
  sa : PySem.W.findIn K (.ref C) "__setattr__" = some (some (.builtin "object.__setattr__"))
  ty : PySem.W.typeIn K (.ref C) = some (.type "type")
  kp : PySem.W.keepIn K (.ref C) = true
  np : PySem.W.findIn K (.ref C) "place" = some none
  wg : PySem.W.specialIn K (.ref W) "__getattribute__" = some (some (.builtin "type.__getattribute__"))
  wr : PySem.W.readsIn K W (.type "type") = true
  wi : PySem.W.findCls K (.ref W) (.type "type") "__init__" = some (.val (.builtin "ValueError.__init__"))
theorem nwB_ok {K : PySem.W.Frag} {C W : Addr} (h : nwB K C W = true) : NwC K C W := by
  obtain ⟨h1, h⟩ := Bool.and_eq_true_iff.mp h
  obtain ⟨h2, h⟩ := Bool.and_eq_true_iff.mp h
  obtain ⟨h3, h⟩ := Bool.and_eq_true_iff.mp h
  obtain ⟨h4, h⟩ := Bool.and_eq_true_iff.mp h
  obtain ⟨h5, h⟩ := Bool.and_eq_true_iff.mp h
  obtain ⟨h6, h⟩ := Bool.and_eq_true_iff.mp h
  obtain ⟨h7, h8⟩ := Bool.and_eq_true_iff.mp h
  refine ⟨oexB_ok h1, He.eqO_ok h2, of_decide_eq_true h3, h4, He.eqO_ok h5, He.eqO_ok h6, h7, ?_⟩
  split at h8
  · rename_i n e
    rw [e, beq_iff_eq.mp h8]
  · cases h8
def ex (K : PySem.W.Frag) : Bool := kitAll K && nwB K (He.ga K "NoWood") (He.ga K "WoodError")
theorem err_mem (e : ErrK) : e.name ∈ errN := by cases e <;> simp [ErrK.name, errN]
structure Txt (K : PySem.W.Frag) (mg : Str → Option Value) : Prop where
  g_sums_of : mg "sums_of" = some (.ref (He.ga K "sums_of"))
  g_tops_in : mg "tops_in" = some (.ref (He.ga K "tops_in"))
  g_cut_evenly : mg "cut_evenly" = some (.ref (He.ga K "cut_evenly"))
  g_put_for : mg "put_for" = some (.ref (He.ga K "put_for"))
  g_ones_in : mg "ones_in" = some (.ref (He.ga K "ones_in"))
  g_is_amid : mg "is_amid" = some (.ref (He.ga K "is_amid"))
  g_words_of : mg "words_of" = some (.ref (He.ga K "words_of"))
  g_ask_row : mg "ask_row" = some (.ref (He.ga K "ask_row"))
  g_table_of : mg "table_of" = some (.ref (He.ga K "table_of"))
  g_look_at : mg "look_at" = some (.ref (He.ga K "look_at"))
  g_row_of : mg "row_of" = some (.ref (He.ga K "row_of"))
  g_elders_of : mg "elders_of" = some (.ref (He.ga K "elders_of"))
  g_is_number : mg "is_number" = some (.ref (He.ga K "is_number"))
  g__law_cell_at : mg "_law_cell_at" = some (.ref (He.ga K "_law_cell_at"))
  g__law_whole : mg "_law_whole" = some (.ref (He.ga K "_law_whole"))
  g__law_mixed : mg "_law_mixed" = some (.ref (He.ga K "_law_mixed"))
  g__law_digits : mg "_law_digits" = some (.ref (He.ga K "_law_digits"))
  g__law_wood : mg "_law_wood" = some (.ref (He.ga K "_law_wood"))
  g__law_kind : mg "_law_kind" = some (.ref (He.ga K "_law_kind"))
  g__law_done : mg "_law_done" = some (.ref (He.ga K "_law_done"))
  g__law_no_wood : mg "_law_no_wood" = some (.ref (He.ga K "_law_no_wood"))
  g__law_fault : mg "_law_fault" = some (.ref (He.ga K "_law_fault"))
  g__law_due : mg "_law_due" = some (.ref (He.ga K "_law_due"))
  g__law_chain : mg "_law_chain" = some (.ref (He.ga K "_law_chain"))
  g__law_of_none : mg "_law_of_none" = some (.ref (He.ga K "_law_of_none"))
  g__law_beyond : mg "_law_beyond" = some (.ref (He.ga K "_law_beyond"))
  g_law : mg "law" = some (.ref (He.ga K "law"))
  g_Bits : mg "Bits" = some (.ref (He.ga K "Bits"))
  g_Counts : mg "Counts" = some (.ref (He.ga K "Counts"))
  g_Pairs : mg "Pairs" = some (.ref (He.ga K "Pairs"))
  g_Shaped : mg "Shaped" = some (.ref (He.ga K "Shaped"))
  g_NoKnot : mg "NoKnot" = some (.ref (He.ga K "NoKnot"))
  g_NoGraft : mg "NoGraft" = some (.ref (He.ga K "NoGraft"))
  g_NoWood : mg "NoWood" = some (.ref (He.ga K "NoWood"))
  g_TooLarge : mg "TooLarge" = some (.ref (He.ga K "TooLarge"))
  g_NoDeed : mg "NoDeed" = some (.ref (He.ga K "NoDeed"))
  g_WoodError : mg "WoodError" = some (.ref (He.ga K "WoodError"))
  f_isinstance : mg "isinstance" = none
  f_int : mg "int" = none
  f_bool : mg "bool" = none
  f_str : mg "str" = none
  f_list : mg "list" = none
  f_len : mg "len" = none
  f_range : mg "range" = none
  f_enumerate : mg "enumerate" = none
  f_tuple : mg "tuple" = none
  f_all : mg "all" = none
  f_sum : mg "sum" = none
  f_min : mg "min" = none
  f_max : mg "max" = none
  f_abs : mg "abs" = none
  f_ValueError : mg "ValueError" = none
  i_MOST_pieces : ∃ u, mg "MOST_pieces" = some u ∧ RelV (.int 128) u
  i_WORD : ∃ u, mg "WORD" = some u ∧ RelV (.int 32) u
  i_MOST_bits : ∃ u, mg "MOST_bits" = some u ∧ RelV (.int 20000) u
  i_BLOCK : ∃ u, mg "BLOCK" = some u ∧ RelV (.int 8) u
  i_STRETCH : ∃ u, mg "STRETCH" = some u ∧ RelV (.int 256) u
  i_MOST_pairs : ∃ u, mg "MOST_pairs" = some u ∧ RelV (.int 8192) u
  i_MOST_woods : ∃ u, mg "MOST_woods" = some u ∧ RelV (.int 4000) u
  i_MOST_KNOTS : ∃ u, mg "MOST_KNOTS" = some u ∧ RelV (.int 4000) u
  c_Bits : Cls K (He.ga K "Bits")
  c_Counts : Cls K (He.ga K "Counts")
  c_Pairs : Cls K (He.ga K "Pairs")
  c_Shaped : Cls K (He.ga K "Shaped")
  n_Shaped_parts : NoAttr K (He.ga K "Shaped") "parts"
  n_Shaped_totals : NoAttr K (He.ga K "Shaped") "totals"
  n_Shaped_past : NoAttr K (He.ga K "Shaped") "past"
  n_Bits_kept : NoAttr K (He.ga K "Bits") "kept"
  n_Bits_length : NoAttr K (He.ga K "Bits") "length"
  n_Counts_kept : NoAttr K (He.ga K "Counts") "kept"
  n_Counts_all_many : NoAttr K (He.ga K "Counts") "all_many"
  n_Counts_heads : NoAttr K (He.ga K "Counts") "heads"
  n_Pairs_bits : NoAttr K (He.ga K "Pairs") "bits"
  n_Pairs_kept : NoAttr K (He.ga K "Pairs") "kept"
  n_Pairs_counts : NoAttr K (He.ga K "Pairs") "counts"
  n_Pairs_laid : NoAttr K (He.ga K "Pairs") "laid"
  m_Bits_size : Meth K (He.ga K "Bits") "size" (He.ma K (He.ga K "Bits") "size")
  m_Bits_words : Meth K (He.ga K "Bits") "words" (He.ma K (He.ga K "Bits") "words")
  m_Bits_need : Meth K (He.ga K "Bits") "need" (He.ma K (He.ga K "Bits") "need")
  m_Bits_at : Meth K (He.ga K "Bits") "at" (He.ma K (He.ga K "Bits") "at")
  m_Bits_stretch : Meth K (He.ga K "Bits") "stretch" (He.ma K (He.ga K "Bits") "stretch")
  m_Bits_text : Meth K (He.ga K "Bits") "text" (He.ma K (He.ga K "Bits") "text")
  m_Pairs_text : Meth K (He.ga K "Pairs") "text" (He.ma K (He.ga K "Pairs") "text")
  m_Shaped_pieces : Meth K (He.ga K "Shaped") "pieces" (He.ma K (He.ga K "Shaped") "pieces")
  m_Shaped_row : Meth K (He.ga K "Shaped") "row" (He.ma K (He.ga K "Shaped") "row")
  m_Shaped_elders : Meth K (He.ga K "Shaped") "elders" (He.ma K (He.ga K "Shaped") "elders")
  m_Shaped_many_knots : Meth K (He.ga K "Shaped") "many_knots" (He.ma K (He.ga K "Shaped") "many_knots")
  m_Shaped_look_at_knot : Meth K (He.ga K "Shaped") "look_at_knot" (He.ma K (He.ga K "Shaped") "look_at_knot")
  m_Shaped_spot_of : Meth K (He.ga K "Shaped") "spot_of" (He.ma K (He.ga K "Shaped") "spot_of")
  m_Shaped_closing_from : Meth K (He.ga K "Shaped") "closing_from" (He.ma K (He.ga K "Shaped") "closing_from")
  m_Shaped_row_place : Meth K (He.ga K "Shaped") "row_place" (He.ma K (He.ga K "Shaped") "row_place")
  m_Shaped_ends_of : Meth K (He.ga K "Shaped") "ends_of" (He.ma K (He.ga K "Shaped") "ends_of")
  m_Shaped_children : Meth K (He.ga K "Shaped") "children" (He.ma K (He.ga K "Shaped") "children")
  m_Shaped_nth : Meth K (He.ga K "Shaped") "nth" (He.ma K (He.ga K "Shaped") "nth")
  m_Shaped_shape : Meth K (He.ga K "Shaped") "shape" (He.ma K (He.ga K "Shaped") "shape")
  m_Shaped_cut : Meth K (He.ga K "Shaped") "cut" (He.ma K (He.ga K "Shaped") "cut")
  m_Shaped_graft : Meth K (He.ga K "Shaped") "graft" (He.ma K (He.ga K "Shaped") "graft")
  m_Shaped_take_back : Meth K (He.ga K "Shaped") "take_back" (He.ma K (He.ga K "Shaped") "take_back")
  k_Bits : Mk K (He.ga K "Bits") (He.ma K (He.ga K "Bits") "__init__")
  k_Counts : Mk K (He.ga K "Counts") (He.ma K (He.ga K "Counts") "__init__")
  k_Pairs : Mk K (He.ga K "Pairs") (He.ma K (He.ga K "Pairs") "__init__")
  k_Shaped : Mk K (He.ga K "Shaped") (He.ma K (He.ga K "Shaped") "__init__")
  e_NoKnot : PySem.W.excIn K (He.ga K "NoKnot") He.veBase "ValueError.__new__" = true ∧ PySem.W.keepIn K (.ref (He.ga K "NoKnot")) = true ∧ PySem.W.subIn K (.ref (He.ga K "NoKnot")) (.type "BaseException") = some true ∧ PySem.W.typeIn K (.ref (He.ga K "NoKnot")) = some (.type "type")
  e_NoGraft : PySem.W.excIn K (He.ga K "NoGraft") He.veBase "ValueError.__new__" = true ∧ PySem.W.keepIn K (.ref (He.ga K "NoGraft")) = true ∧ PySem.W.subIn K (.ref (He.ga K "NoGraft")) (.type "BaseException") = some true ∧ PySem.W.typeIn K (.ref (He.ga K "NoGraft")) = some (.type "type")
  e_TooLarge : PySem.W.excIn K (He.ga K "TooLarge") He.veBase "ValueError.__new__" = true ∧ PySem.W.keepIn K (.ref (He.ga K "TooLarge")) = true ∧ PySem.W.subIn K (.ref (He.ga K "TooLarge")) (.type "BaseException") = some true ∧ PySem.W.typeIn K (.ref (He.ga K "TooLarge")) = some (.type "type")
  e_NoDeed : PySem.W.excIn K (He.ga K "NoDeed") He.veBase "ValueError.__new__" = true ∧ PySem.W.keepIn K (.ref (He.ga K "NoDeed")) = true ∧ PySem.W.subIn K (.ref (He.ga K "NoDeed")) (.type "BaseException") = some true ∧ PySem.W.typeIn K (.ref (He.ga K "NoDeed")) = some (.type "type")
  x_NoKnot : PySem.W.exmOne K (.ref (He.ga K "NoKnot")) (.ref (He.ga K "WoodError")) = some true
  x_NoGraft : PySem.W.exmOne K (.ref (He.ga K "NoGraft")) (.ref (He.ga K "WoodError")) = some true
  x_NoWood : PySem.W.exmOne K (.ref (He.ga K "NoWood")) (.ref (He.ga K "WoodError")) = some true
  x_TooLarge : PySem.W.exmOne K (.ref (He.ga K "TooLarge")) (.ref (He.ga K "WoodError")) = some true
  x_NoDeed : PySem.W.exmOne K (.ref (He.ga K "NoDeed")) (.ref (He.ga K "WoodError")) = some true
  m_NoWood___init__ : Meth K (He.ga K "NoWood") "__init__" (He.ma K (He.ga K "NoWood") "__init__")
  exc : ∀ e : ErrK, ExcC K (He.ga K e.name)
  kit : ∀ e d : ErrK, PySem.W.kitOne K (.ref (He.ga K e.name)) (.ref (He.ga K d.name)) = some (decide (e.name = d.name))
  kve : ∀ e : ErrK, PySem.W.kitOne K (.ref (He.ga K e.name)) (.type "ValueError") = some true
  nw : NwC K (He.ga K "NoWood") (He.ga K "WoodError")
def fa : List He.Fa := [
  .glo "sums_of",
  .glo "tops_in",
  .glo "cut_evenly",
  .glo "put_for",
  .glo "ones_in",
  .glo "is_amid",
  .glo "words_of",
  .glo "ask_row",
  .glo "table_of",
  .glo "look_at",
  .glo "row_of",
  .glo "elders_of",
  .glo "is_number",
  .glo "_law_cell_at",
  .glo "_law_whole",
  .glo "_law_mixed",
  .glo "_law_digits",
  .glo "_law_wood",
  .glo "_law_kind",
  .glo "_law_done",
  .glo "_law_no_wood",
  .glo "_law_fault",
  .glo "_law_due",
  .glo "_law_chain",
  .glo "_law_of_none",
  .glo "_law_beyond",
  .glo "law",
  .glo "Bits",
  .glo "Counts",
  .glo "Pairs",
  .glo "Shaped",
  .glo "NoKnot",
  .glo "NoGraft",
  .glo "NoWood",
  .glo "TooLarge",
  .glo "NoDeed",
  .glo "WoodError",
  .free "isinstance",
  .free "int",
  .free "bool",
  .free "str",
  .free "list",
  .free "len",
  .free "range",
  .free "enumerate",
  .free "tuple",
  .free "all",
  .free "sum",
  .free "min",
  .free "max",
  .free "abs",
  .free "ValueError",
  .int "MOST_pieces" 128,
  .int "WORD" 32,
  .int "MOST_bits" 20000,
  .int "BLOCK" 8,
  .int "STRETCH" 256,
  .int "MOST_pairs" 8192,
  .int "MOST_woods" 4000,
  .int "MOST_KNOTS" 4000,
  .cls "Bits",
  .cls "Counts",
  .cls "Pairs",
  .cls "Shaped",
  .noat "Shaped" "parts",
  .noat "Shaped" "totals",
  .noat "Shaped" "past",
  .noat "Bits" "kept",
  .noat "Bits" "length",
  .noat "Counts" "kept",
  .noat "Counts" "all_many",
  .noat "Counts" "heads",
  .noat "Pairs" "bits",
  .noat "Pairs" "kept",
  .noat "Pairs" "counts",
  .noat "Pairs" "laid",
  .meth "Bits" "size",
  .meth "Bits" "words",
  .meth "Bits" "need",
  .meth "Bits" "at",
  .meth "Bits" "stretch",
  .meth "Bits" "text",
  .meth "Pairs" "text",
  .meth "Shaped" "pieces",
  .meth "Shaped" "row",
  .meth "Shaped" "elders",
  .meth "Shaped" "many_knots",
  .meth "Shaped" "look_at_knot",
  .meth "Shaped" "spot_of",
  .meth "Shaped" "closing_from",
  .meth "Shaped" "row_place",
  .meth "Shaped" "ends_of",
  .meth "Shaped" "children",
  .meth "Shaped" "nth",
  .meth "Shaped" "shape",
  .meth "Shaped" "cut",
  .meth "Shaped" "graft",
  .meth "Shaped" "take_back",
  .mkr "Bits",
  .mkr "Counts",
  .mkr "Pairs",
  .mkr "Shaped",
  .exc "NoKnot",
  .exc "NoGraft",
  .exc "TooLarge",
  .exc "NoDeed",
  .exm "NoKnot" "WoodError" true,
  .exm "NoGraft" "WoodError" true,
  .exm "NoWood" "WoodError" true,
  .exm "TooLarge" "WoodError" true,
  .exm "NoDeed" "WoodError" true,
  .meth "NoWood" "__init__"]
theorem txt_of {K : PySem.W.Frag} {h : Heap} {mg : Str → Option Value} {fn : List He.DefD} (X : K.In h) (G : h.Ns mainGlobals mg) (c : He.SaysD fa fn K) (e : ex K = true) : Txt K mg := by
  obtain ⟨e1, e2⟩ := Bool.and_eq_true_iff.mp e
  have k1 : ∀ e : ErrK, excB K (He.ga K e.name) = true ∧ PySem.W.kitOne K (.ref (He.ga K e.name)) (.type "ValueError") = some true ∧ ∀ d : ErrK, PySem.W.kitOne K (.ref (He.ga K e.name)) (.ref (He.ga K d.name)) = some (decide (e.name = d.name)) := fun e => by
    obtain ⟨a, b⟩ := Bool.and_eq_true_iff.mp (List.all_eq_true.mp e1 e.name (err_mem e))
    obtain ⟨b1, b2⟩ := Bool.and_eq_true_iff.mp b
    exact ⟨a, of_decide_eq_true b1, fun d => of_decide_eq_true (List.all_eq_true.mp b2 d.name (err_mem d))⟩
  exact {
    g_sums_of := He.glo_ok X G (c.fact 0)
    g_tops_in := He.glo_ok X G (c.fact 1)
    g_cut_evenly := He.glo_ok X G (c.fact 2)
    g_put_for := He.glo_ok X G (c.fact 3)
    g_ones_in := He.glo_ok X G (c.fact 4)
    g_is_amid := He.glo_ok X G (c.fact 5)
    g_words_of := He.glo_ok X G (c.fact 6)
    g_ask_row := He.glo_ok X G (c.fact 7)
    g_table_of := He.glo_ok X G (c.fact 8)
    g_look_at := He.glo_ok X G (c.fact 9)
    g_row_of := He.glo_ok X G (c.fact 10)
    g_elders_of := He.glo_ok X G (c.fact 11)
    g_is_number := He.glo_ok X G (c.fact 12)
    g__law_cell_at := He.glo_ok X G (c.fact 13)
    g__law_whole := He.glo_ok X G (c.fact 14)
    g__law_mixed := He.glo_ok X G (c.fact 15)
    g__law_digits := He.glo_ok X G (c.fact 16)
    g__law_wood := He.glo_ok X G (c.fact 17)
    g__law_kind := He.glo_ok X G (c.fact 18)
    g__law_done := He.glo_ok X G (c.fact 19)
    g__law_no_wood := He.glo_ok X G (c.fact 20)
    g__law_fault := He.glo_ok X G (c.fact 21)
    g__law_due := He.glo_ok X G (c.fact 22)
    g__law_chain := He.glo_ok X G (c.fact 23)
    g__law_of_none := He.glo_ok X G (c.fact 24)
    g__law_beyond := He.glo_ok X G (c.fact 25)
    g_law := He.glo_ok X G (c.fact 26)
    g_Bits := He.glo_ok X G (c.fact 27)
    g_Counts := He.glo_ok X G (c.fact 28)
    g_Pairs := He.glo_ok X G (c.fact 29)
    g_Shaped := He.glo_ok X G (c.fact 30)
    g_NoKnot := He.glo_ok X G (c.fact 31)
    g_NoGraft := He.glo_ok X G (c.fact 32)
    g_NoWood := He.glo_ok X G (c.fact 33)
    g_TooLarge := He.glo_ok X G (c.fact 34)
    g_NoDeed := He.glo_ok X G (c.fact 35)
    g_WoodError := He.glo_ok X G (c.fact 36)
    f_isinstance := He.free_ok X G (c.fact 37)
    f_int := He.free_ok X G (c.fact 38)
    f_bool := He.free_ok X G (c.fact 39)
    f_str := He.free_ok X G (c.fact 40)
    f_list := He.free_ok X G (c.fact 41)
    f_len := He.free_ok X G (c.fact 42)
    f_range := He.free_ok X G (c.fact 43)
    f_enumerate := He.free_ok X G (c.fact 44)
    f_tuple := He.free_ok X G (c.fact 45)
    f_all := He.free_ok X G (c.fact 46)
    f_sum := He.free_ok X G (c.fact 47)
    f_min := He.free_ok X G (c.fact 48)
    f_max := He.free_ok X G (c.fact 49)
    f_abs := He.free_ok X G (c.fact 50)
    f_ValueError := He.free_ok X G (c.fact 51)
    i_MOST_pieces := (let ⟨t, h⟩ := He.int_ok X G (c.fact 52); ⟨_, h, t, rfl⟩)
    i_WORD := (let ⟨t, h⟩ := He.int_ok X G (c.fact 53); ⟨_, h, t, rfl⟩)
    i_MOST_bits := (let ⟨t, h⟩ := He.int_ok X G (c.fact 54); ⟨_, h, t, rfl⟩)
    i_BLOCK := (let ⟨t, h⟩ := He.int_ok X G (c.fact 55); ⟨_, h, t, rfl⟩)
    i_STRETCH := (let ⟨t, h⟩ := He.int_ok X G (c.fact 56); ⟨_, h, t, rfl⟩)
    i_MOST_pairs := (let ⟨t, h⟩ := He.int_ok X G (c.fact 57); ⟨_, h, t, rfl⟩)
    i_MOST_woods := (let ⟨t, h⟩ := He.int_ok X G (c.fact 58); ⟨_, h, t, rfl⟩)
    i_MOST_KNOTS := (let ⟨t, h⟩ := He.int_ok X G (c.fact 59); ⟨_, h, t, rfl⟩)
    c_Bits := He.cls_ok (c.fact 60)
    c_Counts := He.cls_ok (c.fact 61)
    c_Pairs := He.cls_ok (c.fact 62)
    c_Shaped := He.cls_ok (c.fact 63)
    n_Shaped_parts := He.noat_ok (c.fact 64)
    n_Shaped_totals := He.noat_ok (c.fact 65)
    n_Shaped_past := He.noat_ok (c.fact 66)
    n_Bits_kept := He.noat_ok (c.fact 67)
    n_Bits_length := He.noat_ok (c.fact 68)
    n_Counts_kept := He.noat_ok (c.fact 69)
    n_Counts_all_many := He.noat_ok (c.fact 70)
    n_Counts_heads := He.noat_ok (c.fact 71)
    n_Pairs_bits := He.noat_ok (c.fact 72)
    n_Pairs_kept := He.noat_ok (c.fact 73)
    n_Pairs_counts := He.noat_ok (c.fact 74)
    n_Pairs_laid := He.noat_ok (c.fact 75)
    m_Bits_size := He.meth_ok (c.fact 76)
    m_Bits_words := He.meth_ok (c.fact 77)
    m_Bits_need := He.meth_ok (c.fact 78)
    m_Bits_at := He.meth_ok (c.fact 79)
    m_Bits_stretch := He.meth_ok (c.fact 80)
    m_Bits_text := He.meth_ok (c.fact 81)
    m_Pairs_text := He.meth_ok (c.fact 82)
    m_Shaped_pieces := He.meth_ok (c.fact 83)
    m_Shaped_row := He.meth_ok (c.fact 84)
    m_Shaped_elders := He.meth_ok (c.fact 85)
    m_Shaped_many_knots := He.meth_ok (c.fact 86)
    m_Shaped_look_at_knot := He.meth_ok (c.fact 87)
    m_Shaped_spot_of := He.meth_ok (c.fact 88)
    m_Shaped_closing_from := He.meth_ok (c.fact 89)
    m_Shaped_row_place := He.meth_ok (c.fact 90)
    m_Shaped_ends_of := He.meth_ok (c.fact 91)
    m_Shaped_children := He.meth_ok (c.fact 92)
    m_Shaped_nth := He.meth_ok (c.fact 93)
    m_Shaped_shape := He.meth_ok (c.fact 94)
    m_Shaped_cut := He.meth_ok (c.fact 95)
    m_Shaped_graft := He.meth_ok (c.fact 96)
    m_Shaped_take_back := He.meth_ok (c.fact 97)
    k_Bits := He.mkr_ok (c.fact 98)
    k_Counts := He.mkr_ok (c.fact 99)
    k_Pairs := He.mkr_ok (c.fact 100)
    k_Shaped := He.mkr_ok (c.fact 101)
    e_NoKnot := He.exc_ok (c.fact 102)
    e_NoGraft := He.exc_ok (c.fact 103)
    e_TooLarge := He.exc_ok (c.fact 104)
    e_NoDeed := He.exc_ok (c.fact 105)
    x_NoKnot := He.exm_ok (c.fact 106)
    x_NoGraft := He.exm_ok (c.fact 107)
    x_NoWood := He.exm_ok (c.fact 108)
    x_TooLarge := He.exm_ok (c.fact 109)
    x_NoDeed := He.exm_ok (c.fact 110)
    m_NoWood___init__ := He.meth_ok (c.fact 111)
    exc := fun e => excB_ok (k1 e).1
    kit := fun e d => (k1 e).2.2 d
    kve := fun e => (k1 e).2.1
    nw := nwB_ok e2 }
end Tw
namespace Tw
open PySem PySem.Spec PyProof.Rows L2
def fn : List He.DefD := [
  ⟨("sums_of", none), "sums_of", "sums_of", defArgs s_sums_of, defBody s_sums_of, defScope s_sums_of, [], []⟩,
  ⟨("tops_in", none), "tops_in", "tops_in", defArgs s_tops_in, defBody s_tops_in, defScope s_tops_in, [], []⟩,
  ⟨("cut_evenly", none), "cut_evenly", "cut_evenly", defArgs s_cut_evenly, defBody s_cut_evenly, defScope s_cut_evenly, [], []⟩,
  ⟨("put_for", none), "put_for", "put_for", defArgs s_put_for, defBody s_put_for, defScope s_put_for, [], []⟩,
  ⟨("ones_in", none), "ones_in", "ones_in", defArgs s_ones_in, defBody s_ones_in, defScope s_ones_in, [], []⟩,
  ⟨("is_amid", none), "is_amid", "is_amid", defArgs s_is_amid, defBody s_is_amid, defScope s_is_amid, [], []⟩,
  ⟨("words_of", none), "words_of", "words_of", defArgs s_words_of, defBody s_words_of, defScope s_words_of, [], []⟩,
  ⟨("ask_row", none), "ask_row", "ask_row", defArgs s_ask_row, defBody s_ask_row, defScope s_ask_row, [], []⟩,
  ⟨("table_of", none), "table_of", "table_of", defArgs s_table_of, defBody s_table_of, defScope s_table_of, [], []⟩,
  ⟨("look_at", none), "look_at", "look_at", defArgs s_look_at, defBody s_look_at, defScope s_look_at, [], []⟩,
  ⟨("row_of", none), "row_of", "row_of", defArgs s_row_of, defBody s_row_of, defScope s_row_of, [], []⟩,
  ⟨("elders_of", none), "elders_of", "elders_of", defArgs s_elders_of, defBody s_elders_of, defScope s_elders_of, [], []⟩,
  ⟨("is_number", none), "is_number", "is_number", defArgs s_is_number, defBody s_is_number, defScope s_is_number, [], []⟩,
  ⟨("_law_cell_at", none), "_law_cell_at", "_law_cell_at", defArgs s_law_cell_at, defBody s_law_cell_at, defScope s_law_cell_at, [], []⟩,
  ⟨("_law_whole", none), "_law_whole", "_law_whole", defArgs s_law_whole, defBody s_law_whole, defScope s_law_whole, [], []⟩,
  ⟨("_law_mixed", none), "_law_mixed", "_law_mixed", defArgs s_law_mixed, defBody s_law_mixed, defScope s_law_mixed, [], []⟩,
  ⟨("_law_digits", none), "_law_digits", "_law_digits", defArgs s_law_digits, defBody s_law_digits, defScope s_law_digits, [], []⟩,
  ⟨("_law_wood", none), "_law_wood", "_law_wood", defArgs s_law_wood, defBody s_law_wood, defScope s_law_wood, [], []⟩,
  ⟨("_law_kind", none), "_law_kind", "_law_kind", defArgs s_law_kind, defBody s_law_kind, defScope s_law_kind, [], []⟩,
  ⟨("_law_done", none), "_law_done", "_law_done", defArgs s_law_done, defBody s_law_done, defScope s_law_done, [], []⟩,
  ⟨("_law_no_wood", none), "_law_no_wood", "_law_no_wood", defArgs s_law_no_wood, defBody s_law_no_wood, defScope s_law_no_wood, [], []⟩,
  ⟨("_law_fault", none), "_law_fault", "_law_fault", defArgs s_law_fault, defBody s_law_fault, defScope s_law_fault, [], []⟩,
  ⟨("_law_due", none), "_law_due", "_law_due", defArgs s_law_due, defBody s_law_due, defScope s_law_due, [], []⟩,
  ⟨("_law_chain", none), "_law_chain", "_law_chain", defArgs s_law_chain, defBody s_law_chain, defScope s_law_chain, [], []⟩,
  ⟨("_law_of_none", none), "_law_of_none", "_law_of_none", defArgs s_law_of_none, defBody s_law_of_none, defScope s_law_of_none, [], []⟩,
  ⟨("_law_beyond", none), "_law_beyond", "_law_beyond", defArgs s_law_beyond, defBody s_law_beyond, defScope s_law_beyond, [], []⟩,
  ⟨("law", none), "law", "law", defArgs s_law, defBody s_law, defScope s_law, [], []⟩,
  ⟨("Bits", some "__init__"), "__init__", "Bits.__init__", defArgs s_Bits_init, defBody s_Bits_init, defScope s_Bits_init, [], []⟩,
  ⟨("Bits", some "size"), "size", "Bits.size", defArgs s_Bits_size, defBody s_Bits_size, defScope s_Bits_size, [], []⟩,
  ⟨("Bits", some "words"), "words", "Bits.words", defArgs s_Bits_words, defBody s_Bits_words, defScope s_Bits_words, [], []⟩,
  ⟨("Bits", some "need"), "need", "Bits.need", defArgs s_Bits_need, defBody s_Bits_need, defScope s_Bits_need, [], []⟩,
  ⟨("Bits", some "at"), "at", "Bits.at", defArgs s_Bits_at, defBody s_Bits_at, defScope s_Bits_at, [], []⟩,
  ⟨("Bits", some "stretch"), "stretch", "Bits.stretch", defArgs s_Bits_stretch, defBody s_Bits_stretch, defScope s_Bits_stretch, [], []⟩,
  ⟨("Bits", some "text"), "text", "Bits.text", defArgs s_Bits_text, defBody s_Bits_text, defScope s_Bits_text, [], []⟩,
  ⟨("Counts", some "__init__"), "__init__", "Counts.__init__", defArgs s_Counts_init, defBody s_Counts_init, defScope s_Counts_init, [], []⟩,
  ⟨("Pairs", some "__init__"), "__init__", "Pairs.__init__", defArgs s_Pairs_init, defBody s_Pairs_init, defScope s_Pairs_init, [], []⟩,
  ⟨("Pairs", some "text"), "text", "Pairs.text", defArgs s_Pairs_text, defBody s_Pairs_text, defScope s_Pairs_text, [], []⟩,
  ⟨("Shaped", some "__init__"), "__init__", "Shaped.__init__", defArgs s_Shaped_init, defBody s_Shaped_init, defScope s_Shaped_init, [], []⟩,
  ⟨("Shaped", some "pieces"), "pieces", "Shaped.pieces", defArgs s_Shaped_pieces, defBody s_Shaped_pieces, defScope s_Shaped_pieces, [], []⟩,
  ⟨("Shaped", some "row"), "row", "Shaped.row", defArgs s_Shaped_row, defBody s_Shaped_row, defScope s_Shaped_row, [], []⟩,
  ⟨("Shaped", some "elders"), "elders", "Shaped.elders", defArgs s_Shaped_elders, defBody s_Shaped_elders, defScope s_Shaped_elders, [], []⟩,
  ⟨("Shaped", some "many_knots"), "many_knots", "Shaped.many_knots", defArgs s_Shaped_many_knots, defBody s_Shaped_many_knots, defScope s_Shaped_many_knots, [], []⟩,
  ⟨("Shaped", some "look_at_knot"), "look_at_knot", "Shaped.look_at_knot", defArgs s_Shaped_look_at_knot, defBody s_Shaped_look_at_knot, defScope s_Shaped_look_at_knot, [], []⟩,
  ⟨("Shaped", some "spot_of"), "spot_of", "Shaped.spot_of", defArgs s_Shaped_spot_of, defBody s_Shaped_spot_of, defScope s_Shaped_spot_of, [], []⟩,
  ⟨("Shaped", some "closing_from"), "closing_from", "Shaped.closing_from", defArgs s_Shaped_closing_from, defBody s_Shaped_closing_from, defScope s_Shaped_closing_from, [], []⟩,
  ⟨("Shaped", some "row_place"), "row_place", "Shaped.row_place", defArgs s_Shaped_row_place, defBody s_Shaped_row_place, defScope s_Shaped_row_place, [], []⟩,
  ⟨("Shaped", some "ends_of"), "ends_of", "Shaped.ends_of", defArgs s_Shaped_ends_of, defBody s_Shaped_ends_of, defScope s_Shaped_ends_of, [], []⟩,
  ⟨("Shaped", some "children"), "children", "Shaped.children", defArgs s_Shaped_children, defBody s_Shaped_children, defScope s_Shaped_children, [], []⟩,
  ⟨("Shaped", some "nth"), "nth", "Shaped.nth", defArgs s_Shaped_nth, defBody s_Shaped_nth, defScope s_Shaped_nth, [], []⟩,
  ⟨("Shaped", some "shape"), "shape", "Shaped.shape", defArgs s_Shaped_shape, defBody s_Shaped_shape, defScope s_Shaped_shape, [], []⟩,
  ⟨("Shaped", some "cut"), "cut", "Shaped.cut", defArgs s_Shaped_cut, defBody s_Shaped_cut, defScope s_Shaped_cut, [], []⟩,
  ⟨("Shaped", some "graft"), "graft", "Shaped.graft", defArgs s_Shaped_graft, defBody s_Shaped_graft, defScope s_Shaped_graft, [], []⟩,
  ⟨("Shaped", some "take_back"), "take_back", "Shaped.take_back", defArgs s_Shaped_take_back, defBody s_Shaped_take_back, defScope s_Shaped_take_back, [], []⟩,
  ⟨("NoWood", some "__init__"), "__init__", "NoWood.__init__", defArgs s_NoWood_init, defBody s_NoWood_init, defScope s_NoWood_init, [], []⟩]
def nm1 : List PySem.Str := ["_wall", "WoodError", "NoBits", "NoPlace", "NoRow", "NoWood", "NoKnot", "NoGraft", "TooLarge", "NoDeed", "MOST_pieces", "sums_of", "tops_in", "cut_evenly", "put_for", "WORD", "ones_in", "nth_one", "MOST_bits", "is_amid", "words_of", "Bits", "BLOCK", "FULL", "is_whole", "need_bit", "Counts", "STRETCH", "MOST_pairs", "ask_row", "table_of", "Pairs"]
def nm2 : List PySem.Str := ["MOST_woods", "look_at", "row_of", "elders_of", "Wood", "MOST_KNOTS", "is_number", "Shaped", "_law_cell_at", "_law_whole", "_law_mixed", "_law_digits", "_law_wood", "_law_kind", "_law_done", "_law_no_wood", "_law_fault", "_law_due", "_law_chain", "_law_of_none", "_law_beyond"]
def names : List PySem.Str := nm1 ++ nm2
abbrev R : PySem.W.OpenRow := PySem.W.OpenLaw.row PySem.Challenge.rw_tightwood_k75_refused
def places : List Addr := List.range 967
def look (K : PySem.W.Frag) : He.AlD × Bool := (He.obsD fa fn K, ex K)
def hk : PySem.W.Hook where
  α := He.AlD × Bool
  obs := fun s => look (He.frG s.heap.get? places)
  val := fun _ => (He.valD fn, true)
  says := fun _ h => ∃ K : PySem.W.Frag, K.In h ∧ He.SaysD fa fn K ∧ ex K = true
  of := fun _ _ e => ⟨_, He.frG_in, congrArg (fun z : He.AlD × Bool => z.1) e, congrArg (fun z : He.AlD × Bool => z.2) e⟩
  keeps := fun _ _ _ ⟨K, hK, c⟩ k => ⟨K, PySem.W.Frag.In.keeps hK k, c⟩
def ob (s : PySem.W.SharedT) : He.AlD × Bool := look (He.frG (HandSHeadRun.getT s) places)
theorem ob_eq (s : PySem.W.SharedT) : ob s = hk.obs s.abs := by
  have e : HandSHeadRun.getT s = s.abs.heap.get? := funext (HandSHeadRun.getT_eq s)
  show look (He.frG (HandSHeadRun.getT s) places) = look (He.frG s.abs.heap.get? places)
  rw [e]
theorem run (w : World) : HandSHeadRun.RunEq R (PySem.W.view R.prog [62]) hk ob 40000 names w := by
  intro os
  kernel_rfl
end Tw
namespace Tw
def st (b : Bool) : Int := if b then 1 else -1
def ht : List Bool → Int
  | [] => 0
  | b :: r => st b + ht r
def ones : List Bool → Nat
  | [] => 0
  | b :: r => (if b then 1 else 0) + ones r
theorem ht_app (a b : List Bool) : ht (a ++ b) = ht a + ht b := by
  induction a with
  | nil => simp [ht]
  | cons x r ih => simp only [List.cons_append, ht, ih]; omega
theorem ones_app (a b : List Bool) : ones (a ++ b) = ones a + ones b := by
  induction a with
  | nil => simp [ones]
  | cons x r ih => simp only [List.cons_append, ones, ih]; omega
theorem ones_le (a : List Bool) : ones a ≤ a.length := by
  induction a with
  | nil => simp [ones]
  | cons x r ih => simp only [ones, List.length_cons]; split <;> omega
theorem ht_eq (a : List Bool) : ht a = 2 * (ones a : Int) - a.length := by
  induction a with
  | nil => simp [ht, ones]
  | cons x r ih => cases x <;> simp only [ht, ones, st, ih, List.length_cons] <;> simp <;> omega
def IsLeast (bs : List Bool) (m : Int) : Prop := (bs = [] → m = 0) ∧ (bs ≠ [] → ∃ n, 0 < n ∧ n ≤ bs.length ∧ ht (bs.take n) = m) ∧ ∀ n, 0 < n → n ≤ bs.length → m ≤ ht (bs.take n)
theorem isLeast_nil : IsLeast [] 0 := ⟨fun _ => rfl, fun h => absurd rfl h, fun n h1 h2 => by simp at h2; omega⟩
theorem isLeast_snoc {a : List Bool} {m : Int} {b : Bool} (h : IsLeast a m) : IsLeast (a ++ [b]) (if a.length = 0 ∨ ht (a ++ [b]) < m then ht (a ++ [b]) else m) := by
  obtain ⟨h0, h1, h2⟩ := h
  have hl : (a ++ [b]).length = a.length + 1 := by simp
  have tk : ∀ n, n ≤ a.length → (a ++ [b]).take n = a.take n := fun n hn => by rw [List.take_append_of_le_length hn]
  have tf : (a ++ [b]).take (a.length + 1) = a ++ [b] := by rw [← hl, List.take_length]
  refine ⟨fun e => absurd e (by simp), fun _ => ?_, fun n n0 n1 => ?_⟩
  · by_cases c : a.length = 0 ∨ ht (a ++ [b]) < m
    · rw [if_pos c]
      exact ⟨a.length + 1, by omega, by omega, by rw [tf]⟩
    · rw [if_neg c]
      have hne : a ≠ [] := fun e => c (.inl (by simp [e]))
      obtain ⟨n, p1, p2, p3⟩ := h1 hne
      exact ⟨n, p1, by omega, by rw [tk n p2]; exact p3⟩
  · rw [hl] at n1
    by_cases hn : n ≤ a.length
    · rw [tk n hn]
      have := h2 n n0 hn
      split <;> rename_i c
      · rcases c with c | c <;> omega
      · exact this
    · have e : n = a.length + 1 := by omega
      subst e
      rw [tf]
      split <;> rename_i c
      · exact Int.le_refl _
      · omega
def cl : Int → List Bool → Option Nat
  | _, [] => none
  | d, b :: r => if d + st b = 0 then some 0 else (cl (d + st b) r).map (· + 1)
theorem cl_app (d : Int) (a b : List Bool) : cl d (a ++ b) = (match cl d a with | some n => some n | none => (cl (d + ht a) b).map (· + a.length)) := by
  induction a generalizing d with
  | nil =>
    simp only [List.nil_append, cl, ht, Int.add_zero, List.length_nil, Nat.add_zero]
    cases cl d b <;> rfl
  | cons x r ih =>
    simp only [List.cons_append, cl]
    by_cases h : d + st x = 0
    · simp [h]
    · simp only [if_neg h, ih]
      cases e : cl (d + st x) r with
      | some n => rfl
      | none =>
        simp only [Option.map_none, ht, List.length_cons, Option.map_map]
        rw [show d + st x + ht r = d + (st x + ht r) by omega]
        cases cl (d + (st x + ht r)) b with
        | none => rfl
        | some n => simp [Function.comp]; omega
theorem st_cases (b : Bool) : st b = 1 ∨ st b = -1 := by cases b <;> simp [st]
theorem cl_pos {d : Int} {a : List Bool} (hd : 0 < d) (h : cl d a = none) : 0 < d + ht a := by
  induction a generalizing d with
  | nil => simp only [ht]; omega
  | cons x r ih =>
    simp only [cl] at h
    by_cases c : d + st x = 0
    · rw [if_pos c] at h; cases h
    · rw [if_neg c] at h
      have h' : cl (d + st x) r = none := by
        cases e : cl (d + st x) r with
        | none => rfl
        | some n => rw [e] at h; cases h
      have := ih (by rcases st_cases x with q | q <;> omega) h'
      simp only [ht]; omega
theorem cl_none_iff {d : Int} {a : List Bool} (hd : 0 < d) : cl d a = none ↔ ∀ n, 0 < n → n ≤ a.length → 0 < d + ht (a.take n) := by
  induction a generalizing d with
  | nil => exact ⟨fun _ n h1 h2 => by simp at h2; omega, fun _ => rfl⟩
  | cons x r ih =>
    simp only [cl]
    by_cases c : d + st x = 0
    · rw [if_pos c]
      refine ⟨fun h => (by cases h), fun h => ?_⟩
      have := h 1 (by omega) (by simp)
      simp [ht] at this
      omega
    · rw [if_neg c, Option.map_eq_none_iff, ih (by rcases st_cases x with q | q <;> omega)]
      constructor
      · intro h n n0 n1
        cases n with
        | zero => omega
        | succ k =>
          rw [List.take_succ_cons]
          simp only [ht]
          by_cases k0 : k = 0
          · subst k0; simp [ht]; rcases st_cases x with q | q <;> omega
          · have := h k (by omega) (by simpa using n1)
            omega
      · intro h n n0 n1
        have := h (n + 1) (by omega) (by simp; omega)
        rw [List.take_succ_cons] at this
        simp only [ht] at this
        omega
theorem cl_least {d m : Int} {a : List Bool} (hd : 0 < d) (hm : IsLeast a m) : cl d a = none ↔ 0 < d + m := by
  rw [cl_none_iff hd]
  constructor
  · intro h
    by_cases e : a = []
    · rw [hm.1 e]; omega
    · obtain ⟨n, n0, n1, n2⟩ := hm.2.1 e
      rw [← n2]; exact h n n0 n1
  · intro h n n0 n1
    have := hm.2.2 n n0 n1
    omega
theorem cl_lt {d : Int} {a : List Bool} {n : Nat} (h : cl d a = some n) : n < a.length := by
  induction a generalizing d n with
  | nil => cases h
  | cons x r ih =>
    simp only [cl] at h
    by_cases c : d + st x = 0
    · rw [if_pos c] at h; cases h; simp
    · rw [if_neg c] at h
      obtain ⟨k, e, q⟩ := Option.map_eq_some_iff.mp h
      have := ih e
      simp only [List.length_cons]; omega
theorem cl_some_of {d : Int} {a : List Bool} (hd : 0 < d) (h : d + ht a ≤ 0) : ∃ n, cl d a = some n := by
  cases e : cl d a with
  | some n => exact ⟨n, rfl⟩
  | none => have := cl_pos hd e; omega
theorem cl_spec {d : Int} {a : List Bool} {n : Nat} (h : cl d a = some n) : d + ht (a.take (n + 1)) = 0 := by
  induction a generalizing d n with
  | nil => cases h
  | cons x r ih =>
    simp only [cl] at h
    by_cases c : d + st x = 0
    · rw [if_pos c] at h; cases h; simp [ht]; omega
    · rw [if_neg c] at h
      obtain ⟨k, e, q⟩ := Option.map_eq_some_iff.mp h
      have := ih e
      subst q
      rw [List.take_succ_cons]
      simp only [ht]; omega
theorem cl_first {d : Int} {a : List Bool} {n i : Nat} (h : cl d a = some n) (hi : i < n) : d + ht (a.take (i + 1)) ≠ 0 := by
  induction a generalizing d n i with
  | nil => cases h
  | cons x r ih =>
    simp only [cl] at h
    by_cases c : d + st x = 0
    · rw [if_pos c] at h; cases h; omega
    · rw [if_neg c] at h
      obtain ⟨k, e, q⟩ := Option.map_eq_some_iff.mp h
      subst q
      rw [List.take_succ_cons]
      simp only [ht]
      cases i with
      | zero => simp [ht]; omega
      | succ j =>
        have := ih e (i := j) (by omega)
        omega
theorem cl_none_at {d : Int} {a : List Bool} {i : Nat} (h : cl d a = none) (hi : i < a.length) : d + ht (a.take (i + 1)) ≠ 0 := by
  induction a generalizing d i with
  | nil => simp at hi
  | cons x r ih =>
    simp only [cl] at h
    by_cases c : d + st x = 0
    · rw [if_pos c] at h; cases h
    · rw [if_neg c, Option.map_eq_none_iff] at h
      rw [List.take_succ_cons]
      simp only [ht]
      cases i with
      | zero => simp [ht]; omega
      | succ j =>
        have := ih h (i := j) (by simpa using hi)
        omega
def tops : Int → List Bool → Nat
  | _, [] => 0
  | h, b :: r => (if b = true ∧ h = 0 then 1 else 0) + tops (h + st b) r
def eld : List Int → Nat → List Bool → List Int
  | _, _, [] => []
  | s, c, true :: r => s.headD (-1) :: eld ((c : Int) :: s) (c + 1) r
  | s, c, false :: r => eld s.tail c r
def rowGo : List Int → Nat → List Int → List Bool
  | s, _, [] => List.replicate s.length false
  | s, c, e :: r => List.replicate (s.takeWhile (· != e)).length false ++ true :: rowGo ((c : Int) :: s.dropWhile (· != e)) (c + 1) r
def okGo : List Int → Nat → List Int → Prop
  | _, _, [] => True
  | s, c, e :: r => (s.dropWhile (· != e) ≠ [] ∨ e = -1) ∧ okGo ((c : Int) :: s.dropWhile (· != e)) (c + 1) r
theorem drop_tw (s : List Int) (p : Int → Bool) : s.drop (s.takeWhile p).length = s.dropWhile p := by
  induction s with
  | nil => rfl
  | cons x r ih =>
    by_cases h : p x = true
    · simp [List.takeWhile_cons, List.dropWhile_cons, h, ih]
    · simp [List.takeWhile_cons, List.dropWhile_cons, h]
theorem eld_falses (s : List Int) (c : Nat) (n : Nat) (r : List Bool) : eld s c (List.replicate n false ++ r) = eld (s.drop n) c r := by
  induction n generalizing s with
  | zero => simp
  | succ k ih =>
    rw [List.replicate_succ, List.cons_append]
    simp only [eld]
    rw [ih, List.drop_tail]
theorem dw_head {s : List Int} {e : Int} (h : s.dropWhile (· != e) ≠ []) : (s.dropWhile (· != e)).headD (-1) = e := by
  induction s with
  | nil => exact absurd rfl h
  | cons x r ih =>
    rw [List.dropWhile_cons] at h ⊢
    by_cases c : (x != e) = true
    · rw [if_pos c] at h ⊢; exact ih h
    · rw [if_neg c]; simpa using c
theorem round_trip : ∀ (es : List Int) (s : List Int) (c : Nat), okGo s c es → eld (s ++ [-1]) c (rowGo s c es) = es
  | [], s, c, _ => by
    have := eld_falses (s ++ [-1]) c s.length []
    simp only [List.append_nil] at this
    simp only [rowGo]
    rw [this]; rfl
  | e :: r, s, c, h => by
    obtain ⟨h1, h2⟩ := h
    simp only [rowGo]
    rw [eld_falses]
    have hl : (s.takeWhile (· != e)).length ≤ s.length := by
      have := congrArg List.length (List.takeWhile_append_dropWhile (p := (· != e)) (l := s))
      simp only [List.length_append] at this
      omega
    rw [List.drop_append_of_le_length hl, drop_tw]
    simp only [eld]
    have ih := round_trip r ((c : Int) :: s.dropWhile (· != e)) (c + 1) h2
    rw [List.cons_append] at ih
    rw [ih]
    congr 1
    by_cases q : s.dropWhile (· != e) = []
    · rw [q]
      rcases h1 with h1 | h1
      · exact absurd q h1
      · rw [h1]; rfl
    · have := dw_head q
      cases z : s.dropWhile (· != e) with
      | nil => exact absurd z q
      | cons y t => rw [z] at this; simpa using this
theorem ht_falses (n : Nat) : ht (List.replicate n false) = -(n : Int) := by
  induction n with
  | zero => rfl
  | succ k ih => rw [List.replicate_succ]; simp only [ht, st, ih]; simp; omega
theorem ones_falses (n : Nat) : ones (List.replicate n false) = 0 := by
  induction n with
  | zero => rfl
  | succ k ih => rw [List.replicate_succ]; simp [ones, ih]
theorem row_ones : ∀ (es s : List Int) (c : Nat), ones (rowGo s c es) = es.length
  | [], s, c => by simp only [rowGo, ones_falses]; rfl
  | e :: r, s, c => by
    simp only [rowGo, ones_app, ones_falses, ones, row_ones r, List.length_cons]; simp; omega
theorem row_length : ∀ (es s : List Int) (c : Nat), (rowGo s c es).length = s.length + 2 * es.length
  | [], s, c => by simp [rowGo]
  | e :: r, s, c => by
    have := congrArg List.length (List.takeWhile_append_dropWhile (p := (· != e)) (l := s))
    simp only [List.length_append] at this
    simp only [rowGo, List.length_append, List.length_replicate, List.length_cons, row_length r]
    omega
theorem row_ht (es s : List Int) (c : Nat) : ht (rowGo s c es) = -(s.length : Int) := by
  rw [ht_eq, row_ones, row_length]; omega
theorem row_low : ∀ (es s : List Int) (c n : Nat), 0 ≤ (s.length : Int) + ht ((rowGo s c es).take n)
  | [], s, c, n => by
    simp only [rowGo, List.take_replicate, ht_falses]; omega
  | e :: r, s, c, n => by
    have hl := congrArg List.length (List.takeWhile_append_dropWhile (p := (· != e)) (l := s))
    simp only [List.length_append] at hl
    simp only [rowGo]
    rw [List.take_append]
    simp only [List.length_replicate, List.take_replicate, ht_app, ht_falses]
    cases k : n - (s.takeWhile (· != e)).length with
    | zero => simp [ht]; omega
    | succ j =>
      rw [List.take_succ_cons]
      have ih := row_low r ((c : Int) :: s.dropWhile (· != e)) (c + 1) j
      simp only [ht, st, List.length_cons] at ih ⊢
      simp at ih ⊢
      omega
def row (es : List Int) : List Bool := rowGo [] 0 es
def ok (es : List Int) : Prop := okGo [] 0 es
structure Bal (bs : List Bool) : Prop where
  low : ∀ n, 0 ≤ ht (bs.take n)
  all : ht bs = 0
theorem row_bal (es : List Int) : Bal (row es) := ⟨fun n => by
    have := row_low es [] 0 n
    show 0 ≤ ht ((rowGo [] 0 es).take n)
    simpa using this, by
    have := row_ht es [] 0
    show ht (rowGo [] 0 es) = 0
    simpa using this⟩
theorem row_back {es : List Int} (h : ok es) : eld [-1] 0 (row es) = es := round_trip es [] 0 h
theorem cnt_zero : ∀ (r : List Bool) (s : List Int) (c : Nat) (k : Int), k < c → (∀ x ∈ s, x ≠ k) → k ≠ -1 → (eld s c r).count k = 0
  | [], _, _, _, _, _, _ => rfl
  | true :: r, s, c, k, h1, h2, h3 => by
    simp only [eld]
    have hh : s.headD (-1) ≠ k := by
      cases s with
      | nil => exact Ne.symm h3
      | cons x t => exact h2 x (by simp)
    rw [List.count_cons, cnt_zero r _ _ k (by omega) (fun x hx => by
      rcases List.mem_cons.mp hx with e | e
      · omega
      · exact h2 x e) h3, beq_false_of_ne hh]
    rfl
  | false :: r, s, c, k, h1, h2, h3 => by
    simp only [eld]
    exact cnt_zero r _ c k h1 (fun x hx => h2 x (List.mem_of_mem_tail hx)) h3
theorem cnt_tops : ∀ (r : List Bool) (ext s : List Int) (c : Nat) (k : Int), k < c → (∀ x ∈ ext, x ≠ k) → (∀ x ∈ s, x ≠ k) → (k = -1 → s = [] ∧ cl (ext.length + 1) r = none) →
    (eld (ext ++ k :: s) c r).count k = tops ext.length (match cl (ext.length + 1) r with | some n => r.take n | none => r)
  | [], ext, s, c, k, _, _, _, _ => by simp [cl, eld, tops]
  | true :: r, ext, s, c, k, h1, h2, h3, h4 => by
    have hd : ((ext.length : Int) + 1 + st true = 0) = False := by simp [st]; omega
    have e1 : cl ((ext.length : Int) + 1) (true :: r) = (cl (((c : Int) :: ext).length + 1) r).map (· + 1) := by
      simp only [cl, hd, if_false]
      rw [show (ext.length : Int) + 1 + st true = ((((c : Int) :: ext).length : Nat) : Int) + 1 by simp [st]]
    have ih := cnt_tops r ((c : Int) :: ext) s (c + 1) k (by omega) (fun x hx => by
      rcases List.mem_cons.mp hx with e | e
      · omega
      · exact h2 x e) h3 (fun q => ⟨(h4 q).1, by
        have z := (h4 q).2
        rw [e1, Option.map_eq_none_iff] at z
        exact z⟩)
    simp only [eld]
    rw [← List.cons_append, List.count_cons, ih, e1]
    have e2 : ∀ x : List Bool, tops (ext.length : Int) (true :: x) = (if (ext.length : Int) = 0 then 1 else 0) + tops (((c : Int) :: ext).length : Nat) x := fun x => by
      simp only [tops]
      rw [show (ext.length : Int) + st true = ((((c : Int) :: ext).length : Nat) : Int) by simp [st]]
      simp
    have e3 : (if ((ext ++ k :: s).headD (-1) == k) = true then 1 else 0) = (if (ext.length : Int) = 0 then 1 else 0) := by
      cases ext with
      | nil => simp
      | cons y t =>
        have : y ≠ k := h2 y (by simp)
        simp [this]
        omega
    rw [e3]
    cases q : cl ((((c : Int) :: ext).length : Nat) + 1) r with
    | none => simp only [Option.map_none]; rw [e2]; omega
    | some n => simp only [Option.map_some, List.take_succ_cons]; rw [e2]; omega
  | false :: r, [], s, c, k, h1, h2, h3, h4 => by
    have e1 : cl ((([] : List Int).length : Int) + 1) (false :: r) = some 0 := by simp [cl, st]
    rw [e1]
    simp only [eld, List.take_zero, tops, List.nil_append, List.tail_cons]
    by_cases q : k = -1
    · have := (h4 q).2
      rw [e1] at this
      cases this
    · exact cnt_zero r s c k h1 h3 q
  | false :: r, y :: ext, s, c, k, h1, h2, h3, h4 => by
    have hd : ¬ (((y :: ext).length : Int) + 1 + st false = 0) := by simp [st]; omega
    have e1 : cl (((y :: ext).length : Int) + 1) (false :: r) = (cl ((ext.length : Int) + 1) r).map (· + 1) := by
      simp only [cl]
      rw [if_neg hd, show ((y :: ext).length : Int) + 1 + st false = (ext.length : Int) + 1 by simp [st]; omega]
    have ih := cnt_tops r ext s c k h1 (fun x hx => h2 x (List.mem_cons_of_mem _ hx)) h3 (fun q => ⟨(h4 q).1, by
        have z := (h4 q).2
        rw [e1, Option.map_eq_none_iff] at z
        exact z⟩)
    simp only [eld, List.cons_append, List.tail_cons]
    rw [ih, e1]
    have e2 : ∀ x : List Bool, tops ((y :: ext).length : Int) (false :: x) = tops ext.length x := fun x => by
      simp only [tops]
      rw [show ((y :: ext).length : Int) + st false = (ext.length : Int) by simp [st]; omega]
      simp
    cases q : cl ((ext.length : Int) + 1) r with
    | none => simp only [Option.map_none]; rw [e2]
    | some n => simp only [Option.map_some, List.take_succ_cons]; rw [e2]
end Tw
namespace Tw
def lookI (s : List Int) (c : Nat) : List (Option Int) → Option Nat
  | [] => none
  | none :: _ => some c
  | some e :: r => if c = 4000 then some c else if s.dropWhile (· != e) = [] ∧ e ≠ -1 then some c else lookI ((c : Int) :: s.dropWhile (· != e)) (c + 1) r
theorem lookI_ok : ∀ (es s : List Int) (c : Nat), okGo s c es → c + es.length ≤ 4000 → lookI s c (es.map some) = none
  | [], _, _, _, _ => rfl
  | e :: r, s, c, ⟨h1, h2⟩, hl => by
    simp only [List.length_cons] at hl
    simp only [List.map_cons, lookI]
    rw [if_neg (by omega), if_neg (fun q => by
      rcases h1 with h1 | h1
      · exact h1 q.1
      · exact q.2 h1)]
    exact lookI_ok r _ (c + 1) h2 (by omega)
theorem ok_of_lookI : ∀ (es s : List Int) (c : Nat), lookI s c (es.map some) = none → okGo s c es
  | [], _, _, _ => trivial
  | e :: r, s, c, h => by
    simp only [List.map_cons, lookI] at h
    by_cases h1 : c = 4000
    · rw [if_pos h1] at h; cases h
    · rw [if_neg h1] at h
      by_cases h2 : s.dropWhile (· != e) = [] ∧ e ≠ -1
      · rw [if_pos h2] at h; cases h
      · rw [if_neg h2] at h
        refine ⟨?_, ok_of_lookI r _ (c + 1) h⟩
        by_cases q : s.dropWhile (· != e) = []
        · by_cases q2 : e = -1
          · exact .inr q2
          · exact absurd ⟨q, q2⟩ h2
        · exact .inl q
theorem lookI_len : ∀ (es s : List Int) (c : Nat), c ≤ 4000 → lookI s c (es.map some) = none → c + es.length ≤ 4000
  | [], _, _, hc, _ => by simpa using hc
  | e :: r, s, c, hc, h => by
    simp only [List.map_cons, lookI] at h
    by_cases h1 : c = 4000
    · rw [if_pos h1] at h; cases h
    · rw [if_neg h1] at h
      by_cases h2 : s.dropWhile (· != e) = [] ∧ e ≠ -1
      · rw [if_pos h2] at h; cases h
      · rw [if_neg h2] at h
        have := lookI_len r _ (c + 1) (by omega) h
        simp only [List.length_cons]; omega
theorem lookI_tops : ∀ (m : Nat) (s : List Int) (c : Nat), c ≤ 4000 → lookI s c (List.replicate m (some (-1))) = if 4000 < c + m then some 4000 else none
  | 0, s, c, hc => by
    simp only [List.replicate_zero, lookI]
    rw [if_neg (by omega)]
  | m + 1, s, c, hc => by
    rw [List.replicate_succ]
    simp only [lookI]
    by_cases h1 : c = 4000
    · rw [if_pos h1, if_pos (by omega), h1]
    · rw [if_neg h1, if_neg (fun q => q.2 rfl), lookI_tops m _ (c + 1) (by omega)]
      by_cases h2 : 4000 < c + 1 + m
      · rw [if_pos h2, if_pos (by omega)]
      · rw [if_neg h2, if_neg (by omega)]
theorem ok_tops : ∀ (m : Nat) (s : List Int) (c : Nat), okGo s c (List.replicate m (-1))
  | 0, _, _ => trivial
  | m + 1, s, c => by
    rw [List.replicate_succ]
    exact ⟨.inr rfl, ok_tops m _ _⟩
def lawW : List Int → Nat → List Nat → List Int
  | _, _, [] => []
  | s, c, d :: r => (s.drop (d % (s.length + 1))).headD (-1) :: lawW ((c : Int) :: s.drop (d % (s.length + 1))) (c + 1) r
theorem lawW_length : ∀ (ds : List Nat) (s : List Int) (c : Nat), (lawW s c ds).length = ds.length
  | [], _, _ => rfl
  | d :: r, s, c => by simp only [lawW, List.length_cons, lawW_length r]
def Desc (c : Nat) (s : List Int) : Prop := s.Pairwise (· > ·) ∧ ∀ x ∈ s, 0 ≤ x ∧ x < c
theorem desc_drop {c : Nat} {s : List Int} (n : Nat) (h : Desc c s) : Desc c (s.drop n) := ⟨h.1.sublist (List.drop_sublist n s), fun x hx => h.2 x (List.mem_of_mem_drop hx)⟩
theorem desc_cons {c : Nat} {s : List Int} (h : Desc c s) : Desc (c + 1) ((c : Int) :: s) :=
  ⟨List.pairwise_cons.mpr ⟨fun x hx => (h.2 x hx).2, h.1⟩, fun x hx => by
    rcases List.mem_cons.mp hx with e | e
    · omega
    · have := h.2 x e; omega⟩
theorem dw_drop : ∀ (s : List Int) (n : Nat), s.Pairwise (· > ·) → (∀ x ∈ s, 0 ≤ x) → s.dropWhile (· != (s.drop n).headD (-1)) = s.drop n
  | [], n, _, _ => by simp
  | x :: r, 0, _, _ => by
    simp
  | x :: r, n + 1, h, hp => by
    rw [List.pairwise_cons] at h
    rw [List.drop_succ_cons]
    have hne : x ≠ (r.drop n).headD (-1) := by
      cases q : r.drop n with
      | nil =>
        have := hp x (by simp)
        simp only [List.headD_nil]
        omega
      | cons y t =>
        have hm : y ∈ r := List.mem_of_mem_drop (by rw [q]; simp)
        have := h.1 y hm
        simp only [List.headD_cons]
        omega
    rw [List.dropWhile_cons, if_pos (by simpa using hne)]
    exact dw_drop r n h.2 fun y hy => hp y (List.mem_cons_of_mem _ hy)
theorem lawW_ok : ∀ (ds : List Nat) (s : List Int) (c : Nat), Desc c s → okGo s c (lawW s c ds)
  | [], _, _, _ => trivial
  | d :: r, s, c, h => by
    have e := dw_drop s (d % (s.length + 1)) h.1 fun x hx => (h.2 x hx).1
    have hd := desc_drop (d % (s.length + 1)) h
    show ((s.dropWhile (· != _) ≠ [] ∨ _ = -1) ∧ _)
    rw [e]
    refine ⟨?_, lawW_ok r _ (c + 1) (desc_cons hd)⟩
    cases q : s.drop (d % (s.length + 1)) with
    | nil => exact .inr rfl
    | cons y t => exact .inl (by simp)
theorem eld_ge : ∀ (r : List Bool) (s : List Int) (c : Nat), (∀ x ∈ s, -1 ≤ x) → ∀ x ∈ eld s c r, -1 ≤ x
  | [], _, _, _, x, hx => by simp [eld] at hx
  | true :: r, s, c, h, x, hx => by
    simp only [eld] at hx
    rcases List.mem_cons.mp hx with e | e
    · rw [e]
      cases s with
      | nil => simp
      | cons y t => exact h y (by simp)
    · exact eld_ge r _ (c + 1) (fun y hy => by
        rcases List.mem_cons.mp hy with z | z
        · omega
        · exact h y z) x e
  | false :: r, s, c, h, x, hx => by
    simp only [eld] at hx
    exact eld_ge r _ c (fun y hy => h y (List.mem_of_mem_tail hy)) x hx
theorem eld_length : ∀ (r : List Bool) (s : List Int) (c : Nat), (eld s c r).length = ones r
  | [], _, _ => rfl
  | true :: r, s, c => by simp only [eld, List.length_cons, ones, eld_length r]; simp; omega
  | false :: r, s, c => by simp only [eld, ones, eld_length r]; simp
def stk : List Int → Nat → List Bool → List Int
  | s, _, [] => s
  | s, c, true :: r => stk ((c : Int) :: s) (c + 1) r
  | s, c, false :: r => stk s.tail c r
theorem eld_app : ∀ (a b : List Bool) (s : List Int) (c : Nat), eld s c (a ++ b) = eld s c a ++ eld (stk s c a) (c + ones a) b
  | [], b, s, c => by simp [eld, stk, ones]
  | true :: a, b, s, c => by
    simp only [List.cons_append, eld, stk, ones]
    rw [eld_app a b]
    simp only [if_true]
    rw [show c + 1 + ones a = c + (1 + ones a) by omega]
  | false :: a, b, s, c => by
    simp only [List.cons_append, eld, stk, ones]
    rw [eld_app a b]
    simp
theorem stk_lt : ∀ (a : List Bool) (s : List Int) (c : Nat), (∀ x ∈ s, x < c) → ∀ x ∈ stk s c a, x < (c + ones a : Nat)
  | [], s, c, h, x, hx => by
    have := h x hx
    simp [ones]; omega
  | true :: a, s, c, h, x, hx => by
    have := stk_lt a _ (c + 1) (fun y hy => by
      rcases List.mem_cons.mp hy with z | z
      · omega
      · have := h y z; omega) x hx
    simp only [ones, if_true]; omega
  | false :: a, s, c, h, x, hx => by
    have := stk_lt a _ c (fun y hy => h y (List.mem_of_mem_tail hy)) x hx
    simp only [ones]; simp; omega
theorem eld_lt : ∀ (a : List Bool) (s : List Int) (c : Nat), (∀ x ∈ s, x < c) → ∀ x ∈ eld s c a, x < (c + ones a : Nat)
  | [], s, c, h, x, hx => by simp [eld] at hx
  | true :: a, s, c, h, x, hx => by
    simp only [eld] at hx
    simp only [ones, if_true]
    rcases List.mem_cons.mp hx with e | e
    · rw [e]
      cases s with
      | nil => simp; omega
      | cons y t => have := h y (by simp); simp only [List.headD_cons]; omega
    · have := eld_lt a _ (c + 1) (fun y hy => by
        rcases List.mem_cons.mp hy with z | z
        · omega
        · have := h y z; omega) x e
      omega
  | false :: a, s, c, h, x, hx => by
    simp only [eld] at hx
    have := eld_lt a _ c (fun y hy => h y (List.mem_of_mem_tail hy)) x hx
    simp only [ones]; simp; omega
theorem count_zero {l : List Int} {k : Int} (h : ∀ x ∈ l, x ≠ k) : l.count k = 0 := List.count_eq_zero.mpr fun hm => h k hm rfl
theorem kids {pre rest : List Bool} {n : Nat} (hb : Bal (pre ++ true :: rest)) (h : cl 1 rest = some n) : (eld [-1] 0 (pre ++ true :: rest)).count (ones pre : Int) = tops 0 (rest.take n) := by
  rw [eld_app]
  simp only [eld, List.count_append]
  have hs : ∀ x ∈ stk [-1] 0 pre, x < (0 + ones pre : Nat) := stk_lt pre [-1] 0 (fun x hx => by simp at hx; omega)
  have h1 : (eld [-1] 0 pre).count (ones pre : Int) = 0 := count_zero fun x hx => by
    have := eld_lt pre [-1] 0 (fun x hx => by simp at hx; omega) x hx
    omega
  have h2 : (stk [-1] 0 pre).headD (-1) ≠ (ones pre : Int) := by
    cases q : stk [-1] 0 pre with
    | nil => simp
    | cons y t =>
      have := hs y (by rw [q]; simp)
      simp only [List.headD_cons]; omega
  rw [h1, List.count_cons, beq_false_of_ne h2]
  have h3 := cnt_tops rest [] (stk [-1] 0 pre) (0 + ones pre + 1) (ones pre : Int) (by omega) (by simp) (fun x hx => by have := hs x hx; omega) (fun q => by omega)
  simp only [List.nil_append, List.length_nil] at h3
  rw [show ((0 : Nat) : Int) + 1 = 1 by rfl, h] at h3
  rw [show (((0 + ones pre : Nat)) : Int) = (ones pre : Int) by omega]
  simp only [h3]
  simp
theorem tops_all {bs : List Bool} (hb : Bal bs) : (eld [-1] 0 bs).count (-1) = tops 0 bs := by
  have h : cl 1 bs = none := (cl_none_iff (by omega)).mpr fun n _ _ => by have := hb.low n; omega
  have h3 := cnt_tops bs [] [] 0 (-1) (by omega) (by simp) (by simp) (fun _ => ⟨rfl, by simpa using h⟩)
  simp only [List.nil_append, List.length_nil] at h3
  rw [show ((0 : Nat) : Int) + 1 = 1 by rfl, h] at h3
  exact h3
theorem closes {pre rest : List Bool} (hb : Bal (pre ++ true :: rest)) : ∃ n, cl 1 rest = some n := by
  refine cl_some_of (by omega) ?_
  have h1 := hb.all
  rw [ht_app] at h1
  simp only [ht, st] at h1
  have h2 := hb.low pre.length
  rw [List.take_left'] at h2
  · simp at h1; omega
  · rfl
def manyP (n : Nat) : Nat := (n + 127) / 128
def cutEv (bs : List Bool) : List (List Bool) := (List.range (manyP bs.length)).map fun k => (bs.drop (bs.length * k / manyP bs.length)).take (bs.length * (k + 1) / manyP bs.length - bs.length * k / manyP bs.length)
theorem flat_slices (bs : List Bool) (f : Nat → Nat) (h0 : f 0 = 0) (hm : ∀ k, f k ≤ f (k + 1)) : ∀ m, ((List.range m).map fun k => (bs.drop (f k)).take (f (k + 1) - f k)).flatten = bs.take (f m)
  | 0 => by simp [h0]
  | m + 1 => by
    rw [List.range_succ, List.map_append, List.flatten_append, flat_slices bs f h0 hm m]
    simp only [List.map_cons, List.map_nil, List.flatten_cons, List.flatten_nil, List.append_nil]
    have := hm m
    rw [show f (m + 1) = f m + (f (m + 1) - f m) by omega, List.take_add]
    rw [show f m + (f (m + 1) - f m) - f m = f (m + 1) - f m by omega]
theorem cutEv_flat (bs : List Bool) : (cutEv bs).flatten = bs := by
  have h := flat_slices bs (fun k => bs.length * k / manyP bs.length) (by simp) (fun k => Nat.div_le_div_right (Nat.mul_le_mul_left _ (Nat.le_succ k))) (manyP bs.length)
  unfold cutEv
  rw [h]
  by_cases e : manyP bs.length = 0
  · have : bs.length = 0 := by unfold manyP at e; omega
    have : bs = [] := List.eq_nil_of_length_eq_zero this
    subst this
    rfl
  · rw [Nat.mul_div_cancel _ (by omega), List.take_length]
end Tw
namespace Tw
open PySem PySem.Spec PyProof.Rows L2
def sgn (b : Bool) : Nat := if b then 49 else 48
def T (bs : List Bool) : Str := ⟨(bs.map sgn).toArray⟩
theorem str_ext {x y : Str} (h : x.cps.toList = y.cps.toList) : x = y := by
  obtain ⟨⟨a⟩⟩ := x
  obtain ⟨⟨b⟩⟩ := y
  simp at h
  subst h
  rfl
theorem T_toList (bs : List Bool) : (T bs).cps.toList = bs.map sgn := by simp [T]
theorem T_length (bs : List Bool) : (T bs).length = bs.length := by simp [T, Str.length]
theorem T_size (bs : List Bool) : (T bs).cps.size = bs.length := by simp [T]
theorem T_get {bs : List Bool} {i c : Nat} (h : (T bs).cps[i]? = some c) : ∃ b, bs[i]? = some b ∧ c = sgn b := by
  simp only [T, List.getElem?_toArray, List.getElem?_map] at h
  cases e : bs[i]? with
  | none => rw [e] at h; cases h
  | some b => rw [e] at h; exact ⟨b, rfl, (Option.some.inj h).symm⟩
theorem sign_one (b : Bool) : decide (V.str ⟨#[sgn b]⟩ = V.str "1") = b := by cases b <;> decide +kernel
theorem T_one : ("1" : Str) = T [true] := by decide +kernel
theorem T_zero : ("0" : Str) = T [false] := by decide +kernel
theorem T_ten : ("10" : Str) = T [true, false] := by decide +kernel
theorem T_nil : ("" : Str) = T [] := by decide +kernel
theorem T_sign (b : Bool) : (⟨#[sgn b]⟩ : Str) = T [b] := by cases b <;> decide +kernel
theorem app_toList (x y : Str) : (x ++ y).cps.toList = x.cps.toList ++ y.cps.toList := by
  show (Str.append x y).cps.toList = _
  simp [Str.append]
theorem T_app (a b : List Bool) : T a ++ T b = T (a ++ b) := str_ext (by rw [app_toList, T_toList, T_toList, T_toList, List.map_append])
theorem T_inj {a b : List Bool} (h : T a = T b) : a = b := by
  have h2 := congrArg (fun x : Str => x.cps.toList) h
  simp only [T_toList] at h2
  have : ∀ (a b : List Bool), a.map sgn = b.map sgn → a = b := by
    intro a
    induction a with
    | nil => intro b h; cases b with
      | nil => rfl
      | cons y t => cases h
    | cons x r ih =>
      intro b h
      cases b with
      | nil => cases h
      | cons y t =>
        simp only [List.map_cons, List.cons.injEq] at h
        have e : x = y := by
          have := h.1
          cases x <;> cases y <;> simp [sgn] at this <;> rfl
        rw [e, ih t h.2]
  exact this a b h2
theorem T_cut (bs : List Bool) (lo hi : Option Int) : cutS (T bs) lo hi = T ((bs.drop (HT.sIx bs.length 0 lo)).take (HT.sIx bs.length bs.length hi - HT.sIx bs.length 0 lo)) := by
  refine str_ext ?_
  unfold cutS
  rw [T_toList, T_toList, T_length, List.map_take, List.map_drop]
theorem T_mul (bs : List Bool) (n : Int) : Txt.mul (T bs) n = T (List.replicate n.toNat bs).flatten := str_ext (by
  rw [mul_toList, T_toList, T_toList, List.map_flatten, List.map_replicate])
theorem glue_foldl (ps : List Str) (acc : Array Nat) : (ps.foldl (fun acc p => acc ++ (Str.empty).cps ++ p.cps) acc).toList = acc.toList ++ (ps.map fun p => p.cps.toList).flatten := by
  induction ps generalizing acc with
  | nil => simp
  | cons p r ih =>
    rw [List.foldl_cons, ih]
    simp [Str.empty]
theorem T_join (ps : List (List Bool)) : Txt.join "" (ps.map T) = T ps.flatten := by
  have e0 : ("" : Str) = Str.empty := by decide +kernel
  refine str_ext ?_
  rw [e0]
  unfold Txt.join Builtin.Str.glued
  show (((ps.map T).drop 1).foldl _ ((ps.map T).headD Str.empty).cps).toList = _
  rw [glue_foldl, T_toList]
  cases ps with
  | nil => rfl
  | cons p r =>
    simp only [List.map_cons, List.drop_succ_cons, List.drop_zero, List.headD_cons, List.map_map, T_toList, List.flatten_cons, List.map_append]
    have e : (r.map ((fun p : Str => p.cps.toList) ∘ T)) = r.map (List.map sgn) := List.map_congr_left fun x _ => T_toList x
    rw [e, List.map_flatten]
theorem T_joinLen (ps : List (List Bool)) : (((ps.map T).map (·.length)).sum) = ps.flatten.length := by
  rw [List.length_flatten, List.map_map]
  congr 1
  exact List.map_congr_left fun x _ => T_length x
theorem for_enumT {bs : List Bool} {g : TG} {tb : TS} {D : Ends} {σ : L2.St} {H : Hp} (Pv : Nat → L2.St → Hp → Prop) (h0 : Pv 0 σ H)
    (hs : ∀ (i : Nat) b T σ H, bs[i]? = some b → Pv i σ H → H T = none → g (.ref T) σ (upd H T (.tup [.int (i : Nat), .str ⟨#[sgn b]⟩])) fun σ2 H2 => tb { D with nx := Pv (i + 1), ct := Pv (i + 1), bk := D.nx } σ2 H2)
    (hd : ∀ σ H, Pv bs.length σ H → D.nx σ H) :
    ∃ W : Nat → Nat → L2.St → Hp → Prop, (∃ m, W 0 m σ H) ∧ ∀ i m σ H, W i m σ H →
      ((ItS (T bs)).stop i H ∧ D.nx σ H) ∨ ((ItS (T bs)).go i H ∧ ∃ N : L2.St → Hp → Prop, (∀ σ' H', N σ' H' → ∃ m', m' < m ∧ W (i + 1) m' σ' H') ∧ ∀ v H', (ItS (T bs)).yld i H v H' → g v σ H' fun σ2 H2 => tb { D with nx := N, ct := N, bk := D.nx } σ2 H2) :=
  for_enumS Pv h0 (fun i c t σ H hc p hT => by
    obtain ⟨b, hb, rfl⟩ := T_get hc
    exact hs i b t σ H hb p hT) (by rw [T_size]; exact hd)
theorem for_strT {bs : List Bool} {g : TG} {tb : TS} {D : Ends} {σ : L2.St} {H : Hp} (Pv : Nat → L2.St → Hp → Prop) (h0 : Pv 0 σ H)
    (hs : ∀ (i : Nat) b σ H, bs[i]? = some b → Pv i σ H → g (.str ⟨#[sgn b]⟩) σ H fun σ2 H2 => tb { D with nx := Pv (i + 1), ct := Pv (i + 1), bk := D.nx } σ2 H2)
    (hd : ∀ σ H, Pv bs.length σ H → D.nx σ H) :
    ∃ W : Nat → Nat → L2.St → Hp → Prop, (∃ m, W 0 m σ H) ∧ ∀ i m σ H, W i m σ H →
      ((Its (T bs)).stop i H ∧ D.nx σ H) ∨ ((Its (T bs)).go i H ∧ ∃ N : L2.St → Hp → Prop, (∀ σ' H', N σ' H' → ∃ m', m' < m ∧ W (i + 1) m' σ' H') ∧ ∀ v H', (Its (T bs)).yld i H v H' → g v σ H' fun σ2 H2 => tb { D with nx := N, ct := N, bk := D.nx } σ2 H2) := by
  refine ⟨fun i m σ H => m = bs.length - i ∧ i ≤ bs.length ∧ Pv i σ H, ⟨bs.length, by simp, Nat.zero_le _, h0⟩, ?_⟩
  rintro i m σ H ⟨rfl, hi, p⟩
  by_cases hlt : i < bs.length
  · refine .inr ⟨by show i < (T bs).cps.size; rw [T_size]; exact hlt, Pv (i + 1), fun σ' H' p' => ⟨bs.length - (i + 1), by omega, rfl, hlt, p'⟩, fun v H' y => ?_⟩
    obtain ⟨rfl, c, hc, rfl⟩ := y
    obtain ⟨b, hb, rfl⟩ := T_get hc
    exact hs i b σ _ hb p
  · have e : i = bs.length := by omega
    subst e
    exact .inl ⟨by show (T bs).cps.size ≤ bs.length; rw [T_size]; exact Nat.le_refl _, hd σ H p⟩
theorem for_enumL {K : PySem.W.Frag} {a : Addr} {xs : List V} {g : TG} {tb : TS} {D : Ends} {σ : L2.St} {H : Hp} (Pv : Nat → L2.St → Hp → Prop) (h0 : Pv 0 σ H) (hl : ∀ i σ H, i ≤ xs.length → Pv i σ H → SqL K H a xs)
    (hs : ∀ (i : Nat) x T σ H, xs[i]? = some x → Pv i σ H → H T = none → g (.ref T) σ (upd H T (.tup [.int (i : Nat), x])) fun σ2 H2 => tb { D with nx := Pv (i + 1), ct := Pv (i + 1), bk := D.nx } σ2 H2)
    (hd : ∀ σ H, Pv xs.length σ H → D.nx σ H) :
    ∃ W : Nat → Nat → L2.St → Hp → Prop, (∃ m, W 0 m σ H) ∧ ∀ i m σ H, W i m σ H →
      ((Ite K a).stop i H ∧ D.nx σ H) ∨ ((Ite K a).go i H ∧ ∃ N : L2.St → Hp → Prop, (∀ σ' H', N σ' H' → ∃ m', m' < m ∧ W (i + 1) m' σ' H') ∧ ∀ v H', (Ite K a).yld i H v H' → g v σ H' fun σ2 H2 => tb { D with nx := N, ct := N, bk := D.nx } σ2 H2) := by
  refine ⟨fun i m σ H => m = xs.length - i ∧ i ≤ xs.length ∧ Pv i σ H, ⟨xs.length, by simp, Nat.zero_le _, h0⟩, ?_⟩
  rintro i m σ H ⟨rfl, hi, p⟩
  have q := hl i σ H hi p
  by_cases hlt : i < xs.length
  · refine .inr ⟨⟨xs, xs[i], q, by simp [hlt]⟩, Pv (i + 1), fun σ' H' p' => ⟨xs.length - (i + 1), by omega, rfl, hlt, p'⟩, fun v H' y => ?_⟩
    obtain ⟨t, x, rfl, ht, rfl, y⟩ := y
    exact hs i x t σ H (y xs q) p ht
  · have e : i = xs.length := by omega
    subst e
    exact .inl ⟨⟨xs, q, Nat.le_refl _⟩, hd σ H p⟩
theorem same_new {H : Hp} {p : Addr} {o : HO} (h : H p = none) : Same H (upd H p o) := fun b u e => by
  rw [upd_ne (ne_of_none e h)]
  exact e
theorem sN {H H1 : Hp} {p : Addr} {o : HO} (s : Same H H1) (h : H1 p = none) : Same H (upd H1 p o) := s.trans (same_new h)
theorem sM {H H1 : Hp} {p : Addr} {o : HO} (s : Same H H1) (h : H p = none) : Same H (upd H1 p o) := fun b u e => by
  rw [upd_ne (ne_of_none e h)]
  exact s b u e
theorem sz1 {n : Nat} (h : n ≤ 1000000) : n ≤ sizeLine := Nat.le_trans h (by decide)
theorem sz2 {n : Nat} (h : n ≤ 1000000) : n < sizeLine := Nat.lt_of_le_of_lt h (by decide)
inductive Odd (H : Hp) : V → Prop where
  | bl (b : Bool) : Odd H (.bl b)
  | non : Odd H .non
  | str (z : Str) : Odd H (.str z)
  | lst {a : Addr} {xs : List V} (e : H a = some (.lst xs)) : Odd H (.ref a)
  | tup {a : Addr} {xs : List V} (e : H a = some (.tup xs)) : Odd H (.ref a)
  | dK {a : Addr} {kvs : List (Key × V)} (e : H a = some (.dK kvs)) : Odd H (.ref a)
theorem Odd.mono {H H' : Hp} {x : V} (s : Same H H') (h : Odd H x) : Odd H' x := by
  cases h with
  | bl b => exact .bl b
  | non => exact .non
  | str z => exact .str z
  | lst e => exact .lst (s _ _ e)
  | tup e => exact .tup (s _ _ e)
  | dK e => exact .dK (s _ _ e)
theorem Odd.no_int {H : Hp} {i : Int} (h : Odd H (.int i)) : False := by cases h
theorem kit_i (n : String) (b : Bool) (h : kitB n "int" = some b) (K : PySem.W.Frag) : PySem.W.kitOne K (.type n) (.type "int") = some b := kit_ty h
theorem Odd.ask {K : PySem.W.Frag} {H : Hp} {x : V} (h : Odd H x) : ∃ (t : Value) (b : Bool), TyX K H x t ∧ PySem.W.kitOne K t (.type "int") = some b ∧ PySem.W.kitOne K t (.type "bool") = some b := by
  cases h with
  | bl b => exact ⟨_, true, .base (.bl b), kit_ty (by decide +kernel), kit_ty (by decide +kernel)⟩
  | non => exact ⟨_, false, .base .non, kit_ty (by decide +kernel), kit_ty (by decide +kernel)⟩
  | str z => exact ⟨_, false, .base (.str z), kit_ty (by decide +kernel), kit_ty (by decide +kernel)⟩
  | lst e => exact ⟨_, false, .base (.lst e), kit_ty (by decide +kernel), kit_ty (by decide +kernel)⟩
  | tup e => exact ⟨_, false, .base (.tup e), kit_ty (by decide +kernel), kit_ty (by decide +kernel)⟩
  | dK e => exact ⟨_, false, .base (.dK e), kit_ty (by decide +kernel), kit_ty (by decide +kernel)⟩
theorem int_int {K : PySem.W.Frag} : PySem.W.kitOne K (.type "int") (.type "int") = some true := kit_ty (by decide +kernel)
theorem int_bool {K : PySem.W.Frag} : PySem.W.kitOne K (.type "int") (.type "bool") = some false := kit_ty (by decide +kernel)
def Thing (H : Hp) (x : V) : Prop := (∃ i, x = .int i) ∨ Odd H x
theorem Thing.mono {H H' : Hp} {x : V} (s : Same H H') (h : Thing H x) : Thing H' x := h.imp id fun o => o.mono s
def dat : V → PyData
  | .bl b => .bool b
  | .int i => .int i
  | .str x => .str x
  | _ => .none
def datOk : V → Bool
  | .non => true
  | .bl _ => true
  | .int _ => true
  | .str x => PyData.strOk x
  | _ => false
theorem dp_all {K : PySem.W.Frag} {H : Hp} : ∀ {xs : List V}, xs.all datOk = true → DpAll K H xs (xs.map dat)
  | [], _ => .nil
  | x :: r, h => by
    simp only [List.all_cons, Bool.and_eq_true] at h
    refine .cons ?_ (dp_all h.2)
    have h1 := h.1
    cases x with
    | non => exact .non
    | bl b => exact .bl b
    | int i => exact .int i
    | str z => exact .str z
    | byt z => cases h1
    | flt z => cases h1
    | ref z => cases h1
    | ty z => cases h1
theorem lay_all : ∀ {xs : List V}, xs.all datOk = true → PyData.canLayAll0 (xs.map dat) = true
  | [], _ => rfl
  | x :: r, h => by
    simp only [List.all_cons, Bool.and_eq_true] at h
    show (PyData.canLay0 (dat x) && PyData.canLayAll0 (r.map dat)) = true
    rw [lay_all h.2]
    have h1 := h.1
    cases x with
    | str z => simpa [dat, PyData.canLay0, datOk] using h1
    | _ => first | rfl | cases h1
theorem depth_all : ∀ {xs : List V}, xs.all datOk = true → PyData.depthAll (xs.map dat) = 0
  | [], _ => rfl
  | x :: r, h => by
    simp only [List.all_cons, Bool.and_eq_true] at h
    have h0 : PyData.depth (dat x) = 0 := by cases x <;> rfl
    simp only [List.map_cons, PyData.depthAll, h0, depth_all h.2]
    rfl
theorem shaped_all {xs : List V} (h : xs.all datOk = true) : SeqAt.shaped (.list (xs.map dat)) = true := by
  unfold SeqAt.shaped
  have e : PyData.depth (.list (xs.map dat)) ≤ 64 := by
    simp only [PyData.depth, depth_all h]
    decide
  rw [decide_eq_true e, Bool.and_true]
  exact lay_all h
theorem eqv_dat : ∀ {xs : List V}, PyData.eqvAll (xs.map dat) (xs.map dat) = true
  | [] => rfl
  | x :: r => by
    have h0 : PyData.eqv (dat x) (dat x) = true := by cases x <;> simp [dat, PyData.eqv]
    simp only [List.map_cons, PyData.eqvAll, h0, eqv_dat, Bool.and_true]
theorem eqv_ne : ∀ {xs ys : List V}, xs.all datOk = true → ys.all datOk = true → (∀ v ∈ xs ++ ys, ∀ b, v ≠ .bl b) → xs ≠ ys → PyData.eqvAll (xs.map dat) (ys.map dat) = false
  | [], [], _, _, _, h => absurd rfl h
  | [], y :: ys, _, _, _, _ => rfl
  | x :: xs, [], _, _, _, _ => rfl
  | x :: xs, y :: ys, h1, h2, hb, h => by
    simp only [List.all_cons, Bool.and_eq_true] at h1 h2
    show (PyData.eqv (dat x) (dat y) && PyData.eqvAll (xs.map dat) (ys.map dat)) = false
    by_cases e : x = y
    · subst e
      rw [eqv_ne h1.2 h2.2 (fun v hv => hb v (by
        rcases List.mem_append.mp hv with q | q
        · exact List.mem_append_left _ (List.mem_cons_of_mem _ q)
        · exact List.mem_append_right _ (List.mem_cons_of_mem _ q))) (fun q => h (by rw [q])), Bool.and_false]
    · have e1 : PyData.eqv (dat x) (dat y) = false := by
        have b1 := hb x (by simp)
        have b2 := hb y (by simp)
        have o1 := h1.1
        have o2 := h2.1
        cases x <;> cases y <;> first
          | rfl
          | (cases o1; done)
          | (cases o2; done)
          | exact absurd rfl (b1 _)
          | exact absurd rfl (b2 _)
          | exact absurd rfl e
          | (simp only [dat, PyData.eqv, beq_eq_false_iff_ne]; intro q; exact e (by rw [q]))
      rw [e1, Bool.false_and]
section
variable {K : PySem.W.Frag} {H : Hp} {a b : Addr} {xs ys : List V} {Q : VK}
theorem eq_same (ha : SqL K H a xs) (hb : SqL K H b xs) (ok : xs.all datOk = true) (q : Q (.bl true) H) : rEqD K (.ref a) (.ref b) H Q :=
  ⟨_, _, .lst ha (dp_all ok), .lst hb (dp_all ok), shaped_all ok, shaped_all ok, by
    have e : PyData.eqv (.list (xs.map dat)) (.list (xs.map dat)) = true := eqv_dat
    rw [e]
    exact q⟩
theorem ne_same (ha : SqL K H a xs) (hb : SqL K H b xs) (ok : xs.all datOk = true) (q : Q (.bl false) H) : rNeD K (.ref a) (.ref b) H Q :=
  ⟨_, _, .lst ha (dp_all ok), .lst hb (dp_all ok), shaped_all ok, shaped_all ok, by
    have e : PyData.eqv (.list (xs.map dat)) (.list (xs.map dat)) = true := eqv_dat
    rw [e]
    exact q⟩
theorem ne_diff (ha : SqL K H a xs) (hb : SqL K H b ys) (ok : xs.all datOk = true) (ok' : ys.all datOk = true) (nb : ∀ v ∈ xs ++ ys, ∀ b, v ≠ .bl b) (h : xs ≠ ys) (q : Q (.bl true) H) : rNeD K (.ref a) (.ref b) H Q :=
  ⟨_, _, .lst ha (dp_all ok), .lst hb (dp_all ok'), shaped_all ok, shaped_all ok', by
    have e : PyData.eqv (.list (xs.map dat)) (.list (ys.map dat)) = false := eqv_ne ok ok' nb h
    rw [e]
    exact q⟩
theorem eq_diff (ha : SqL K H a xs) (hb : SqL K H b ys) (ok : xs.all datOk = true) (ok' : ys.all datOk = true) (nb : ∀ v ∈ xs ++ ys, ∀ b, v ≠ .bl b) (h : xs ≠ ys) (q : Q (.bl false) H) : rEqD K (.ref a) (.ref b) H Q :=
  ⟨_, _, .lst ha (dp_all ok), .lst hb (dp_all ok'), shaped_all ok, shaped_all ok', by
    have e : PyData.eqv (.list (xs.map dat)) (.list (ys.map dat)) = false := eqv_ne ok ok' nb h
    rw [e]
    exact q⟩
end
theorem ints_ok (ns : List Int) : (ns.map V.int).all datOk = true := by
  rw [List.all_map]
  exact List.all_eq_true.mpr fun _ _ => rfl
theorem ints_nb {ns ms : List Int} : ∀ v ∈ ns.map V.int ++ ms.map V.int, ∀ b, v ≠ .bl b := fun v hv b => by
  rcases List.mem_append.mp hv with q | q
  · obtain ⟨i, _, rfl⟩ := List.mem_map.mp q
    exact fun z => nomatch z
  · obtain ⟨i, _, rfl⟩ := List.mem_map.mp q
    exact fun z => nomatch z
theorem T_ok (bs : List Bool) : PyData.strOk (T bs) = true := by
  unfold PyData.strOk T
  simp only [List.all_toArray, List.all_map]
  exact List.all_eq_true.mpr fun b _ => by cases b <;> decide
theorem texts_ok (ps : List (List Bool)) : (ps.map fun b => V.str (T b)).all datOk = true := by
  rw [List.all_map]
  exact List.all_eq_true.mpr fun b _ => T_ok b
end Tw
namespace Tw
theorem tops_app (a b : List Bool) (h : Int) : tops h (a ++ b) = tops h a + tops (h + ht a) b := by
  induction a generalizing h with
  | nil => simp [tops, ht]
  | cons x r ih =>
    simp only [List.cons_append, tops, ih, ht]
    rw [show h + st x + ht r = h + (st x + ht r) by omega]
    omega
theorem tops_snoc (a : List Bool) (b : Bool) : tops 0 (a ++ [b]) = tops 0 a + (if b = true ∧ ht a = 0 then 1 else 0) := by
  rw [tops_app]
  simp [tops]
theorem tops_le (a : List Bool) (h : Int) : tops h a ≤ a.length := by
  induction a generalizing h with
  | nil => simp [tops]
  | cons x r ih =>
    have := ih (h + st x)
    simp only [tops, List.length_cons]
    split <;> omega
theorem cut_min {α : Type} (xs : List α) (a b : Nat) : (xs.drop (min a xs.length)).take (min b xs.length - min a xs.length) = (xs.drop a).take (b - a) := by
  by_cases ha : a ≤ xs.length
  · rw [Nat.min_eq_left ha]
    by_cases hb : b ≤ xs.length
    · rw [Nat.min_eq_left hb]
    · rw [Nat.min_eq_right (show xs.length ≤ b by omega), List.take_of_length_le (by simp), List.take_of_length_le (by simp; omega)]
  · rw [Nat.min_eq_right (show xs.length ≤ a by omega), List.drop_of_length_le (Nat.le_refl xs.length), List.drop_of_length_le (show xs.length ≤ a by omega)]
    simp
theorem cut_low {α : Type} (xs : List α) (a : Nat) : (xs.drop (min a xs.length)).take (xs.length - min a xs.length) = xs.drop a := by
  by_cases ha : a ≤ xs.length
  · rw [Nat.min_eq_left ha, List.take_of_length_le (by simp)]
  · rw [Nat.min_eq_right (by omega), List.drop_of_length_le (Nat.le_refl _), List.drop_of_length_le (by omega)]
    simp
theorem cut_high {α : Type} (xs : List α) (b : Nat) : xs.take (min b xs.length) = xs.take b := by
  by_cases hb : b ≤ xs.length
  · rw [Nat.min_eq_left hb]
  · rw [Nat.min_eq_right (by omega), List.take_length, List.take_of_length_le (by omega)]
def adv : List (List Bool) → Nat → Nat
  | [], _ => 0
  | p :: r, low => if p.length ≤ low then adv r (low - p.length) + 1 else 0
def beh : List (List Bool) → Nat → Nat
  | [], _ => 0
  | p :: r, d => if 0 < d then beh r (d - p.length) + 1 else 0
def len (ps : List (List Bool)) (k : Nat) : Nat := (ps.take k).flatten.length
def putFor (ps : List (List Bool)) (low high : Nat) (tx : List Bool) : List (List Bool) :=
  let a := adv ps low
  let b := a + beh (ps.drop a) (high - len ps a)
  let amid := ((ps.drop (a - 2)).take (b + 2 - (a - 2))).flatten
  ps.take (a - 2) ++ cutEv (amid.take (low - len ps (a - 2)) ++ tx ++ amid.drop (high - len ps (a - 2))) ++ ps.drop (b + 2)
theorem len_succ {ps : List (List Bool)} {k : Nat} {p : List Bool} (h : ps[k]? = some p) : len ps (k + 1) = len ps k + p.length := by
  unfold len
  rw [List.take_add_one, h]
  simp
theorem drop_cons {α : Type} {l : List α} {k : Nat} {p : α} (h : l[k]? = some p) : l.drop k = p :: l.drop (k + 1) := by
  have hk := (List.getElem?_eq_some_iff.mp h)
  obtain ⟨h1, h2⟩ := hk
  rw [← h2]
  exact List.drop_eq_getElem_cons h1
theorem adv_le (ps : List (List Bool)) (low : Nat) : adv ps low ≤ ps.length := by
  induction ps generalizing low with
  | nil => simp [adv]
  | cons p r ih =>
    simp only [adv, List.length_cons]
    split
    · have := ih (low - p.length); omega
    · omega
theorem beh_le (ps : List (List Bool)) (d : Nat) : beh ps d ≤ ps.length := by
  induction ps generalizing d with
  | nil => simp [beh]
  | cons p r ih =>
    simp only [beh, List.length_cons]
    split
    · have := ih (d - p.length); omega
    · omega
theorem len_part (ps : List (List Bool)) (f a : Nat) (h : f ≤ a) : len ps f + ((ps.drop f).take (a - f)).flatten.length = len ps a := by
  unfold len
  rw [← List.length_append, ← List.flatten_append]
  congr 2
  rw [show a = f + (a - f) by omega, List.take_add, show f + (a - f) - f = a - f by omega]
theorem len_le (ps : List (List Bool)) (k : Nat) : len ps k ≤ ps.flatten.length := by
  unfold len
  have : ps.flatten = (ps.take k).flatten ++ (ps.drop k).flatten := by rw [← List.flatten_append, List.take_append_drop]
  rw [this, List.length_append]; omega
theorem part_le (ps : List (List Bool)) (f n : Nat) : ((ps.drop f).take n).flatten.length ≤ ps.flatten.length := by
  have := len_part ps f (f + n) (by omega)
  rw [show f + n - f = n by omega] at this
  have := len_le ps (f + n)
  omega
theorem len_adv (ps : List (List Bool)) (low : Nat) : len ps (adv ps low) ≤ low := by
  induction ps generalizing low with
  | nil => simp [adv, len]
  | cons p r ih =>
    simp only [adv]
    split
    · have := ih (low - p.length)
      unfold len at this ⊢
      rw [List.take_succ_cons, List.flatten_cons, List.length_append]
      omega
    · simp [len]
end Tw
namespace Tw
open PySem PySem.Spec PyProof.Rows L2
theorem pe_gc {X : Cx} {x : Str} {v : V} {pos : Pos} (hg : Gl X x) (h : ∃ u, X.mg x = some u ∧ RelV v u) (hd : (x == ("__debug__" : Str)) = false := by decide) : PE X (.Name x pos) (tC v) := by
  obtain ⟨u, h1, h2⟩ := h
  exact pe_glob hg h1 h2 hd
theorem pe_gl {X : Cx} {x : Str} {a : Addr} {pos : Pos} (hg : Gl X x) (h : X.mg x = some (.ref a)) (hd : (x == ("__debug__" : Str)) = false := by decide) : PE X (.Name x pos) (tC (.ref a)) := pe_glob hg h rfl hd
abbrev D0 (K : PySem.W.Frag) (x q : Str) (s : Stmt) (f : Addr) (fd : FuncData) : Prop := FunD K x q (defArgs s) (defBody s) (defScope s) [] [] f fd
theorem ite_b {c b : Bool} {A B : Prop} (e : c = b) (h1 : b = true → A) (h2 : b = false → B) : if c = true then A else B := by
  subst e
  cases c with
  | true => exact h1 rfl
  | false => exact h2 rfl
theorem ite_d {p : Prop} [Decidable p] {c : Bool} {A B : Prop} (e : c = decide p) (h1 : p → A) (h2 : ¬ p → B) : if c = true then A else B := by
  subst e
  by_cases h : p
  · rw [decide_eq_true h]; exact h1 h
  · rw [decide_eq_false h]; exact h2 h
theorem dec_i (i j : Int) : decide (V.int i = V.int j) = decide (i = j) := by
  by_cases h : i = j
  · subst h; simp
  · rw [decide_eq_false h, decide_eq_false (fun q => h (by cases q; rfl))]
section
variable {P : Program} {w : World} {K : PySem.W.Frag} {mg : Str → Option Value} {base : Heap}
def spSums : Sp := fun vs H Q _ => ∃ bs : List Bool, vs = [.str (T bs)] ∧ ∀ (p : Addr) (m : Int) (H' : Hp), IsLeast bs m → Same H H' → H p = none → H' p = some (.tup [.int (ones bs), .int (ht bs), .int m]) → Q (.ref p) H'
theorem take_more {α : Type} {l : List α} {i : Nat} {z : α} (h : l[i]? = some z) : l.take (i + 1) = l.take i ++ [z] := by
  rw [List.take_add_one, h]
  rfl
abbrev N_sums_of : List Str := ["text", "knots", "whole", "least", "place", "sign"]
theorem sc_sums_of : FnScope N_sums_of ["text"] (defScope s_sums_of) := ⟨rfl, rfl, rfl, by decide +kernel, rfl, by decide +kernel, by decide +kernel⟩
theorem ok_sums_of {f : Addr} {fd : FuncData} (F : D0 K "sums_of" "sums_of" s_sums_of f fd) (Z : Txt K mg) : FnOk P w K mg base (L2.CX P w) 1 f fd ["text"] spSums := by
  refine F.ok sc_sums_of (fun vs H Q E h => ?_) (fun cdv A outer s H vs Q E hr h => ?_)
  · obtain ⟨bs, rfl, _⟩ := h
    rfl
  · obtain ⟨bs, rfl, k⟩ := h
    refine ⟨_, (pss_cons (ps_set (i := 1) sc_sums_of.nd rfl (Or.inl rfl) pe_int)
      (pss_cons (ps_set (i := 2) sc_sums_of.nd rfl (Or.inl rfl) pe_int)
      (pss_cons (ps_set (i := 3) sc_sums_of.nd rfl (Or.inl rfl) pe_int)
      (pss_cons (ps_for (passes_of rfl) rfl (pi_enumS (by rfl) Z.f_enumerate (pa_cons (pv 0) pa_nil)) (pg_tup rfl (pgs_cons (pg_name (i := 4) sc_sums_of.nd rfl (Or.inl rfl)) (pgs_cons (pg_name (i := 5) sc_sums_of.nd rfl (Or.inl rfl)) pgs_nil)))
        (pss_cons (ps_if (pt_cmpR op_eq (pv 5) pe_str (nomark _)) (pss_cons (ps_aug (i := 1) sc_sums_of.nd rfl (Or.inl rfl) pe_int ip_add)
          (pss_one (ps_aug (i := 2) sc_sums_of.nd rfl (Or.inl rfl) pe_int ip_add)))
          (pss_one (ps_aug (i := 2) sc_sums_of.nd rfl (Or.inl rfl) pe_int ip_sub)))
        (pss_one (ps_if (PW.pt (pw_or (pt_cmpR op_eq (pv 4) pe_int (nomark _)) (pw_or1 (pt_cmpR op_lt (pv 2) (pv 3) (nomark _))))) (pss_one (ps_set (i := 3) sc_sums_of.nd rfl (Or.inl rfl) (pv 2)))
          pss_nil))))
      (pss_one (ps_ret (pe_tup (pa_cons (pv 1) (pa_cons (pv 2) (pa_cons (pv 3) pa_nil)))))))))), ?_⟩
    refine ⟨_, rfl, _, rfl, for_enumT (bs := bs) (fun i σ H' => ∃ (v1 v2 : Option V) (m : Int), σ = [some (.str (T bs)), some (.int (ones (bs.take i))), some (.int (ht (bs.take i))), some (.int m), v1, v2] ∧ IsLeast (bs.take i) m ∧ Same H H')
      ⟨none, none, 0, rfl, isLeast_nil, Same.refl H⟩ ?_ ?_⟩
    · rintro i b t σ H1 hb ⟨v1, v2, m, rfl, hm, s1⟩ ht'
      have hl : i < bs.length := (List.getElem?_eq_some_iff.mp hb).1
      have li : (bs.take i).length = i := by rw [List.length_take]; omega
      have e1 := take_more hb
      have hm' := isLeast_snoc (b := b) hm
      rw [← e1, li] at hm'
      have o1 : (ones (bs.take (i + 1)) : Int) = ones (bs.take i) + (if b then 1 else 0) := by
        rw [e1, ones_app]
        cases b <;> simp [ones]
      have o2 : ht (bs.take (i + 1)) = ht (bs.take i) + st b := by
        rw [e1, ht_app]
        simp [ht]
      have s2 := sN (o := .tup [.int (i : Nat), .str ⟨#[sgn b]⟩]) s1 ht'
      refine ⟨_, _, rfl, SqT.of upd_same, rfl, _, _, rfl, _, _, rfl, rfl, ?_⟩
      refine ⟨_, rfl, rfl, _, rfl, ite_b (sign_one b) (fun hb1 => ?_) (fun hb1 => ?_)⟩
      · subst hb1
        refine ⟨_, rfl, _, _, rfl, rfl, _, rfl, _, _, rfl, rfl, ?_⟩
        have o1' : (ones (bs.take i) : Int) + 1 = ones (bs.take (i + 1)) := by rw [o1]; rfl
        have o2' : ht (bs.take i) + 1 = ht (bs.take (i + 1)) := by rw [o2]; rfl
        refine ⟨_, rfl, rfl, _, rfl, ite_d (dec_i _ _) (fun h0 => ?_) (fun h0 => ?_)⟩
        · refine iteT ⟨_, rfl, some (.int (i : Nat)), some (.str ⟨#[sgn true]⟩), _, ?_, hm', s2⟩
          rw [if_pos (.inl (by omega)), ← o1', ← o2']
          rfl
        · refine ⟨_, rfl, _, rfl, _, _, rfl, rfl, _, rfl, ite_d rfl (fun h1 => ?_) (fun h1 => ?_)⟩
          · dsimp only at h1
            refine ⟨_, rfl, some (.int (i : Nat)), some (.str ⟨#[sgn true]⟩), _, ?_, hm', s2⟩
            rw [if_pos (.inr (by rw [← o2']; exact h1)), ← o1', ← o2']
            rfl
          · dsimp only at h1
            refine ⟨some (.int (i : Nat)), some (.str ⟨#[sgn true]⟩), _, ?_, hm', s2⟩
            rw [if_neg (fun q => by rcases q with q | q; exact h0 (by omega); exact h1 (by rw [o2']; exact q)), ← o1', ← o2']
            rfl
      · subst hb1
        refine ⟨_, rfl, _, _, rfl, rfl, ?_⟩
        have o1' : (ones (bs.take i) : Int) = ones (bs.take (i + 1)) := by rw [o1]; simp
        have o2' : ht (bs.take i) - 1 = ht (bs.take (i + 1)) := by rw [o2]; rfl
        refine ⟨_, rfl, rfl, _, rfl, ite_d (dec_i _ _) (fun h0 => ?_) (fun h0 => ?_)⟩
        · refine iteT ⟨_, rfl, some (.int (i : Nat)), some (.str ⟨#[sgn false]⟩), _, ?_, hm', s2⟩
          rw [if_pos (.inl (by omega)), ← o1', ← o2']
          rfl
        · refine ⟨_, rfl, _, rfl, _, _, rfl, rfl, _, rfl, ite_d rfl (fun h1 => ?_) (fun h1 => ?_)⟩
          · dsimp only at h1
            refine ⟨_, rfl, some (.int (i : Nat)), some (.str ⟨#[sgn false]⟩), _, ?_, hm', s2⟩
            rw [if_pos (.inr (by rw [← o2']; exact h1)), ← o1', ← o2']
            rfl
          · dsimp only at h1
            refine ⟨some (.int (i : Nat)), some (.str ⟨#[sgn false]⟩), _, ?_, hm', s2⟩
            rw [if_neg (fun q => by rcases q with q | q; exact h0 (by omega); exact h1 (by rw [o2']; exact q)), ← o1', ← o2']
            rfl
    · rintro σ H1 ⟨v1, v2, m, rfl, hm, s1⟩
      rw [List.take_length] at hm ⊢
      refine ⟨_, rfl, _, rfl, _, rfl, (by show 3 ≤ sizeLine; decide), fun p hp => ?_⟩
      exact k p m _ hm (sN s1 hp) (s1.free hp) upd_same
end
end Tw
namespace Tw
open PySem PySem.Spec PyProof.Rows L2
theorem cutS_T (bs : List Bool) (a b : Nat) : cutS (T bs) (some (a : Int)) (some (b : Int)) = T ((bs.drop a).take (b - a)) := by
  rw [T_cut, HT.sIx_nat, HT.sIx_nat, cut_min]
theorem cutS_low (bs : List Bool) (a : Nat) : cutS (T bs) (some (a : Int)) none = T (bs.drop a) := by
  rw [T_cut, HT.sIx_nat, HT.sIx_none, cut_low]
theorem cutS_high (bs : List Bool) (b : Nat) : cutS (T bs) none (some (b : Int)) = T (bs.take b) := by
  rw [T_cut, HT.sIx_nat, HT.sIx_none, List.drop_zero, Nat.sub_zero, cut_high]
theorem cutV_ab (xs : List V) (a b : Nat) : cutV xs (some (a : Int)) (some (b : Int)) = (xs.drop a).take (b - a) := by
  unfold cutV
  rw [HT.sIx_nat, HT.sIx_nat, cut_min]
theorem cutV_low (xs : List V) (a : Nat) : cutV xs (some (a : Int)) none = xs.drop a := by
  unfold cutV
  rw [HT.sIx_nat, HT.sIx_none, cut_low]
theorem cutV_high (xs : List V) (b : Nat) : cutV xs none (some (b : Int)) = xs.take b := by
  unfold cutV
  rw [HT.sIx_nat, HT.sIx_none, List.drop_zero, Nat.sub_zero, cut_high]
abbrev txs (ps : List (List Bool)) : List V := ps.map fun b => V.str (T b)
theorem txs_str (ps : List (List Bool)) : txs ps = (ps.map T).map V.str := by simp [txs]
theorem txs_at {ps : List (List Bool)} {i : Nat} {p : List Bool} (h : ps[i]? = some p) : (txs ps)[i]? = some (.str (T p)) := by simp [txs, h]
section
variable {P : Program} {w : World} {K : PySem.W.Frag} {mg : Str → Option Value} {base : Heap}
def spTops : Sp := fun vs H Q _ => ∃ (bs : List Bool) (f : Int), vs = [.str (T bs), .int f] ∧ bs.length ≤ 100000 ∧ ∀ (p : Addr) (H' : Hp) (ns : List Int), Same H H' → H p = none → H' p = some (.lst (ns.map V.int)) → ns.length = tops 0 bs → Q (.ref p) H'
abbrev N_tops_in : List Str := ["text", "first", "found", "height", "sign"]
theorem sc_tops_in : FnScope N_tops_in ["text", "first"] (defScope s_tops_in) := ⟨rfl, rfl, rfl, by decide +kernel, rfl, by decide +kernel, by decide +kernel⟩
theorem ok_tops_in {f : Addr} {fd : FuncData} (F : D0 K "tops_in" "tops_in" s_tops_in f fd) (Z : Txt K mg) : FnOk P w K mg base (L2.CX P w) 1 f fd ["text", "first"] spTops := by
  refine F.ok sc_tops_in (fun vs H Q E h => ?_) (fun cdv A outer s H vs Q E hr h => ?_)
  · obtain ⟨bs, f, rfl, _⟩ := h
    rfl
  · obtain ⟨bs, f0, rfl, hz, k⟩ := h
    refine ⟨_, (pss_cons (ps_set (i := 2) sc_tops_in.nd rfl (Or.inl rfl) (pe_lst pa_nil))
      (pss_cons (ps_set (i := 3) sc_tops_in.nd rfl (Or.inl rfl) pe_int)
      (pss_cons (ps_for (passes_of rfl) rfl (pi_str (pv 0)) (pg_name (i := 4) sc_tops_in.nd rfl (Or.inl rfl))
        (pss_one (ps_if (pt_cmpR op_eq (pv 4) pe_str (nomark _)) (pss_cons (ps_if (pt_cmpR op_eq (pv 3) pe_int (nomark _)) (pss_one (ps_expr (pe_bm PySem.F.plainAttrs_list PySem.F.slot_list_append PySem.F.type_list_append mt_append (pv 2) (pa_cons (pv 1) pa_nil))))
            pss_nil)
          (pss_cons (ps_aug (i := 1) sc_tops_in.nd rfl (Or.inl rfl) pe_int ip_add)
          (pss_one (ps_aug (i := 3) sc_tops_in.nd rfl (Or.inl rfl) pe_int ip_add))))
          (pss_one (ps_aug (i := 3) sc_tops_in.nd rfl (Or.inl rfl) pe_int ip_sub)))))
      (pss_one (ps_ret (pv 2)))))), ?_⟩
    refine ⟨by show 0 ≤ sizeLine; decide, fun p hp => ?_⟩
    refine ⟨_, rfl, _, rfl, for_strT (bs := bs) (fun i σ H' => ∃ (v1 : Option V) (f : Int) (ns : List Int), σ = [some (.str (T bs)), some (.int f), some (.ref p), some (.int (ht (bs.take i))), v1] ∧ H' p = some (.lst (ns.map V.int)) ∧ ns.length = tops 0 (bs.take i) ∧ Same H H')
      ⟨none, f0, [], rfl, upd_same, rfl, same_new hp⟩ ?_ ?_⟩
    · rintro i b σ H1 hb ⟨v1, f, ns, rfl, hl, hn, s1⟩
      have e1 := take_more hb
      have t1 := tops_snoc (bs.take i) b
      rw [← e1] at t1
      have o2 : ht (bs.take (i + 1)) = ht (bs.take i) + st b := by
        rw [e1, ht_app]
        simp [ht]
      have hc : tops 0 (bs.take i) ≤ 100000 := by
        have := tops_le (bs.take i) 0
        rw [List.length_take] at this
        omega
      refine ⟨_, rfl, rfl, _, rfl, ite_b (sign_one b) (fun hb1 => ?_) (fun hb1 => ?_)⟩
      · subst hb1
        refine ⟨_, rfl, rfl, _, rfl, ite_d (dec_i _ _) (fun h0 => ?_) (fun h0 => ?_)⟩
        · refine ⟨_, rfl, .inl ⟨rfl, _, SqL.of hl⟩, _, rfl, p, _, _, rfl, rfl, hl, sz2 (by rw [List.length_map]; omega), ?_⟩
          refine ⟨_, rfl, _, _, rfl, rfl, _, rfl, _, _, rfl, rfl, ?_⟩
          refine ⟨some (.str ⟨#[sgn true]⟩), f + 1, ns ++ [f], ?_, ?_, ?_, sM s1 hp⟩
          · rw [o2]; rfl
          · rw [upd_same, List.map_append]; rfl
          · rw [t1, if_pos ⟨rfl, h0⟩, List.length_append, hn]; rfl
        · refine ⟨_, rfl, _, _, rfl, rfl, _, rfl, _, _, rfl, rfl, ?_⟩
          refine ⟨some (.str ⟨#[sgn true]⟩), f + 1, ns, ?_, hl, ?_, s1⟩
          · rw [o2]; rfl
          · rw [t1, if_neg (fun q => h0 q.2), hn]; rfl
      · subst hb1
        refine ⟨_, rfl, _, _, rfl, rfl, ?_⟩
        refine ⟨some (.str ⟨#[sgn false]⟩), f, ns, ?_, hl, ?_, s1⟩
        · rw [o2]; rfl
        · rw [t1, if_neg (fun q => Bool.noConfusion q.1), hn]; rfl
    · rintro σ H1 ⟨v1, f, ns, rfl, hl, hn, s1⟩
      rw [List.take_length] at hn
      exact ⟨_, rfl, k p _ ns s1 hp hl hn⟩
def spCutE : Sp := fun vs H Q _ => ∃ bs : List Bool, vs = [.str (T bs)] ∧ bs.length ≤ 100000 ∧ ∀ (p : Addr) (H' : Hp), Same H H' → H p = none → H' p = some (.lst (txs (cutEv bs))) → Q (.ref p) H'
abbrev N_cut_evenly : List Str := ["text", "many", "found", "k"]
theorem sc_cut_evenly : FnScope N_cut_evenly ["text"] (defScope s_cut_evenly) := ⟨rfl, rfl, rfl, by decide +kernel, rfl, by decide +kernel, by decide +kernel⟩
theorem ok_cut_evenly {f : Addr} {fd : FuncData} (F : D0 K "cut_evenly" "cut_evenly" s_cut_evenly f fd) (Z : Txt K mg) : FnOk P w K mg base (L2.CX P w) 1 f fd ["text"] spCutE := by
  refine F.ok sc_cut_evenly (fun vs H Q E h => ?_) (fun cdv A outer s H vs Q E hr h => ?_)
  · obtain ⟨bs, rfl, _⟩ := h
    rfl
  · obtain ⟨bs, rfl, hz, k⟩ := h
    refine ⟨_, (pss_cons (ps_set (i := 1) sc_cut_evenly.nd rfl (Or.inl rfl) (pe_op op_fdiv (pe_op op_sub (pe_op op_add (pe_callB call_len (by rfl) Z.f_len PySem.boot_len (pa_cons (pv 0) pa_nil)) (pe_gc rfl Z.i_MOST_pieces)) pe_int) (pe_gc rfl Z.i_MOST_pieces)))
      (pss_cons (ps_set (i := 2) sc_cut_evenly.nd rfl (Or.inl rfl) (pe_lst pa_nil))
      (pss_cons (ps_for (passes_of rfl) rfl (pi_range1 (by rfl) Z.f_range (pa_cons (pv 1) pa_nil)) (pg_name (i := 3) sc_cut_evenly.nd rfl (Or.inl rfl))
        (pss_one (ps_expr (pe_bm PySem.F.plainAttrs_list PySem.F.slot_list_append PySem.F.type_list_append mt_append (pv 2) (pa_cons (pe_slice sl_str (pv 0) (po_some (pe_op op_fdiv (pe_op op_mul (pe_callB call_len (by rfl) Z.f_len PySem.boot_len (pa_cons (pv 0) pa_nil)) (pv 3)) (pv 1))) (po_some (pe_op op_fdiv (pe_op op_mul (pe_callB call_len (by rfl) Z.f_len PySem.boot_len (pa_cons (pv 0) pa_nil)) (pe_op op_add (pv 3) pe_int)) (pv 1)))) pa_nil)))))
      (pss_one (ps_ret (pv 2)))))), ?_⟩
    have hln : (T bs).length ≤ sizeLine := by rw [T_length]; exact sz1 (by omega)
    have em : ((T bs).length + 128 - 1 : Int) / 128 = (manyP bs.length : Nat) := by
      rw [T_length]; unfold manyP; omega
    have hm : manyP bs.length ≤ 100000 := by unfold manyP; omega
    refine ⟨_, rfl, _, _, rfl, ⟨hln, rfl⟩, _, _, rfl, rfl, _, _, rfl, rfl, _, _, rfl, rfl, ⟨by decide, by decide⟩, ?_⟩
    refine ⟨by show 0 ≤ sizeLine; decide, fun p hp => ?_⟩
    refine ⟨_, rfl, ((T bs).length + 128 - 1 : Int) / 128, rfl, by rw [em]; omega, by rw [em]; omega, for_range (lo := 0) (n := (((T bs).length + 128 - 1 : Int) / 128).toNat)
      (fun i σ H' => ∃ v1 : Option V, σ = [some (.str (T bs)), some (.int (((T bs).length + 128 - 1 : Int) / 128)), some (.ref p), v1] ∧ H' p = some (.lst (txs ((List.range i).map fun k => (bs.drop (bs.length * k / manyP bs.length)).take (bs.length * (k + 1) / manyP bs.length - bs.length * k / manyP bs.length)))) ∧ Same H H')
      ⟨none, rfl, upd_same, same_new hp⟩ ?_ ?_⟩
    · rintro i σ H1 hi ⟨v1, rfl, hl, s1⟩
      rw [em, Int.toNat_natCast] at hi
      have hm0 : 0 < manyP bs.length := by omega
      have q1 : ((T bs).length * (0 + (i : Int))) / (((T bs).length + 128 - 1 : Int) / 128) = ((bs.length * i / manyP bs.length : Nat) : Int) := by
        rw [em, T_length]
        rw [show (bs.length : Int) * (0 + (i : Int)) = ((bs.length * i : Nat) : Int) by rw [Int.natCast_mul]; congr 1; omega]
        exact (Int.natCast_ediv _ _).symm
      have q2 : ((T bs).length * (0 + (i : Int) + 1)) / (((T bs).length + 128 - 1 : Int) / 128) = ((bs.length * (i + 1) / manyP bs.length : Nat) : Int) := by
        rw [em, T_length]
        rw [show (bs.length : Int) * (0 + (i : Int) + 1) = ((bs.length * (i + 1) : Nat) : Int) by rw [Int.natCast_mul]; congr 1; omega]
        exact (Int.natCast_ediv _ _).symm
      have cm : CMul ((T bs).length : Int) (0 + (i : Int)) := .inl ⟨by omega, by rw [T_length]; omega⟩
      have cm2 : CMul ((T bs).length : Int) (0 + (i : Int) + 1) := .inl ⟨by omega, by rw [T_length]; omega⟩
      have cd : (0 : Int) < ((T bs).length + 128 - 1 : Int) / 128 ∧ ((T bs).length + 128 - 1 : Int) / 128 < 1073741824 := by rw [em]; omega
      refine ⟨_, rfl, .inl ⟨rfl, _, SqL.of hl⟩, _, rfl, _, rfl, _, _, rfl, ⟨hln, rfl⟩, _, rfl, _, _, rfl, rfl, cm, _, rfl, _, _, rfl, rfl, cd, _, rfl,
        _, rfl, _, _, rfl, ⟨hln, rfl⟩, _, rfl, _, _, rfl, rfl, _, _, rfl, rfl, cm2, _, rfl, _, _, rfl, rfl, cd, _, rfl, _, rfl, hln, p, _, _, rfl, rfl, hl, sz2 (by simp; omega), ?_⟩
      refine ⟨some (.int (0 + (i : Int))), rfl, ?_, sM s1 hp⟩
      rw [upd_same, q1, q2, cutS_T, List.range_succ, List.map_append, txs, txs, List.map_append]
      rfl
    · rintro σ H1 ⟨v1, rfl, hl, s1⟩
      rw [em, Int.toNat_natCast] at hl
      exact ⟨_, rfl, k p _ s1 hp hl⟩
end
end Tw
namespace Tw
open PySem PySem.Spec PyProof.Rows L2
theorem atI_n {α : Type} {xs : List α} {k : Nat} {v : α} (h : xs[k]? = some v) : atI xs (k : Int) = some v := by
  have hk : k < xs.length := (List.getElem?_eq_some_iff.mp h).1
  unfold atI ixN
  rw [if_pos (Int.natCast_nonneg k), if_pos (by omega)]
  exact h
section
variable {P : Program} {w : World} {K : PySem.W.Frag} {mg : Str → Option Value} {base : Heap}
theorem joinL {K : PySem.W.Frag} {H : Hp} {p : Addr} {ps : List (List Bool)} (h : SqL K H p (txs ps)) : SqL K H p ((ps.map T).map V.str) := by
  rw [← txs_str]; exact h
theorem joinN {ps : List (List Bool)} (hl : ps.flatten.length ≤ 100000) : ((ps.map T).map (·.length)).sum + (ps.map T).length * ("" : Str).length ≤ 16777216 := by
  rw [T_joinLen]
  have e : ("" : Str).length = 0 := by decide +kernel
  rw [e]
  omega
theorem cutEv_length (bs : List Bool) : (cutEv bs).length ≤ bs.length + 127 := by
  unfold cutEv manyP
  rw [List.length_map, List.length_range]
  omega
def spPut : Sp := fun vs H Q _ => ∃ (a : Addr) (ps : List (List Bool)) (low high : Nat) (tx : List Bool), vs = [.ref a, .int low, .int high, .str (T tx)] ∧ H a = some (.lst (txs ps)) ∧ low ≤ high ∧ ps.length ≤ 50000 ∧ ps.flatten.length ≤ 50000 ∧ tx.length ≤ 50000 ∧
  ∀ (p : Addr) (H' : Hp), Same H H' → H p = none → H' p = some (.lst (txs (putFor ps low high tx))) → Q (.ref p) H'
abbrev N_put_for : List Str := ["pieces", "low", "high", "text", "ahead", "begin", "behind", "end", "first", "amid"]
theorem sc_put_for : FnScope N_put_for ["pieces", "low", "high", "text"] (defScope s_put_for) := ⟨rfl, rfl, rfl, by decide +kernel, rfl, by decide +kernel, by decide +kernel⟩
theorem ok_put_for {f : Addr} {fd : FuncData} (F : D0 K "put_for" "put_for" s_put_for f fd) (Z : Txt K mg) (c_cut_evenly : Cal P w K mg base 1 "cut_evenly" ["text"] spCutE) : FnOk P w K mg base (L2.CX P w) 2 f fd ["pieces", "low", "high", "text"] spPut := by
  refine F.ok sc_put_for (fun vs H Q E h => ?_) (fun cdv A outer s H vs Q E hr h => ?_)
  · obtain ⟨a, ps, low, high, tx, rfl, _⟩ := h
    rfl
  · obtain ⟨a, ps, low, high, tx, rfl, ha, hlh, hpl, hpf, htl, k⟩ := h
    refine ⟨_, (pss_cons (ps_set (i := 4) sc_put_for.nd rfl (Or.inl rfl) pe_int)
      (pss_cons (ps_set (i := 5) sc_put_for.nd rfl (Or.inl rfl) pe_int)
      (C8.pss_cut (ps_while (passes_of rfl) (PW.pt (pw_and (pt_cmpR op_lt (pv 4) (pe_callB call_len (by rfl) Z.f_len PySem.boot_len (pa_cons (pv 0) pa_nil)) (nomark _)) (pw_and1 (pt_cmpR op_le (pe_op op_add (pv 5) (pe_callB call_len (by rfl) Z.f_len PySem.boot_len (pa_cons (pe_ix ix_list (pv 0) (pv 4) (fun _ _ => rfl)) pa_nil))) (pv 1) (nomark _)))))
        (pss_cons (ps_aug (i := 5) sc_put_for.nd rfl (Or.inl rfl) (pe_callB call_len (by rfl) Z.f_len PySem.boot_len (pa_cons (pe_ix ix_list (pv 0) (pv 4) (fun _ _ => rfl)) pa_nil)) ip_add)
        (pss_one (ps_aug (i := 4) sc_put_for.nd rfl (Or.inl rfl) pe_int ip_add))))
      (pss_cons (ps_set (i := 6) sc_put_for.nd rfl (Or.inl rfl) (pv 4))
      (pss_cons (ps_set (i := 7) sc_put_for.nd rfl (Or.inl rfl) (pv 5))
      (C8.pss_cut (ps_while (passes_of rfl) (PW.pt (pw_and (pt_cmpR op_lt (pv 6) (pe_callB call_len (by rfl) Z.f_len PySem.boot_len (pa_cons (pv 0) pa_nil)) (nomark _)) (pw_and1 (pt_cmpR op_lt (pv 7) (pv 2) (nomark _)))))
        (pss_cons (ps_aug (i := 7) sc_put_for.nd rfl (Or.inl rfl) (pe_callB call_len (by rfl) Z.f_len PySem.boot_len (pa_cons (pe_ix ix_list (pv 0) (pv 6) (fun _ _ => rfl)) pa_nil)) ip_add)
        (pss_one (ps_aug (i := 6) sc_put_for.nd rfl (Or.inl rfl) pe_int ip_add))))
      (pss_cons (ps_set (i := 8) sc_put_for.nd rfl (Or.inl rfl) (pe_callB (call_max2 rfl) (by rfl) Z.f_max (by decide +kernel) (pa_cons pe_int (pa_cons (pe_op op_sub (pv 4) pe_int) pa_nil))))
      (pss_cons (ps_aug (i := 5) sc_put_for.nd rfl (Or.inl rfl) (pe_callB call_len (by rfl) Z.f_len PySem.boot_len (pa_cons (pe_join pe_str (pe_slice sl_list (pv 0) (po_some (pv 8)) (po_some (pv 4)))) pa_nil)) ip_sub)
      (pss_cons (ps_set (i := 9) sc_put_for.nd rfl (Or.inl rfl) (pe_join pe_str (pe_slice sl_list (pv 0) (po_some (pv 8)) (po_some (pe_op op_add (pv 6) pe_int)))))
      (pss_cons (ps_set (i := 9) sc_put_for.nd rfl (Or.inl rfl) (pe_op op_add_str (pe_op op_add_str (pe_slice sl_str (pv 9) po_none (po_some (pe_op op_sub (pv 1) (pv 5)))) (pv 3)) (pe_slice sl_str (pv 9) (po_some (pe_op op_sub (pv 2) (pv 5))) po_none)))
      (pss_one (ps_ret (pe_op op_cat (pe_op op_cat (pe_slice sl_list (pv 0) po_none (po_some (pv 8))) (pe_c c_cut_evenly hr (takes_of rfl rfl rfl rfl) (pa_cons (pv 9) pa_nil))) (pe_slice sl_list (pv 0) (po_some (pe_op op_add (pv 6) pe_int)) po_none)))))))))))))), ?_⟩
    have hL : LenV K (.ref a) H ps.length := .inl ⟨_, SqL.of ha, by simp [txs]⟩
    have hP : ∀ {i : Nat} {p : List Bool}, ps[i]? = some p → (T p).length ≤ sizeLine := fun {i p} hp => by
      have h1 := len_succ hp
      have h2 := len_le ps (i + 1)
      exact sz1 (by rw [T_length]; omega)
    refine ⟨fun σ H' => σ = [some (.ref a), some (.int low), some (.int high), some (.str (T tx)), some (.int (adv ps low : Nat)), some (.int (len ps (adv ps low) : Nat)), none, none, none, none] ∧ H' = H, ?_, ?_⟩
    · refine ⟨fun m σ H' => ∃ i : Nat, m = ps.length - i ∧ i ≤ ps.length ∧ i + adv (ps.drop i) (low - len ps i) = adv ps low ∧ len ps i ≤ low ∧ σ = [some (.ref a), some (.int low), some (.int high), some (.str (T tx)), some (.int (i : Nat)), some (.int (len ps i : Nat)), none, none, none, none] ∧ H' = H,
        ⟨_, 0, rfl, Nat.zero_le _, by simp [len], Nat.zero_le _, rfl, rfl⟩, ?_⟩
      rintro m σ H1 ⟨i, rfl, hi, he, hle, rfl, rfl⟩
      refine ⟨_, rfl, _, rfl, _, _, rfl, hL, _, _, rfl, rfl, _, rfl, ite_d rfl (fun h1 => ?_) (fun h1 => ?_)⟩
      · have hlt : i < ps.length := by omega
        obtain ⟨p, hp⟩ : ∃ p, ps[i]? = some p := ⟨_, List.getElem?_eq_getElem hlt⟩
        have hd := drop_cons hp
        have hs := len_succ hp
        rw [hd] at he
        refine ⟨_, rfl, _, rfl, _, rfl, a, _, _, _, rfl, rfl, SqL.of ha, atI_n (txs_at hp), _, _, rfl, ⟨hP hp, rfl⟩, _, _, rfl, rfl, _, rfl, _, _, rfl, rfl, _, rfl, ite_d rfl (fun h2 => ?_) (fun h2 => ?_)⟩
        · try dsimp only at h2
          rw [T_length] at h2
          simp only [adv] at he
          rw [if_pos (by omega)] at he
          refine ⟨_, fun σ' H' z => z, ?_⟩
          refine ⟨_, rfl, _, rfl, _, rfl, a, _, _, _, rfl, rfl, SqL.of ha, atI_n (txs_at hp), _, _, rfl, ⟨hP hp, rfl⟩, _, _, rfl, rfl, _, rfl, _, _, rfl, rfl, ps.length - (i + 1), by omega, i + 1, rfl, hlt, ?_, by omega, ?_, rfl⟩
          · rw [hs, show low - (len ps i + p.length) = low - len ps i - p.length by omega]
            omega
          · dsimp only
            rw [hs, T_length]
            rfl
        · try dsimp only at h2
          rw [T_length] at h2
          simp only [adv] at he
          rw [if_neg (by omega)] at he
          have e : i = adv ps low := by omega
          subst e
          exact ⟨rfl, rfl⟩
      · have e : i = ps.length := by omega
        subst e
        rw [List.drop_of_length_le (Nat.le_refl _)] at he
        simp only [adv] at he
        rw [Nat.add_zero] at he
        exact ⟨by rw [← he], rfl⟩
    · rintro σ H1 ⟨rfl, rfl⟩
      have A0 := adv_le ps low
      have L0 := len_le ps (adv ps low)
      refine ⟨_, rfl, _, rfl, ?_⟩
      refine ⟨fun σ H' => σ = [some (.ref a), some (.int low), some (.int high), some (.str (T tx)), some (.int (adv ps low : Nat)), some (.int (len ps (adv ps low) : Nat)), some (.int (adv ps low + beh (ps.drop (adv ps low)) (high - len ps (adv ps low)) : Nat)), some (.int (len ps (adv ps low + beh (ps.drop (adv ps low)) (high - len ps (adv ps low))) : Nat)), none, none] ∧ H' = H1, ?_, ?_⟩
      · refine ⟨fun m σ H' => ∃ i : Nat, m = ps.length - i ∧ adv ps low ≤ i ∧ i ≤ ps.length ∧ i + beh (ps.drop i) (high - len ps i) = adv ps low + beh (ps.drop (adv ps low)) (high - len ps (adv ps low)) ∧ σ = [some (.ref a), some (.int low), some (.int high), some (.str (T tx)), some (.int (adv ps low : Nat)), some (.int (len ps (adv ps low) : Nat)), some (.int (i : Nat)), some (.int (len ps i : Nat)), none, none] ∧ H' = H1,
          ⟨_, _, rfl, Nat.le_refl _, A0, rfl, rfl, rfl⟩, ?_⟩
        rintro m σ H2 ⟨i, rfl, hai, hi, he, rfl, rfl⟩
        refine ⟨_, rfl, _, rfl, _, _, rfl, hL, _, _, rfl, rfl, _, rfl, ite_d rfl (fun h1 => ?_) (fun h1 => ?_)⟩
        · have hlt : i < ps.length := by omega
          obtain ⟨p, hp⟩ : ∃ p, ps[i]? = some p := ⟨_, List.getElem?_eq_getElem hlt⟩
          have hd := drop_cons hp
          have hs := len_succ hp
          rw [hd] at he
          simp only [beh] at he
          refine ⟨_, rfl, _, rfl, _, _, rfl, rfl, _, rfl, ite_d rfl (fun h2 => ?_) (fun h2 => ?_)⟩
          · rw [if_pos (by omega)] at he
            refine ⟨_, fun σ' H' z => z, ?_⟩
            refine ⟨_, rfl, _, rfl, _, rfl, a, _, _, _, rfl, rfl, SqL.of ha, atI_n (txs_at hp), _, _, rfl, ⟨hP hp, rfl⟩, _, _, rfl, rfl, _, rfl, _, _, rfl, rfl, ps.length - (i + 1), by omega, i + 1, rfl, by omega, hlt, ?_, ?_, rfl⟩
            · rw [hs, show high - (len ps i + p.length) = high - len ps i - p.length by omega]
              omega
            · rw [hs, T_length]
              rfl
          · rw [if_neg (by omega)] at he
            have e : i = adv ps low + beh (ps.drop (adv ps low)) (high - len ps (adv ps low)) := by omega
            rw [← e]
            exact ⟨rfl, rfl⟩
        · have e : i = ps.length := by omega
          rw [List.drop_of_length_le (by omega)] at he
          simp only [beh] at he
          rw [Nat.add_zero] at he
          rw [← he]
          exact ⟨rfl, rfl⟩
      · rintro σ H2 ⟨rfl, rfl⟩
        have hp1 := part_le ps (adv ps low - 2) (adv ps low - (adv ps low - 2))
        have hp2 := len_part ps (adv ps low - 2) (adv ps low) (by omega)
        have e1 : ((if (adv ps low : Nat) - (2 : Int) > 0 then (adv ps low : Nat) - (2 : Int) else 0) : Int) = ((adv ps low - 2 : Nat) : Int) := by split <;> omega
        refine ⟨_, rfl, _, _, rfl, rfl, _, _, rfl, ?_⟩
        have cutA : ∀ x y : Nat, cutV (txs ps) (some (x : Int)) (some (y : Int)) = txs ((ps.drop x).take (y - x)) := fun x y => by
          rw [cutV_ab]; simp [txs]
        generalize hfst : adv ps low - 2 = fst at hp1 hp2 e1
        generalize hB : adv ps low + beh (ps.drop (adv ps low)) (high - len ps (adv ps low)) = B
        refine ⟨_, rfl, ⟨_, rfl⟩, _, rfl, _, rfl, _, rfl, _, rfl, _, rfl, a, _, rfl, SqL.of ha, fun p1 hp1n => ?_⟩
        rw [e1, cutA]
        have s1 := same_new (o := .lst (txs ((ps.drop fst).take (adv ps low - fst)))) hp1n
        refine ⟨_, _, ((ps.drop fst).take (adv ps low - fst)).map T, rfl, rfl, .inl (joinL (SqL.of upd_same)), joinN (by omega), ?_⟩
        rw [T_join]
        refine ⟨_, _, rfl, ⟨sz1 (by rw [T_length]; omega), rfl⟩, _, _, rfl, rfl, ?_⟩
        dsimp only
        rw [T_length, show (len ps (adv ps low) : Int) - ((((ps.drop fst).take (adv ps low - fst)).flatten.length : Nat) : Int) = (len ps fst : Nat) by omega]
        have hp3 := part_le ps fst (B + 2 - fst)
        have hA : fst ≤ adv ps low := by omega
        have hf0 := len_le ps fst
        refine ⟨⟨_, rfl⟩, _, rfl, _, rfl, _, rfl, _, rfl, _, _, rfl, rfl, _, rfl, a, _, rfl, SqL.of (s1 _ _ ha), fun p2 hp2n => ?_⟩
        rw [show ((B : Int) + 2) = ((B + 2 : Nat) : Int) from rfl, cutA]
        have s2 := sN (o := .lst (txs ((ps.drop fst).take (B + 2 - fst)))) s1 hp2n
        refine ⟨_, _, ((ps.drop fst).take (B + 2 - fst)).map T, rfl, rfl, .inl (joinL (SqL.of upd_same)), joinN (by omega), ?_⟩
        rw [T_join]
        generalize hamid : ((ps.drop fst).take (B + 2 - fst)).flatten = amid at hp3
        have hlow : len ps fst ≤ low := by
          have := len_adv ps low
          omega
        refine ⟨_, rfl, _, rfl, _, rfl, _, _, rfl, rfl, _, rfl, _, rfl, sz1 (by rw [T_length]; omega), ?_⟩
        rw [show (low : Int) - (len ps fst : Nat) = ((low - len ps fst : Nat) : Int) by omega, cutS_high]
        refine ⟨_, rfl, _, _, rfl, rfl, by rw [T_length, T_length, List.length_take]; exact sz1 (by omega), ?_⟩
        rw [T_app]
        refine ⟨_, rfl, _, rfl, _, rfl, _, _, rfl, rfl, _, rfl, _, rfl, sz1 (by rw [T_length]; omega), ?_⟩
        rw [show (high : Int) - (len ps fst : Nat) = ((high - len ps fst : Nat) : Int) by omega, cutS_low]
        refine ⟨_, _, rfl, rfl, by rw [T_length, T_length, List.length_append, List.length_take, List.length_drop]; exact sz1 (by omega), ?_⟩
        rw [T_app]
        refine ⟨_, rfl, _, rfl, _, rfl, a, _, rfl, SqL.of (s2 _ _ ha), fun p3 hp3n => ?_⟩
        have s3 := sN (o := .lst (cutV (txs ps) none (some (fst : Int)))) s2 hp3n
        refine ⟨_, rfl, _, rfl, ?_, fun p4 H4 s4 hp4 hl4 => ?_⟩
        · rw [List.length_append, List.length_append, List.length_take, List.length_drop]; omega
        refine ⟨_, _, _, _, rfl, rfl, s4 _ _ upd_same, hl4, ?_, fun p5 hp5n => ?_⟩
        · rw [cutV_high]
          refine sz1 ?_
          rw [List.length_take, txs, txs, List.length_map, List.length_map]
          have hcl := cutEv_length (amid.take (low - len ps fst) ++ tx ++ amid.drop (high - len ps fst))
          rw [List.length_append, List.length_append, List.length_take, List.length_drop] at hcl
          omega
        have s5 := (s2.trans (same_new hp3n)).trans s4
        have s6 := sN (o := .lst (cutV (txs ps) none (some (fst : Int)) ++ txs (cutEv (amid.take (low - len ps fst) ++ tx ++ amid.drop (high - len ps fst))))) s5 hp5n
        refine ⟨_, rfl, _, rfl, _, _, rfl, rfl, _, rfl, a, _, rfl, SqL.of (s6 _ _ ha), fun p6 hp6n => ?_⟩
        have s7 := sN (o := .lst (cutV (txs ps) (some ((B : Int) + 2)) none)) s6 hp6n
        refine ⟨_, _, _, _, rfl, rfl, same_new hp6n _ _ upd_same, upd_same, ?_, fun p7 hp7n => ?_⟩
        · rw [show ((B : Int) + 2) = ((B + 2 : Nat) : Int) from rfl, cutV_low, cutV_high]
          refine sz1 ?_
          rw [List.length_append, List.length_take, List.length_drop, txs, txs, List.length_map, List.length_map]
          have hcl := cutEv_length (amid.take (low - len ps fst) ++ tx ++ amid.drop (high - len ps fst))
          rw [List.length_append, List.length_append, List.length_take, List.length_drop] at hcl
          omega
        refine k p7 _ (sN s7 hp7n) (s7.free hp7n) ?_
        rw [upd_same, show ((B : Int) + 2) = ((B + 2 : Nat) : Int) from rfl, cutV_low, cutV_high]
        unfold putFor
        dsimp only
        rw [hfst, hB, hamid]
        simp [txs]
end
end Tw
namespace Tw
open PySem PySem.Spec PyProof.Rows L2
theorem ite_n {p : Prop} [Decidable p] {c : Bool} {A B : Prop} (e : c = !decide p) (h1 : ¬ p → A) (h2 : p → B) : if c = true then A else B := by
  subst e
  by_cases h : p
  · rw [decide_eq_true h]; exact h2 h
  · rw [decide_eq_false h]; exact h1 h
theorem ndec_i (i j : Int) : (!decide (V.int i = V.int j)) = !decide (i = j) := by rw [dec_i]
theorem pss_dead {X : Cx} {ss : List Stmt} : PSs X ss (fun _ _ _ => False) := ⟨fun _ _ _ _ _ _ h => h.elim⟩
theorem pmk_err {X : Cx} {x m : Str} {j : Nat} {p p2 pos : Pos} {C : Addr} (e : PySem.W.excIn X.K C He.veBase "ValueError.__new__" = true ∧ PySem.W.keepIn X.K (.ref C) = true ∧ PySem.W.subIn X.K (.ref C) (.type "BaseException") = some true ∧ PySem.W.typeIn X.K (.ref C) = some (.type "type"))
    (g : X.mg x = some (.ref C)) (hg : Gl X x := by rfl) (hdb : (x == ("__debug__" : Str)) = false := by decide) : PMk X (.Call (.Name x p) [.Constant (.str m) j p2] [] pos) (fun _ H Q => Q (.ref C) none H) :=
  pmk_own PySem.F.excBase_ValueError e.1 g e.2.1 (raises_own e.2.2.1 e.2.2.2) hg hdb
def ErrAt (e : ErrK) (d : Option Addr) (H : Hp) : Prop := match e with
  | .wood z => ∃ dd, d = some dd ∧ H dd = some (.xd [("place", .int z)])
  | _ => d = none
section
variable {P : Program} {w : World} {K : PySem.W.Frag} {mg : Str → Option Value} {base : Heap}
theorem Txt.oex (Z : Txt K mg) : OexC K (He.ga K "NoWood") := ⟨Z.nw.cls, Z.nw.sa, (Z.exc (.wood 0)).hs, Z.nw.ty, Z.nw.kp⟩
def spNwI (K : PySem.W.Frag) : Sp := fun vs H Q _ => ∃ a z, vs = [.ref a, z] ∧ H a = some (exo a (He.ga K "NoWood") none) ∧ ∀ dx, H dx = none → dx ≠ a → Q .non (upd (upd H dx (exd dx [("place", z)])) a (exo a (He.ga K "NoWood") (some dx)))
abbrev N_NoWood_init : List Str := ["self", "place"]
theorem sc_NoWood_init : FnScope N_NoWood_init ["self", "place"] (defScope s_NoWood_init) := ⟨rfl, rfl, rfl, by decide +kernel, rfl, by decide +kernel, by decide +kernel⟩
theorem ok_NoWood_init {f : Addr} {fd : FuncData} (F : D0 K "__init__" "NoWood.__init__" s_NoWood_init f fd) (Z : Txt K mg) : FnOk P w K mg base (L2.CX P w) 1 f fd ["self", "place"] (spNwI K) := by
  refine F.ok sc_NoWood_init (fun vs H Q E h => ?_) (fun cdv A outer s H vs Q E hr h => ?_)
  · obtain ⟨a, z, rfl, _⟩ := h
    rfl
  · obtain ⟨a, z, rfl, ha, k⟩ := h
    refine ⟨_, (pss_cons (ps_expr (pe_owninit rfl Z.g_WoodError Z.nw.wg Z.nw.wr Z.nw.wi (pa_cons (pv 0) (pa_cons pe_str pa_nil))))
      (pss_one (ps_ost (pv 0) (pv 1) rfl))), ?_⟩
    refine ⟨_, rfl, a, _, _, rfl, by decide, Z.oex, ha, ?_⟩
    exact ⟨_, rfl, _, rfl, a, _, rfl, Z.oex, Z.nw.np, .inl ⟨ha, fun dx h1 h2 => k dx h1 h2⟩⟩
theorem pmk_nw {X : Cx} {k : Nat} {e : Expr} {es : List Expr} {ta : TA} {p pos : Pos} (Z : Txt X.K X.mg) (n_w : Mtd X.prog X.w X.K X.mg X.base 1 (He.ga X.K "NoWood") "__init__" ["self", "place"] (spNwI X.K)) (hr : Room k X.A) (ha : PA X (e :: es) ta) (hk : 2 ≤ k := by decide) (hg : Gl X "NoWood" := by rfl)
    (he : starEach (e :: es) X.env = (false, eval e X.env) :: starEach es X.env := by rfl) (hpl : (backTo pos (starEach es X.env)).any (·.1) = false := by rfl) :
    PMk X (.Call (.Name "NoWood" p) (e :: es) [] pos) (tMkO (He.ga X.K "NoWood") (spNwI X.K) [] ta) := by
  obtain ⟨f, fd, hm, F, b⟩ := n_w.ex
  exact pmk_oex Z.oex hm.at_ (by have := hm.fn; unfold PySem.W.isFn at this; exact of_decide_eq_true (by simpa using this)) F (hr.mono hk) b .nil (fun _ _ _ _ _ _ _ ⟨_, _, _, _, _, _, _, _, _, _, _, _, c⟩ => False.elim c) hg Z.g_NoWood ha (by decide) he hpl
theorem nw_out {H : Hp} {E : XK} {z : Int} (k : ∀ d H', Same H H' → ErrAt (.wood z) d H' → E (.ref (He.ga K "NoWood")) d H') :
    ([V.int z]).length ≤ 1000 ∧ ∀ a, H a = none → spNwI K (.ref a :: ([V.int z] ++ [])) (upd H a (exo a (He.ga K "NoWood") none))
      (fun v H2 => v = .non ∧ ∃ (d : Addr) (fs : List (Str × V)), H2 a = some (exo a (He.ga K "NoWood") (some d)) ∧ H2 d = some (exd d fs) ∧ H d = none ∧ E (.ref (He.ga K "NoWood")) (some d) (upd (del H2 a) d (.xd fs))) (fun _ _ _ => False) := by
  refine ⟨(by show 1 ≤ 1000; decide), fun a ha => ⟨a, .int z, rfl, upd_same, fun dx h1 h2 => ⟨rfl, dx, [("place", .int z)], upd_same, ?_, ?_, ?_⟩⟩⟩
  · rw [upd_ne h2, upd_same]
  · rw [upd_ne h2] at h1; exact h1
  · refine k _ _ (fun b u e => ?_) ⟨dx, rfl, upd_same⟩
    have nb : b ≠ a := ne_of_none e ha
    have h1' : H dx = none := by rw [upd_ne h2] at h1; exact h1
    have nd : b ≠ dx := ne_of_none e h1'
    rw [upd_ne nd, del_ne nb, upd_ne nb, upd_ne nd, upd_ne nb]
    exact e
end
theorem lc_str {bs : List Bool} {g : TG} {tt : TT} {te : TE} {vs : List Nat} {σ : L2.St} {H1 : Hp} {D : Addr} {Qd : Hp → Prop} (Pv : Nat → Hp → Prop) (h0 : Pv 0 (upd H1 D (.lst [])))
    (hs : ∀ i b H, bs[i]? = some b → Pv i H → g (.str ⟨#[sgn b]⟩) (wipe σ vs) H fun σ2 H2 => wipe σ2 vs = wipe σ vs ∧ tt σ2 H2 fun b H3 =>
      if b = true then te σ2 H3 fun y H4 => ∃ acc, H4 D = some (.lst acc) ∧ acc.length < sizeLine ∧ Pv (i + 1) (upd H4 D (.lst (acc ++ [y]))) else Pv (i + 1) H3) (hd : ∀ H, Pv bs.length H → Qd H) :
    ∃ W : Nat → Nat → Hp → Prop, (∃ m, W 0 m (upd H1 D (.lst []))) ∧ ∀ i m H, W i m H →
      ((Its (T bs)).stop i H ∧ Qd H) ∨ ((Its (T bs)).go i H ∧ ∃ Nx : Hp → Prop, (∀ H', Nx H' → ∃ m', m' < m ∧ W (i + 1) m' H') ∧ ∀ x H', (Its (T bs)).yld i H x H' → g x (wipe σ vs) H' fun σ2 H2 => wipe σ2 vs = wipe σ vs ∧ tt σ2 H2 fun b H3 =>
        if b = true then te σ2 H3 fun y H4 => ∃ acc, H4 D = some (.lst acc) ∧ acc.length < sizeLine ∧ Nx (upd H4 D (.lst (acc ++ [y]))) else Nx H3) := by
  refine ⟨fun i m H => m = bs.length - i ∧ i ≤ bs.length ∧ Pv i H, ⟨bs.length, by simp, Nat.zero_le _, h0⟩, ?_⟩
  rintro i m H ⟨rfl, hi, p⟩
  by_cases hlt : i < bs.length
  · refine .inr ⟨by show i < (T bs).cps.size; rw [T_size]; exact hlt, Pv (i + 1), fun H' p' => ⟨bs.length - (i + 1), by omega, rfl, hlt, p'⟩, fun v H' y => ?_⟩
    obtain ⟨rfl, c, hc, rfl⟩ := y
    obtain ⟨b, hb, rfl⟩ := T_get hc
    exact hs i b _ hb p
  · have e : i = bs.length := by omega
    subst e
    exact .inl ⟨by show (T bs).cps.size ≤ bs.length; rw [T_size]; exact Nat.le_refl _, hd H p⟩
def SameX (a : Addr) (H H' : Hp) : Prop := ∀ b u, b ≠ a → H b = some u → H' b = some u
theorem SameX.refl {a : Addr} (H : Hp) : SameX a H H := fun _ _ _ e => e
theorem Same.x {a : Addr} {H H' : Hp} (s : Same H H') : SameX a H H' := fun b u _ e => s b u e
theorem SameX.trans {a : Addr} {H H1 H2 : Hp} (s : SameX a H H1) (t : SameX a H1 H2) : SameX a H H2 := fun b u n e => t b u n (s b u n e)
theorem SameX.put {a : Addr} {H H1 : Hp} {o : HO} (s : SameX a H H1) : SameX a H (upd H1 a o) := fun b u n e => by
  rw [upd_ne n]; exact s b u n e
theorem SameX.new {a p : Addr} {H H1 : Hp} {o : HO} (s : SameX a H H1) (h : H1 p = none) : SameX a H (upd H1 p o) := fun b u n e => by
  rw [upd_ne (ne_of_none (s b u n e) h)]; exact s b u n e
theorem SameX.free {a p : Addr} {H H1 : Hp} (s : SameX a H H1) (n : p ≠ a) (h : H1 p = none) : H p = none := by
  cases e : H p with
  | none => rfl
  | some o => rw [s p o n e] at h; cases h
theorem SameX.of_new {a : Addr} {H H1 : Hp} {o : HO} (h : H a = none) (s : SameX a (upd H a o) H1) : Same H H1 := fun b u e => by
  have n := ne_of_none e h
  exact s b u n (by rw [upd_ne n]; exact e)
end Tw
namespace Tw
open PySem PySem.Spec PyProof.Rows L2
def numB : V → Bool
  | .int i => decide (0 ≤ i)
  | _ => false
theorem numB_odd {H : Hp} {x : V} (h : Odd H x) : numB x = false := by cases h <;> rfl
abbrev lay (s : List Int) : List V := s.reverse.map V.int
theorem lay_cons (x : Int) (r : List Int) : lay (x :: r) = lay r ++ [V.int x] := by simp [lay]
theorem lay_ok (s : List Int) : (lay s).all datOk = true := by
  unfold lay; exact ints_ok _
theorem lay_nb {s : List Int} : ∀ v ∈ lay s ++ ([] : List V), ∀ b, v ≠ .bl b := fun v hv b => by
  rw [List.append_nil] at hv
  obtain ⟨i, _, rfl⟩ := List.mem_map.mp hv
  exact fun z => nomatch z
theorem lay_len (s : List Int) : (lay s).length = s.length := by simp [lay]
theorem pop_at (xs : List V) (y : V) : (xs ++ [y])[(xs ++ [y]).length - 1]? = some y := by simp
theorem flat_one (dn : List Bool) : (dn.map fun b => [b]).flatten = dn := by
  induction dn with
  | nil => rfl
  | cons b r ih => simp [ih]
theorem map_at {es : List Int} {i : Nat} {x : V} (h : (es.map V.int)[i]? = some x) : ∃ e, es[i]? = some e ∧ x = .int e := by
  rw [List.getElem?_map] at h
  cases q : es[i]? with
  | none => rw [q] at h; cases h
  | some e => rw [q] at h; exact ⟨e, rfl, (Option.some.inj h).symm⟩
section
variable {P : Program} {w : World} {K : PySem.W.Frag} {mg : Str → Option Value} {base : Heap}
def spNum : Sp := fun vs H Q _ => ∃ x, vs = [x] ∧ Thing H x ∧ Q (.bl (numB x)) H
abbrev N_is_number : List Str := ["thing"]
theorem sc_is_number : FnScope N_is_number ["thing"] (defScope s_is_number) := ⟨rfl, rfl, rfl, by decide +kernel, rfl, by decide +kernel, by decide +kernel⟩
theorem ok_is_number {f : Addr} {fd : FuncData} (F : D0 K "is_number" "is_number" s_is_number f fd) (Z : Txt K mg) : FnOk P w K mg base (L2.CX P w) 1 f fd ["thing"] spNum := by
  refine F.ok sc_is_number (fun vs H Q E h => ?_) (fun cdv A outer s H vs Q E hr h => ?_)
  · obtain ⟨x, rfl, _⟩ := h
    rfl
  · obtain ⟨x, rfl, hx, k⟩ := h
    refine ⟨_, (pss_one (ps_ret (pe_and (pe_callB call_isi (by rfl) Z.f_isinstance (by decide +kernel) (pa_cons (pv 0) (pa_cons (pe_bltn (v := .ty "int") (u := .type "int") (by rfl) Z.f_int (by decide +kernel) rfl) pa_nil))) (pe_and (pe_not (pe_callB call_isi (by rfl) Z.f_isinstance (by decide +kernel) (pa_cons (pv 0) (pa_cons (pe_bltn (v := .ty "bool") (u := .type "bool") (by rfl) Z.f_bool (by decide +kernel) rfl) pa_nil)))) (pe_one (pe_cmpR op_ge (pv 0) pe_int (nomark _))))))), ?_⟩
    rcases hx with ⟨i, rfl⟩ | ho
    · refine ⟨_, rfl, _, _, _, _, _, rfl, .ty _, .base (.int i), int_int, _, rfl, iteT ?_⟩
      refine ⟨_, rfl, _, _, _, _, _, rfl, .ty _, .base (.int i), int_bool, _, rfl, _, rfl, iteT ?_⟩
      exact ⟨_, rfl, _, _, rfl, rfl, k⟩
    · obtain ⟨t, b, ty, k1, k2⟩ := ho.ask (K := K)
      rw [numB_odd ho] at k
      refine ⟨_, rfl, _, _, _, _, _, rfl, .ty _, ty, k1, _, rfl, ite_b rfl (fun hb => ?_) (fun hb => ?_)⟩
      · subst hb
        exact ⟨_, rfl, _, _, _, _, _, rfl, .ty _, ty, k2, _, rfl, _, rfl, iteF k⟩
      · exact k
def spAmid : Sp := fun vs H Q _ => ∃ i lo hi : Int, vs = [.int i, .int lo, .int hi] ∧ lo ≤ i ∧ i ≤ hi ∧ Q (.bl true) H
abbrev N_is_amid : List Str := ["thing", "low", "high"]
theorem sc_is_amid : FnScope N_is_amid ["thing", "low", "high"] (defScope s_is_amid) := ⟨rfl, rfl, rfl, by decide +kernel, rfl, by decide +kernel, by decide +kernel⟩
theorem ok_is_amid {f : Addr} {fd : FuncData} (F : D0 K "is_amid" "is_amid" s_is_amid f fd) (Z : Txt K mg) : FnOk P w K mg base (L2.CX P w) 1 f fd ["thing", "low", "high"] spAmid := by
  refine F.ok sc_is_amid (fun vs H Q E h => ?_) (fun cdv A outer s H vs Q E hr h => ?_)
  · obtain ⟨i, lo, hi, rfl, _⟩ := h
    rfl
  · obtain ⟨i, lo, hi, rfl, h1, h2, k⟩ := h
    refine ⟨_, (pss_one (ps_ret (pe_and (pe_callB call_isi (by rfl) Z.f_isinstance (by decide +kernel) (pa_cons (pv 0) (pa_cons (pe_bltn (v := .ty "int") (u := .type "int") (by rfl) Z.f_int (by decide +kernel) rfl) pa_nil))) (pe_and (pe_not (pe_callB call_isi (by rfl) Z.f_isinstance (by decide +kernel) (pa_cons (pv 0) (pa_cons (pe_bltn (v := .ty "bool") (u := .type "bool") (by rfl) Z.f_bool (by decide +kernel) rfl) pa_nil)))) (pe_one (pe_chain op_le op_le (pv 1) (pv 0) (pv 2))))))), ?_⟩
    refine ⟨_, rfl, _, _, _, _, _, rfl, .ty _, .base (.int i), int_int, _, rfl, iteT ?_⟩
    refine ⟨_, rfl, _, _, _, _, _, rfl, .ty _, .base (.int i), int_bool, _, rfl, _, rfl, iteT ?_⟩
    refine ⟨_, rfl, _, rfl, _, _, rfl, rfl, _, rfl, ite_d rfl (fun _ => ?_) (fun q => absurd h1 q)⟩
    refine ⟨_, rfl, _, _, rfl, rfl, ?_⟩
    dsimp only
    rw [decide_eq_true h2]
    exact k
def spOnes : Sp := fun vs H Q _ => ∃ n : Int, vs = [.int n] ∧ ∀ m : Int, Q (.int m) H
abbrev N_ones_in : List Str := ["word"]
theorem sc_ones_in : FnScope N_ones_in ["word"] (defScope s_ones_in) := ⟨rfl, rfl, rfl, by decide +kernel, rfl, by decide +kernel, by decide +kernel⟩
theorem ok_ones_in {f : Addr} {fd : FuncData} (F : D0 K "ones_in" "ones_in" s_ones_in f fd) (Z : Txt K mg) : FnOk P w K mg base (L2.CX P w) 1 f fd ["word"] spOnes := by
  refine F.ok sc_ones_in (fun vs H Q E h => ?_) (fun cdv A outer s H vs Q E hr h => ?_)
  · obtain ⟨n, rfl, _⟩ := h
    rfl
  · obtain ⟨n, rfl, k⟩ := h
    refine ⟨_, (pss_cons (ps_set (i := 0) sc_ones_in.nd rfl (Or.inl rfl) (pe_op op_sub (pv 0) (pe_op op_and (pe_op op_shr (pv 0) pe_int) pe_int)))
      (pss_cons (ps_set (i := 0) sc_ones_in.nd rfl (Or.inl rfl) (pe_op op_add (pe_op op_and (pv 0) pe_int) (pe_op op_and (pe_op op_shr (pv 0) pe_int) pe_int)))
      (pss_cons (ps_set (i := 0) sc_ones_in.nd rfl (Or.inl rfl) (pe_op op_add (pe_op op_and (pv 0) pe_int) (pe_op op_and (pe_op op_shr (pv 0) pe_int) pe_int)))
      (pss_cons (ps_set (i := 0) sc_ones_in.nd rfl (Or.inl rfl) (pe_op op_add (pe_op op_and (pv 0) pe_int) (pe_op op_and (pe_op op_shr (pv 0) pe_int) pe_int)))
      (pss_one (ps_ret (pe_op op_add (pe_op op_and (pv 0) pe_int) (pe_op op_shr (pv 0) pe_int)))))))), ?_⟩
    refine ⟨_, rfl, _, rfl, _, _, rfl, rfl, (by show (0 : Int) ≤ _; decide), _, _, rfl, rfl, _, _, rfl, rfl, ?_⟩
    refine ⟨_, rfl, _, _, rfl, rfl, _, rfl, _, _, rfl, rfl, (by show (0 : Int) ≤ _; decide), _, _, rfl, rfl, _, _, rfl, rfl, ?_⟩
    refine ⟨_, rfl, _, _, rfl, rfl, _, rfl, _, _, rfl, rfl, (by show (0 : Int) ≤ _; decide), _, _, rfl, rfl, _, _, rfl, rfl, ?_⟩
    refine ⟨_, rfl, _, _, rfl, rfl, _, rfl, _, _, rfl, rfl, (by show (0 : Int) ≤ _; decide), _, _, rfl, rfl, _, _, rfl, rfl, ?_⟩
    refine ⟨_, rfl, _, _, rfl, rfl, _, rfl, _, _, rfl, rfl, (by show (0 : Int) ≤ _; decide), _, _, rfl, rfl, k _⟩
def spRow : Sp := fun vs H Q _ => ∃ (a : Addr) (es : List Int), vs = [.ref a] ∧ H a = some (.lst (es.map V.int)) ∧ es.length ≤ 5000 ∧ ∀ H', Same H H' → Q (.str (T (row es))) H'
abbrev N_row_of : List Str := ["elders", "signs", "way", "knot", "elder"]
theorem sc_row_of : FnScope N_row_of ["elders"] (defScope s_row_of) := ⟨rfl, rfl, rfl, by decide +kernel, rfl, by decide +kernel, by decide +kernel⟩
theorem ok_row_of {f : Addr} {fd : FuncData} (F : D0 K "row_of" "row_of" s_row_of f fd) (Z : Txt K mg) : FnOk P w K mg base (L2.CX P w) 1 f fd ["elders"] spRow := by
  refine F.ok sc_row_of (fun vs H Q E h => ?_) (fun cdv A outer s H vs Q E hr h => ?_)
  · obtain ⟨a, es, rfl, _⟩ := h
    rfl
  · obtain ⟨a, es, rfl, ha, hz, k⟩ := h
    refine ⟨_, (pss_cons (ps_set (i := 1) sc_row_of.nd rfl (Or.inl rfl) (pe_lst pa_nil))
      (pss_cons (ps_set (i := 2) sc_row_of.nd rfl (Or.inl rfl) (pe_lst pa_nil))
      (pss_cons (ps_for (passes_of rfl) rfl (pi_enum (by rfl) Z.f_enumerate (pa_cons (pv 0) pa_nil)) (pg_tup rfl (pgs_cons (pg_name (i := 3) sc_row_of.nd rfl (Or.inl rfl)) (pgs_cons (pg_name (i := 4) sc_row_of.nd rfl (Or.inl rfl)) pgs_nil)))
        (pss_cons (ps_while (passes_of rfl) (PW.pt (pw_and (pt_cmpR (op_neD hr.units) (pv 2) (pe_lst pa_nil) (nomark _)) (pw_and1 (pt_cmpR op_ne (pe_ix ix_list (pv 2) (pe_un un_neg pe_int) (fun _ _ => rfl)) (pv 4) (nomark _)))))
          (pss_cons (ps_expr (pe_bm0 PySem.F.plainAttrs_list PySem.F.slot_list_pop PySem.F.type_list_pop mt_pop (pv 2)))
          (pss_one (ps_expr (pe_bm PySem.F.plainAttrs_list PySem.F.slot_list_append PySem.F.type_list_append mt_append (pv 1) (pa_cons pe_str pa_nil))))))
        (pss_cons (ps_expr (pe_bm PySem.F.plainAttrs_list PySem.F.slot_list_append PySem.F.type_list_append mt_append (pv 2) (pa_cons (pv 3) pa_nil)))
        (pss_one (ps_expr (pe_bm PySem.F.plainAttrs_list PySem.F.slot_list_append PySem.F.type_list_append mt_append (pv 1) (pa_cons pe_str pa_nil)))))))
      (pss_one (ps_ret (pe_op op_add_str (pe_join pe_str (pv 1)) (pe_op op_mul_str pe_str (pe_callB call_len (by rfl) Z.f_len PySem.boot_len (pa_cons (pv 2) pa_nil))))))))), ?_⟩
    refine ⟨(by show 0 ≤ sizeLine; decide), fun p hp => ⟨(by show 0 ≤ sizeLine; decide), fun q hq => ?_⟩⟩
    have hq0 : H q = none := (same_new hp).free hq
    have hpq : p ≠ q := ne_of_none upd_same hq
    refine ⟨_, rfl, _, _, rfl, SqL.of (sN (same_new hp) hq _ _ ha), for_enumL (fun i σ H' => ∃ (v3 v4 : Option V) (st : List Int) (dn : List Bool), σ = [some (.ref a), some (.ref p), some (.ref q), v3, v4] ∧ H' p = some (.lst (txs (dn.map fun b => [b]))) ∧ H' q = some (.lst (lay st)) ∧ Same H H' ∧ dn ++ rowGo st i (es.drop i) = row es ∧ st.length ≤ i ∧ i ≤ es.length)
      ⟨none, none, [], [], rfl, ?_, upd_same, sN (same_new hp) hq, rfl, Nat.le_refl _, Nat.zero_le _⟩ (fun i σ H' _ ⟨_, _, _, _, _, _, _, s, _⟩ => SqL.of (s _ _ ha)) ?_ ?_⟩
    · rw [upd_ne hpq]; exact upd_same
    · rintro i x t σ H1 hx ⟨v3, v4, st, dn, rfl, hlp, hlq, s1, he, hst, hi⟩ ht
      obtain ⟨e, hxe, rfl⟩ := map_at hx
      have hlt : i < es.length := (List.getElem?_eq_some_iff.mp hxe).1
      rw [drop_cons hxe] at he
      refine ⟨_, _, rfl, SqT.of upd_same, rfl, _, _, rfl, _, _, rfl, rfl, ?_⟩
      have s2 := sN (o := .tup [.int (i : Nat), .int e]) s1 ht
      refine ⟨fun m σ H' => ∃ (st' : List Int) (dn' : List Bool), m = st'.length ∧ σ = [some (.ref a), some (.ref p), some (.ref q), some (.int (i : Nat)), some (.int e)] ∧ H' p = some (.lst (txs (dn'.map fun b => [b]))) ∧ H' q = some (.lst (lay st')) ∧ Same H H' ∧ dn' ++ List.replicate (st'.takeWhile (· != e)).length false = dn ++ List.replicate (st.takeWhile (· != e)).length false ∧ st'.dropWhile (· != e) = st.dropWhile (· != e) ∧ st'.length ≤ st.length,
        ⟨_, st, dn, rfl, rfl, (same_new ht) _ _ hlp, (same_new ht) _ _ hlq, s2, rfl, rfl, Nat.le_refl _⟩, ?_⟩
      rintro m σ H2 ⟨st', dn', rfl, rfl, hlp2, hlq2, s3, hd1, hd2, hd3⟩
      have hdn : dn'.length ≤ 10000 := by
        have l1 := congrArg List.length he
        have l2 := congrArg List.length hd1
        have l3 := row_length es [] 0
        unfold row at l1
        simp only [rowGo, List.length_append, List.length_cons, List.length_replicate, List.length_nil] at l1 l2 l3
        omega
      have fin : ∀ H3, Same H2 H3 → st'.takeWhile (· != e) = [] → ∃ (v3 v4 : Option V) (st2 : List Int) (dn2 : List Bool), [some (.ref a), some (.ref p), some (.ref q), some (.int (i : Nat)), some (.int e)] = [some (V.ref a), some (.ref p), some (.ref q), v3, v4] ∧
          (upd (upd H3 q (.lst (lay st' ++ [V.int (i : Nat)]))) p (.lst (txs (dn'.map fun b => [b]) ++ [V.str "1"]))) p = some (.lst (txs (dn2.map fun b => [b]))) ∧ (upd (upd H3 q (.lst (lay st' ++ [V.int (i : Nat)]))) p (.lst (txs (dn'.map fun b => [b]) ++ [V.str "1"]))) q = some (.lst (lay st2)) ∧
          Same H (upd (upd H3 q (.lst (lay st' ++ [V.int (i : Nat)]))) p (.lst (txs (dn'.map fun b => [b]) ++ [V.str "1"]))) ∧ dn2 ++ rowGo st2 (i + 1) (es.drop (i + 1)) = row es ∧ st2.length ≤ i + 1 ∧ i + 1 ≤ es.length := fun H3 s4 hw => by
        have hdw : st'.dropWhile (· != e) = st' := by
          have := List.takeWhile_append_dropWhile (p := (· != e)) (l := st')
          rw [hw] at this
          exact this
        refine ⟨_, _, (i : Int) :: st', dn' ++ [true], rfl, ?_, ?_, sM (sM (s3.trans s4) hq0) hp, ?_, ?_, hlt⟩
        · rw [upd_same, T_one]
          simp [txs]
        · rw [upd_ne (Ne.symm hpq), upd_same, lay_cons]
        · rw [← he]
          simp only [rowGo]
          rw [← hd2, hdw, ← List.append_assoc, ← hd1, hw]
          simp
        · simp only [List.length_cons]; omega
      cases st' with
      | nil =>
        refine ⟨_, rfl, (by show 0 ≤ sizeLine; decide), fun n hn => ne_same (xs := lay []) (SqL.of (same_new hn _ _ hlq2)) (SqL.of upd_same) (lay_ok _) ⟨_, rfl, iteF (iteF ?_)⟩⟩
        have s4 := same_new (o := .lst []) hn
        refine ⟨_, rfl, .inl ⟨rfl, _, SqL.of (s4 _ _ hlq2)⟩, _, rfl, q, _, _, rfl, rfl, s4 _ _ hlq2, sz2 (by rw [lay_len]; simp), ?_⟩
        refine ⟨_, rfl, .inl ⟨rfl, _, SqL.of (by rw [upd_ne hpq]; exact s4 _ _ hlp2)⟩, p, _, _, rfl, rfl, (by rw [upd_ne hpq]; exact s4 _ _ hlp2), sz2 (by simp; omega), ?_⟩
        exact fin _ s4 rfl
      | cons x r =>
        refine ⟨_, rfl, (by show 0 ≤ sizeLine; decide), fun n hn => ne_diff (xs := lay (x :: r)) (SqL.of (same_new hn _ _ hlq2)) (SqL.of upd_same) (lay_ok _) rfl lay_nb (by simp [lay]) ⟨_, rfl, iteT ?_⟩⟩
        have s4 := same_new (o := .lst []) hn
        have hlq3 := s4 _ _ hlq2
        refine ⟨_, rfl, _, rfl, q, _, _, V.int x, rfl, rfl, SqL.of hlq3, by rw [lay_cons]; exact atI_last _ _, _, rfl, rfl, _, rfl, ite_n (ndec_i x e) (fun hxe => ?_) (fun hxe => ?_)⟩
        · have hp1 : (x != e) = true := by simpa using hxe
          refine ⟨_, fun σ' H' z => z, ?_⟩
          refine ⟨_, rfl, .inl ⟨rfl, _, SqL.of hlq3⟩, q, _, V.int x, rfl, rfl, hlq3, by rw [lay_cons]; exact pop_at _ _, ?_⟩
          rw [lay_cons, List.dropLast_concat]
          have hlp3 := s4 _ _ hlp2
          refine ⟨_, rfl, .inl ⟨rfl, _, SqL.of (by rw [upd_ne hpq]; exact hlp3)⟩, p, _, _, rfl, rfl, (by rw [upd_ne hpq]; exact hlp3), sz2 (by simp; omega), ?_⟩
          refine ⟨r.length, by simp, r, dn' ++ [false], rfl, rfl, ?_, ?_, sM (sM (s3.trans s4) hq0) hp, ?_, ?_, ?_⟩
          · rw [upd_same, T_zero]; simp [txs]
          · rw [upd_ne (Ne.symm hpq), upd_same]
          · rw [← hd1, List.takeWhile_cons_of_pos (p := fun y => y != e) hp1]
            simp [List.replicate_succ]
          · rw [← hd2, List.dropWhile_cons_of_pos (p := fun y => y != e) hp1]
          · simp only [List.length_cons] at hd3; omega
        · refine ⟨_, rfl, .inl ⟨rfl, _, SqL.of hlq3⟩, _, rfl, q, _, _, rfl, rfl, hlq3, sz2 (by rw [lay_len]; simp only [List.length_cons] at hd3 ⊢; omega), ?_⟩
          have hlp3 := s4 _ _ hlp2
          refine ⟨_, rfl, .inl ⟨rfl, _, SqL.of (by rw [upd_ne hpq]; exact hlp3)⟩, p, _, _, rfl, rfl, (by rw [upd_ne hpq]; exact hlp3), sz2 (by simp; omega), ?_⟩
          exact fin _ s4 (List.takeWhile_cons_of_neg (by simpa using hxe))
    · rintro σ H1 ⟨v3, v4, st, dn, rfl, hlp, hlq, s1, he, hst, hi⟩
      rw [List.length_map, List.drop_of_length_le (Nat.le_refl _)] at he
      simp only [rowGo] at he
      have l1 := congrArg List.length he
      have l3 := row_length es [] 0
      unfold row at l1
      rw [l3] at l1
      simp only [List.length_append, List.length_replicate, List.length_nil] at l1
      refine ⟨⟨_, rfl⟩, _, rfl, _, _, (dn.map fun b => [b]).map T, rfl, rfl, .inl (joinL (SqL.of hlp)), joinN (by rw [flat_one]; omega), ?_⟩
      rw [T_join, flat_one]
      refine ⟨_, rfl, _, _, rfl, .inl ⟨_, SqL.of hlq, rfl⟩, _, _, rfl, rfl, by rw [lay_len]; omega, by rw [lay_len]; omega, ?_, ?_⟩
      · rw [lay_len, T_zero, T_length]
        exact sz1 (by simp; omega)
      rw [lay_len, T_zero, T_mul]
      have ef : (List.replicate ((st.length : Nat) : Int).toNat [false]).flatten = List.replicate st.length false := by simp
      rw [ef]
      refine ⟨_, _, rfl, rfl, ?_, ?_⟩
      · rw [T_length, T_length]
        exact sz1 (by simp; omega)
      rw [T_app, he]
      exact k H1 s1
end
end Tw
namespace Tw
open PySem PySem.Spec PyProof.Rows L2
def toI : V → Option Int
  | .int i => some i
  | _ => none
theorem toI_odd {H : Hp} {x : V} (h : Odd H x) : toI x = none := by cases h <;> rfl
section
variable {P : Program} {w : World} {K : PySem.W.Frag} {mg : Str → Option Value} {base : Heap}
def Out (K : PySem.W.Frag) (H : Hp) (E : XK) (e : ErrK) : Prop := ∀ d H', Same H H' → ErrAt e d H' → E (.ref (He.ga K e.name)) d H'
def spLook (K : PySem.W.Frag) : Sp := fun vs H Q E => ∃ x, vs = [x] ∧ ((∃ t, TyX K H x t ∧ PySem.W.kitOne K t (.type "list") = some false ∧ Out K H E (.wood 0)) ∨
  (∃ a xs, x = .ref a ∧ H a = some (.lst xs) ∧ (∀ y ∈ xs, Thing H y) ∧ xs.length ≤ 5000 ∧ (∀ k : Nat, lookI [] 0 (xs.map toI) = some k → Out K H E (.wood k)) ∧
    (lookI [] 0 (xs.map toI) = none → ∀ p H', Same H H' → H p = none → H' p = some (.lst xs) → Q (.ref p) H')))
abbrev N_look_at : List Str := ["elders", "way", "knot", "elder"]
theorem sc_look_at : FnScope N_look_at ["elders"] (defScope s_look_at) := ⟨rfl, rfl, rfl, by decide +kernel, rfl, by decide +kernel, by decide +kernel⟩
theorem ok_look_at {f : Addr} {fd : FuncData} (F : D0 K "look_at" "look_at" s_look_at f fd) (Z : Txt K mg) (n_w : Mtd P w K mg base 1 (He.ga K "NoWood") "__init__" ["self", "place"] (spNwI K)) : FnOk P w K mg base (L2.CX P w) 3 f fd ["elders"] (spLook K) := by
  refine F.ok sc_look_at (fun vs H Q E h => ?_) (fun cdv A outer s H vs Q E hr h => ?_)
  · obtain ⟨x, rfl, _⟩ := h
    rfl
  · obtain ⟨x, rfl, h⟩ := h
    refine ⟨_, (pss_cons (ps_if (pt_not (pt_val (pe_callB call_isi (by rfl) Z.f_isinstance (by decide +kernel) (pa_cons (pv 0) (pa_cons (pe_bltn (v := .ty "list") (u := .type "list") (by rfl) Z.f_list (by decide +kernel) rfl) pa_nil))))) (pss_one (ps_raise rfl (takes_of rfl rfl rfl rfl) (pmk_nw Z n_w hr (pa_cons pe_int pa_nil))))
        pss_nil)
      (pss_cons (ps_set (i := 1) sc_look_at.nd rfl (Or.inl rfl) (pe_lst pa_nil))
      (pss_cons (ps_for (passes_of rfl) rfl (pi_enum (by rfl) Z.f_enumerate (pa_cons (pv 0) pa_nil)) (pg_tup rfl (pgs_cons (pg_name (i := 2) sc_look_at.nd rfl (Or.inl rfl)) (pgs_cons (pg_name (i := 3) sc_look_at.nd rfl (Or.inl rfl)) pgs_nil)))
        (pss_cons (ps_if (PW.pt (pw_or (pt_cmpR op_eq (pv 2) (pe_gc rfl Z.i_MOST_woods) (nomark _)) (pw_or (pt_not (pt_val (pe_callB call_isi (by rfl) Z.f_isinstance (by decide +kernel) (pa_cons (pv 3) (pa_cons (pe_bltn (v := .ty "int") (u := .type "int") (by rfl) Z.f_int (by decide +kernel) rfl) pa_nil))))) (pw_or1 (pt_val (pe_callB call_isi (by rfl) Z.f_isinstance (by decide +kernel) (pa_cons (pv 3) (pa_cons (pe_bltn (v := .ty "bool") (u := .type "bool") (by rfl) Z.f_bool (by decide +kernel) rfl) pa_nil)))))))) (pss_one (ps_raise rfl (takes_of rfl rfl rfl rfl) (pmk_nw Z n_w hr (pa_cons (pv 2) pa_nil))))
          pss_nil)
        (pss_cons (ps_while (passes_of rfl) (PW.pt (pw_and (pt_cmpR (op_neD hr.units) (pv 1) (pe_lst pa_nil) (nomark _)) (pw_and1 (pt_cmpR op_ne (pe_ix ix_list (pv 1) (pe_un un_neg pe_int) (fun _ _ => rfl)) (pv 3) (nomark _)))))
          (pss_one (ps_expr (pe_bm0 PySem.F.plainAttrs_list PySem.F.slot_list_pop PySem.F.type_list_pop mt_pop (pv 1)))))
        (pss_cons (ps_if (PW.pt (pw_and (pt_cmpR (op_eqD hr.units) (pv 1) (pe_lst pa_nil) (nomark _)) (pw_and1 (pt_cmpR op_ne (pv 3) (pe_un un_neg pe_int) (nomark _))))) (pss_one (ps_raise rfl (takes_of rfl rfl rfl rfl) (pmk_nw Z n_w hr (pa_cons (pv 2) pa_nil))))
          pss_nil)
        (pss_one (ps_expr (pe_bm PySem.F.plainAttrs_list PySem.F.slot_list_append PySem.F.type_list_append mt_append (pv 1) (pa_cons (pv 2) pa_nil))))))))
      (pss_one (ps_ret (pe_callTy call_list_of (by rfl) Z.f_list (by decide +kernel) (pa_cons (pv 0) pa_nil))))))), ?_⟩
    rcases h with ⟨t, ty, k0, ko⟩ | ⟨a, xs, rfl, ha, hth, hz, ko, k⟩
    · refine ⟨_, rfl, _, _, _, _, _, rfl, .ty _, ty, k0, _, rfl, iteT ?_⟩
      exact nw_out ko
    · refine ⟨_, rfl, _, _, _, _, _, rfl, .ty _, .base (.lst ha), kit_ty (r := true) (by decide +kernel), _, rfl, iteF ?_⟩
      refine ⟨(by show 0 ≤ sizeLine; decide), fun q hq => ?_⟩
      refine ⟨_, rfl, _, _, rfl, SqL.of (same_new hq _ _ ha), for_enumL (fun i σ H' => ∃ (v2 v3 : Option V) (st : List Int), σ = [some (.ref a), some (.ref q), v2, v3] ∧ H' q = some (.lst (lay st)) ∧ Same H H' ∧ lookI st i ((xs.map toI).drop i) = lookI [] 0 (xs.map toI) ∧ st.length ≤ i ∧ i ≤ 4000)
        ⟨none, none, [], rfl, upd_same, same_new hq, rfl, Nat.le_refl _, Nat.zero_le _⟩ (fun i σ H' _ ⟨_, _, _, _, _, s, _⟩ => SqL.of (s _ _ ha)) ?_ ?_⟩
      · rintro i x t σ H1 hx ⟨v2, v3, st, rfl, hlq, s1, he, hst, hi⟩ ht
        have hxt : (xs.map toI)[i]? = some (toI x) := by rw [List.getElem?_map, hx]; rfl
        rw [drop_cons hxt] at he
        have hlt : i < xs.length := (List.getElem?_eq_some_iff.mp hx).1
        refine ⟨_, _, rfl, SqT.of upd_same, rfl, _, _, rfl, _, _, rfl, rfl, ?_⟩
        have s2 := sN (o := .tup [.int (i : Nat), x]) s1 ht
        have ht2 := hth x (List.mem_of_getElem? hx)
        have out : ∀ H3, Same H H3 → lookI st i (toI x :: List.drop (i + 1) (xs.map toI)) = some i → Out K H3 E (.wood (i : Nat)) := fun H3 s3 hl d H' s' e' => ko i (by rw [← he, hl]) d H' (s3.trans s') e'
        refine ⟨_, rfl, rfl, _, rfl, ite_d (dec_i _ _) (fun h0 => ?_) (fun h0 => ?_)⟩
        · have h0' : i = 4000 := by omega
          refine iteT ⟨_, rfl, nw_out (out _ s2 ?_)⟩
          subst h0'
          cases toI x <;> rfl
        have h0' : i ≠ 4000 := by omega
        rcases ht2 with ⟨e, rfl⟩ | ho
        · refine ⟨_, rfl, _, _, _, _, _, rfl, .ty _, .base (.int e), int_int, _, rfl, iteF ?_⟩
          refine ⟨_, rfl, _, _, _, _, _, rfl, .ty _, .base (.int e), int_bool, _, rfl, iteF ?_⟩
          have body : ∀ H3 st', Same H H3 → H3 q = some (.lst (lay st')) → st'.takeWhile (· != e) = [] → st'.dropWhile (· != e) = st.dropWhile (· != e) → st'.length ≤ st.length → st' ≠ [] ∨ e = -1 →
              (H3 q = some (.lst (lay st')) ∧ (lay st').length < sizeLine ∧ ∃ (v2 v3 : Option V) (st2 : List Int), [some (V.ref a), some (.ref q), some (.int (i : Nat)), some (.int e)] = [some (V.ref a), some (.ref q), v2, v3] ∧
                (upd H3 q (.lst (lay st' ++ [V.int (i : Nat)]))) q = some (.lst (lay st2)) ∧ Same H (upd H3 q (.lst (lay st' ++ [V.int (i : Nat)]))) ∧ lookI st2 (i + 1) ((xs.map toI).drop (i + 1)) = lookI [] 0 (xs.map toI) ∧ st2.length ≤ i + 1 ∧ i + 1 ≤ 4000) := fun H3 st' s3 hl3 h1 h2 h3 h4 => by
            have hdw : st'.dropWhile (· != e) = st' := by
              have := List.takeWhile_append_dropWhile (p := (· != e)) (l := st')
              rw [h1] at this
              exact this
            refine ⟨hl3, sz2 (by rw [lay_len]; omega), _, _, (i : Int) :: st', rfl, by rw [upd_same, lay_cons], sM s3 hq, ?_, by simp only [List.length_cons]; omega, by omega⟩
            rw [← he]
            simp only [lookI, toI]
            rw [if_neg h0', ← h2, hdw, if_neg (fun z => by
              rcases h4 with h4 | h4
              · exact h4 z.1
              · exact z.2 h4)]
          refine ⟨fun m σ H' => ∃ (st' : List Int), m = st'.length ∧ σ = [some (.ref a), some (.ref q), some (.int (i : Nat)), some (.int e)] ∧ H' q = some (.lst (lay st')) ∧ Same H H' ∧ st'.dropWhile (· != e) = st.dropWhile (· != e) ∧ st'.length ≤ st.length,
            ⟨_, st, rfl, rfl, (same_new ht) _ _ hlq, s2, rfl, Nat.le_refl _⟩, ?_⟩
          rintro m σ H2 ⟨st', rfl, rfl, hlq2, s3, hd2, hd3⟩
          cases st' with
          | nil =>
            refine ⟨_, rfl, (by show 0 ≤ sizeLine; decide), fun n hn => ne_same (xs := lay []) (SqL.of (same_new hn _ _ hlq2)) (SqL.of upd_same) (lay_ok _) ⟨_, rfl, iteF (iteF ?_)⟩⟩
            have s4 := same_new (o := .lst []) hn
            have hlq3 := s4 _ _ hlq2
            refine ⟨_, rfl, (by show 0 ≤ sizeLine; decide), fun n2 hn2 => eq_same (xs := lay []) (SqL.of (same_new hn2 _ _ hlq3)) (SqL.of upd_same) (lay_ok _) ⟨_, rfl, iteT ?_⟩⟩
            have s5 := same_new (o := .lst []) hn2
            have hlq4 := s5 _ _ hlq3
            refine ⟨_, rfl, _, rfl, rfl, _, rfl, ite_n (ndec_i _ _) (fun h1 => ?_) (fun h1 => ?_)⟩
            · refine ⟨_, rfl, nw_out (out _ ((s3.trans s4).trans s5) ?_)⟩
              simp only [lookI, toI]
              rw [if_neg h0', ← hd2, if_pos ⟨rfl, h1⟩]
            · obtain ⟨b1, b2, b3⟩ := body _ [] ((s3.trans s4).trans s5) hlq4 rfl hd2 hd3 (.inr h1)
              exact ⟨_, rfl, .inl ⟨rfl, _, SqL.of b1⟩, _, rfl, q, _, _, rfl, rfl, b1, b2, b3⟩
          | cons x r =>
            refine ⟨_, rfl, (by show 0 ≤ sizeLine; decide), fun n hn => ne_diff (xs := lay (x :: r)) (SqL.of (same_new hn _ _ hlq2)) (SqL.of upd_same) (lay_ok _) rfl lay_nb (by simp [lay]) ⟨_, rfl, iteT ?_⟩⟩
            have s4 := same_new (o := .lst []) hn
            have hlq3 := s4 _ _ hlq2
            refine ⟨_, rfl, _, rfl, q, _, _, V.int x, rfl, rfl, SqL.of hlq3, by rw [lay_cons]; exact atI_last _ _, _, rfl, rfl, _, rfl, ite_n (ndec_i x e) (fun hxe => ?_) (fun hxe => ?_)⟩
            · have hp1 : (x != e) = true := by simpa using hxe
              refine ⟨_, fun σ' H' z => z, ?_⟩
              refine ⟨_, rfl, .inl ⟨rfl, _, SqL.of hlq3⟩, q, _, V.int x, rfl, rfl, hlq3, by rw [lay_cons]; exact pop_at _ _, ?_⟩
              rw [lay_cons, List.dropLast_concat]
              refine ⟨r.length, by simp, r, rfl, rfl, upd_same, sM (s3.trans s4) hq, ?_, ?_⟩
              · rw [← hd2, List.dropWhile_cons_of_pos (p := fun y => y != e) hp1]
              · simp only [List.length_cons] at hd3; omega
            · refine ⟨_, rfl, (by show 0 ≤ sizeLine; decide), fun n2 hn2 => eq_diff (xs := lay (x :: r)) (SqL.of (same_new hn2 _ _ hlq3)) (SqL.of upd_same) (lay_ok _) rfl lay_nb (by simp [lay]) ⟨_, rfl, iteF (iteF ?_)⟩⟩
              have s5 := same_new (o := .lst []) hn2
              obtain ⟨b1, b2, b3⟩ := body _ (x :: r) ((s3.trans s4).trans s5) (s5 _ _ hlq3) (List.takeWhile_cons_of_neg (by simpa using hxe)) hd2 hd3 (.inl (fun z => nomatch z))
              exact ⟨_, rfl, .inl ⟨rfl, _, SqL.of b1⟩, _, rfl, q, _, _, rfl, rfl, b1, b2, b3⟩
        · obtain ⟨t', b, ty, k1, k2⟩ := (ho.mono s2).ask (K := K)
          rw [toI_odd ho] at out
          refine ⟨_, rfl, _, _, _, _, _, rfl, .ty _, ty, k1, _, rfl, ?_⟩
          cases b with
          | false =>
            refine iteT (iteT ⟨_, rfl, nw_out (out _ s2 rfl)⟩)
          | true =>
            refine iteF ⟨_, rfl, _, _, _, _, _, rfl, .ty _, ty, k2, _, rfl, iteT ⟨_, rfl, nw_out (out _ s2 rfl)⟩⟩
      · rintro σ H1 ⟨v2, v3, st, rfl, hlq, s1, he, hst, hi⟩
        rw [List.drop_of_length_le (by rw [List.length_map]; exact Nat.le_refl _)] at he
        refine ⟨_, rfl, a, _, rfl, .inl (SqL.of (s1 _ _ ha)), fun p hp => ?_⟩
        exact k he.symm p _ (sN s1 hp) (s1.free hp) upd_same
end
end Tw
namespace Tw
def wd : List Bool → Nat
  | [] => 0
  | b :: r => (if b then 1 else 0) + 2 * wd r
theorem wd_snoc (a : List Bool) (b : Bool) : wd (a ++ [b]) = wd a + (if b then 1 else 0) * 2 ^ a.length := by
  induction a with
  | nil => cases b <;> simp [wd]
  | cons x r ih =>
    simp only [List.cons_append, wd, ih, List.length_cons, Nat.pow_succ]
    cases b <;> simp <;> omega
theorem wd_lt (a : List Bool) : wd a < 2 ^ a.length := by
  induction a with
  | nil => simp [wd]
  | cons x r ih =>
    simp only [wd, List.length_cons, Nat.pow_succ]
    cases x <;> simp <;> omega
theorem wd_bit (a : List Bool) (i : Nat) (b : Bool) (h : a[i]? = some b) : wd a / 2 ^ i % 2 = (if b then 1 else 0) := by
  induction a generalizing i with
  | nil => simp at h
  | cons x r ih =>
    cases i with
    | zero =>
      simp at h
      subst h
      simp only [wd, Nat.pow_zero, Nat.div_one]
      cases x <;> simp <;> omega
    | succ i =>
      have h' : r[i]? = some b := by simpa using h
      rw [← ih i h', Nat.pow_succ, Nat.mul_comm, ← Nat.div_div_eq_div_mul]
      congr 2
      simp only [wd]
      cases x <;> simp <;> omega
def chunk (n : Nat) (bs : List Bool) (k : Nat) : List Bool := (bs.drop (n * k)).take n
def wordsN (bs : List Bool) : List Nat := (List.range ((bs.length + 31) / 32)).map fun k => wd (chunk 32 bs k)
theorem chunk_at {bs : List Bool} {p : Nat} {b : Bool} (h : bs[p]? = some b) : (chunk 32 bs (p / 32))[p % 32]? = some b := by
  unfold chunk
  rw [List.getElem?_take, if_pos (Nat.mod_lt _ (by decide)), List.getElem?_drop, Nat.div_add_mod, h]
theorem wordsN_at {bs : List Bool} {p : Nat} (h : p < bs.length) : (wordsN bs)[p / 32]? = some (wd (chunk 32 bs (p / 32))) := by
  unfold wordsN
  rw [List.getElem?_map, List.getElem?_range (by omega)]
  rfl
theorem wordsN_length (bs : List Bool) : (wordsN bs).length = (bs.length + 31) / 32 := by simp [wordsN]
theorem word_bit {bs : List Bool} {p : Nat} {b : Bool} (h : bs[p]? = some b) : wd (chunk 32 bs (p / 32)) / 2 ^ (p % 32) % 2 = (if b then 1 else 0) := wd_bit _ _ _ (chunk_at h)
end Tw
namespace Tw
open PySem PySem.Spec PyProof.Rows L2
theorem rgc_of {len : Nat} {c : Nat} {n : Nat} (hc : 1 ≤ c) (hc2 : c < 100000) (hl : len ≤ 100000) (hn : ((len + c - 1) / c : Nat) = n) (hb : n ≤ 100000) : RgC 0 len c n := by
  have e : Builtin.Range.rangeSize 0 len c = n := by
    rw [rangeSize_pos (by omega) (by omega), ← hn]
    rw [show (len : Int) + c - 1 = ((len + c - 1 : Nat) : Int) by omega]
    exact (Int.natCast_ediv _ _).symm
  have hnc : n * c ≤ 200000 := by
    have := Nat.div_mul_le_self (len + c - 1) c
    rw [hn] at this
    omega
  refine ⟨by omega, by omega, ?_, e⟩
  unfold Builtin.Range.small
  rw [e]
  have h2 : ((n : Int) * (c : Int)) = ((n * c : Nat) : Int) := by rw [Int.natCast_mul]
  simp only [Builtin.Range.rangeFitsLong, Bool.and_eq_true, Bool.or_eq_true, decide_eq_true_eq, beq_iff_eq]
  rw [if_pos (by omega)]
  simp only [Bool.and_eq_true, decide_eq_true_eq]
  omega
abbrev natsV (ns : List Nat) : List V := ns.map fun (n : Nat) => V.int (n : Int)
section
variable {P : Program} {w : World} {K : PySem.W.Frag} {mg : Str → Option Value} {base : Heap}
def spWords : Sp := fun vs H Q _ => ∃ bs : List Bool, vs = [.str (T bs)] ∧ bs.length ≤ 10000 ∧ ∀ (p : Addr) (H' : Hp), Same H H' → H p = none → H' p = some (.tup (natsV (wordsN bs))) → Q (.ref p) H'
abbrev N_words_of : List Str := ["text", "words", "start", "word", "place", "sign"]
theorem sc_words_of : FnScope N_words_of ["text"] (defScope s_words_of) := ⟨rfl, rfl, rfl, by decide +kernel, rfl, by decide +kernel, by decide +kernel⟩
theorem ok_words_of {f : Addr} {fd : FuncData} (F : D0 K "words_of" "words_of" s_words_of f fd) (Z : Txt K mg) : FnOk P w K mg base (L2.CX P w) 1 f fd ["text"] spWords := by
  refine F.ok sc_words_of (fun vs H Q E h => ?_) (fun cdv A outer s H vs Q E hr h => ?_)
  · obtain ⟨bs, rfl, _⟩ := h
    rfl
  · obtain ⟨bs, rfl, hz, k⟩ := h
    refine ⟨_, (pss_cons (ps_set (i := 1) sc_words_of.nd rfl (Or.inl rfl) (pe_lst pa_nil))
      (pss_cons (ps_for (passes_of rfl) rfl (pi_range3 (by rfl) Z.f_range (pa_cons pe_int (pa_cons (pe_callB call_len (by rfl) Z.f_len PySem.boot_len (pa_cons (pv 0) pa_nil)) (pa_cons (pe_gc rfl Z.i_WORD) pa_nil)))) (pg_name (i := 2) sc_words_of.nd rfl (Or.inl rfl))
        (pss_cons (ps_set (i := 3) sc_words_of.nd rfl (Or.inl rfl) pe_int)
        (pss_cons (ps_for (passes_of rfl) rfl (pi_enumS (by rfl) Z.f_enumerate (pa_cons (pe_slice sl_str (pv 0) (po_some (pv 2)) (po_some (pe_op op_add (pv 2) (pe_gc rfl Z.i_WORD)))) pa_nil)) (pg_tup rfl (pgs_cons (pg_name (i := 4) sc_words_of.nd rfl (Or.inl rfl)) (pgs_cons (pg_name (i := 5) sc_words_of.nd rfl (Or.inl rfl)) pgs_nil)))
          (pss_one (ps_if (pt_cmpR op_eq (pv 5) pe_str (nomark _)) (pss_one (ps_set (i := 3) sc_words_of.nd rfl (Or.inl rfl) (pe_op op_or (pv 3) (pe_op op_shl pe_int (pv 4)))))
            pss_nil)))
        (pss_one (ps_expr (pe_bm PySem.F.plainAttrs_list PySem.F.slot_list_append PySem.F.type_list_append mt_append (pv 1) (pa_cons (pv 3) pa_nil)))))))
      (pss_one (ps_ret (pe_callTy call_tuple_of (by rfl) Z.f_tuple (by decide +kernel) (pa_cons (pv 1) pa_nil)))))), ?_⟩
    have hln : (T bs).length ≤ sizeLine := by rw [T_length]; exact sz1 (by omega)
    refine ⟨(by show 0 ≤ sizeLine; decide), fun p hp => ?_⟩
    refine ⟨_, rfl, _, _, rfl, ⟨hln, rfl⟩, _, _, _, (bs.length + 31) / 32, rfl, by rw [T_length]; exact rgc_of (c := 32) (by decide) (by decide) (by omega) (by omega) (by omega), ?_⟩
    refine for_rangeC (fun i σ H' => ∃ v2 v3 v4 v5, σ = [some (.str (T bs)), some (.ref p), v2, v3, v4, v5] ∧ H' p = some (.lst (natsV ((List.range i).map fun k => wd (chunk 32 bs k)))) ∧ Same H H')
      ⟨none, none, none, none, rfl, upd_same, same_new hp⟩ ?_ ?_
    · rintro i σ H1 hi ⟨v2, v3, v4, v5, rfl, hl, s1⟩
      refine ⟨_, rfl, _, rfl, _, rfl, _, rfl, _, _, rfl, rfl, _, rfl, _, rfl, hln, _, rfl, ?_⟩
      have e1 : (0 + ((i : Nat) : Int) * 32) = ((32 * i : Nat) : Int) := by omega
      have e2 : (0 + ((i : Nat) : Int) * 32 + 32) = ((32 * i + 32 : Nat) : Int) := by omega
      rw [e1, show (((32 * i : Nat) : Int) + 32) = ((32 * i + 32 : Nat) : Int) by omega, cutS_T, show 32 * i + 32 - 32 * i = 32 by omega]
      change ∃ W, _
      have hcl : (chunk 32 bs i).length ≤ 32 := by unfold chunk; rw [List.length_take]; omega
      refine for_enumT (bs := chunk 32 bs i) (fun j σ H' => ∃ v4 v5, σ = [some (.str (T bs)), some (.ref p), some (.int ((32 * i : Nat) : Int)), some (.int (wd ((chunk 32 bs i).take j) : Nat)), v4, v5] ∧ H' p = some (.lst (natsV ((List.range i).map fun k => wd (chunk 32 bs k)))) ∧ Same H H')
        ⟨_, _, rfl, hl, s1⟩ ?_ ?_
      · rintro j b t σ H2 hb ⟨v4, v5, rfl, hl2, s2⟩ ht
        have hj : j < (chunk 32 bs i).length := (List.getElem?_eq_some_iff.mp hb).1
        refine ⟨_, _, rfl, SqT.of upd_same, rfl, _, _, rfl, _, _, rfl, rfl, ?_⟩
        have tl : ((chunk 32 bs i).take j).length = j := by rw [List.length_take]; omega
        have wd1 : wd ((chunk 32 bs i).take (j + 1)) = wd ((chunk 32 bs i).take j) + (if b then 1 else 0) * 2 ^ j := by
          rw [take_more hb, wd_snoc, tl]
        refine ⟨_, rfl, rfl, _, rfl, ite_b (sign_one b) (fun hb1 => ?_) (fun hb1 => ?_)⟩
        · subst hb1
          refine ⟨_, rfl, _, rfl, _, _, rfl, rfl, ⟨by omega, by omega, by decide⟩, _, _, rfl, rfl, ?_⟩
          refine ⟨some (.int (j : Nat)), some (.str ⟨#[sgn true]⟩), ?_, (same_new ht) _ _ hl2, sN s2 ht⟩
          have hlt2 : ((wd ((chunk 32 bs i).take j) : Nat) : Int) < 2 ^ j := by
            have := wd_lt ((chunk 32 bs i).take j)
            rw [tl] at this
            exact_mod_cast this
          have eo := Bits.bitOr_join (b := 1) (k := j) (Int.natCast_nonneg (wd ((chunk 32 bs i).take j))) hlt2 (by decide)
          dsimp only
          rw [show ((j : Nat) : Int).toNat = j from rfl, eo, wd1, if_pos rfl, Nat.one_mul, Int.one_mul, Int.natCast_add]
          rw [show (((2 ^ j : Nat)) : Int) = 2 ^ j by exact_mod_cast rfl]
          rfl
        · subst hb1
          refine ⟨some (.int (j : Nat)), some (.str ⟨#[sgn false]⟩), ?_, (same_new ht) _ _ hl2, sN s2 ht⟩
          rw [wd1, if_neg Bool.false_ne_true, Nat.zero_mul, Nat.add_zero]
          rfl
      · rintro σ H2 ⟨v4, v5, rfl, hl2, s2⟩
        rw [List.take_length]
        refine ⟨_, rfl, .inl ⟨rfl, _, SqL.of hl2⟩, _, rfl, p, _, _, rfl, rfl, hl2, sz2 (by simp; omega), ?_⟩
        refine ⟨_, _, _, _, rfl, ?_, sM s2 hp⟩
        rw [upd_same, List.range_succ, List.map_append, natsV, natsV, List.map_append]
        rfl
    · rintro σ H1 ⟨v2, v3, v4, v5, rfl, hl, s1⟩
      exact ⟨_, rfl, p, _, rfl, .inl ⟨SqL.of hl, fun l hl2 => k l _ (sN s1 hl2) (s1.free hl2) upd_same⟩⟩
end
end Tw
namespace Tw
open PySem PySem.Spec PyProof.Rows L2
section
variable {P : Program} {w : World} {K : PySem.W.Frag} {mg : Str → Option Value} {base : Heap}
def BitsAt (K : PySem.W.Frag) (H : Hp) (b : Addr) (bs : List Bool) : Prop := ∃ dx kt, H b = some (.ins (He.ga K "Bits") dx [("kept", .ref kt), ("length", .int ((bs.length : Nat) : Int))]) ∧ H kt = some (.tup (natsV (wordsN bs))) ∧ bs.length ≤ 10000
theorem BitsAt.mono {H H' : Hp} {b : Addr} {bs : List Bool} (s : Same H H') (h : BitsAt K H b bs) : BitsAt K H' b bs := by
  obtain ⟨dx, kt, h1, h2, h3⟩ := h
  exact ⟨dx, kt, s _ _ h1, s _ _ h2, h3⟩
theorem sgn_in (b : Bool) : decide (sgn b ∈ ("01" : Str).cps.toList) = true := by cases b <;> decide +kernel
def spBitsI (K : PySem.W.Frag) : Sp := fun vs H Q _ => ∃ (b dx : Addr) (bs : List Bool), vs = [.ref b, .str (T bs)] ∧ H b = some (.ins (He.ga K "Bits") dx []) ∧ bs.length ≤ 10000 ∧ ∀ H', SameX b H H' → BitsAt K H' b bs → Q .non H'
abbrev N_Bits_init : List Str := ["self", "text", "sign"]
theorem sc_Bits_init : FnScope N_Bits_init ["self", "text"] (defScope s_Bits_init) := ⟨rfl, rfl, rfl, by decide +kernel, rfl, by decide +kernel, by decide +kernel⟩
theorem ok_Bits_init {f : Addr} {fd : FuncData} (F : D0 K "__init__" "Bits.__init__" s_Bits_init f fd) (Z : Txt K mg) (c_words_of : Cal P w K mg base 1 "words_of" ["text"] spWords) : FnOk P w K mg base (L2.CX P w) 2 f fd ["self", "text"] (spBitsI K) := by
  refine F.ok sc_Bits_init (fun vs H Q E h => ?_) (fun cdv A outer s H vs Q E hr h => ?_)
  · obtain ⟨b, dx, bs, rfl, _⟩ := h
    rfl
  · obtain ⟨b, dx, bs, rfl, hb, hz, k⟩ := h
    refine ⟨_, (pss_cons (ps_if (PW.pt (pw_or (pt_not (pt_val (pe_callB call_isi (by rfl) Z.f_isinstance (by decide +kernel) (pa_cons (pv 1) (pa_cons (pe_bltn (v := .ty "str") (u := .type "str") (by rfl) Z.f_str (by decide +kernel) rfl) pa_nil))))) (pw_or (pt_cmpR op_gt (pe_callB call_len (by rfl) Z.f_len PySem.boot_len (pa_cons (pv 1) pa_nil)) (pe_gc rfl Z.i_MOST_bits) (nomark _)) (pw_or1 (pt_not (pt_val (pe_callB (cr_all rfl) (by rfl) Z.f_all (by decide +kernel) (pa_cons (pe_lc (own := [("sign", 2)]) (g := gName 2) (tt := tYes) rfl sc_Bits_init.nd (pi_str (pv 1)) (blkOk_by (N := N_Bits_init) (sc := defScope s_Bits_init) (by decide +kernel)) (fun _ _ _ _ _ => pg_name (i := 2) sc_Bits_init.nd rfl (Or.inl rfl)) (fun _ _ _ _ _ => pts_nil) (fun _ _ _ _ _ => (pe_cmpR op_in_sign (pv 2) pe_str rfl))) pa_nil)))))))) pss_dead
        pss_nil)
      (pss_cons (ps_fld (pv 0) (pe_c c_words_of hr (takes_of rfl rfl rfl rfl) (pa_cons (pv 1) pa_nil)) rfl)
      (pss_one (ps_fld (pv 0) (pe_callB call_len (by rfl) Z.f_len PySem.boot_len (pa_cons (pv 1) pa_nil)) rfl)))), ?_⟩
    have hln : (T bs).length ≤ sizeLine := by rw [T_length]; exact sz1 (by omega)
    refine ⟨_, rfl, _, _, _, _, _, rfl, .ty _, .base (.str _), kit_ty (r := true) (by decide +kernel), _, rfl, iteF ?_⟩
    refine ⟨_, rfl, _, _, rfl, ⟨hln, rfl⟩, _, _, rfl, rfl, _, rfl, ite_d rfl (fun h1 => absurd h1 (by rw [T_length]; omega)) (fun _ => ?_)⟩
    refine ⟨_, rfl, _, rfl, fun D hD => lc_str (bs := bs) (fun i H' => H' D = some (.lst ((List.replicate i true).map V.bl)) ∧ Same H H') ⟨upd_same, same_new hD⟩ (fun i c H1 hc ⟨hl, s1⟩ => ?_) (fun H1 ⟨hl, s1⟩ => ?_)⟩
    · have hi : i < bs.length := (List.getElem?_eq_some_iff.mp hc).1
      refine ⟨rfl, _, rfl, _, _, rfl, rfl, _, hl, sz2 (by simp; omega), ?_, sM s1 hD⟩
      rw [upd_same, sgn_in, List.replicate_succ', List.map_append]
      rfl
    · refine ⟨_, _, rfl, SqL.of hl, _, rfl, ?_⟩
      have ea : (List.replicate bs.length true).all id = true := by simp
      rw [ea]
      refine iteF ?_
      refine ⟨_, rfl, _, rfl, hz, fun p H2 s2 hp hl2 => ?_⟩
      have s3 := s1.trans s2
      refine ⟨_, rfl, b, _, _, _, rfl, s3 _ _ hb, Z.c_Bits, Z.n_Bits_kept, (by decide), ?_⟩
      refine ⟨_, rfl, _, _, rfl, ⟨hln, rfl⟩, _, rfl, b, _, _, _, rfl, upd_same, Z.c_Bits, Z.n_Bits_length, (by show 1 < 1000; decide), ?_⟩
      have hpb : p ≠ b := by
        intro z
        subst z
        rw [s1 _ _ hb] at hp
        cases hp
      refine k _ ((Same.x s3).put.put) ⟨dx, p, ?_, ?_, hz⟩
      · rw [upd_same, T_length]
        rfl
      · rw [upd_ne hpb, upd_ne hpb]
        exact hl2
def spSize (K : PySem.W.Frag) : Sp := fun vs H Q _ => ∃ (b : Addr) (bs : List Bool), vs = [.ref b] ∧ BitsAt K H b bs ∧ Q (.int ((bs.length : Nat) : Int)) H
abbrev N_Bits_size : List Str := ["self"]
theorem sc_Bits_size : FnScope N_Bits_size ["self"] (defScope s_Bits_size) := ⟨rfl, rfl, rfl, by decide +kernel, rfl, by decide +kernel, by decide +kernel⟩
theorem ok_Bits_size {f : Addr} {fd : FuncData} (F : D0 K "size" "Bits.size" s_Bits_size f fd) (Z : Txt K mg) : FnOk P w K mg base (L2.CX P w) 1 f fd ["self"] (spSize K) := by
  refine F.ok sc_Bits_size (fun vs H Q E h => ?_) (fun cdv A outer s H vs Q E hr h => ?_)
  · obtain ⟨b, bs, rfl, _⟩ := h
    rfl
  · obtain ⟨b, bs, rfl, ⟨dx, kt, h1, h2, h3⟩, k⟩ := h
    refine ⟨_, (pss_one (ps_ret (pe_fld (pv 0) rfl))), ?_⟩
    exact ⟨_, rfl, b, _, _, _, _, rfl, h1, Z.c_Bits, Z.n_Bits_length, rfl, k⟩
def spWordsM (K : PySem.W.Frag) : Sp := fun vs H Q _ => ∃ (b : Addr) (bs : List Bool), vs = [.ref b] ∧ BitsAt K H b bs ∧ ∀ kt, H kt = some (.tup (natsV (wordsN bs))) → Q (.ref kt) H
abbrev N_Bits_words : List Str := ["self"]
theorem sc_Bits_words : FnScope N_Bits_words ["self"] (defScope s_Bits_words) := ⟨rfl, rfl, rfl, by decide +kernel, rfl, by decide +kernel, by decide +kernel⟩
theorem ok_Bits_words {f : Addr} {fd : FuncData} (F : D0 K "words" "Bits.words" s_Bits_words f fd) (Z : Txt K mg) : FnOk P w K mg base (L2.CX P w) 1 f fd ["self"] (spWordsM K) := by
  refine F.ok sc_Bits_words (fun vs H Q E h => ?_) (fun cdv A outer s H vs Q E hr h => ?_)
  · obtain ⟨b, bs, rfl, _⟩ := h
    rfl
  · obtain ⟨b, bs, rfl, ⟨dx, kt, h1, h2, h3⟩, k⟩ := h
    refine ⟨_, (pss_one (ps_ret (pe_fld (pv 0) rfl))), ?_⟩
    exact ⟨_, rfl, b, _, _, _, _, rfl, h1, Z.c_Bits, Z.n_Bits_kept, rfl, k kt h2⟩
def spNeed : Sp := fun vs H Q _ => ∃ (b : Addr) (p most : Int), vs = [.ref b, .int p, .int most] ∧ 0 ≤ p ∧ p ≤ most ∧ Q .non H
abbrev N_Bits_need : List Str := ["self", "place", "most"]
theorem sc_Bits_need : FnScope N_Bits_need ["self", "place", "most"] (defScope s_Bits_need) := ⟨rfl, rfl, rfl, by decide +kernel, rfl, by decide +kernel, by decide +kernel⟩
theorem ok_Bits_need {f : Addr} {fd : FuncData} (F : D0 K "need" "Bits.need" s_Bits_need f fd) (Z : Txt K mg) (c_is_amid : Cal P w K mg base 1 "is_amid" ["thing", "low", "high"] spAmid) : FnOk P w K mg base (L2.CX P w) 2 f fd ["self", "place", "most"] spNeed := by
  refine F.ok sc_Bits_need (fun vs H Q E h => ?_) (fun cdv A outer s H vs Q E hr h => ?_)
  · obtain ⟨b, p, most, rfl, _⟩ := h
    rfl
  · obtain ⟨b, p, most, rfl, h1, h2, k⟩ := h
    refine ⟨_, (pss_one (ps_if (pt_not (pt_val (pe_c c_is_amid hr (takes_of rfl rfl rfl rfl) (pa_cons (pv 1) (pa_cons pe_int (pa_cons (pv 2) pa_nil)))))) pss_dead
        pss_nil)), ?_⟩
    exact ⟨_, rfl, _, rfl, _, _, _, rfl, h1, h2, _, rfl, iteF k⟩
def spAt (K : PySem.W.Frag) : Sp := fun vs H Q _ => ∃ (b : Addr) (bs : List Bool) (p : Nat) (c : Bool), vs = [.ref b, .int (p : Nat)] ∧ BitsAt K H b bs ∧ bs[p]? = some c ∧ Q (.int (if c then 1 else 0)) H
abbrev N_Bits_at : List Str := ["self", "place"]
theorem sc_Bits_at : FnScope N_Bits_at ["self", "place"] (defScope s_Bits_at) := ⟨rfl, rfl, rfl, by decide +kernel, rfl, by decide +kernel, by decide +kernel⟩
theorem ok_Bits_at {f : Addr} {fd : FuncData} (F : D0 K "at" "Bits.at" s_Bits_at f fd) (Z : Txt K mg) : FnOk P w K mg base (L2.CX P w) 1 f fd ["self", "place"] (spAt K) := by
  refine F.ok sc_Bits_at (fun vs H Q E h => ?_) (fun cdv A outer s H vs Q E hr h => ?_)
  · obtain ⟨b, bs, p, c, rfl, _⟩ := h
    rfl
  · obtain ⟨b, bs, p, c, rfl, ⟨dx, kt, h1, h2, h3⟩, hc, k⟩ := h
    refine ⟨_, (pss_one (ps_ret (pe_op op_and (pe_op op_shr (pe_ix ix_tup (pe_fld (pv 0) rfl) (pe_op op_fdiv (pv 1) (pe_gc rfl Z.i_WORD)) (fun _ _ => rfl)) (pe_op op_mod (pv 1) (pe_gc rfl Z.i_WORD))) pe_int))), ?_⟩
    have hp : p < bs.length := (List.getElem?_eq_some_iff.mp hc).1
    have hw : atI (natsV (wordsN bs)) ((p : Int) / 32) = some (.int ((wd (chunk 32 bs (p / 32)) : Nat) : Int)) := by
      rw [show (p : Int) / 32 = ((p / 32 : Nat) : Int) by omega]
      refine atI_n ?_
      rw [natsV, List.getElem?_map, wordsN_at hp]
      rfl
    refine ⟨_, rfl, b, _, _, _, _, rfl, h1, Z.c_Bits, Z.n_Bits_kept, rfl, _, rfl, _, _, rfl, rfl, ⟨by decide, by decide⟩, kt, _, _, _, rfl, rfl, SqT.of h2, hw, ?_⟩
    refine ⟨_, rfl, _, _, rfl, rfl, (by show (0 : Int) < _; decide), _, _, rfl, rfl, (by show (0 : Int) ≤ _; omega), _, _, rfl, rfl, ?_⟩
    have e1 := word_bit hc
    have e2 : Builtin.bitAnd (((wd (chunk 32 bs (p / 32)) : Nat) : Int) / 2 ^ ((p : Int) % 32).toNat) 1 = (if c then 1 else 0) := by
      rw [show ((p : Int) % 32).toNat = p % 32 by omega]
      have := Bits.bit_at (x := ((wd (chunk 32 bs (p / 32)) : Nat) : Int)) (p % 32)
      rw [Int.fdiv_eq_ediv_of_nonneg _ (by exact_mod_cast Nat.zero_le _)] at this
      rw [this]
      have e3 : ((wd (chunk 32 bs (p / 32)) / 2 ^ (p % 32) % 2 : Nat) : Int) = ((if c then 1 else 0 : Nat) : Int) := by rw [e1]
      rw [Int.natCast_emod, Int.natCast_ediv] at e3
      rw [show (((2 ^ (p % 32) : Nat)) : Int) = 2 ^ (p % 32) by exact_mod_cast rfl] at e3
      rw [show ((2 : Nat) : Int) = 2 from rfl] at e3
      rw [e3]
      cases c <;> rfl
    dsimp only
    rw [e2]
    exact k
end
end Tw
namespace Tw
open PySem PySem.Spec PyProof.Rows L2
section
variable {P : Program} {w : World} {K : PySem.W.Frag} {mg : Str → Option Value} {base : Heap}
theorem str_bit (c : Bool) : V.str (toString (if c then 1 else 0 : Int)) = V.str (T [c]) := by cases c <;> decide +kernel
theorem bit_small (c : Bool) : (if c then 1 else 0 : Int).natAbs.log2 < 1920 := by cases c <;> decide
def spStretch (K : PySem.W.Frag) : Sp := fun vs H Q _ => ∃ (b : Addr) (bs : List Bool), vs = [.ref b, .int 0, .int ((bs.length : Nat) : Int)] ∧ BitsAt K H b bs ∧ ∀ H', Same H H' → Q (.str (T bs)) H'
abbrev N_Bits_stretch : List Str := ["self", "low", "high", "place"]
theorem sc_Bits_stretch : FnScope N_Bits_stretch ["self", "low", "high"] (defScope s_Bits_stretch) := ⟨rfl, rfl, rfl, by decide +kernel, rfl, by decide +kernel, by decide +kernel⟩
theorem ok_Bits_stretch {f : Addr} {fd : FuncData} (F : D0 K "stretch" "Bits.stretch" s_Bits_stretch f fd) (Z : Txt K mg) (m_Bits_need : Mtd P w K mg base 2 (He.ga K "Bits") "need" ["self", "place", "most"] spNeed) (m_Bits_at : Mtd P w K mg base 1 (He.ga K "Bits") "at" ["self", "place"] (spAt K)) :
    FnOk P w K mg base (L2.CX P w) 3 f fd ["self", "low", "high"] (spStretch K) := by
  refine F.ok sc_Bits_stretch (fun vs H Q E h => ?_) (fun cdv A outer s H vs Q E hr h => ?_)
  · obtain ⟨b, bs, rfl, _⟩ := h
    rfl
  · obtain ⟨b, bs, rfl, B0, k⟩ := h
    obtain ⟨dx, kt, h1, h2, h3⟩ := id B0
    refine ⟨_, (pss_cons (ps_expr (pe_m m_Bits_need Z.c_Bits hr (takes_of rfl rfl rfl rfl) (pv 0) (pa_cons (pv 1) (pa_cons (pe_fld (pv 0) rfl) pa_nil))))
      (pss_cons (ps_expr (pe_m m_Bits_need Z.c_Bits hr (takes_of rfl rfl rfl rfl) (pv 0) (pa_cons (pv 2) (pa_cons (pe_fld (pv 0) rfl) pa_nil))))
      (pss_cons (ps_if (pt_cmpR op_gt (pv 1) (pv 2) (nomark _)) pss_dead
        pss_nil)
      (pss_one (ps_ret (pe_join pe_str (pe_lc (own := [("place", 3)]) (g := gName 3) (tt := tYes) rfl sc_Bits_stretch.nd (pi_range2 (by rfl) Z.f_range (pa_cons (pv 1) (pa_cons (pv 2) pa_nil))) (blkOk_by (N := N_Bits_stretch) (sc := defScope s_Bits_stretch) (by decide +kernel)) (fun _ _ _ _ _ => pg_name (i := 3) sc_Bits_stretch.nd rfl (Or.inl rfl)) (fun _ _ _ _ _ => pts_nil) (fun _ _ _ _ _ => (pe_callTy call_str_int (by rfl) Z.f_str (by decide +kernel) (pa_cons (pe_m m_Bits_at Z.c_Bits hr takes0 (pv 0) (pa_cons (pv 3) pa_nil)) pa_nil)))))))))), ?_⟩
    refine ⟨_, rfl, b, _, _, rfl, h1, rfl, _, rfl, _, rfl, b, _, _, _, _, rfl, h1, Z.c_Bits, Z.n_Bits_length, rfl, _, _, _, rfl, by omega, by omega, ?_⟩
    refine ⟨_, rfl, b, _, _, rfl, h1, rfl, _, rfl, _, rfl, b, _, _, _, _, rfl, h1, Z.c_Bits, Z.n_Bits_length, rfl, _, _, _, rfl, by omega, by omega, ?_⟩
    refine ⟨_, rfl, _, rfl, _, _, rfl, rfl, _, rfl, ite_d rfl (fun q => absurd q (by omega)) (fun _ => ?_)⟩
    refine ⟨⟨_, rfl⟩, _, rfl, _, rfl, _, _, rfl, ⟨by omega, by omega, by omega, by omega⟩, fun D hD => lc_range (fun i H' => H' D = some (.lst (txs ((bs.take i).map fun c => [c]))) ∧ Same H H') ⟨upd_same, same_new hD⟩ (fun i H1 hi ⟨hl, s1⟩ => ?_) (fun H1 ⟨hl, s1⟩ => ?_)⟩
    · have hi' : i < bs.length := by omega
      obtain ⟨c, hc⟩ : ∃ c, bs[i]? = some c := ⟨_, List.getElem?_eq_getElem hi'⟩
      refine ⟨rfl, _, rfl, b, _, _, rfl, s1 _ _ h1, rfl, _, rfl, b, bs, i, c, by rw [Int.zero_add], B0.mono s1, hc, _, rfl, bit_small c, ?_⟩
      rw [str_bit]
      refine ⟨_, hl, sz2 (by simp; omega), ?_, sM s1 hD⟩
      rw [upd_same, take_more hc]
      simp [txs]
    · rw [show (((bs.length : Nat) : Int) - 0).toNat = bs.length by omega, List.take_length] at hl
      refine ⟨_, _, (bs.map fun b => [b]).map T, rfl, rfl, .inl (joinL (SqL.of hl)), joinN (by rw [flat_one]; omega), ?_⟩
      rw [T_join, flat_one]
      exact k H1 s1
def spText (K : PySem.W.Frag) : Sp := fun vs H Q _ => ∃ (b : Addr) (bs : List Bool), vs = [.ref b] ∧ BitsAt K H b bs ∧ ∀ H', Same H H' → Q (.str (T bs)) H'
abbrev N_Bits_text : List Str := ["self"]
theorem sc_Bits_text : FnScope N_Bits_text ["self"] (defScope s_Bits_text) := ⟨rfl, rfl, rfl, by decide +kernel, rfl, by decide +kernel, by decide +kernel⟩
theorem ok_Bits_text {f : Addr} {fd : FuncData} (F : D0 K "text" "Bits.text" s_Bits_text f fd) (Z : Txt K mg) (m_Bits_stretch : Mtd P w K mg base 3 (He.ga K "Bits") "stretch" ["self", "low", "high"] (spStretch K)) :
    FnOk P w K mg base (L2.CX P w) 4 f fd ["self"] (spText K) := by
  refine F.ok sc_Bits_text (fun vs H Q E h => ?_) (fun cdv A outer s H vs Q E hr h => ?_)
  · obtain ⟨b, bs, rfl, _⟩ := h
    rfl
  · obtain ⟨b, bs, rfl, B0, k⟩ := h
    obtain ⟨dx, kt, h1, h2, h3⟩ := id B0
    refine ⟨_, (pss_one (ps_ret (pe_m m_Bits_stretch Z.c_Bits hr (takes_of rfl rfl rfl rfl) (pv 0) (pa_cons pe_int (pa_cons (pe_fld (pv 0) rfl) pa_nil))))), ?_⟩
    exact ⟨_, rfl, b, _, _, rfl, h1, rfl, _, rfl, b, _, _, _, _, rfl, h1, Z.c_Bits, Z.n_Bits_length, rfl, b, bs, rfl, B0, k⟩
end
end Tw
namespace Tw
open PySem PySem.Spec PyProof.Rows L2
theorem SameX.mod {a p : Addr} {H H1 : Hp} {o : HO} (s : SameX a H H1) (h : H p = none) : SameX a H (upd H1 p o) := fun b u n e => by
  rw [upd_ne (ne_of_none e h)]; exact s b u n e
section
variable {P : Program} {w : World} {K : PySem.W.Frag} {mg : Str → Option Value} {base : Heap}
theorem cut_nats {ns : List Nat} {lo hi : Option Int} {i : Nat} {x : V} (h : (cutV (natsV ns) lo hi)[i]? = some x) : ∃ n : Nat, x = .int (n : Int) := by
  have h1 := List.mem_of_getElem? h
  unfold cutV at h1
  obtain ⟨n, _, rfl⟩ := List.mem_map.mp (List.mem_of_mem_drop (List.mem_of_mem_take h1))
  exact ⟨n, rfl⟩
theorem cut_nats_len {ns : List Nat} {lo hi : Option Int} : (cutV (natsV ns) lo hi).length ≤ ns.length := by
  unfold cutV
  rw [List.length_take, List.length_drop, natsV, List.length_map]
  omega
def spCountsI (K : PySem.W.Frag) : Sp := fun vs H Q _ => ∃ (c dx b : Addr) (bs : List Bool), vs = [.ref c, .ref b] ∧ H c = some (.ins (He.ga K "Counts") dx []) ∧ BitsAt K H b bs ∧ ∀ H', SameX c H H' → Q .non H'
abbrev N_Counts_init : List Str := ["self", "bits", "found", "start", "word"]
theorem sc_Counts_init : FnScope N_Counts_init ["self", "bits"] (defScope s_Counts_init) := ⟨rfl, rfl, rfl, by decide +kernel, rfl, by decide +kernel, by decide +kernel⟩
theorem ok_Counts_init {f : Addr} {fd : FuncData} (F : D0 K "__init__" "Counts.__init__" s_Counts_init f fd) (Z : Txt K mg) (c_ones_in : Cal P w K mg base 1 "ones_in" ["word"] spOnes) (m_Bits_words : Mtd P w K mg base 1 (He.ga K "Bits") "words" ["self"] (spWordsM K)) (m_Bits_size : Mtd P w K mg base 1 (He.ga K "Bits") "size" ["self"] (spSize K)) :
    FnOk P w K mg base (L2.CX P w) 2 f fd ["self", "bits"] (spCountsI K) := by
  refine F.ok sc_Counts_init (fun vs H Q E h => ?_) (fun cdv A outer s H vs Q E hr h => ?_)
  · obtain ⟨c, dx, b, bs, rfl, _⟩ := h
    rfl
  · obtain ⟨c, dx, b, bs, rfl, hc, B0, k⟩ := h
    obtain ⟨dxb, kt, h1, h2, h3⟩ := id B0
    have hbc : b ≠ c := fun z => by
      subst z
      have e := Option.some.inj (hc.symm.trans h1)
      injection e with _ _ e3
      cases e3
    have ntc : ∀ {y : Addr} {xs : List V}, H y = some (.tup xs) → y ≠ c := fun {y xs} e z => by
      subst z
      rw [hc] at e
      cases e
    refine ⟨_, (pss_cons (ps_fld (pv 0) (pe_m0 m_Bits_words Z.c_Bits hr (takes_of rfl rfl rfl rfl) (pv 1)) rfl)
      (pss_cons (ps_fld (pv 0) (pe_m0 m_Bits_size Z.c_Bits hr (takes_of rfl rfl rfl rfl) (pv 1)) rfl)
      (pss_cons (ps_set (i := 2) sc_Counts_init.nd rfl (Or.inl rfl) (pe_lst (pa_cons pe_int pa_nil)))
      (pss_cons (ps_for (passes_of rfl) rfl (pi_range3 (by rfl) Z.f_range (pa_cons pe_int (pa_cons (pe_callB call_len (by rfl) Z.f_len PySem.boot_len (pa_cons (pe_fld (pv 0) rfl) pa_nil)) (pa_cons (pe_gc rfl Z.i_BLOCK) pa_nil)))) (pg_name (i := 3) sc_Counts_init.nd rfl (Or.inl rfl))
        (pss_one (ps_expr (pe_bm PySem.F.plainAttrs_list PySem.F.slot_list_append PySem.F.type_list_append mt_append (pv 2) (pa_cons (pe_op op_add (pe_ix ix_list (pv 2) (pe_un un_neg pe_int) (fun _ _ => rfl)) (pe_callB (cr_sum rfl) (by rfl) Z.f_sum (by decide +kernel) (pa_cons (pe_lc (own := [("word", 4)]) (g := gName 4) (tt := tYes) rfl sc_Counts_init.nd (pi_tup (pe_slice sl_tupA (pe_fld (pv 0) rfl) (po_some (pv 3)) (po_some (pe_op op_add (pv 3) (pe_gc rfl Z.i_BLOCK))))) (blkOk_by (N := N_Counts_init) (sc := defScope s_Counts_init) (by decide +kernel)) (fun _ _ _ _ _ => pg_name (i := 4) sc_Counts_init.nd rfl (Or.inl rfl)) (fun _ _ _ _ _ => pts_nil) (fun _ _ _ _ _ => (pe_c c_ones_in hr takes0 (pa_cons (pv 4) pa_nil)))) pa_nil))) pa_nil)))))
      (pss_one (ps_fld (pv 0) (pe_callTy call_tuple_of (by rfl) Z.f_tuple (by decide +kernel) (pa_cons (pv 2) pa_nil)) rfl)))))), ?_⟩
    have hwl := wordsN_length bs
    refine ⟨_, rfl, b, _, _, rfl, h1, rfl, b, bs, rfl, B0, fun kt' hkt' => ?_⟩
    refine ⟨_, rfl, c, _, _, _, rfl, hc, Z.c_Counts, Z.n_Counts_kept, (by decide), ?_⟩
    have sx1 := (SameX.refl (a := c) H).put (o := .ins (He.ga K "Counts") dx (putF "kept" (.ref kt') []))
    have B1 : BitsAt K (upd H c (.ins (He.ga K "Counts") dx (putF "kept" (.ref kt') []))) b bs := ⟨dxb, kt, sx1 _ _ hbc h1, sx1 _ _ (ntc h2) h2, h3⟩
    refine ⟨_, rfl, b, _, _, rfl, sx1 _ _ hbc h1, rfl, b, bs, rfl, B1, ?_⟩
    refine ⟨_, rfl, c, _, _, _, rfl, upd_same, Z.c_Counts, Z.n_Counts_all_many, (by show 1 < 1000; decide), ?_⟩
    have sx2 := sx1.put (o := .ins (He.ga K "Counts") dx (putF "all_many" (.int ((bs.length : Nat) : Int)) (putF "kept" (.ref kt') [])))
    refine ⟨(by show 1 ≤ sizeLine; decide), fun p hp => ?_⟩
    have hpc : p ≠ c := fun z => by
      subst z
      rw [upd_same] at hp
      cases hp
    have hp0 : H p = none := sx2.free hpc hp
    have hcp : ∀ o, (upd (upd (upd H c (.ins (He.ga K "Counts") dx (putF "kept" (.ref kt') []))) c (.ins (He.ga K "Counts") dx (putF "all_many" (.int ((bs.length : Nat) : Int)) (putF "kept" (.ref kt') [])))) p o) c = some (.ins (He.ga K "Counts") dx [("kept", .ref kt'), ("all_many", .int ((bs.length : Nat) : Int))]) := fun o => by
      rw [upd_ne (Ne.symm hpc), upd_same]
      rfl
    refine ⟨_, rfl, c, _, _, _, _, rfl, hcp _, Z.c_Counts, Z.n_Counts_kept, rfl, _, _, rfl, .inr ⟨_, SqT.of (sx2.new hp _ _ (ntc hkt') hkt'), rfl⟩, _, _, _, ((wordsN bs).length + 7) / 8, rfl, by rw [natsV, List.length_map]; exact rgc_of (c := 8) (by decide) (by decide) (by omega) (by omega) (by omega), ?_⟩
    refine for_rangeC (fun i σ H' => ∃ (v3 : Option V) (gs : List Int) (x : Int), σ = [some (.ref c), some (.ref b), some (.ref p), v3, none] ∧ H' c = some (.ins (He.ga K "Counts") dx [("kept", .ref kt'), ("all_many", .int ((bs.length : Nat) : Int))]) ∧ H' p = some (.lst ((gs ++ [x]).map V.int)) ∧ gs.length ≤ i ∧ SameX c H H')
      ⟨none, [], 0, rfl, hcp _, upd_same, Nat.le_refl _, sx2.new hp⟩ ?_ ?_
    · rintro i σ H1 hi ⟨v3, gs, x, rfl, hc1, hl1, hg, s1⟩
      refine ⟨_, rfl, .inl ⟨rfl, _, SqL.of hl1⟩, _, rfl, _, rfl, p, _, _, V.int x, rfl, rfl, SqL.of hl1, by rw [List.map_append]; exact atI_last _ _, ?_⟩
      refine ⟨_, rfl, c, _, _, _, _, rfl, hc1, Z.c_Counts, Z.n_Counts_kept, rfl, _, rfl, _, rfl, _, rfl, _, _, rfl, rfl, _, rfl, kt', _, rfl, SqT.of (s1 _ _ (ntc hkt') hkt'), ?_⟩
      refine ⟨fun _ => ?_, fun _ y hy => ?_⟩
      · have sy : Same H1 H1 := Same.refl H1
        have hs : ∀ H', Same H1 H' → SqT K H' kt' (natsV (wordsN bs)) := fun H' t => SqT.of (t _ _ (s1 _ _ (ntc hkt') hkt'))
        have he : ∀ (j : Nat) v, (natsV (wordsN bs))[j]? = some v → ∃ n : Nat, v = .int (n : Int) := fun j v e => by
          obtain ⟨n, _, rfl⟩ := List.mem_map.mp (List.mem_of_getElem? e)
          exact ⟨n, rfl⟩
        have hn : (natsV (wordsN bs)).length ≤ 1000 := by rw [natsV, List.length_map]; omega
        refine ⟨_, rfl, ⟨_, hs _ (Same.refl _)⟩, fun D hD => lc_tup (fun j H' => ∃ ms : List Int, ms.length = j ∧ H' D = some (.lst (ms.map V.int)) ∧ Same H1 H') ⟨[], rfl, upd_same, same_new hD⟩ (fun j H' _ ⟨_, _, _, t⟩ => hs H' t) (fun j v H' hv ⟨ms, hm, hlD, t⟩ => ?_) (fun H' ⟨ms, hm, hlD, t⟩ => ?_)⟩
        · have hj := (List.getElem?_eq_some_iff.mp hv).1
          obtain ⟨n, rfl⟩ := he j v hv
          refine ⟨rfl, _, rfl, n, rfl, fun m => ⟨_, hlD, sz2 (by rw [List.length_map]; omega), ms ++ [m], by simp [hm], ?_, sM t hD⟩⟩
          rw [upd_same]; simp
        · have hl3 := t _ _ (sy _ _ hl1)
          refine ⟨_, ms, rfl, SqL.of hlD, _, _, rfl, rfl, p, _, _, rfl, rfl, hl3, sz2 (by rw [List.length_map, List.length_append]; simp; omega), ?_⟩
          refine ⟨some (.int (0 + ((i : Nat) : Int) * 8)), gs ++ [x], x + ms.sum, rfl, by rw [upd_ne (Ne.symm hpc)]; exact t _ _ (sy _ _ hc1), ?_, by rw [List.length_append]; simp; omega, (s1.trans (Same.x (sy.trans t))).mod hp0⟩
          rw [upd_same, List.map_append, List.map_append, List.map_append]
          rfl
      · have he : ∀ (j : Nat) v, (cutV (natsV (wordsN bs)) (some (0 + ((i : Nat) : Int) * 8)) (some (0 + ((i : Nat) : Int) * 8 + 8)))[j]? = some v → ∃ n : Nat, v = .int (n : Int) := fun j v e => cut_nats e
        have hn : (cutV (natsV (wordsN bs)) (some (0 + ((i : Nat) : Int) * 8)) (some (0 + ((i : Nat) : Int) * 8 + 8))).length ≤ 1000 := Nat.le_trans cut_nats_len (by omega)
        generalize hcv : cutV (natsV (wordsN bs)) (some (0 + ((i : Nat) : Int) * 8)) (some (0 + ((i : Nat) : Int) * 8 + 8)) = cv at he hn
        have sy := same_new (o := .tup cv) hy
        have hs : ∀ H', Same (upd H1 y (.tup cv)) H' → SqT K H' y cv := fun H' t => SqT.of (t _ _ upd_same)
        refine ⟨_, rfl, ⟨_, hs _ (Same.refl _)⟩, fun D hD => lc_tup (fun j H' => ∃ ms : List Int, ms.length = j ∧ H' D = some (.lst (ms.map V.int)) ∧ Same (upd H1 y (.tup cv)) H') ⟨[], rfl, upd_same, same_new hD⟩ (fun j H' _ ⟨_, _, _, t⟩ => hs H' t) (fun j v H' hv ⟨ms, hm, hlD, t⟩ => ?_) (fun H' ⟨ms, hm, hlD, t⟩ => ?_)⟩
        · have hj := (List.getElem?_eq_some_iff.mp hv).1
          obtain ⟨n, rfl⟩ := he j v hv
          refine ⟨rfl, _, rfl, n, rfl, fun m => ⟨_, hlD, sz2 (by rw [List.length_map]; omega), ms ++ [m], by simp [hm], ?_, sM t hD⟩⟩
          rw [upd_same]; simp
        · have hl3 := t _ _ (sy _ _ hl1)
          refine ⟨_, ms, rfl, SqL.of hlD, _, _, rfl, rfl, p, _, _, rfl, rfl, hl3, sz2 (by rw [List.length_map, List.length_append]; simp; omega), ?_⟩
          refine ⟨some (.int (0 + ((i : Nat) : Int) * 8)), gs ++ [x], x + ms.sum, rfl, by rw [upd_ne (Ne.symm hpc)]; exact t _ _ (sy _ _ hc1), ?_, by rw [List.length_append]; simp; omega, (s1.trans (Same.x (sy.trans t))).mod hp0⟩
          rw [upd_same, List.map_append, List.map_append, List.map_append]
          rfl
    · rintro σ H1 ⟨v3, gs, x, rfl, hc1, hl1, hg, s1⟩
      refine ⟨_, rfl, p, _, rfl, .inl ⟨SqL.of hl1, fun l hl2 => ?_⟩⟩
      have hlc : l ≠ c := fun z => by
        subst z
        rw [hc1] at hl2
        cases hl2
      exact ⟨_, rfl, c, _, _, _, rfl, by rw [upd_ne (Ne.symm hlc)]; exact hc1, Z.c_Counts, Z.n_Counts_heads, (by show 2 < 1000; decide), k _ ((s1.new hl2).put)⟩
end
end Tw
namespace Tw
open PySem PySem.Spec PyProof.Rows L2
theorem sgn_int (b : Bool) : PySem.intText? ⟨#[sgn b]⟩ = some (if b then 1 else 0) := by cases b <;> decide +kernel
theorem sgn_len (b : Bool) : (⟨#[sgn b]⟩ : Str).length ≤ 640 := by cases b <;> decide
theorem nsgn_in (b : Bool) : (!decide (sgn b ∈ ("01" : Str).cps.toList)) = false := by cases b <;> decide +kernel
theorem st_two (h : Int) (b : Bool) : h + 2 * (if b then 1 else 0) - 1 = h + st b := by cases b <;> simp [st] <;> omega
theorem cmul2 (b : Bool) : CMul 2 (if b then 1 else 0) := by cases b <;> exact .inl ⟨by decide, by decide⟩
section
variable {P : Program} {w : World} {K : PySem.W.Frag} {mg : Str → Option Value} {base : Heap}
def spAsk : Sp := fun vs H Q _ => ∃ bs : List Bool, vs = [.str (T bs)] ∧ Bal bs ∧ bs.length ≤ 8000 ∧ ∀ H', Same H H' → Q .non H'
abbrev N_ask_row : List Str := ["text", "height", "place", "sign"]
theorem sc_ask_row : FnScope N_ask_row ["text"] (defScope s_ask_row) := ⟨rfl, rfl, rfl, by decide +kernel, rfl, by decide +kernel, by decide +kernel⟩
theorem ok_ask_row {f : Addr} {fd : FuncData} (F : D0 K "ask_row" "ask_row" s_ask_row f fd) (Z : Txt K mg) : FnOk P w K mg base (L2.CX P w) 1 f fd ["text"] spAsk := by
  refine F.ok sc_ask_row (fun vs H Q E h => ?_) (fun cdv A outer s H vs Q E hr h => ?_)
  · obtain ⟨bs, rfl, _⟩ := h
    rfl
  · obtain ⟨bs, rfl, hB, hz, k⟩ := h
    refine ⟨_, (pss_cons (ps_if (pt_not (pt_val (pe_callB call_isi (by rfl) Z.f_isinstance (by decide +kernel) (pa_cons (pv 0) (pa_cons (pe_bltn (v := .ty "str") (u := .type "str") (by rfl) Z.f_str (by decide +kernel) rfl) pa_nil))))) pss_dead
        pss_nil)
      (pss_cons (ps_set (i := 1) sc_ask_row.nd rfl (Or.inl rfl) pe_int)
      (pss_cons (ps_for (passes_of rfl) rfl (pi_enumS (by rfl) Z.f_enumerate (pa_cons (pv 0) pa_nil)) (pg_tup rfl (pgs_cons (pg_name (i := 2) sc_ask_row.nd rfl (Or.inl rfl)) (pgs_cons (pg_name (i := 3) sc_ask_row.nd rfl (Or.inl rfl)) pgs_nil)))
        (pss_cons (ps_if (PW.pt (pw_or (pt_cmpR op_eq (pv 2) (pe_gc rfl Z.i_MOST_pairs) (nomark _)) (pw_or1 (pt_cmpR op_notIn_sign (pv 3) pe_str rfl)))) pss_dead
          pss_nil)
        (pss_cons (ps_set (i := 1) sc_ask_row.nd rfl (Or.inl rfl) (pe_op op_sub (pe_op op_add (pv 1) (pe_op op_mul pe_int (pe_callTy call_int_str (by rfl) Z.f_int (by decide +kernel) (pa_cons (pv 3) pa_nil)))) pe_int))
        (pss_one (ps_if (pt_cmpR op_lt (pv 1) pe_int (nomark _)) pss_dead
          pss_nil)))))
      (pss_one (ps_if (pt_cmpR op_gt (pv 1) pe_int (nomark _)) pss_dead
        pss_nil))))), ?_⟩
    refine ⟨_, rfl, _, _, _, _, _, rfl, .ty _, .base (.str _), kit_ty (r := true) (by decide +kernel), _, rfl, iteF ?_⟩
    refine ⟨_, rfl, _, rfl, for_enumT (bs := bs) (fun i σ H' => ∃ (v2 v3 : Option V), σ = [some (.str (T bs)), some (.int (ht (bs.take i))), v2, v3] ∧ Same H H') ⟨none, none, rfl, Same.refl H⟩ ?_ ?_⟩
    · rintro i b t σ H1 hb ⟨v2, v3, rfl, s1⟩ ht'
      have hi : i < bs.length := (List.getElem?_eq_some_iff.mp hb).1
      have e1 : ht (bs.take (i + 1)) = ht (bs.take i) + st b := by rw [take_more hb, ht_app]; simp [ht]
      refine ⟨_, _, rfl, SqT.of upd_same, rfl, _, _, rfl, _, _, rfl, rfl, ?_⟩
      refine ⟨_, rfl, rfl, _, rfl, ite_d (dec_i _ _) (fun q => absurd q (by omega)) (fun _ => ?_)⟩
      refine ⟨_, rfl, _, _, rfl, rfl, _, rfl, ite_b (nsgn_in b) (fun q => by cases q) (fun _ => ?_)⟩
      refine ⟨_, rfl, _, rfl, _, _, rfl, sgn_int b, sgn_len b, _, _, rfl, rfl, cmul2 b, _, _, rfl, rfl, _, _, rfl, rfl, ?_⟩
      dsimp only
      rw [st_two, ← e1]
      refine ⟨_, rfl, _, _, rfl, rfl, _, rfl, ite_d rfl (fun q => absurd q (by have := hB.low (i + 1); omega)) (fun _ => ?_)⟩
      exact ⟨some (.int (i : Nat)), some (.str ⟨#[sgn b]⟩), rfl, sN s1 ht'⟩
    · rintro σ H1 ⟨v2, v3, rfl, s1⟩
      rw [List.take_length, hB.all]
      exact ⟨_, rfl, _, _, rfl, rfl, _, rfl, iteF (k H1 s1)⟩
theorem min_of {ns : List Int} (h : 0 < ns.length) : ∃ m, m ∈ ns ∧ ∀ y, y ∈ ns → m ≤ y := by
  induction ns with
  | nil => simp at h
  | cons x r ih =>
    cases r with
    | nil => exact ⟨x, by simp, fun y hy => by simp at hy; omega⟩
    | cons z t =>
      obtain ⟨m, hm, hl⟩ := ih (by simp)
      by_cases q : x ≤ m
      · refine ⟨x, by simp, fun y hy => ?_⟩
        rcases List.mem_cons.mp hy with rfl | hy
        · omega
        · have := hl y hy; omega
      · refine ⟨m, List.mem_cons_of_mem _ hm, fun y hy => ?_⟩
        rcases List.mem_cons.mp hy with rfl | hy
        · omega
        · exact hl y hy
def spTable : Sp := fun vs H Q _ => ∃ bs : List Bool, vs = [.str (T bs)] ∧ bs.length ≤ 8000 ∧ ∀ p H', Same H H' → Q (.ref p) H'
abbrev N_table_of : List Str := ["text", "found", "height", "start", "begin", "heights", "sign"]
theorem sc_table_of : FnScope N_table_of ["text"] (defScope s_table_of) := ⟨rfl, rfl, rfl, by decide +kernel, rfl, by decide +kernel, by decide +kernel⟩
theorem ok_table_of {f : Addr} {fd : FuncData} (F : D0 K "table_of" "table_of" s_table_of f fd) (Z : Txt K mg) : FnOk P w K mg base (L2.CX P w) 1 f fd ["text"] spTable := by
  refine F.ok sc_table_of (fun vs H Q E h => ?_) (fun cdv A outer s H vs Q E hr h => ?_)
  · obtain ⟨bs, rfl, _⟩ := h
    rfl
  · obtain ⟨bs, rfl, hz, k⟩ := h
    refine ⟨_, (pss_cons (ps_set (i := 1) sc_table_of.nd rfl (Or.inl rfl) (pe_lst pa_nil))
      (pss_cons (ps_set (i := 2) sc_table_of.nd rfl (Or.inl rfl) pe_int)
      (pss_cons (ps_for (passes_of rfl) rfl (pi_range3 (by rfl) Z.f_range (pa_cons pe_int (pa_cons (pe_callB call_len (by rfl) Z.f_len PySem.boot_len (pa_cons (pv 0) pa_nil)) (pa_cons (pe_gc rfl Z.i_STRETCH) pa_nil)))) (pg_name (i := 3) sc_table_of.nd rfl (Or.inl rfl))
        (pss_cons (ps_set (i := 4) sc_table_of.nd rfl (Or.inl rfl) (pv 2))
        (pss_cons (ps_set (i := 5) sc_table_of.nd rfl (Or.inl rfl) (pe_lst pa_nil))
        (pss_cons (ps_for (passes_of rfl) rfl (pi_str (pe_slice sl_str (pv 0) (po_some (pv 3)) (po_some (pe_op op_add (pv 3) (pe_gc rfl Z.i_STRETCH))))) (pg_name (i := 6) sc_table_of.nd rfl (Or.inl rfl))
          (pss_cons (ps_set (i := 2) sc_table_of.nd rfl (Or.inl rfl) (pe_op op_sub (pe_op op_add (pv 2) (pe_op op_mul pe_int (pe_callTy call_int_str (by rfl) Z.f_int (by decide +kernel) (pa_cons (pv 6) pa_nil)))) pe_int))
          (pss_one (ps_expr (pe_bm PySem.F.plainAttrs_list PySem.F.slot_list_append PySem.F.type_list_append mt_append (pv 5) (pa_cons (pv 2) pa_nil))))))
        (pss_one (ps_expr (pe_bm PySem.F.plainAttrs_list PySem.F.slot_list_append PySem.F.type_list_append mt_append (pv 1) (pa_cons (pe_tup (pa_cons (pv 4) (pa_cons (pe_callB (cr_min rfl) (by rfl) Z.f_min (by decide +kernel) (pa_cons (pv 5) pa_nil)) (pa_cons (pe_callB (cr_max rfl) (by rfl) Z.f_max (by decide +kernel) (pa_cons (pv 5) pa_nil)) pa_nil)))) pa_nil))))))))
      (pss_one (ps_ret (pe_callTy call_tuple_of (by rfl) Z.f_tuple (by decide +kernel) (pa_cons (pv 1) pa_nil))))))), ?_⟩
    have hln : (T bs).length ≤ sizeLine := by rw [T_length]; exact sz1 (by omega)
    refine ⟨(by show 0 ≤ sizeLine; decide), fun p hp => ?_⟩
    refine ⟨_, rfl, _, _, rfl, ⟨hln, rfl⟩, _, _, _, (bs.length + 255) / 256, rfl, by rw [T_length]; exact rgc_of (c := 256) (by decide) (by decide) (by omega) (by omega) (by omega), ?_⟩
    refine for_rangeC (fun i σ H' => ∃ (v3 v4 v5 v6 : Option V) (h : Int) (xs : List V), σ = [some (.str (T bs)), some (.ref p), some (.int h), v3, v4, v5, v6] ∧ H' p = some (.lst xs) ∧ xs.length ≤ i ∧ Same H H')
      ⟨none, none, none, none, 0, [], rfl, upd_same, Nat.le_refl _, same_new hp⟩ ?_ ?_
    · rintro i σ H1 hi ⟨v3, v4, v5, v6, h0, xs, rfl, hl, hx, s1⟩
      refine ⟨_, rfl, (by show 0 ≤ sizeLine; decide), fun q hq => ?_⟩
      have hq0 := s1.free hq
      have hpq : p ≠ q := ne_of_none hl hq
      refine ⟨_, rfl, _, rfl, _, rfl, _, rfl, _, _, rfl, rfl, _, rfl, _, rfl, hln, _, rfl, ?_⟩
      rw [show (0 + ((i : Nat) : Int) * 256) = ((256 * i : Nat) : Int) by omega, show (((256 * i : Nat) : Int) + 256) = ((256 * i + 256 : Nat) : Int) by omega, cutS_T, show 256 * i + 256 - 256 * i = 256 by omega]
      have hcl : 0 < ((bs.drop (256 * i)).take 256).length ∧ ((bs.drop (256 * i)).take 256).length ≤ 256 := by rw [List.length_take, List.length_drop]; omega
      generalize ((bs.drop (256 * i)).take 256) = cs at hcl
      refine for_strT (bs := cs) (fun j σ H' => ∃ (v6 : Option V) (h : Int) (ns : List Int), σ = [some (.str (T bs)), some (.ref p), some (.int h), some (.int ((256 * i : Nat) : Int)), some (.int h0), some (.ref q), v6] ∧ ns.length = j ∧ H' q = some (.lst (ns.map V.int)) ∧ H' p = some (.lst xs) ∧ Same H H')
        ⟨_, _, [], rfl, rfl, upd_same, (same_new hq) _ _ hl, sN s1 hq⟩ ?_ ?_
      · rintro j b σ H2 hb ⟨v6, h, ns, rfl, hn, hl2, hl3, s2⟩
        have hj : j < cs.length := (List.getElem?_eq_some_iff.mp hb).1
        refine ⟨_, rfl, _, rfl, _, _, rfl, sgn_int b, sgn_len b, _, _, rfl, rfl, cmul2 b, _, _, rfl, rfl, _, _, rfl, rfl, ?_⟩
        refine ⟨_, rfl, .inl ⟨rfl, _, SqL.of hl2⟩, _, rfl, q, _, _, rfl, rfl, hl2, sz2 (by rw [List.length_map]; omega), ?_⟩
        refine ⟨some (.str ⟨#[sgn b]⟩), _, ns ++ [h + 2 * (if b then 1 else 0) - 1], rfl, by simp [hn], ?_, by rw [upd_ne hpq]; exact hl3, sM s2 hq0⟩
        rw [upd_same]; simp
      · rintro σ H2 ⟨v6, h, ns, rfl, hn, hl2, hl3, s2⟩
        obtain ⟨m, hm, hm2⟩ := min_of (ns := ns) (by omega)
        refine ⟨_, rfl, .inl ⟨rfl, _, SqL.of hl3⟩, _, rfl, _, rfl, _, ns, rfl, SqL.of hl2, by omega, fun m _ _ => ?_⟩
        refine ⟨_, rfl, _, ns, rfl, SqL.of hl2, by omega, fun m2 _ _ => ?_⟩
        refine ⟨(by show 3 ≤ sizeLine; decide), fun t ht => ?_⟩
        refine ⟨p, _, _, rfl, rfl, (same_new ht) _ _ hl3, sz2 (by omega), ?_⟩
        refine ⟨_, _, _, _, _, _, rfl, upd_same, by simp; omega, sM (sN s2 ht) hp⟩
    · rintro σ H1 ⟨v3, v4, v5, v6, h0, xs, rfl, hl, hx, s1⟩
      exact ⟨_, rfl, p, _, rfl, .inl ⟨SqL.of hl, fun l hl2 => k l _ (sN s1 hl2)⟩⟩
end
end Tw
namespace Tw
open PySem PySem.Spec PyProof.Rows L2
section
variable {P : Program} {w : World} {K : PySem.W.Frag} {mg : Str → Option Value} {base : Heap}
def PairsAt (K : PySem.W.Frag) (H : Hp) (p : Addr) (bs : List Bool) : Prop := ∃ (dx : Addr) (fs : List (Str × V)) (b : Addr), H p = some (.ins (He.ga K "Pairs") dx fs) ∧ fs.lookup ("text" : Str) = none ∧ fs.lookup ("bits" : Str) = some (V.ref b) ∧ BitsAt K H b bs
def spPairsI (K : PySem.W.Frag) : Sp := fun vs H Q _ => ∃ (p dx : Addr) (bs : List Bool), vs = [.ref p, .str (T bs)] ∧ H p = some (.ins (He.ga K "Pairs") dx []) ∧ Bal bs ∧ bs.length ≤ 8000 ∧ ∀ H', SameX p H H' → PairsAt K H' p bs → Q .non H'
abbrev N_Pairs_init : List Str := ["self", "text"]
theorem sc_Pairs_init : FnScope N_Pairs_init ["self", "text"] (defScope s_Pairs_init) := ⟨rfl, rfl, rfl, by decide +kernel, rfl, by decide +kernel, by decide +kernel⟩
theorem own_new {C x dx : Addr} {H : Hp} (h1 : H x = none) (h2 : H dx = none) (n : dx ≠ x) : Same H (upd (upd H dx (.own x)) x (.ins C dx [])) := fun b u e => by
  rw [upd_ne (ne_of_none e h1), upd_ne (ne_of_none e h2)]
  exact e
theorem own_newX {a C x dx : Addr} {H H1 H' : Hp} (s : SameX a H H1) (h1 : H1 x = none) (h2 : H1 dx = none) (n : dx ≠ x) (t : SameX x (upd (upd H1 dx (.own x)) x (.ins C dx [])) H') : SameX a H H' := fun b u nb e => by
  have e1 := s b u nb e
  exact t b u (ne_of_none e1 h1) (by rw [upd_ne (ne_of_none e1 h1), upd_ne (ne_of_none e1 h2)]; exact e1)
theorem ok_Pairs_init {f : Addr} {fd : FuncData} (F : D0 K "__init__" "Pairs.__init__" s_Pairs_init f fd) (Z : Txt K mg) (c_ask_row : Cal P w K mg base 1 "ask_row" ["text"] spAsk) (k_Bits : Mkr P w K mg base 2 "Bits" (He.ga K "Bits") ["self", "text"] (spBitsI K)) (m_Bits_words : Mtd P w K mg base 1 (He.ga K "Bits") "words" ["self"] (spWordsM K))
    (k_Counts : Mkr P w K mg base 2 "Counts" (He.ga K "Counts") ["self", "bits"] (spCountsI K)) (c_table_of : Cal P w K mg base 1 "table_of" ["text"] spTable) :
    FnOk P w K mg base (L2.CX P w) 4 f fd ["self", "text"] (spPairsI K) := by
  refine F.ok sc_Pairs_init (fun vs H Q E h => ?_) (fun cdv A outer s H vs Q E hr h => ?_)
  · obtain ⟨p, dx, bs, rfl, _⟩ := h
    rfl
  · obtain ⟨p, dx, bs, rfl, hp, hB, hz, k⟩ := h
    refine ⟨_, (pss_cons (ps_expr (pe_c c_ask_row hr (takes_of rfl rfl rfl rfl) (pa_cons (pv 1) pa_nil)))
      (pss_cons (ps_fld (pv 0) (pe_k k_Bits hr (takes_of rfl rfl rfl rfl) (pa_cons (pv 1) pa_nil)) rfl)
      (pss_cons (ps_fld (pv 0) (pe_m0 m_Bits_words Z.c_Bits hr (takes_of rfl rfl rfl rfl) (pe_fld (pv 0) rfl)) rfl)
      (pss_cons (ps_fld (pv 0) (pe_k k_Counts hr (takes_of rfl rfl rfl rfl) (pa_cons (pe_fld (pv 0) rfl) pa_nil)) rfl)
      (pss_one (ps_fld (pv 0) (pe_c c_table_of hr (takes_of rfl rfl rfl rfl) (pa_cons (pv 1) pa_nil)) rfl)))))), ?_⟩
    refine ⟨_, rfl, bs, rfl, hB, hz, fun H1 s1 => ?_⟩
    refine ⟨_, rfl, fun b dxb hb hdb nb => ⟨b, dxb, bs, rfl, upd_same, by omega, fun H2 s2 B2 => ⟨rfl, ?_⟩⟩⟩
    have t2 : SameX p H H2 := own_newX (Same.x s1) hb hdb nb s2
    have q1 := s1 _ _ hp
    have hbp : p ≠ b := ne_of_none q1 hb
    have q2 : H2 p = some (.ins (He.ga K "Pairs") dx []) := s2 p _ hbp (by rw [upd_ne hbp, upd_ne (ne_of_none q1 hdb)]; exact q1)
    refine ⟨_, rfl, p, _, _, _, rfl, q2, Z.c_Pairs, Z.n_Pairs_bits, (by decide), ?_⟩
    have Bp : ∀ {Hx Hy : Hp}, Hx p = some (.ins (He.ga K "Pairs") dx []) ∨ (∃ fs, Hx p = some (.ins (He.ga K "Pairs") dx fs)) → SameX p Hx Hy → BitsAt K Hx b bs → BitsAt K Hy b bs := fun {Hx Hy} hx sx ⟨d1, d2, e1, e2, e3⟩ => by
      have hx' : ∃ fs, Hx p = some (.ins (He.ga K "Pairs") dx fs) := hx.elim (fun z => ⟨_, z⟩) (fun z => z)
      obtain ⟨fs, hx'⟩ := hx'
      exact ⟨d1, d2, sx _ _ (Ne.symm hbp) e1, sx _ _ (fun z => by subst z; rw [hx'] at e2; cases e2) e2, e3⟩
    have B3 : BitsAt K (upd H2 p (.ins (He.ga K "Pairs") dx (putF "bits" (.ref b) []))) b bs := Bp (.inl q2) (SameX.refl H2).put B2
    obtain ⟨dxb', kt, g1, g2, g3⟩ := id B3
    refine ⟨_, rfl, p, _, _, _, _, rfl, upd_same, Z.c_Pairs, Z.n_Pairs_bits, rfl, b, _, _, rfl, g1, rfl, b, bs, rfl, B3, fun kt' hkt' => ?_⟩
    refine ⟨_, rfl, p, _, _, _, rfl, upd_same, Z.c_Pairs, Z.n_Pairs_kept, (by show 1 < 1000; decide), ?_⟩
    have B4 := Bp (.inr ⟨_, upd_same⟩) ((SameX.refl _).put (o := .ins (He.ga K "Pairs") dx (putF "kept" (.ref kt') (putF "bits" (.ref b) [])))) B3
    have t4 := (t2.put (o := .ins (He.ga K "Pairs") dx (putF "bits" (.ref b) []))).put (o := .ins (He.ga K "Pairs") dx (putF "kept" (.ref kt') (putF "bits" (.ref b) [])))
    refine ⟨_, rfl, p, _, _, _, _, rfl, upd_same, Z.c_Pairs, Z.n_Pairs_bits, rfl, fun c dxc hc hdc nc => ⟨c, dxc, b, bs, rfl, upd_same, B4.mono (own_new hc hdc nc), fun H5 s5 => ⟨rfl, ?_⟩⟩⟩
    have hcp : p ≠ c := ne_of_none upd_same hc
    have t5 : SameX p H H5 := own_newX t4 hc hdc nc s5
    have s5' : Same _ H5 := SameX.of_new (o := .ins (He.ga K "Counts") dxc []) (a := c) (H := upd (upd (upd H2 p (.ins (He.ga K "Pairs") dx (putF "bits" (.ref b) []))) p (.ins (He.ga K "Pairs") dx (putF "kept" (.ref kt') (putF "bits" (.ref b) [])))) dxc (.own c)) (by rw [upd_ne (Ne.symm nc)]; exact hc) s5
    have q5 := s5' _ _ ((same_new hdc) _ _ upd_same)
    have B5 := (B4.mono (same_new (o := .own c) hdc)).mono s5'
    refine ⟨_, rfl, p, _, _, _, rfl, q5, Z.c_Pairs, Z.n_Pairs_counts, (by show 2 < 1000; decide), ?_⟩
    have B6 := Bp (.inr ⟨_, q5⟩) ((SameX.refl _).put (o := .ins (He.ga K "Pairs") dx (putF "counts" (.ref c) (putF "kept" (.ref kt') (putF "bits" (.ref b) []))))) B5
    refine ⟨_, rfl, bs, rfl, hz, fun l H7 s7 => ?_⟩
    have q7 := s7 _ _ upd_same
    refine ⟨_, rfl, p, _, _, _, rfl, q7, Z.c_Pairs, Z.n_Pairs_laid, (by show 3 < 1000; decide), ?_⟩
    refine k _ ((t5.put.trans (Same.x s7)).put) ⟨dx, _, b, upd_same, rfl, rfl, ?_⟩
    exact Bp (.inr ⟨_, q7⟩) ((SameX.refl _).put) (B6.mono s7)
def spPText (K : PySem.W.Frag) : Sp := fun vs H Q _ => ∃ (p : Addr) (bs : List Bool), vs = [.ref p] ∧ PairsAt K H p bs ∧ ∀ H', Same H H' → Q (.str (T bs)) H'
abbrev N_Pairs_text : List Str := ["self"]
theorem sc_Pairs_text : FnScope N_Pairs_text ["self"] (defScope s_Pairs_text) := ⟨rfl, rfl, rfl, by decide +kernel, rfl, by decide +kernel, by decide +kernel⟩
theorem ok_Pairs_text {f : Addr} {fd : FuncData} (F : D0 K "text" "Pairs.text" s_Pairs_text f fd) (Z : Txt K mg) (m_Bits_text : Mtd P w K mg base 4 (He.ga K "Bits") "text" ["self"] (spText K)) : FnOk P w K mg base (L2.CX P w) 5 f fd ["self"] (spPText K) := by
  refine F.ok sc_Pairs_text (fun vs H Q E h => ?_) (fun cdv A outer s H vs Q E hr h => ?_)
  · obtain ⟨p, bs, rfl, _⟩ := h
    rfl
  · obtain ⟨p, bs, rfl, ⟨dx, fs, b, h1, _, h2, B0⟩, k⟩ := h
    obtain ⟨dxb, kt, g1, g2, g3⟩ := id B0
    refine ⟨_, (pss_one (ps_ret (pe_m0 m_Bits_text Z.c_Bits hr (takes_of rfl rfl rfl rfl) (pe_fld (pv 0) rfl)))), ?_⟩
    exact ⟨_, rfl, p, _, _, _, _, rfl, h1, Z.c_Pairs, Z.n_Pairs_bits, h2, b, _, _, rfl, g1, rfl, b, bs, rfl, B0, k⟩
def spElders : Sp := fun vs H Q _ => ∃ bs : List Bool, vs = [.str (T bs)] ∧ Bal bs ∧ bs.length ≤ 8000 ∧ ∀ (p : Addr) (H' : Hp), Same H H' → H p = none → H' p = some (.lst ((eld [-1] 0 bs).map V.int)) → Q (.ref p) H'
abbrev N_elders_of : List Str := ["text", "row", "found", "way", "sign"]
theorem sc_elders_of : FnScope N_elders_of ["text"] (defScope s_elders_of) := ⟨rfl, rfl, rfl, by decide +kernel, rfl, by decide +kernel, by decide +kernel⟩
theorem ok_elders_of {f : Addr} {fd : FuncData} (F : D0 K "elders_of" "elders_of" s_elders_of f fd) (Z : Txt K mg) (k_Pairs : Mkr P w K mg base 4 "Pairs" (He.ga K "Pairs") ["self", "text"] (spPairsI K)) (m_Pairs_text : Mtd P w K mg base 5 (He.ga K "Pairs") "text" ["self"] (spPText K)) :
    FnOk P w K mg base (L2.CX P w) 6 f fd ["text"] spElders := by
  refine F.ok sc_elders_of (fun vs H Q E h => ?_) (fun cdv A outer s H vs Q E hr h => ?_)
  · obtain ⟨bs, rfl, _⟩ := h
    rfl
  · obtain ⟨bs, rfl, hB, hz, k⟩ := h
    refine ⟨_, (pss_cons (ps_set (i := 1) sc_elders_of.nd rfl (Or.inl rfl) (pe_m0 m_Pairs_text Z.c_Pairs hr (takes_of rfl rfl rfl rfl) (pe_k k_Pairs hr (takes_of rfl rfl rfl rfl) (pa_cons (pv 0) pa_nil))))
      (pss_cons (ps_if (pt_cmpR op_gt (pe_callB call_len (by rfl) Z.f_len PySem.boot_len (pa_cons (pv 1) pa_nil)) (pe_op op_mul pe_int (pe_gc rfl Z.i_MOST_woods)) (nomark _)) pss_dead
        pss_nil)
      (pss_cons (ps_set (i := 2) sc_elders_of.nd rfl (Or.inl rfl) (pe_lst pa_nil))
      (pss_cons (ps_set (i := 3) sc_elders_of.nd rfl (Or.inl rfl) (pe_lst (pa_cons (pe_un un_neg pe_int) pa_nil)))
      (pss_cons (ps_for (passes_of rfl) rfl (pi_str (pv 1)) (pg_name (i := 4) sc_elders_of.nd rfl (Or.inl rfl))
        (pss_one (ps_if (pt_cmpR op_eq (pv 4) pe_str (nomark _)) (pss_cons (ps_expr (pe_bm PySem.F.plainAttrs_list PySem.F.slot_list_append PySem.F.type_list_append mt_append (pv 2) (pa_cons (pe_ix ix_list (pv 3) (pe_un un_neg pe_int) (fun _ _ => rfl)) pa_nil)))
          (pss_one (ps_expr (pe_bm PySem.F.plainAttrs_list PySem.F.slot_list_append PySem.F.type_list_append mt_append (pv 3) (pa_cons (pe_op op_sub (pe_callB call_len (by rfl) Z.f_len PySem.boot_len (pa_cons (pv 2) pa_nil)) pe_int) pa_nil)))))
          (pss_one (ps_expr (pe_bm0 PySem.F.plainAttrs_list PySem.F.slot_list_pop PySem.F.type_list_pop mt_pop (pv 3)))))))
      (pss_one (ps_ret (pv 2)))))))), ?_⟩
    have hln : (T bs).length ≤ sizeLine := by rw [T_length]; exact sz1 (by omega)
    refine ⟨_, rfl, fun p dxp hp hdp np => ⟨p, dxp, bs, rfl, upd_same, hB, hz, fun H1 s1 P1 => ⟨rfl, ?_⟩⟩⟩
    obtain ⟨dx, fs, b, g1, g0, g2, B0⟩ := id P1
    refine ⟨p, _, _, rfl, g1, g0, p, bs, rfl, P1, fun H2 s2 => ?_⟩
    have s3 : Same H H2 := fun b u e => s2 _ _ ((own_newX (a := p) (SameX.refl H) hp hdp np s1) b u (ne_of_none e hp) e)
    refine ⟨_, rfl, _, _, rfl, ⟨hln, rfl⟩, _, _, rfl, rfl, .inl ⟨by decide, by decide⟩, _, _, rfl, rfl, _, rfl, ite_d rfl (fun q => absurd q (by rw [T_length]; omega)) (fun _ => ?_)⟩
    refine ⟨(by show 0 ≤ sizeLine; decide), fun fo hfo => ?_⟩
    refine ⟨_, rfl, (by show 1 ≤ sizeLine; decide), fun wa hwa => ?_⟩
    have hf0 := s3.free hfo
    have hw0 := (sN (o := .lst []) s3 hfo).free hwa
    have hfw : fo ≠ wa := ne_of_none upd_same hwa
    refine ⟨_, rfl, _, rfl, for_strT (bs := bs) (fun i σ H' => ∃ (v4 : Option V) (fn : List Int) (st : List Int), σ = [some (.str (T bs)), some (.str (T bs)), some (.ref fo), some (.ref wa), v4] ∧ H' fo = some (.lst (fn.map V.int)) ∧ H' wa = some (.lst (lay st)) ∧ fn ++ eld st fn.length (bs.drop i) = eld [-1] 0 bs ∧ (st.length : Int) = 1 + ht (bs.take i) ∧ fn.length ≤ i ∧ Same H H')
      ⟨none, [], [-1], rfl, ?_, upd_same, rfl, rfl, Nat.le_refl _, sN (sN s3 hfo) hwa⟩ ?_ ?_⟩
    · rw [upd_ne hfw]; exact upd_same
    · rintro i c σ H3 hc ⟨v4, fn, st, rfl, hl, hw, he, hst, hfn, s4⟩
      have hi : i < bs.length := (List.getElem?_eq_some_iff.mp hc).1
      have e1 : ht (bs.take (i + 1)) = ht (bs.take i) + Tw.st c := by rw [take_more hc, ht_app]; simp [ht]
      have hlow := hB.low i
      have hst2 : ht (bs.take i) ≤ i := by
        have a1 := ht_eq (bs.take i)
        have a2 := ones_le (bs.take i)
        rw [List.length_take] at a1 a2
        omega
      rw [drop_cons hc] at he
      cases st with
      | nil => simp at hst; omega
      | cons x r =>
        refine ⟨_, rfl, rfl, _, rfl, ite_b (sign_one c) (fun hb1 => ?_) (fun hb1 => ?_)⟩
        · subst hb1
          refine ⟨_, rfl, .inl ⟨rfl, _, SqL.of hl⟩, _, rfl, _, rfl, wa, _, _, V.int x, rfl, rfl, SqL.of hw, by rw [lay_cons]; exact atI_last _ _, fo, _, _, rfl, rfl, hl, sz2 (by rw [List.length_map]; omega), ?_⟩
          have hw2 : (upd H3 fo (.lst (fn.map V.int ++ [V.int x]))) wa = some (.lst (lay (x :: r))) := by rw [upd_ne (Ne.symm hfw)]; exact hw
          refine ⟨_, rfl, .inl ⟨rfl, _, SqL.of hw2⟩, _, rfl, _, _, rfl, .inl ⟨_, SqL.of upd_same, rfl⟩, _, _, rfl, rfl, wa, _, _, rfl, rfl, hw2, sz2 (by rw [lay_len]; simp at hst ⊢; omega), ?_⟩
          refine ⟨some (.str ⟨#[sgn true]⟩), fn ++ [x], (fn.length : Int) :: x :: r, rfl, ?_, ?_, ?_, ?_, ?_, sM (sM s4 hf0) hw0⟩
          · rw [upd_ne hfw, upd_same, List.map_append]; rfl
          · rw [upd_same, lay_cons]
            simp
          · rw [← he]
            simp [eld]
          · rw [e1]; simp at hst ⊢; simp [Tw.st]; omega
          · simp; omega
        · subst hb1
          refine ⟨_, rfl, .inl ⟨rfl, _, SqL.of hw⟩, wa, _, V.int x, rfl, rfl, hw, by rw [lay_cons]; exact pop_at _ _, ?_⟩
          refine ⟨some (.str ⟨#[sgn false]⟩), fn, r, rfl, ?_, ?_, ?_, ?_, by omega, sM s4 hw0⟩
          · rw [upd_ne hfw]; exact hl
          · rw [upd_same, lay_cons, List.dropLast_concat]
          · rw [← he]
            simp [eld]
          · rw [e1]; simp at hst ⊢; simp [Tw.st]; omega
    · rintro σ H3 ⟨v4, fn, st, rfl, hl, hw, he, hst, hfn, s4⟩
      rw [List.drop_of_length_le (Nat.le_refl _)] at he
      simp only [eld, List.append_nil] at he
      refine ⟨_, rfl, k fo H3 s4 hf0 (by rw [← he]; exact hl)⟩
end
end Tw
namespace Tw
open PySem PySem.Spec PyProof.Rows L2
theorem lookI_ints : ∀ (os : List (Option Int)) (s : List Int) (c : Nat), lookI s c os = none → ∃ es : List Int, os = es.map some
  | [], _, _, _ => ⟨[], rfl⟩
  | none :: r, s, c, h => by cases h
  | some e :: r, s, c, h => by
    simp only [lookI] at h
    by_cases h1 : c = 4000
    · rw [if_pos h1] at h; cases h
    · rw [if_neg h1] at h
      by_cases h2 : s.dropWhile (· != e) = [] ∧ e ≠ -1
      · rw [if_pos h2] at h; cases h
      · rw [if_neg h2] at h
        obtain ⟨es, rfl⟩ := lookI_ints r _ _ h
        exact ⟨e :: es, rfl⟩
theorem toI_some {x : V} {e : Int} (h : toI x = some e) : x = .int e := by
  cases x <;> simp [toI] at h
  rw [h]
theorem toI_ints : ∀ {xs : List V} {es : List Int}, xs.map toI = es.map some → xs = es.map V.int
  | [], [], _ => rfl
  | [], _ :: _, h => by simp at h
  | _ :: _, [], h => by simp at h
  | x :: xs, e :: es, h => by
    simp only [List.map_cons, List.cons.injEq] at h
    rw [toI_some h.1, toI_ints h.2]
    rfl
theorem ints_toI (es : List Int) : (es.map V.int).map toI = es.map some := by
  rw [List.map_map]
  exact List.map_congr_left fun _ _ => rfl
section
variable {P : Program} {w : World} {K : PySem.W.Frag} {mg : Str → Option Value} {base : Heap}
theorem Out.mono {H H2 : Hp} {E : XK} {e : ErrK} (s : Same H H2) (h : Out K H E e) : Out K H2 E e := fun d H' s' e' => h d H' (s.trans s') e'
def TotAt (H : Hp) (ps : List (List Bool)) (ts : List Addr) : Prop := ts.length = ps.length ∧ ∀ (i : Nat) p r, ps[i]? = some p → ts[i]? = some r → ∃ m, IsLeast p m ∧ H r = some (.tup [.int (ones p : Nat), .int (ht p), .int m])
theorem TotAt.mono {H H' : Hp} {ps : List (List Bool)} {ts : List Addr} (s : ∀ r xs, H r = some (.tup xs) → H' r = some (.tup xs)) (h : TotAt H ps ts) : TotAt H' ps ts := ⟨h.1, fun i p r h1 h2 => by
  obtain ⟨m, h3, h4⟩ := h.2 i p r h1 h2
  exact ⟨m, h3, s _ _ h4⟩⟩
def WoodAt (K : PySem.W.Frag) (H : Hp) (o q : Addr) (ps : List (List Bool)) : Prop := ∃ (dx a t : Addr) (ts : List Addr), H o = some (.ins (He.ga K "Shaped") dx [("parts", .ref a), ("totals", .ref t), ("past", .ref q)]) ∧ H a = some (.lst (txs ps)) ∧ H t = some (.lst (ts.map V.ref)) ∧ TotAt H ps ts ∧ ps.length ≤ 9000 ∧ ps.flatten.length ≤ 8000 ∧ Bal ps.flatten
theorem WoodAt.mono {H H' : Hp} {o q : Addr} {ps : List (List Bool)} (s : Same H H') (h : WoodAt K H o q ps) : WoodAt K H' o q ps := by
  obtain ⟨dx, a, t, ts, h1, h2, h3, h4, h5⟩ := h
  exact ⟨dx, a, t, ts, s _ _ h1, s _ _ h2, s _ _ h3, h4.mono fun r xs e => s _ _ e, h5⟩
def spShapedI (K : PySem.W.Frag) : Sp := fun vs H Q E => ∃ (o dx : Addr) (x : V), vs = [.ref o, x] ∧ H o = some (.ins (He.ga K "Shaped") dx []) ∧ ((∃ t, TyX K H x t ∧ PySem.W.kitOne K t (.type "list") = some false ∧ Out K H E (.wood 0)) ∨
  (∃ a xs, x = .ref a ∧ H a = some (.lst xs) ∧ (∀ y ∈ xs, Thing H y) ∧ xs.length ≤ 5000 ∧ (∀ k : Nat, lookI [] 0 (xs.map toI) = some k → Out K H E (.wood k)) ∧
    (∀ es : List Int, xs = es.map V.int → lookI [] 0 (es.map some) = none → es.length ≤ 4000 → ∀ q H', SameX o H H' → H q = none → H' q = some (.lst []) → WoodAt K H' o q (cutEv (row es)) → Q .non H')))
abbrev N_Shaped_init : List Str := ["self", "elders", "part"]
theorem sc_Shaped_init : FnScope N_Shaped_init ["self", "elders"] (defScope s_Shaped_init) := ⟨rfl, rfl, rfl, by decide +kernel, rfl, by decide +kernel, by decide +kernel⟩
theorem ok_Shaped_init {f : Addr} {fd : FuncData} (F : D0 K "__init__" "Shaped.__init__" s_Shaped_init f fd) (Z : Txt K mg) (c_cut_evenly : Cal P w K mg base 1 "cut_evenly" ["text"] spCutE) (c_row_of : Cal P w K mg base 1 "row_of" ["elders"] spRow) (c_look_at : Cal P w K mg base 3 "look_at" ["elders"] (spLook K)) (c_sums_of : Cal P w K mg base 1 "sums_of" ["text"] spSums) :
    FnOk P w K mg base (L2.CX P w) 4 f fd ["self", "elders"] (spShapedI K) := by
  refine F.ok sc_Shaped_init (fun vs H Q E h => ?_) (fun cdv A outer s H vs Q E hr h => ?_)
  · obtain ⟨o, dx, x, rfl, _⟩ := h
    rfl
  · obtain ⟨o, dx, x, rfl, ho, h⟩ := h
    refine ⟨_, (pss_cons (ps_fld (pv 0) (pe_c c_cut_evenly hr (takes_of rfl rfl rfl rfl) (pa_cons (pe_c c_row_of hr (takes_of rfl rfl rfl rfl) (pa_cons (pe_c c_look_at hr (takes_of rfl rfl rfl rfl) (pa_cons (pv 1) pa_nil)) pa_nil)) pa_nil)) rfl)
      (pss_cons (ps_fld (pv 0) (pe_lc (own := [("part", 2)]) (g := gName 2) (tt := tYes) rfl sc_Shaped_init.nd (pi_list (pe_fld (pv 0) rfl)) (blkOk_by (N := N_Shaped_init) (sc := defScope s_Shaped_init) (by decide +kernel)) (fun _ _ _ _ _ => pg_name (i := 2) sc_Shaped_init.nd rfl (Or.inl rfl)) (fun _ _ _ _ _ => pts_nil) (fun _ _ _ _ _ => (pe_c c_sums_of hr takes0 (pa_cons (pv 2) pa_nil)))) rfl)
      (pss_one (ps_fld (pv 0) (pe_lst pa_nil) rfl)))), ?_⟩
    rcases h with ⟨t, ty, k0, ko⟩ | ⟨a, xs, rfl, ha, hth, hz, ko, k⟩
    · exact ⟨_, rfl, _, rfl, .inl ⟨t, ty, k0, ko⟩⟩
    · refine ⟨_, rfl, _, rfl, .inr ⟨a, xs, rfl, ha, hth, hz, ko, fun hn p H1 s1 hp hlp => ?_⟩⟩
      obtain ⟨es, hes⟩ := lookI_ints _ _ _ hn
      have hxs := toI_ints hes
      rw [hes] at hn
      have hlen := lookI_len es [] 0 (by omega) hn
      have rl : (row es).length = 2 * es.length := by have := row_length es [] 0; simpa [row] using this
      refine ⟨p, es, rfl, by rw [hlp, hxs], by omega, fun H2 s2 => ?_⟩
      refine ⟨row es, rfl, by omega, fun l H3 s3 hl hll => ?_⟩
      have t3 := (s1.trans s2).trans s3
      have o3 := t3 _ _ ho
      have hl0 : H l = none := (s1.trans s2).free hl
      have hlo : l ≠ o := (ne_of_none ho hl0).symm
      refine ⟨_, rfl, o, _, _, _, rfl, o3, Z.c_Shaped, Z.n_Shaped_parts, (by decide), ?_⟩
      generalize hH4 : upd H3 o (.ins (He.ga K "Shaped") dx (putF "parts" (.ref l) [])) = H4
      have q4 : H4 o = some (.ins (He.ga K "Shaped") dx [("parts", .ref l)]) := by rw [← hH4, upd_same]; rfl
      have l4 : H4 l = some (.lst (txs (cutEv (row es)))) := by rw [← hH4, upd_ne hlo]; exact hll
      have x4 : SameX o H H4 := by rw [← hH4]; exact (Same.x t3).put
      have hcl := cutEv_length (row es)
      refine ⟨_, rfl, o, _, _, _, _, rfl, q4, Z.c_Shaped, Z.n_Shaped_parts, rfl, l, rfl, ⟨_, SqL.of l4⟩, fun D hD => lc_list (xs := txs (cutEv (row es))) (fun i H' => ∃ ts : List Addr, H' D = some (.lst (ts.map V.ref)) ∧ TotAt H' ((cutEv (row es)).take i) ts ∧ Same H4 H') ⟨[], upd_same, ⟨rfl, fun i p r h1 _ => by simp at h1⟩, same_new hD⟩
        (fun i H' _ ⟨_, _, _, t⟩ => SqL.of (t _ _ l4)) (fun i x H' hx ⟨ts, hlD, hT, t⟩ => ?_) (fun H' ⟨ts, hlD, hT, t⟩ => ?_)⟩
      · obtain ⟨p', hp', rfl⟩ : ∃ p', (cutEv (row es))[i]? = some p' ∧ x = .str (T p') := by
          rw [List.getElem?_map] at hx
          cases e : (cutEv (row es))[i]? with
          | none => rw [e] at hx; cases hx
          | some p' => rw [e] at hx; exact ⟨p', rfl, (Option.some.inj hx).symm⟩
        have hi := (List.getElem?_eq_some_iff.mp hp').1
        have hTl := hT.1
        rw [List.length_take] at hTl
        refine ⟨rfl, _, rfl, p', rfl, fun r m H5 hm s5 hr5 hr6 => ⟨_, s5 _ _ hlD, sz2 (by rw [List.length_map]; omega), ts ++ [r], by rw [upd_same, List.map_append]; rfl, ⟨by rw [List.length_append, List.length_take]; simp; omega, fun j p2 r2 h1 h2 => ?_⟩, sM (t.trans s5) hD⟩⟩
        have hrD : ∀ y xs, H5 y = some (.tup xs) → y ≠ D := fun y xs e z => by
          subst z
          rw [s5 _ _ hlD] at e
          cases e
        rw [List.getElem?_take] at h1
        split at h1
        · rename_i hj
          by_cases hji : j = i
          · subst hji
            rw [List.getElem?_append_right (by omega)] at h2
            rw [show j - ts.length = 0 by omega] at h2
            rw [hp'] at h1
            cases h1
            cases h2
            exact ⟨m, hm, by rw [upd_ne (hrD _ _ hr6)]; exact hr6⟩
          · rw [List.getElem?_append_left (by omega)] at h2
            obtain ⟨m2, e1, e2⟩ := hT.2 j p2 r2 (by rw [List.getElem?_take, if_pos (by omega)]; exact h1) h2
            exact ⟨m2, e1, by rw [upd_ne (hrD _ _ (s5 _ _ e2))]; exact s5 _ _ e2⟩
        · cases h1
      · rw [List.length_map, List.take_length] at hT
        have q5 := t _ _ q4
        refine ⟨_, rfl, o, _, _, _, rfl, q5, Z.c_Shaped, Z.n_Shaped_totals, (by show 1 < 1000; decide), ?_⟩
        refine ⟨(by show 0 ≤ sizeLine; decide), fun q hq => ?_⟩
        have hqo : q ≠ o := fun z => by
          subst z
          rw [upd_same] at hq
          cases hq
        have hq' : H' q = none := by rw [upd_ne hqo] at hq; exact hq
        have x5 : SameX o H H' := x4.trans (Same.x t)
        have hDo : D ≠ o := fun z => by subst z; rw [q4] at hD; cases hD
        refine ⟨_, rfl, o, _, _, _, rfl, by rw [upd_ne (Ne.symm hqo), upd_same], Z.c_Shaped, Z.n_Shaped_past, (by show 2 < 1000; decide), ?_⟩
        refine k es hxs hn (by omega) q _ ((x5.put.new hq).put) (x5.free hqo hq') (by rw [upd_ne hqo, upd_same]) ⟨dx, l, D, ts, by rw [upd_same]; rfl, ?_, ?_, ?_, by omega, by rw [cutEv_flat]; omega, by rw [cutEv_flat]; exact row_bal es⟩
        · rw [upd_ne hlo, upd_ne (ne_of_none (t _ _ l4) hq'), upd_ne hlo]
          exact t _ _ l4
        · rw [upd_ne hDo, upd_ne (ne_of_none hlD hq'), upd_ne hDo]
          exact hlD
        · refine hT.mono fun r xs e => ?_
          have hro : r ≠ o := fun z => by subst z; rw [q5] at e; cases e
          rw [upd_ne hro, upd_ne (ne_of_none e hq'), upd_ne hro]
          exact e
end
end Tw
namespace Tw
open PySem PySem.Spec PyProof.Rows L2
theorem ones_len (ps : List (List Bool)) : (ps.map fun p => (ones p : Int)).sum = (ones ps.flatten : Nat) := by
  induction ps with
  | nil => rfl
  | cons p r ih =>
    rw [List.map_cons, List.sum_cons, ih, List.flatten_cons, ones_app, Int.natCast_add]
theorem len_sum (ps : List (List Bool)) : (ps.map fun p => ((p.length : Nat) : Int)).sum = (ps.flatten.length : Nat) := by
  induction ps with
  | nil => rfl
  | cons p r ih =>
    rw [List.map_cons, List.sum_cons, ih, List.flatten_cons, List.length_append, Int.natCast_add]
section
variable {P : Program} {w : World} {K : PySem.W.Frag} {mg : Str → Option Value} {base : Heap}
def spPieces (K : PySem.W.Frag) : Sp := fun vs H Q _ => ∃ (o q : Addr) (ps : List (List Bool)), vs = [.ref o] ∧ WoodAt K H o q ps ∧ ∀ p H', Same H H' → H p = none → H' p = some (.lst (txs ps)) → Q (.ref p) H'
abbrev N_Shaped_pieces : List Str := ["self"]
theorem sc_Shaped_pieces : FnScope N_Shaped_pieces ["self"] (defScope s_Shaped_pieces) := ⟨rfl, rfl, rfl, by decide +kernel, rfl, by decide +kernel, by decide +kernel⟩
theorem ok_Shaped_pieces {f : Addr} {fd : FuncData} (F : D0 K "pieces" "Shaped.pieces" s_Shaped_pieces f fd) (Z : Txt K mg) : FnOk P w K mg base (L2.CX P w) 1 f fd ["self"] (spPieces K) := by
  refine F.ok sc_Shaped_pieces (fun vs H Q E h => ?_) (fun cdv A outer s H vs Q E hr h => ?_)
  · obtain ⟨o, q, ps, rfl, _⟩ := h
    rfl
  · obtain ⟨o, q, ps, rfl, ⟨dx, a, t, ts, h1, h2, h3, h4, h5⟩, k⟩ := h
    refine ⟨_, (pss_one (ps_ret (pe_callTy call_list_of (by rfl) Z.f_list (by decide +kernel) (pa_cons (pe_fld (pv 0) rfl) pa_nil)))), ?_⟩
    exact ⟨_, rfl, o, _, _, _, _, rfl, h1, Z.c_Shaped, Z.n_Shaped_parts, rfl, a, _, rfl, .inl (SqL.of h2), fun l hl => k l _ (same_new hl) hl upd_same⟩
def spSRow (K : PySem.W.Frag) : Sp := fun vs H Q _ => ∃ (o q : Addr) (ps : List (List Bool)), vs = [.ref o] ∧ WoodAt K H o q ps ∧ Q (.str (T ps.flatten)) H
abbrev N_Shaped_row : List Str := ["self"]
theorem sc_Shaped_row : FnScope N_Shaped_row ["self"] (defScope s_Shaped_row) := ⟨rfl, rfl, rfl, by decide +kernel, rfl, by decide +kernel, by decide +kernel⟩
theorem ok_Shaped_row {f : Addr} {fd : FuncData} (F : D0 K "row" "Shaped.row" s_Shaped_row f fd) (Z : Txt K mg) : FnOk P w K mg base (L2.CX P w) 1 f fd ["self"] (spSRow K) := by
  refine F.ok sc_Shaped_row (fun vs H Q E h => ?_) (fun cdv A outer s H vs Q E hr h => ?_)
  · obtain ⟨o, q, ps, rfl, _⟩ := h
    rfl
  · obtain ⟨o, q, ps, rfl, ⟨dx, a, t, ts, h1, h2, h3, h4, h5, h6, h7⟩, k⟩ := h
    refine ⟨_, (pss_one (ps_ret (pe_join pe_str (pe_fld (pv 0) rfl)))), ?_⟩
    refine ⟨⟨_, rfl⟩, _, rfl, o, _, _, _, _, rfl, h1, Z.c_Shaped, Z.n_Shaped_parts, rfl, _, _, ps.map T, rfl, rfl, .inl (joinL (SqL.of h2)), joinN (by omega), ?_⟩
    rw [T_join]
    exact k
def spSElders (K : PySem.W.Frag) : Sp := fun vs H Q _ => ∃ (o q : Addr) (ps : List (List Bool)), vs = [.ref o] ∧ WoodAt K H o q ps ∧ ∀ p H', Same H H' → H p = none → H' p = some (.lst ((eld [-1] 0 ps.flatten).map V.int)) → Q (.ref p) H'
abbrev N_Shaped_elders : List Str := ["self"]
theorem sc_Shaped_elders : FnScope N_Shaped_elders ["self"] (defScope s_Shaped_elders) := ⟨rfl, rfl, rfl, by decide +kernel, rfl, by decide +kernel, by decide +kernel⟩
theorem ok_Shaped_elders {f : Addr} {fd : FuncData} (F : D0 K "elders" "Shaped.elders" s_Shaped_elders f fd) (Z : Txt K mg) (c_elders_of : Cal P w K mg base 6 "elders_of" ["text"] spElders) (m_Shaped_row : Mtd P w K mg base 1 (He.ga K "Shaped") "row" ["self"] (spSRow K)) :
    FnOk P w K mg base (L2.CX P w) 7 f fd ["self"] (spSElders K) := by
  refine F.ok sc_Shaped_elders (fun vs H Q E h => ?_) (fun cdv A outer s H vs Q E hr h => ?_)
  · obtain ⟨o, q, ps, rfl, _⟩ := h
    rfl
  · obtain ⟨o, q, ps, rfl, W0, k⟩ := h
    obtain ⟨dx, a, t, ts, h1, h2, h3, h4, h5, h6, h7⟩ := id W0
    refine ⟨_, (pss_one (ps_ret (pe_c c_elders_of hr (takes_of rfl rfl rfl rfl) (pa_cons (pe_m0 m_Shaped_row Z.c_Shaped hr (takes_of rfl rfl rfl rfl) (pv 0)) pa_nil)))), ?_⟩
    exact ⟨_, rfl, o, _, _, rfl, h1, rfl, o, q, ps, rfl, W0, ps.flatten, rfl, h7, h6, k⟩
def spMany (K : PySem.W.Frag) : Sp := fun vs H Q _ => ∃ (o q : Addr) (ps : List (List Bool)), vs = [.ref o] ∧ WoodAt K H o q ps ∧ ∀ H', Same H H' → Q (.int (ones ps.flatten : Nat)) H'
abbrev N_Shaped_many_knots : List Str := ["self", "total"]
theorem sc_Shaped_many_knots : FnScope N_Shaped_many_knots ["self"] (defScope s_Shaped_many_knots) := ⟨rfl, rfl, rfl, by decide +kernel, rfl, by decide +kernel, by decide +kernel⟩
theorem ok_Shaped_many_knots {f : Addr} {fd : FuncData} (F : D0 K "many_knots" "Shaped.many_knots" s_Shaped_many_knots f fd) (Z : Txt K mg) : FnOk P w K mg base (L2.CX P w) 1 f fd ["self"] (spMany K) := by
  refine F.ok sc_Shaped_many_knots (fun vs H Q E h => ?_) (fun cdv A outer s H vs Q E hr h => ?_)
  · obtain ⟨o, q, ps, rfl, _⟩ := h
    rfl
  · obtain ⟨o, q, ps, rfl, ⟨dx, a, t, ts, h1, h2, h3, h4, h5, h6, h7⟩, k⟩ := h
    refine ⟨_, (pss_one (ps_ret (pe_callB (cr_sum rfl) (by rfl) Z.f_sum (by decide +kernel) (pa_cons (pe_lc (own := [("total", 1)]) (g := gName 1) (te := tOp (rIxT K) (tVar 1) (tC (.int 0))) (tt := tYes) rfl sc_Shaped_many_knots.nd (pi_list (pe_fld (pv 0) rfl)) (blkOk_by (N := N_Shaped_many_knots) (sc := defScope s_Shaped_many_knots) (by decide +kernel)) (fun _ _ _ _ _ => pg_name (i := 1) sc_Shaped_many_knots.nd rfl (Or.inl rfl)) (fun _ _ _ _ _ => pts_nil) (fun _ _ _ _ _ => (pe_ix ix_tup (pv 1) pe_int (fun _ _ => rfl)))) pa_nil)))), ?_⟩
    refine ⟨_, rfl, o, _, _, _, _, rfl, h1, Z.c_Shaped, Z.n_Shaped_totals, rfl, t, rfl, ⟨_, SqL.of h3⟩, fun D hD => lc_list (xs := ts.map V.ref) (fun i H' => H' D = some (.lst (((ps.take i).map fun p => (ones p : Int)).map V.int)) ∧ Same H H') ⟨upd_same, same_new hD⟩
      (fun i H' _ ⟨_, s⟩ => SqL.of (s _ _ h3)) (fun i x H' hx ⟨hl, s⟩ => ?_) (fun H' ⟨hl, s⟩ => ?_)⟩
    · have hi : i < ts.length := by
        have := (List.getElem?_eq_some_iff.mp hx).1
        rwa [List.length_map] at this
      obtain ⟨r, hr'⟩ : ∃ r, ts[i]? = some r := ⟨_, List.getElem?_eq_getElem hi⟩
      obtain ⟨p, hp⟩ : ∃ p, ps[i]? = some p := ⟨_, List.getElem?_eq_getElem (by rw [← h4.1]; exact hi)⟩
      obtain ⟨m, hm, hrt⟩ := h4.2 i p r hp hr'
      obtain rfl : x = .ref r := by rw [List.getElem?_map, hr'] at hx; exact (Option.some.inj hx).symm
      refine ⟨rfl, _, rfl, r, _, _, _, rfl, rfl, SqT.of (s _ _ hrt), rfl, _, hl, sz2 (by simp; omega), ?_, sM s hD⟩
      rw [upd_same, take_more hp]
      simp
    · rw [List.length_map, h4.1, List.take_length] at hl
      refine ⟨_, _, rfl, SqL.of hl, ?_⟩
      rw [ones_len]
      exact k H' s
def knotB (x : V) (n : Nat) : Bool := match x with
  | .int i => decide (0 ≤ i) && decide (i < n)
  | _ => false
def spLookK (K : PySem.W.Frag) : Sp := fun vs H Q E => ∃ (o q : Addr) (ps : List (List Bool)) (x : V), vs = [.ref o, x] ∧ WoodAt K H o q ps ∧ Thing H x ∧ (knotB x (ones ps.flatten) = true → ∀ H', Same H H' → Q .non H') ∧ (knotB x (ones ps.flatten) = false → Out K H E .knot)
abbrev N_Shaped_look_at_knot : List Str := ["self", "k"]
theorem sc_Shaped_look_at_knot : FnScope N_Shaped_look_at_knot ["self", "k"] (defScope s_Shaped_look_at_knot) := ⟨rfl, rfl, rfl, by decide +kernel, rfl, by decide +kernel, by decide +kernel⟩
theorem ok_Shaped_look_at_knot {f : Addr} {fd : FuncData} (F : D0 K "look_at_knot" "Shaped.look_at_knot" s_Shaped_look_at_knot f fd) (Z : Txt K mg) (c_is_number : Cal P w K mg base 1 "is_number" ["thing"] spNum) (m_Shaped_many_knots : Mtd P w K mg base 1 (He.ga K "Shaped") "many_knots" ["self"] (spMany K)) :
    FnOk P w K mg base (L2.CX P w) 2 f fd ["self", "k"] (spLookK K) := by
  refine F.ok sc_Shaped_look_at_knot (fun vs H Q E h => ?_) (fun cdv A outer s H vs Q E hr h => ?_)
  · obtain ⟨o, q, ps, x, rfl, _⟩ := h
    rfl
  · obtain ⟨o, q, ps, x, rfl, W0, hx, k, ko⟩ := h
    obtain ⟨dx, a, t, ts, h1, h2, h3, h4, h5, h6, h7⟩ := id W0
    refine ⟨_, (pss_one (ps_if (PW.pt (pw_or (pt_not (pt_val (pe_c c_is_number hr (takes_of rfl rfl rfl rfl) (pa_cons (pv 1) pa_nil)))) (pw_or1 (pt_cmpR op_ge (pv 1) (pe_m0 m_Shaped_many_knots Z.c_Shaped hr (takes_of rfl rfl rfl rfl) (pv 0)) (nomark _))))) (pss_one (ps_raise rfl (takes_of rfl rfl rfl rfl) (pmk_err Z.e_NoKnot Z.g_NoKnot)))
        pss_nil)), ?_⟩
    refine ⟨_, rfl, x, rfl, hx, _, rfl, ?_⟩
    have bad : ∀ H', Same H H' → knotB x (ones ps.flatten) = false → E (.ref (He.ga K "NoKnot")) none H' := fun H' s hb => ko hb none H' s rfl
    rcases hx with ⟨i, rfl⟩ | hx
    · refine ite_n rfl (fun hn => ?_) (fun hn => ?_)
      · refine iteT (bad _ (Same.refl H) ?_)
        simp only [knotB]
        rw [decide_eq_false hn, Bool.false_and]
      · refine ⟨_, rfl, _, rfl, o, _, _, rfl, h1, rfl, o, q, ps, rfl, W0, fun H1 s1 => ⟨_, _, rfl, rfl, _, rfl, ite_d rfl (fun hm => ?_) (fun hm => ?_)⟩⟩
        · refine bad _ s1 ?_
          simp only [knotB]
          rw [decide_eq_false (show ¬ i < (ones ps.flatten : Nat) by omega), Bool.and_false]
        · refine k ?_ H1 s1
          simp only [knotB]
          rw [decide_eq_true hn, decide_eq_true (show i < (ones ps.flatten : Nat) by omega)]
          rfl
    · rw [numB_odd hx]
      refine iteT (iteT (bad _ (Same.refl H) ?_))
      cases hx <;> rfl
def spRowPlace (K : PySem.W.Frag) : Sp := fun vs H Q _ => ∃ (o q : Addr) (ps : List (List Bool)) (i j : Nat), vs = [.ref o, .int (i : Nat), .int (j : Nat)] ∧ WoodAt K H o q ps ∧ i ≤ ps.length ∧ ∀ H', Same H H' → Q (.int ((len ps i + j : Nat) : Int)) H'
abbrev N_Shaped_row_place : List Str := ["self", "at", "place", "part"]
theorem sc_Shaped_row_place : FnScope N_Shaped_row_place ["self", "at", "place"] (defScope s_Shaped_row_place) := ⟨rfl, rfl, rfl, by decide +kernel, rfl, by decide +kernel, by decide +kernel⟩
theorem ok_Shaped_row_place {f : Addr} {fd : FuncData} (F : D0 K "row_place" "Shaped.row_place" s_Shaped_row_place f fd) (Z : Txt K mg) : FnOk P w K mg base (L2.CX P w) 1 f fd ["self", "at", "place"] (spRowPlace K) := by
  refine F.ok sc_Shaped_row_place (fun vs H Q E h => ?_) (fun cdv A outer s H vs Q E hr h => ?_)
  · obtain ⟨o, q, ps, i, j, rfl, _⟩ := h
    rfl
  · obtain ⟨o, q, ps, i, j, rfl, ⟨dx, a, t, ts, h1, h2, h3, h4, h5, h6, h7⟩, hi, k⟩ := h
    refine ⟨_, (pss_one (ps_ret (pe_op op_add (pe_callB (cr_sum rfl) (by rfl) Z.f_sum (by decide +kernel) (pa_cons (pe_lc (own := [("part", 3)]) (g := gName 3) (te := tCB (fun xs H Q => ∃ x n, xs = [x] ∧ LenV K x H n ∧ Q (.int n) H) (tCons (tVar 3) tNil)) (tt := tYes) rfl sc_Shaped_row_place.nd (pi_list (pe_slice sl_list (pe_fld (pv 0) rfl) po_none (po_some (pv 1)))) (blkOk_by (N := N_Shaped_row_place) (sc := defScope s_Shaped_row_place) (by decide +kernel)) (fun _ _ _ _ _ => pg_name (i := 3) sc_Shaped_row_place.nd rfl (Or.inl rfl)) (fun _ _ _ _ _ => pts_nil) (fun _ _ _ _ _ => (pe_callB call_len (by rfl) Z.f_len PySem.boot_len (pa_cons (pv 3) pa_nil)))) pa_nil)) (pv 2)))), ?_⟩
    refine ⟨_, rfl, o, _, _, _, _, rfl, h1, Z.c_Shaped, Z.n_Shaped_parts, rfl, _, rfl, _, rfl, a, _, rfl, SqL.of h2, fun y hy => ?_⟩
    have s0 := same_new (o := .lst (cutV (txs ps) none (some ((i : Nat) : Int)))) hy
    have e0 : cutV (txs ps) none (some ((i : Nat) : Int)) = txs (ps.take i) := by rw [cutV_high]; simp [txs]
    rw [e0] at s0 ⊢
    refine ⟨y, rfl, ⟨_, SqL.of upd_same⟩, fun D hD => lc_list (xs := txs (ps.take i)) (fun n H' => H' D = some (.lst ((((ps.take i).take n).map fun p => ((p.length : Nat) : Int)).map V.int)) ∧ Same (upd H y (.lst (txs (ps.take i)))) H') ⟨upd_same, same_new hD⟩
      (fun n H' _ ⟨_, s⟩ => SqL.of (s _ _ upd_same)) (fun n x H' hx ⟨hl, s⟩ => ?_) (fun H' ⟨hl, s⟩ => ?_)⟩
    · obtain ⟨p, hp, rfl⟩ : ∃ p', (ps.take i)[n]? = some p' ∧ x = .str (T p') := by
        rw [List.getElem?_map] at hx
        cases e : (ps.take i)[n]? with
        | none => rw [e] at hx; cases hx
        | some p' => rw [e] at hx; exact ⟨p', rfl, (Option.some.inj hx).symm⟩
      have hp' : ps[n]? = some p := by
        rw [List.getElem?_take] at hp
        split at hp
        · exact hp
        · cases hp
      have hlp : p.length ≤ 8000 := by
        have a1 := len_succ hp'
        have a2 := len_le ps (n + 1)
        omega
      have hn := (List.getElem?_eq_some_iff.mp hp).1
      refine ⟨rfl, _, rfl, _, _, rfl, ⟨sz1 (by rw [T_length]; omega), rfl⟩, _, hl, sz2 (by simp; omega), ?_, sM s hD⟩
      rw [upd_same, take_more hp, T_length]
      simp
    · rw [txs, List.length_map, List.take_length] at hl
      refine ⟨_, _, rfl, SqL.of hl, _, rfl, _, _, rfl, rfl, ?_⟩
      rw [len_sum]
      have := k H' (s0.trans s)
      rw [Int.natCast_add] at this
      exact this
end
end Tw
namespace Tw
open PySem PySem.Spec PyProof.Rows L2
theorem flat_split {ps : List (List Bool)} {i : Nat} {p : List Bool} (h : ps[i]? = some p) : (ps.drop i).flatten = p ++ (ps.drop (i + 1)).flatten := by
  rw [drop_cons h, List.flatten_cons]
theorem take_split {ps : List (List Bool)} {i : Nat} {p : List Bool} (h : ps[i]? = some p) : (ps.take (i + 1)).flatten = (ps.take i).flatten ++ p := by
  rw [take_more h]; simp
theorem ones_take (a : List Bool) (j : Nat) : ones (a.take j) ≤ ones a := by
  have := congrArg ones (List.take_append_drop j a)
  rw [ones_app] at this
  omega
theorem pre_split {p R pre rest : List Bool} (h : p ++ R = pre ++ true :: rest) : (ones p ≤ ones pre ∧ ∃ pre', pre = p ++ pre' ∧ R = pre' ++ true :: rest) ∨ (ones pre < ones p ∧ ∃ r1, p = pre ++ true :: r1 ∧ rest = r1 ++ R) := by
  rcases List.append_eq_append_iff.mp h with ⟨a', h1, h2⟩ | ⟨c', h1, h2⟩
  · exact .inl ⟨by rw [h1, ones_app]; omega, a', h1, h2⟩
  · cases c' with
    | nil =>
      rw [List.append_nil] at h1
      refine .inl ⟨by rw [h1]; exact Nat.le_refl _, [], by rw [h1, List.append_nil], ?_⟩
      rw [List.nil_append] at h2 ⊢
      exact h2.symm
    | cons x r1 =>
      simp only [List.cons_append, List.cons.injEq] at h2
      obtain ⟨rfl, h2⟩ := h2
      exact .inr ⟨by rw [h1, ones_app]; simp [ones]; omega, r1, h1, h2⟩
section
variable {P : Program} {w : World} {K : PySem.W.Frag} {mg : Str → Option Value} {base : Heap}
def spSpot (K : PySem.W.Frag) : Sp := fun vs H Q _ => ∃ (o q : Addr) (ps : List (List Bool)) (pre rest : List Bool), vs = [.ref o, .int (ones pre : Nat)] ∧ WoodAt K H o q ps ∧ ps.flatten = pre ++ true :: rest ∧
  ∀ (i j : Nat) (p : List Bool) (r : Addr) (H' : Hp), ps[i]? = some p → p[j]? = some true → pre.length = len ps i + j → rest = p.drop (j + 1) ++ (ps.drop (i + 1)).flatten → Same H H' → H r = none → H' r = some (.tup [.int (i : Nat), .int (j : Nat), .int (ht pre)]) → Q (.ref r) H'
abbrev N_Shaped_spot_of : List Str := ["self", "k", "at", "height", "place", "sign"]
theorem sc_Shaped_spot_of : FnScope N_Shaped_spot_of ["self", "k"] (defScope s_Shaped_spot_of) := ⟨rfl, rfl, rfl, by decide +kernel, rfl, by decide +kernel, by decide +kernel⟩
theorem ok_Shaped_spot_of {f : Addr} {fd : FuncData} (F : D0 K "spot_of" "Shaped.spot_of" s_Shaped_spot_of f fd) (Z : Txt K mg) : FnOk P w K mg base (L2.CX P w) 1 f fd ["self", "k"] (spSpot K) := by
  refine F.ok sc_Shaped_spot_of (fun vs H Q E h => ?_) (fun cdv A outer s H vs Q E hr h => ?_)
  · obtain ⟨o, q, ps, pre, rest, rfl, _⟩ := h
    rfl
  · obtain ⟨o, q, ps, pre, rest, rfl, ⟨dx, a, t, ts, h1, h2, h3, h4, h5, h6, h7⟩, hfl, k⟩ := h
    refine ⟨_, (pss_cons (ps_set (i := 2) sc_Shaped_spot_of.nd rfl (Or.inl rfl) pe_int)
      (pss_cons (ps_set (i := 3) sc_Shaped_spot_of.nd rfl (Or.inl rfl) pe_int)
      (pss_cons (ps_while (passes_of rfl) (pt_cmpR op_ge (pv 1) (pe_ix ix_tup (pe_ix ix_list (pe_fld (pv 0) rfl) (pv 2) (fun _ _ => rfl)) pe_int (fun _ _ => rfl)) (nomark _))
        (pss_cons (ps_aug (i := 1) sc_Shaped_spot_of.nd rfl (Or.inl rfl) (pe_ix ix_tup (pe_ix ix_list (pe_fld (pv 0) rfl) (pv 2) (fun _ _ => rfl)) pe_int (fun _ _ => rfl)) ip_sub)
        (pss_cons (ps_aug (i := 3) sc_Shaped_spot_of.nd rfl (Or.inl rfl) (pe_ix ix_tup (pe_ix ix_list (pe_fld (pv 0) rfl) (pv 2) (fun _ _ => rfl)) pe_int (fun _ _ => rfl)) ip_add)
        (pss_one (ps_aug (i := 2) sc_Shaped_spot_of.nd rfl (Or.inl rfl) pe_int ip_add)))))
      (pss_cons (ps_for (passes_of rfl) rfl (pi_enumS (by rfl) Z.f_enumerate (pa_cons (pe_ix ix_list (pe_fld (pv 0) rfl) (pv 2) (fun _ _ => rfl)) pa_nil)) (pg_tup rfl (pgs_cons (pg_name (i := 4) sc_Shaped_spot_of.nd rfl (Or.inl rfl)) (pgs_cons (pg_name (i := 5) sc_Shaped_spot_of.nd rfl (Or.inl rfl)) pgs_nil)))
        (pss_cons (ps_if (PW.pt (pw_and (pt_cmpR op_eq (pv 5) pe_str (nomark _)) (pw_and1 (pt_cmpR op_eq (pv 1) pe_int (nomark _))))) (pss_one (ps_ret (pe_tup (pa_cons (pv 2) (pa_cons (pv 4) (pa_cons (pv 3) pa_nil))))))
          pss_nil)
        (pss_one (ps_if (pt_cmpR op_eq (pv 5) pe_str (nomark _)) (pss_cons (ps_aug (i := 1) sc_Shaped_spot_of.nd rfl (Or.inl rfl) pe_int ip_sub)
          (pss_one (ps_aug (i := 3) sc_Shaped_spot_of.nd rfl (Or.inl rfl) pe_int ip_add)))
          (pss_one (ps_aug (i := 3) sc_Shaped_spot_of.nd rfl (Or.inl rfl) pe_int ip_sub))))))
      (pss_one (ps_ret pe_non)))))), ?_⟩
    refine ⟨fun m σ H' => ∃ (i : Nat) (pre' : List Bool), m = ps.length - i ∧ (ps.drop i).flatten = pre' ++ true :: rest ∧ pre = (ps.take i).flatten ++ pre' ∧ σ = [some (.ref o), some (.int (ones pre' : Nat)), some (.int (i : Nat)), some (.int (ht (ps.take i).flatten)), none, none] ∧ H' = H,
      ⟨_, 0, pre, rfl, by simpa using hfl, rfl, rfl, rfl⟩, ?_⟩
    rintro m σ H1 ⟨i, pre', rfl, hd, hpre, rfl, rfl⟩
    have hi : i < ps.length := by
      apply Classical.byContradiction
      intro hn
      rw [List.drop_of_length_le (by omega)] at hd
      cases pre' <;> cases hd
    obtain ⟨p, hp⟩ : ∃ p, ps[i]? = some p := ⟨_, List.getElem?_eq_getElem hi⟩
    obtain ⟨r, hr'⟩ : ∃ r, ts[i]? = some r := ⟨_, List.getElem?_eq_getElem (by rw [h4.1]; exact hi)⟩
    obtain ⟨m0, hm0, hrt⟩ := h4.2 i p r hp hr'
    have htr : atI (ts.map V.ref) ((i : Nat) : Int) = some (.ref r) := atI_n (by rw [List.getElem?_map, hr']; rfl)
    have hlp : p.length ≤ 8000 := by
      have a1 := len_succ hp
      have a2 := len_le ps (i + 1)
      omega
    rw [flat_split hp] at hd
    refine ⟨_, rfl, _, rfl, o, _, _, _, _, rfl, h1, Z.c_Shaped, Z.n_Shaped_totals, rfl, _, rfl, t, _, _, _, rfl, rfl, SqL.of h3, htr, r, _, _, _, rfl, rfl, SqT.of hrt, rfl, _, _, rfl, rfl, _, rfl, ite_d rfl (fun hk => ?_) (fun hk => ?_)⟩
    · rcases pre_split hd with ⟨_, pre2, e1, e2⟩ | ⟨hlt, _⟩
      · refine ⟨_, fun σ' H' z => z, ?_⟩
        refine ⟨_, rfl, _, rfl, o, _, _, _, _, rfl, h1, Z.c_Shaped, Z.n_Shaped_totals, rfl, _, rfl, t, _, _, _, rfl, rfl, SqL.of h3, htr, r, _, _, _, rfl, rfl, SqT.of hrt, rfl, _, _, rfl, rfl, ?_⟩
        refine ⟨_, rfl, _, rfl, o, _, _, _, _, rfl, h1, Z.c_Shaped, Z.n_Shaped_totals, rfl, _, rfl, t, _, _, _, rfl, rfl, SqL.of h3, htr, r, _, _, _, rfl, rfl, SqT.of hrt, rfl, _, _, rfl, rfl, ?_⟩
        refine ⟨_, rfl, _, _, rfl, rfl, ps.length - (i + 1), by omega, i + 1, pre2, rfl, e2, by rw [take_split hp, hpre, e1, List.append_assoc], ?_, rfl⟩
        have q1 : ((ones pre' : Nat) : Int) - (ones p : Nat) = (ones pre2 : Nat) := by rw [e1, ones_app]; omega
        have q2 : ht (ps.take i).flatten + ht p = ht (ps.take (i + 1)).flatten := by rw [take_split hp, ht_app]
        dsimp only
        rw [q1, q2]
        rfl
      · omega
    · rcases pre_split hd with ⟨hle, _⟩ | ⟨hlt, r1, e1, e2⟩
      · omega
      · have hat : ∀ {j : Nat} {b}, j < pre'.length → p[j]? = some b → pre'[j]? = some b := fun {j b} hj e => by
          rw [e1, List.getElem?_append_left hj] at e
          exact e
        have htk : ∀ j, j ≤ pre'.length → p.take j = pre'.take j := fun j hj => by rw [e1, List.take_append_of_le_length hj]
        refine ⟨_, rfl, o, _, _, _, _, rfl, h1, Z.c_Shaped, Z.n_Shaped_parts, rfl, _, rfl, a, _, _, _, rfl, rfl, SqL.of h2, atI_n (txs_at hp), _, rfl, for_enumT (bs := p) (fun j σ H' => ∃ (v4 v5 : Option V), j ≤ pre'.length ∧ σ = [some (.ref o), some (.int ((ones pre' : Nat) - (ones (pre'.take j) : Nat) : Int)), some (.int (i : Nat)), some (.int (ht (ps.take i).flatten + ht (pre'.take j))), v4, v5] ∧ Same H1 H') ⟨none, none, Nat.zero_le _, ?_, Same.refl _⟩ ?_ ?_⟩
        · simp [ones, ht]
        · rintro j b tt σ H2 hb ⟨v4, v5, hj, rfl, s2⟩ htt
          have s3 := sN (o := .tup [.int (j : Nat), .str ⟨#[sgn b]⟩]) s2 htt
          refine ⟨_, _, rfl, SqT.of upd_same, rfl, _, _, rfl, _, _, rfl, rfl, ?_⟩
          by_cases hje : j = pre'.length
          · have hbt : b = true := by
              rw [e1, hje, List.getElem?_append_right (Nat.le_refl _)] at hb
              simp at hb
              exact hb
            subst hbt hje
            refine ⟨_, rfl, rfl, _, rfl, ite_b (sign_one true) (fun _ => ?_) (fun q => by cases q)⟩
            refine ⟨_, rfl, rfl, _, rfl, ite_d (dec_i _ _) (fun _ => ?_) (fun q => absurd (by rw [List.take_length]; omega) q)⟩
            refine ⟨_, rfl, _, rfl, _, rfl, (by show 3 ≤ sizeLine; decide), fun y hy => ?_⟩
            refine k i pre'.length p y _ hp hb ?_ ?_ (sN s3 hy) (s3.free hy) ?_
            · rw [hpre, List.length_append]; rfl
            · rw [e1, e2, show pre'.length + 1 = (pre' ++ [true]).length by simp, show pre' ++ true :: r1 = (pre' ++ [true]) ++ r1 by simp, List.drop_left]
            · rw [upd_same, List.take_length, hpre, ht_app]
          · have hj2 : j < pre'.length := by omega
            have hbp := hat hj2 hb
            have o1 := take_more hbp
            have o2 := ones_take pre' (j + 1)
            rw [o1, ones_app] at o2
            have o3 : ones (pre'.take (j + 1)) = ones (pre'.take j) + (if b then 1 else 0) := by rw [o1, ones_app]; cases b <;> simp [ones]
            have o4 : ht (pre'.take (j + 1)) = ht (pre'.take j) + st b := by rw [o1, ht_app]; simp [ht]
            cases b with
            | true =>
              refine ⟨_, rfl, rfl, _, rfl, ite_b (sign_one true) (fun _ => ?_) (fun q => by cases q)⟩
              refine ⟨_, rfl, rfl, _, rfl, ite_d (dec_i _ _) (fun q => absurd q (by simp [ones] at o2; omega)) (fun _ => ?_)⟩
              refine ⟨_, rfl, rfl, _, rfl, ite_b (sign_one true) (fun _ => ?_) (fun q => by cases q)⟩
              refine ⟨_, rfl, _, _, rfl, rfl, _, rfl, _, _, rfl, rfl, some (.int (j : Nat)), some (.str ⟨#[sgn true]⟩), hj2, ?_, s3⟩
              rw [o3, o4, if_pos rfl, Int.natCast_add, ← Int.sub_sub, ← Int.add_assoc]
              rfl
            | false =>
              refine ⟨_, rfl, rfl, _, rfl, ite_b (sign_one false) (fun q => by cases q) (fun _ => ?_)⟩
              refine iteF ⟨_, rfl, rfl, _, rfl, ite_b (sign_one false) (fun q => by cases q) (fun _ => ?_)⟩
              refine ⟨_, rfl, _, _, rfl, rfl, some (.int (j : Nat)), some (.str ⟨#[sgn false]⟩), hj2, ?_, s3⟩
              rw [o3, o4, if_neg Bool.false_ne_true, Nat.add_zero, ← Int.add_assoc]
              rfl
        · rintro σ H2 ⟨v4, v5, hj, rfl, s2⟩
          rw [e1, List.length_append, List.length_cons] at hj
          omega
end
end Tw
namespace Tw
open PySem PySem.Spec PyProof.Rows L2
theorem cl_uniq {d : Int} {L R : List Bool} {m i : Nat} (h : cl d (L ++ R) = some m) (hi : i < L.length) (hit : d + ht (L.take (i + 1)) = 0) (no : ∀ u, u < i → d + ht (L.take (u + 1)) ≠ 0) : m = i := by
  rw [cl_app] at h
  cases e : cl d L with
  | none => exact absurd hit (cl_none_at e hi)
  | some x =>
    rw [e] at h
    obtain rfl : x = m := Option.some.inj h
    rcases Nat.lt_trichotomy x i with q | q | q
    · exact absurd (cl_spec e) (no x q)
    · exact q
    · exact absurd hit (cl_first e q)
theorem cl_rest {d : Int} {L R : List Bool} {m : Nat} (h : cl d (L ++ R) = some m) (no : ∀ u, u < L.length → d + ht (L.take (u + 1)) ≠ 0) : cl d L = none ∧ ∃ m', cl (d + ht L) R = some m' ∧ m = m' + L.length := by
  have e : cl d L = none := by
    cases e : cl d L with
    | none => rfl
    | some x => exact absurd (cl_spec e) (no x (cl_lt e))
  refine ⟨e, ?_⟩
  rw [cl_app, e] at h
  cases e2 : cl (d + ht L) R with
  | none => rw [e2] at h; cases h
  | some m' => rw [e2] at h; exact ⟨m', rfl, (Option.some.inj h).symm⟩
theorem str_at {p : List Bool} {i : Nat} {b : Bool} (h : p[i]? = some b) : atI (T p).cps.toList ((i : Nat) : Int) = some (sgn b) := atI_n (by rw [T_toList, List.getElem?_map, h]; rfl)
theorem pm_at (b : Bool) : atI [V.int (-1), V.int 1] (if (decide (V.str ⟨#[sgn b]⟩ = V.str "1")) = true then 1 else 0) = some (.int (st b)) := by
  rw [sign_one]
  cases b <;> rfl
section
variable {P : Program} {w : World} {K : PySem.W.Frag} {mg : Str → Option Value} {base : Heap}
def spClose (K : PySem.W.Frag) : Sp := fun vs H Q _ => ∃ (o q : Addr) (ps : List (List Bool)) (i j : Nat) (h : Int) (p : List Bool) (n : Nat), vs = [.ref o, .int (i : Nat), .int (j : Nat), .int h] ∧ WoodAt K H o q ps ∧ ps[i]? = some p ∧ p[j]? = some true ∧ cl 1 (p.drop (j + 1) ++ (ps.drop (i + 1)).flatten) = some n ∧
  ∀ (i' j' : Nat) (r : Addr) (H' : Hp), i' ≤ ps.length → len ps i' + j' = len ps i + j + 1 + n → Same H H' → H' r = some (.tup [.int (i' : Nat), .int (j' : Nat)]) → Q (.ref r) H'
abbrev N_Shaped_closing_from : List Str := ["self", "at", "place", "height", "now", "sign_place", "sign"]
theorem sc_Shaped_closing_from : FnScope N_Shaped_closing_from ["self", "at", "place", "height"] (defScope s_Shaped_closing_from) := ⟨rfl, rfl, rfl, by decide +kernel, rfl, by decide +kernel, by decide +kernel⟩
theorem ok_Shaped_closing_from {f : Addr} {fd : FuncData} (F : D0 K "closing_from" "Shaped.closing_from" s_Shaped_closing_from f fd) (Z : Txt K mg) : FnOk P w K mg base (L2.CX P w) 1 f fd ["self", "at", "place", "height"] (spClose K) := by
  refine F.ok sc_Shaped_closing_from (fun vs H Q E h => ?_) (fun cdv A outer s H vs Q E hr h => ?_)
  · obtain ⟨o, q, ps, i, j, h, p, n, rfl, _⟩ := h
    rfl
  · obtain ⟨o, q, ps, i, j, h, p, n, rfl, ⟨dx, a, t, ts, h1, h2, h3, h4, h5, h6, h7⟩, hp, hj, hcl, k⟩ := h
    refine ⟨_, (pss_cons (ps_set (i := 4) sc_Shaped_closing_from.nd rfl (Or.inl rfl) (pv 3))
      (pss_cons (ps_for (passes_of rfl) rfl (pi_range2 (by rfl) Z.f_range (pa_cons (pv 2) (pa_cons (pe_callB call_len (by rfl) Z.f_len PySem.boot_len (pa_cons (pe_ix ix_list (pe_fld (pv 0) rfl) (pv 1) (fun _ _ => rfl)) pa_nil)) pa_nil))) (pg_name (i := 5) sc_Shaped_closing_from.nd rfl (Or.inl rfl))
        (pss_cons (ps_aug (i := 4) sc_Shaped_closing_from.nd rfl (Or.inl rfl) (pe_ix ix_list (pe_lst (pa_cons (pe_un un_neg pe_int) (pa_cons pe_int pa_nil))) (pe_callTy call_int1 (by rfl) Z.f_int (by decide +kernel) (pa_cons (pe_cmpR op_eq (pe_ix ix_str (pe_ix ix_list (pe_fld (pv 0) rfl) (pv 1) (fun _ _ => rfl)) (pv 5) (fun _ _ => rfl)) pe_str (nomark _)) pa_nil)) (fun _ _ => rfl)) ip_add)
        (pss_one (ps_if (pt_cmpR op_eq (pv 4) (pv 3) (nomark _)) (pss_one (ps_ret (pe_tup (pa_cons (pv 1) (pa_cons (pv 5) pa_nil)))))
          pss_nil))))
      (pss_cons (ps_aug (i := 1) sc_Shaped_closing_from.nd rfl (Or.inl rfl) pe_int ip_add)
      (pss_cons (ps_while (passes_of rfl) (pt_cmpR op_gt (pe_op op_add (pv 4) (pe_ix ix_tup (pe_ix ix_list (pe_fld (pv 0) rfl) (pv 1) (fun _ _ => rfl)) pe_int (fun _ _ => rfl))) (pv 3) (nomark _))
        (pss_cons (ps_aug (i := 4) sc_Shaped_closing_from.nd rfl (Or.inl rfl) (pe_ix ix_tup (pe_ix ix_list (pe_fld (pv 0) rfl) (pv 1) (fun _ _ => rfl)) pe_int (fun _ _ => rfl)) ip_add)
        (pss_one (ps_aug (i := 1) sc_Shaped_closing_from.nd rfl (Or.inl rfl) pe_int ip_add))))
      (pss_cons (ps_for (passes_of rfl) rfl (pi_enumS (by rfl) Z.f_enumerate (pa_cons (pe_ix ix_list (pe_fld (pv 0) rfl) (pv 1) (fun _ _ => rfl)) pa_nil)) (pg_tup rfl (pgs_cons (pg_name (i := 5) sc_Shaped_closing_from.nd rfl (Or.inl rfl)) (pgs_cons (pg_name (i := 6) sc_Shaped_closing_from.nd rfl (Or.inl rfl)) pgs_nil)))
        (pss_cons (ps_aug (i := 4) sc_Shaped_closing_from.nd rfl (Or.inl rfl) (pe_ix ix_list (pe_lst (pa_cons (pe_un un_neg pe_int) (pa_cons pe_int pa_nil))) (pe_callTy call_int1 (by rfl) Z.f_int (by decide +kernel) (pa_cons (pe_cmpR op_eq (pv 6) pe_str (nomark _)) pa_nil)) (fun _ _ => rfl)) ip_add)
        (pss_one (ps_if (pt_cmpR op_eq (pv 4) (pv 3) (nomark _)) (pss_one (ps_ret (pe_tup (pa_cons (pv 1) (pa_cons (pv 5) pa_nil)))))
          pss_nil))))
      (pss_one (ps_ret pe_non))))))), ?_⟩
    have hlp : p.length ≤ 8000 := by
      have a1 := len_succ hp
      have a2 := len_le ps (i + 1)
      omega
    have hi : i < ps.length := (List.getElem?_eq_some_iff.mp hp).1
    have hjl : j < p.length := (List.getElem?_eq_some_iff.mp hj).1
    have hlT : (T p).length ≤ sizeLine := sz1 (by rw [T_length]; omega)
    have hL : p.drop j = true :: p.drop (j + 1) := drop_cons hj
    have hcl0 : cl 0 (p.drop j ++ (ps.drop (i + 1)).flatten) = some (n + 1) := by
      rw [hL, List.cons_append]
      simp only [cl]
      rw [if_neg (by simp [st]), show (0 : Int) + st true = 1 from rfl, hcl]
      rfl
    have hLl : (p.drop j).length = p.length - j := List.length_drop
    refine ⟨_, rfl, _, rfl, _, rfl, o, _, _, _, _, rfl, h1, Z.c_Shaped, Z.n_Shaped_parts, rfl, _, rfl, a, _, _, _, rfl, rfl, SqL.of h2, atI_n (txs_at hp), _, _, rfl, ⟨hlT, rfl⟩, _, _, rfl, ⟨by omega, by omega, by rw [T_length]; omega, by rw [T_length]; omega⟩, for_range (fun u σ H' => ∃ (v5 : Option V), σ = [some (.ref o), some (.int (i : Nat)), some (.int (j : Nat)), some (.int h), some (.int (h + ht ((p.drop j).take u))), v5, none] ∧ (∀ x, x < u → (0 : Int) + ht ((p.drop j).take (x + 1)) ≠ 0) ∧ Same H H') ⟨none, ?_, fun x hx => by omega, Same.refl H⟩ ?_ ?_⟩
    · rw [List.take_zero]; simp only [ht, Int.add_zero]; rfl
    · rintro u σ H1 hu ⟨v5, rfl, no, s1⟩
      rw [T_length] at hu
      have hu2 : u < (p.drop j).length := by omega
      obtain ⟨b, hb⟩ : ∃ b, (p.drop j)[u]? = some b := ⟨_, List.getElem?_eq_getElem hu2⟩
      have hb2 : p[j + u]? = some b := by rw [List.getElem?_drop] at hb; exact hb
      have e1 : ht ((p.drop j).take (u + 1)) = ht ((p.drop j).take u) + st b := by rw [take_more hb, ht_app]; simp [ht]
      refine ⟨_, rfl, _, rfl, (by show 2 ≤ sizeLine; decide), fun y hy => ?_⟩
      have s2 := sN (o := .lst [.int (-1), .int 1]) s1 hy
      refine ⟨_, rfl, o, _, _, _, _, rfl, s2 _ _ h1, Z.c_Shaped, Z.n_Shaped_parts, rfl, _, rfl, a, _, _, _, rfl, rfl, SqL.of (s2 _ _ h2), atI_n (txs_at hp), _, rfl, _, _, _, rfl, rfl, hlT, str_at hb2, rfl, .inr ⟨_, rfl, ?_⟩⟩
      refine ⟨y, _, _, _, rfl, rfl, SqL.of upd_same, pm_at b, _, _, rfl, rfl, ?_⟩
      dsimp only
      rw [Int.add_assoc, ← e1]
      refine ⟨_, rfl, _, rfl, rfl, _, rfl, ite_d (dec_i _ _) (fun hit => ?_) (fun hit => ?_)⟩
      · have hun := cl_uniq hcl0 hu2 (by omega) no
        refine ⟨_, rfl, _, rfl, (by show 2 ≤ sizeLine; decide), fun r hr2 => ?_⟩
        refine k i (j + u) r _ (by omega) (by omega) (sN s2 hr2) ?_
        rw [upd_same, Int.natCast_add]
      · refine ⟨some (.int ((j : Nat) + (u : Nat))), rfl, fun x hx => ?_, s2⟩
        by_cases hxu : x = u
        · subst hxu
          intro z
          exact hit (by omega)
        · exact no x (by omega)
    · rintro σ H1 ⟨v5, rfl, no, s1⟩
      rw [T_length] at no ⊢
      have hge : ((p.length : Int) - (j : Nat)).toNat = (p.drop j).length := by omega
      rw [hge] at no ⊢
      rw [List.take_length]
      obtain ⟨hn, m', hm', hmm⟩ := cl_rest hcl0 no
      have hpos : 0 < ht (p.drop j) := by
        rw [hL] at hn ⊢
        simp only [cl] at hn
        rw [if_neg (by simp [st])] at hn
        have hn2 : cl 1 (p.drop (j + 1)) = none := by
          cases e : cl 1 (p.drop (j + 1)) with
          | none => rfl
          | some x =>
            rw [show (0 : Int) + st true = 1 from rfl, e] at hn
            cases hn
        have := cl_pos (by omega) hn2
        simp only [ht, st, if_true]
        simpa using this
      refine ⟨_, rfl, _, _, rfl, rfl, ?_⟩
      refine ⟨fun m σ H' => ∃ (i2 : Nat) (d : Int) (m2 : Nat), m = ps.length - i2 ∧ σ = [some (.ref o), some (.int (i2 : Nat)), some (.int (j : Nat)), some (.int h), some (.int (h + d)), v5, none] ∧ 0 < d ∧ cl d (ps.drop i2).flatten = some m2 ∧ len ps i2 + m2 = len ps i + j + 1 + n ∧ H' = H1,
        ⟨_, i + 1, ht (p.drop j), m', rfl, rfl, hpos, by simpa using hm', by rw [len_succ hp]; omega, rfl⟩, ?_⟩
      rintro m σ H2 ⟨i2, d, m2, rfl, rfl, hd, hc2, hlen, rfl⟩
      have hi2 : i2 < ps.length := by
        apply Classical.byContradiction
        intro hn
        rw [List.drop_of_length_le (by omega)] at hc2
        cases hc2
      obtain ⟨p2, hp2⟩ : ∃ p, ps[i2]? = some p := ⟨_, List.getElem?_eq_getElem hi2⟩
      obtain ⟨r, hr'⟩ : ∃ r, ts[i2]? = some r := ⟨_, List.getElem?_eq_getElem (by rw [h4.1]; exact hi2)⟩
      obtain ⟨m0, hm0, hrt⟩ := h4.2 i2 p2 r hp2 hr'
      have htr : atI (ts.map V.ref) ((i2 : Nat) : Int) = some (.ref r) := atI_n (by rw [List.getElem?_map, hr']; rfl)
      have hlp2 : p2.length ≤ 8000 := by
        have a1 := len_succ hp2
        have a2 := len_le ps (i2 + 1)
        omega
      rw [flat_split hp2] at hc2
      have g1 := s1 _ _ h1
      have g2 := s1 _ _ h2
      have g3 := s1 _ _ h3
      have g4 := s1 _ _ hrt
      refine ⟨_, rfl, _, rfl, o, _, _, _, _, rfl, g1, Z.c_Shaped, Z.n_Shaped_totals, rfl, _, rfl, t, _, _, _, rfl, rfl, SqL.of g3, htr, r, _, _, _, rfl, rfl, SqT.of g4, rfl, _, _, rfl, rfl, _, rfl, _, _, rfl, rfl, _, rfl, ite_d rfl (fun hk => ?_) (fun hk => ?_)⟩
      · have hk2 : 0 < d + m0 := by omega
        have hn2 := (cl_least hd hm0).mpr hk2
        have hpos2 := cl_pos hd hn2
        rw [cl_app, hn2] at hc2
        obtain ⟨m3, hm3, rfl⟩ : ∃ m3, cl (d + ht p2) (ps.drop (i2 + 1)).flatten = some m3 ∧ m2 = m3 + p2.length := by
          cases e : cl (d + ht p2) (ps.drop (i2 + 1)).flatten with
          | none => rw [e] at hc2; cases hc2
          | some x => rw [e] at hc2; exact ⟨x, rfl, (Option.some.inj hc2).symm⟩
        refine ⟨_, fun σ' H' z => z, ?_⟩
        refine ⟨_, rfl, _, rfl, o, _, _, _, _, rfl, g1, Z.c_Shaped, Z.n_Shaped_totals, rfl, _, rfl, t, _, _, _, rfl, rfl, SqL.of g3, htr, r, _, _, _, rfl, rfl, SqT.of g4, rfl, _, _, rfl, rfl, ?_⟩
        refine ⟨_, rfl, _, _, rfl, rfl, ps.length - (i2 + 1), by omega, i2 + 1, d + ht p2, m3, rfl, ?_, hpos2, hm3, by rw [len_succ hp2]; omega, rfl⟩
        dsimp only
        rw [Int.add_assoc]
        rfl
      · have hsome : ∃ x, cl d p2 = some x := by
          cases e : cl d p2 with
          | none =>
            have := (cl_least hd hm0).mp e
            omega
          | some x => exact ⟨x, rfl⟩
        obtain ⟨x, hx⟩ := hsome
        rw [cl_app, hx] at hc2
        obtain rfl : x = m2 := Option.some.inj hc2
        have hxl := cl_lt hx
        refine ⟨_, rfl, o, _, _, _, _, rfl, g1, Z.c_Shaped, Z.n_Shaped_parts, rfl, _, rfl, a, _, _, _, rfl, rfl, SqL.of g2, atI_n (txs_at hp2), _, rfl, for_enumT (bs := p2) (fun u σ H' => ∃ (v5 v6 : Option V), u ≤ x ∧ σ = [some (.ref o), some (.int (i2 : Nat)), some (.int (j : Nat)), some (.int h), some (.int (h + (d + ht (p2.take u)))), v5, v6] ∧ Same H2 H') ⟨v5, none, Nat.zero_le _, ?_, Same.refl _⟩ ?_ ?_⟩
        · simp [ht]
        · rintro u b tt σ H3 hb ⟨v5, v6, hu, rfl, s2⟩ htt
          have s3 := sN (o := .tup [.int (u : Nat), .str ⟨#[sgn b]⟩]) s2 htt
          have e1 : ht (p2.take (u + 1)) = ht (p2.take u) + st b := by rw [take_more hb, ht_app]; simp [ht]
          refine ⟨_, _, rfl, SqT.of upd_same, rfl, _, _, rfl, _, _, rfl, rfl, ?_⟩
          refine ⟨_, rfl, _, rfl, (by show 2 ≤ sizeLine; decide), fun y hy => ?_⟩
          have s4 := sN (o := .lst [.int (-1), .int 1]) s3 hy
          refine ⟨_, rfl, rfl, .inr ⟨_, rfl, y, _, _, _, rfl, rfl, SqL.of upd_same, pm_at b, _, _, rfl, rfl, ?_⟩⟩
          dsimp only
          rw [show h + (d + ht (p2.take u)) + st b = h + (d + ht (p2.take (u + 1))) by rw [e1]; omega]
          refine ⟨_, rfl, _, rfl, rfl, _, rfl, ite_d (dec_i _ _) (fun hit => ?_) (fun hit => ?_)⟩
          · have hux : u = x := by
              rcases Nat.lt_or_ge u x with z | z
              · exact absurd (by omega) (cl_first hx z)
              · omega
            subst hux
            refine ⟨_, rfl, _, rfl, (by show 2 ≤ sizeLine; decide), fun r2 hr2 => ?_⟩
            exact k i2 u r2 _ (by omega) hlen (sN (s1.trans s4) hr2) upd_same
          · refine ⟨some (.int (u : Nat)), some (.str ⟨#[sgn b]⟩), ?_, rfl, s4⟩
            have := cl_spec hx
            by_cases hux : u = x
            · subst hux
              exact absurd (by omega) hit
            · omega
        · rintro σ H3 ⟨v5, v6, hu, rfl, s2⟩
          omega
end
end Tw
namespace Tw
theorem beh_ok (ps : List (List Bool)) (d : Nat) : d ≤ (ps.take (beh ps d)).flatten.length ∨ beh ps d = ps.length := by
  induction ps generalizing d with
  | nil => right; rfl
  | cons p r ih =>
    simp only [beh]
    by_cases h : 0 < d
    · rw [if_pos h]
      rcases ih (d - p.length) with q | q
      · left
        rw [List.take_succ_cons, List.flatten_cons, List.length_append]
        omega
      · right
        rw [q]; rfl
    · rw [if_neg h]
      left
      omega
theorem flat_putFor (ps : List (List Bool)) (low high : Nat) (tx : List Bool) (h1 : low ≤ high) (h3 : high ≤ ps.flatten.length) : (putFor ps low high tx).flatten = ps.flatten.take low ++ tx ++ ps.flatten.drop high := by
  unfold putFor
  dsimp only
  have hla := len_adv ps low
  have hb := beh_ok (ps.drop (adv ps low)) (high - len ps (adv ps low))
  generalize ha : adv ps low = a at hla hb ⊢
  generalize hB : a + beh (ps.drop a) (high - len ps a) = B
  have hBa : a ≤ B := by omega
  have hlenB : high ≤ len ps (B + 2) := by
    rcases hb with q | q
    · have e := len_part ps a B hBa
      rw [show B - a = beh (ps.drop a) (high - len ps a) by omega] at e
      have : len ps B ≤ len ps (B + 2) := by
        have := len_part ps B (B + 2) (by omega)
        omega
      omega
    · rw [List.length_drop] at q
      unfold len
      rw [List.take_of_length_le (by omega)]
      exact h3
  have hf : len ps (a - 2) ≤ low := by
    have := len_part ps (a - 2) a (by omega)
    omega
  have hM := len_part ps (a - 2) (B + 2) (by omega)
  have hsplit : ps.flatten = (ps.take (a - 2)).flatten ++ ((ps.drop (a - 2)).take (B + 2 - (a - 2))).flatten ++ (ps.drop (B + 2)).flatten := by
    rw [← List.flatten_append, ← List.flatten_append]
    congr 1
    rw [show ps.drop (B + 2) = (ps.drop (a - 2)).drop (B + 2 - (a - 2)) by rw [List.drop_drop]; congr 1; omega, List.append_assoc, List.take_append_drop, List.take_append_drop]
  have hA : (ps.take (a - 2)).flatten.length = len ps (a - 2) := rfl
  rw [List.flatten_append, List.flatten_append, cutEv_flat, hsplit]
  generalize (ps.take (a - 2)).flatten = A at hA ⊢
  generalize ((ps.drop (a - 2)).take (B + 2 - (a - 2))).flatten = M at hM ⊢
  generalize (ps.drop (B + 2)).flatten = C
  rw [← hA] at hf hM ⊢
  rw [List.append_assoc A M C, List.take_append, List.drop_append, List.take_of_length_le hf, List.drop_of_length_le (show A.length ≤ high by omega), List.take_append_of_le_length (by omega), List.drop_append_of_le_length (by omega)]
  simp
theorem bal_insert {X Y M : List Bool} (h : Bal (X ++ Y)) (hm : Bal M) : Bal (X ++ M ++ Y) := by
  refine ⟨fun n => ?_, ?_⟩
  · rw [List.append_assoc, List.take_append, ht_app, List.take_append, ht_app]
    by_cases h1 : n ≤ X.length
    · have := h.low n
      rw [List.take_append_of_le_length h1] at this
      rw [show n - X.length = 0 by omega]
      simpa [ht] using this
    · rw [List.take_of_length_le (show X.length ≤ n by omega)]
      by_cases h2 : n - X.length ≤ M.length
      · have a1 := h.low X.length
        rw [List.take_left] at a1
        have a2 := hm.low (n - X.length)
        rw [show n - X.length - M.length = 0 by omega]
        simp [ht]
        omega
      · have a1 := h.low (n - M.length)
        rw [List.take_append, ht_app, List.take_of_length_le (show X.length ≤ n - M.length by omega)] at a1
        rw [List.take_of_length_le (show M.length ≤ n - X.length by omega), hm.all, show n - X.length - M.length = n - M.length - X.length by omega]
        omega
  · have a1 := h.all
    rw [ht_app] at a1
    rw [ht_app, ht_app, hm.all]
    omega
theorem bal_length {bs : List Bool} (h : Bal bs) : bs.length = 2 * ones bs := by
  have a := ht_eq bs
  have b := h.all
  omega
theorem knot_at : ∀ (bs : List Bool) (k : Nat), k < ones bs → ∃ pre rest, bs = pre ++ true :: rest ∧ ones pre = k
  | [], k, h => by simp [ones] at h
  | true :: r, 0, _ => ⟨[], r, rfl, rfl⟩
  | true :: r, k + 1, h => by
    simp only [ones, if_true] at h
    obtain ⟨pre, rest, e, o⟩ := knot_at r k (by omega)
    exact ⟨true :: pre, rest, by rw [e]; rfl, by simp [ones, o]; omega⟩
  | false :: r, k, h => by
    simp [ones] at h
    obtain ⟨pre, rest, e, o⟩ := knot_at r k h
    exact ⟨false :: pre, rest, by rw [e]; rfl, by simp [ones, o]⟩
end Tw
namespace Tw
open PySem PySem.Spec PyProof.Rows L2
section
variable {P : Program} {w : World} {K : PySem.W.Frag} {mg : Str → Option Value} {base : Heap}
def spEnds (K : PySem.W.Frag) : Sp := fun vs H Q _ => ∃ (o q : Addr) (ps : List (List Bool)) (pre rest : List Bool) (n : Nat), vs = [.ref o, .int (ones pre : Nat)] ∧ WoodAt K H o q ps ∧ ps.flatten = pre ++ true :: rest ∧ cl 1 rest = some n ∧
  ∀ (r : Addr) (H' : Hp), Same H H' → H r = none → H' r = some (.tup [.int (pre.length : Nat), .int ((pre.length + 1 + n : Nat) : Int)]) → Q (.ref r) H'
abbrev N_Shaped_ends_of : List Str := ["self", "k", "at", "place", "height", "end_at", "end_place"]
theorem sc_Shaped_ends_of : FnScope N_Shaped_ends_of ["self", "k"] (defScope s_Shaped_ends_of) := ⟨rfl, rfl, rfl, by decide +kernel, rfl, by decide +kernel, by decide +kernel⟩
theorem ok_Shaped_ends_of {f : Addr} {fd : FuncData} (F : D0 K "ends_of" "Shaped.ends_of" s_Shaped_ends_of f fd) (Z : Txt K mg) (m_Shaped_spot_of : Mtd P w K mg base 1 (He.ga K "Shaped") "spot_of" ["self", "k"] (spSpot K)) (m_Shaped_closing_from : Mtd P w K mg base 1 (He.ga K "Shaped") "closing_from" ["self", "at", "place", "height"] (spClose K))
    (m_Shaped_row_place : Mtd P w K mg base 1 (He.ga K "Shaped") "row_place" ["self", "at", "place"] (spRowPlace K)) : FnOk P w K mg base (L2.CX P w) 2 f fd ["self", "k"] (spEnds K) := by
  refine F.ok sc_Shaped_ends_of (fun vs H Q E h => ?_) (fun cdv A outer s H vs Q E hr h => ?_)
  · obtain ⟨o, q, ps, pre, rest, n, rfl, _⟩ := h
    rfl
  · obtain ⟨o, q, ps, pre, rest, n, rfl, W0, hfl, hcl, k⟩ := h
    obtain ⟨dx, a, t, ts, h1, h2, h3, h4, h5, h6, h7⟩ := id W0
    refine ⟨_, (pss_cons (ps_asg (pe_m m_Shaped_spot_of Z.c_Shaped hr (takes_of rfl rfl rfl rfl) (pv 0) (pa_cons (pv 1) pa_nil)) (pg_tup rfl (pgs_cons (pg_name (i := 2) sc_Shaped_ends_of.nd rfl (Or.inl rfl)) (pgs_cons (pg_name (i := 3) sc_Shaped_ends_of.nd rfl (Or.inl rfl)) (pgs_cons (pg_name (i := 4) sc_Shaped_ends_of.nd rfl (Or.inl rfl)) pgs_nil)))))
      (pss_cons (ps_asg (pe_m m_Shaped_closing_from Z.c_Shaped hr (takes_of rfl rfl rfl rfl) (pv 0) (pa_cons (pv 2) (pa_cons (pv 3) (pa_cons (pv 4) pa_nil)))) (pg_tup rfl (pgs_cons (pg_name (i := 5) sc_Shaped_ends_of.nd rfl (Or.inl rfl)) (pgs_cons (pg_name (i := 6) sc_Shaped_ends_of.nd rfl (Or.inl rfl)) pgs_nil))))
      (pss_one (ps_ret (pe_tup (pa_cons (pe_m m_Shaped_row_place Z.c_Shaped hr (takes_of rfl rfl rfl rfl) (pv 0) (pa_cons (pv 2) (pa_cons (pv 3) pa_nil))) (pa_cons (pe_m m_Shaped_row_place Z.c_Shaped hr (takes_of rfl rfl rfl rfl) (pv 0) (pa_cons (pv 5) (pa_cons (pv 6) pa_nil))) pa_nil))))))), ?_⟩
    refine ⟨_, rfl, o, _, _, rfl, h1, rfl, _, rfl, o, q, ps, pre, rest, rfl, W0, hfl, fun i j p r H1 hp hj hpl hrest s1 hr0 hr1 => ?_⟩
    refine ⟨_, _, rfl, SqT.of hr1, rfl, _, _, rfl, _, _, rfl, _, _, rfl, rfl, ?_⟩
    have W1 := W0.mono s1
    rw [hrest] at hcl
    refine ⟨_, rfl, o, _, _, rfl, s1 _ _ h1, rfl, _, rfl, _, rfl, _, rfl, o, q, ps, i, j, _, p, n, rfl, W1, hp, hj, hcl, fun i' j' r2 H2 hi' hlen s2 hr2 => ?_⟩
    refine ⟨_, _, rfl, SqT.of hr2, rfl, _, _, rfl, _, _, rfl, rfl, ?_⟩
    have s12 := s1.trans s2
    have W2 := W0.mono s12
    refine ⟨_, rfl, o, _, _, rfl, s12 _ _ h1, rfl, _, rfl, _, rfl, o, q, ps, i, j, rfl, W2, (Nat.le_of_lt (List.getElem?_eq_some_iff.mp hp).1), fun H3 s3 => ?_⟩
    have s13 := s12.trans s3
    refine ⟨_, rfl, o, _, _, rfl, s13 _ _ h1, rfl, _, rfl, _, rfl, o, q, ps, i', j', rfl, W0.mono s13, hi', fun H4 s4 => ?_⟩
    have s14 := s13.trans s4
    refine ⟨(by show 2 ≤ sizeLine; decide), fun r3 hr3 => ?_⟩
    refine k r3 _ (sN s14 hr3) (s14.free hr3) ?_
    rw [upd_same, hlen, ← hpl]
def KidsOf (ps : List (List Bool)) (k : V) (c : Nat) : Prop := (k = .non ∧ c = tops 0 ps.flatten) ∨ ∃ (pre rest : List Bool) (n : Nat), k = .int (ones pre : Nat) ∧ ps.flatten = pre ++ true :: rest ∧ cl 1 rest = some n ∧ c = tops 0 (rest.take n)
def spKids (K : PySem.W.Frag) : Sp := fun vs H Q _ => ∃ (o q : Addr) (ps : List (List Bool)) (k : V) (c : Nat), vs = [.ref o, k] ∧ WoodAt K H o q ps ∧ KidsOf ps k c ∧ ∀ (p : Addr) (H' : Hp) (ns : List Int), Same H H' → H p = none → H' p = some (.lst (ns.map V.int)) → ns.length = c → Q (.ref p) H'
abbrev N_Shaped_children : List Str := ["self", "k", "low", "high"]
theorem sc_Shaped_children : FnScope N_Shaped_children ["self", "k"] (defScope s_Shaped_children) := ⟨rfl, rfl, rfl, by decide +kernel, rfl, by decide +kernel, by decide +kernel⟩
theorem ok_Shaped_children {f : Addr} {fd : FuncData} (F : D0 K "children" "Shaped.children" s_Shaped_children f fd) (Z : Txt K mg) (c_tops_in : Cal P w K mg base 1 "tops_in" ["text", "first"] spTops) (m_Shaped_row : Mtd P w K mg base 1 (He.ga K "Shaped") "row" ["self"] (spSRow K))
    (m_Shaped_ends_of : Mtd P w K mg base 2 (He.ga K "Shaped") "ends_of" ["self", "k"] (spEnds K)) : FnOk P w K mg base (L2.CX P w) 3 f fd ["self", "k"] (spKids K) := by
  refine F.ok sc_Shaped_children (fun vs H Q E h => ?_) (fun cdv A outer s H vs Q E hr h => ?_)
  · obtain ⟨o, q, ps, k, c, rfl, _⟩ := h
    rfl
  · obtain ⟨o, q, ps, k0, c, rfl, W0, hk, k⟩ := h
    obtain ⟨dx, a, t, ts, h1, h2, h3, h4, h5, h6, h7⟩ := id W0
    refine ⟨_, (pss_cons (ps_if (pt_cmpR op_isN (pv 1) pe_non (nomark _)) (pss_one (ps_ret (pe_c c_tops_in hr (takes_of rfl rfl rfl rfl) (pa_cons (pe_m0 m_Shaped_row Z.c_Shaped hr (takes_of rfl rfl rfl rfl) (pv 0)) (pa_cons pe_int pa_nil)))))
        pss_nil)
      (pss_cons (ps_asg (pe_m m_Shaped_ends_of Z.c_Shaped hr (takes_of rfl rfl rfl rfl) (pv 0) (pa_cons (pv 1) pa_nil)) (pg_tup rfl (pgs_cons (pg_name (i := 2) sc_Shaped_children.nd rfl (Or.inl rfl)) (pgs_cons (pg_name (i := 3) sc_Shaped_children.nd rfl (Or.inl rfl)) pgs_nil))))
      (pss_one (ps_ret (pe_c c_tops_in hr (takes_of rfl rfl rfl rfl) (pa_cons (pe_slice sl_str (pe_m0 m_Shaped_row Z.c_Shaped hr (takes_of rfl rfl rfl rfl) (pv 0)) (po_some (pe_op op_add (pv 2) pe_int)) (po_some (pv 3))) (pa_cons (pe_op op_add (pv 1) pe_int) pa_nil))))))), ?_⟩
    rcases hk with ⟨rfl, rfl⟩ | ⟨pre, rest, n, rfl, hfl, hcl, rfl⟩
    · refine ⟨_, rfl, rfl, _, rfl, iteT ?_⟩
      exact ⟨_, rfl, o, _, _, rfl, h1, rfl, o, q, ps, rfl, W0, ps.flatten, 0, rfl, by omega, fun p H' ns s hp hl hn => k p H' ns s hp hl hn⟩
    · refine ⟨_, rfl, rfl, _, rfl, iteF ?_⟩
      refine ⟨_, rfl, o, _, _, rfl, h1, rfl, _, rfl, o, q, ps, pre, rest, n, rfl, W0, hfl, hcl, fun r H1 s1 hr0 hr1 => ?_⟩
      refine ⟨_, _, rfl, SqT.of hr1, rfl, _, _, rfl, _, _, rfl, rfl, ?_⟩
      refine ⟨_, rfl, o, _, _, rfl, s1 _ _ h1, rfl, o, q, ps, rfl, W0.mono s1, _, rfl, _, _, rfl, rfl, _, rfl, _, rfl, _, rfl, _, rfl, sz1 (by rw [T_length]; omega), ?_⟩
      rw [show ((pre.length : Nat) : Int) + 1 = ((pre.length + 1 : Nat) : Int) from rfl, cutS_T]
      have e1 : (ps.flatten.drop (pre.length + 1)).take (pre.length + 1 + n - (pre.length + 1)) = rest.take n := by
        rw [hfl, show pre ++ true :: rest = (pre ++ [true]) ++ rest by simp, show pre.length + 1 = (pre ++ [true]).length by simp, List.drop_left]
        congr 1
        omega
      rw [e1]
      have hnl := cl_lt hcl
      refine ⟨_, rfl, _, _, rfl, rfl, rest.take n, _, rfl, ?_, fun p H' ns s hp hl hn => k p H' ns (s1.trans s) (s1.free hp) hl hn⟩
      rw [hfl, List.length_append, List.length_cons] at h6
      rw [List.length_take]
      omega
def spNth (K : PySem.W.Frag) : Sp := fun vs H Q E => ∃ (o q : Addr) (ps : List (List Bool)) (x i : V), vs = [.ref o, x, i] ∧ WoodAt K H o q ps ∧ Thing H x ∧ knotB x (ones ps.flatten) = false ∧ Out K H E .knot
abbrev N_Shaped_nth : List Str := ["self", "k", "i", "children"]
theorem sc_Shaped_nth : FnScope N_Shaped_nth ["self", "k", "i"] (defScope s_Shaped_nth) := ⟨rfl, rfl, rfl, by decide +kernel, rfl, by decide +kernel, by decide +kernel⟩
theorem ok_Shaped_nth {f : Addr} {fd : FuncData} (F : D0 K "nth" "Shaped.nth" s_Shaped_nth f fd) (Z : Txt K mg) (m_Shaped_look_at_knot : Mtd P w K mg base 2 (He.ga K "Shaped") "look_at_knot" ["self", "k"] (spLookK K)) : FnOk P w K mg base (L2.CX P w) 3 f fd ["self", "k", "i"] (spNth K) := by
  refine F.ok sc_Shaped_nth (fun vs H Q E h => ?_) (fun cdv A outer s H vs Q E hr h => ?_)
  · obtain ⟨o, q, ps, x, i, rfl, _⟩ := h
    rfl
  · obtain ⟨o, q, ps, x, i, rfl, W0, hx, hb, ko⟩ := h
    obtain ⟨dx, a, t, ts, h1, h2, h3, h4, h5, h6, h7⟩ := id W0
    refine ⟨_, (pss_cons (ps_expr (pe_m m_Shaped_look_at_knot Z.c_Shaped hr (takes_of rfl rfl rfl rfl) (pv 0) (pa_cons (pv 1) pa_nil)))
      pss_dead), ?_⟩
    exact ⟨_, rfl, o, _, _, rfl, h1, rfl, _, rfl, o, q, ps, x, rfl, W0, hx, (fun e => by rw [hb] at e; cases e), fun _ => ko⟩
def spCut (K : PySem.W.Frag) : Sp := fun vs H Q E => ∃ (o q : Addr) (ps : List (List Bool)) (x : V), vs = [.ref o, x] ∧ WoodAt K H o q ps ∧ Thing H x ∧ knotB x (ones ps.flatten) = false ∧ Out K H E .knot
abbrev N_Shaped_cut : List Str := ["self", "k", "low", "high", "text"]
theorem sc_Shaped_cut : FnScope N_Shaped_cut ["self", "k"] (defScope s_Shaped_cut) := ⟨rfl, rfl, rfl, by decide +kernel, rfl, by decide +kernel, by decide +kernel⟩
theorem ok_Shaped_cut {f : Addr} {fd : FuncData} (F : D0 K "cut" "Shaped.cut" s_Shaped_cut f fd) (Z : Txt K mg) (m_Shaped_look_at_knot : Mtd P w K mg base 2 (He.ga K "Shaped") "look_at_knot" ["self", "k"] (spLookK K)) : FnOk P w K mg base (L2.CX P w) 3 f fd ["self", "k"] (spCut K) := by
  refine F.ok sc_Shaped_cut (fun vs H Q E h => ?_) (fun cdv A outer s H vs Q E hr h => ?_)
  · obtain ⟨o, q, ps, x, rfl, _⟩ := h
    rfl
  · obtain ⟨o, q, ps, x, rfl, W0, hx, hb, ko⟩ := h
    obtain ⟨dx, a, t, ts, h1, h2, h3, h4, h5, h6, h7⟩ := id W0
    refine ⟨_, (pss_cons (ps_expr (pe_m m_Shaped_look_at_knot Z.c_Shaped hr (takes_of rfl rfl rfl rfl) (pv 0) (pa_cons (pv 1) pa_nil)))
      pss_dead), ?_⟩
    exact ⟨_, rfl, o, _, _, rfl, h1, rfl, _, rfl, o, q, ps, x, rfl, W0, hx, (fun e => by rw [hb] at e; cases e), fun _ => ko⟩
def spBack (K : PySem.W.Frag) : Sp := fun vs H Q E => ∃ (o q : Addr) (ps : List (List Bool)), vs = [.ref o] ∧ WoodAt K H o q ps ∧ H q = some (.lst []) ∧ Out K H E .deed
abbrev N_Shaped_take_back : List Str := ["self", "part"]
theorem sc_Shaped_take_back : FnScope N_Shaped_take_back ["self"] (defScope s_Shaped_take_back) := ⟨rfl, rfl, rfl, by decide +kernel, rfl, by decide +kernel, by decide +kernel⟩
theorem ok_Shaped_take_back {f : Addr} {fd : FuncData} (F : D0 K "take_back" "Shaped.take_back" s_Shaped_take_back f fd) (Z : Txt K mg) : FnOk P w K mg base (L2.CX P w) 1 f fd ["self"] (spBack K) := by
  refine F.ok sc_Shaped_take_back (fun vs H Q E h => ?_) (fun cdv A outer s H vs Q E hr h => ?_)
  · obtain ⟨o, q, ps, rfl, _⟩ := h
    rfl
  · obtain ⟨o, q, ps, rfl, W0, hq, ko⟩ := h
    obtain ⟨dx, a, t, ts, h1, h2, h3, h4, h5, h6, h7⟩ := id W0
    refine ⟨_, (pss_cons (ps_if (pt_cmpR (op_eqD hr.units) (pe_fld (pv 0) rfl) (pe_lst pa_nil) (nomark _)) (pss_one (ps_raise rfl (takes_of rfl rfl rfl rfl) (pmk_err Z.e_NoDeed Z.g_NoDeed)))
        pss_nil)
      pss_dead), ?_⟩
    refine ⟨_, rfl, o, _, _, _, _, rfl, h1, Z.c_Shaped, Z.n_Shaped_past, rfl, (by show 0 ≤ sizeLine; decide), fun n hn => eq_same (xs := []) (SqL.of (same_new hn _ _ hq)) (SqL.of upd_same) rfl ⟨_, rfl, iteT ?_⟩⟩
    exact ko none _ (same_new hn) rfl
end
end Tw
namespace Tw
open PySem PySem.Spec PyProof.Rows L2
def Same2 (o q : Addr) (H H' : Hp) : Prop := ∀ b u, b ≠ o → b ≠ q → H b = some u → H' b = some u
section
variable {P : Program} {w : World} {K : PySem.W.Frag} {mg : Str → Option Value} {base : Heap}
def spShape (K : PySem.W.Frag) : Sp := fun vs H Q _ => ∃ (o q a2 : Addr) (ps ps2 : List (List Bool)) (past : List V), vs = [.ref o, .ref a2] ∧ WoodAt K H o q ps ∧ H q = some (.lst past) ∧ past.length ≤ 1000 ∧ H a2 = some (.lst (txs ps2)) ∧ a2 ≠ q ∧ ps2.length ≤ 9000 ∧ ps2.flatten.length ≤ 8000 ∧ Bal ps2.flatten ∧
  ∀ H', Same2 o q H H' → WoodAt K H' o q ps2 → (∃ u, H' q = some u) → Q .non H'
abbrev N_Shaped_shape : List Str := ["self", "parts", "part"]
theorem sc_Shaped_shape : FnScope N_Shaped_shape ["self", "parts"] (defScope s_Shaped_shape) := ⟨rfl, rfl, rfl, by decide +kernel, rfl, by decide +kernel, by decide +kernel⟩
theorem ok_Shaped_shape {f : Addr} {fd : FuncData} (F : D0 K "shape" "Shaped.shape" s_Shaped_shape f fd) (Z : Txt K mg) (c_sums_of : Cal P w K mg base 1 "sums_of" ["text"] spSums) : FnOk P w K mg base (L2.CX P w) 2 f fd ["self", "parts"] (spShape K) := by
  refine F.ok sc_Shaped_shape (fun vs H Q E h => ?_) (fun cdv A outer s H vs Q E hr h => ?_)
  · obtain ⟨o, q, a2, ps, ps2, past, rfl, _⟩ := h
    rfl
  · obtain ⟨o, q, a2, ps, ps2, past, rfl, ⟨dx, a, t0, ts0, h1, h2, h3, h4, h5⟩, hq, hpl, ha2, haq, z1, z2, z3, k⟩ := h
    refine ⟨_, (pss_cons (ps_expr (pe_bm PySem.F.plainAttrs_list PySem.F.slot_list_append PySem.F.type_list_append mt_append (pe_fld (pv 0) rfl) (pa_cons (pe_fld (pv 0) rfl) pa_nil)))
      (pss_cons (ps_fld (pv 0) (pv 1) rfl)
      (pss_one (ps_fld (pv 0) (pe_lc (own := [("part", 2)]) (g := gName 2) (tt := tYes) rfl sc_Shaped_shape.nd (pi_list (pv 1)) (blkOk_by (N := N_Shaped_shape) (sc := defScope s_Shaped_shape) (by decide +kernel)) (fun _ _ _ _ _ => pg_name (i := 2) sc_Shaped_shape.nd rfl (Or.inl rfl)) (fun _ _ _ _ _ => pts_nil) (fun _ _ _ _ _ => (pe_c c_sums_of hr takes0 (pa_cons (pv 2) pa_nil)))) rfl)))), ?_⟩
    have hoq : o ≠ q := fun z => by subst z; rw [h1] at hq; cases hq
    have hoa : o ≠ a2 := fun z => by subst z; rw [h1] at ha2; cases ha2
    refine ⟨_, rfl, o, _, _, _, _, rfl, h1, Z.c_Shaped, Z.n_Shaped_past, rfl, .inl ⟨rfl, _, SqL.of hq⟩, _, rfl, o, _, _, _, _, rfl, h1, Z.c_Shaped, Z.n_Shaped_parts, rfl, q, _, _, rfl, rfl, hq, sz2 (by omega), ?_⟩
    refine ⟨_, rfl, _, rfl, o, _, _, _, rfl, by rw [upd_ne hoq]; exact h1, Z.c_Shaped, Z.n_Shaped_parts, (by show 3 < 1000; decide), ?_⟩
    generalize hH4 : upd (upd H q (.lst (past ++ [.ref a]))) o (.ins (He.ga K "Shaped") dx (putF "parts" (.ref a2) [("parts", .ref a), ("totals", .ref t0), ("past", .ref q)])) = H4
    have q4 : H4 o = some (.ins (He.ga K "Shaped") dx [("parts", .ref a2), ("totals", .ref t0), ("past", .ref q)]) := by rw [← hH4, upd_same]; rfl
    have l4 : H4 a2 = some (.lst (txs ps2)) := by rw [← hH4, upd_ne (Ne.symm hoa), upd_ne haq]; exact ha2
    have p4 : H4 q = some (.lst (past ++ [.ref a])) := by rw [← hH4, upd_ne (Ne.symm hoq), upd_same]
    have x4 : Same2 o q H H4 := fun b u n1 n2 e => by rw [← hH4, upd_ne n1, upd_ne n2]; exact e
    refine ⟨_, rfl, a2, rfl, ⟨_, SqL.of l4⟩, fun D hD => lc_list (xs := txs ps2) (fun i H' => ∃ ts : List Addr, H' D = some (.lst (ts.map V.ref)) ∧ TotAt H' (ps2.take i) ts ∧ Same H4 H') ⟨[], upd_same, ⟨rfl, fun i p r h1 _ => by simp at h1⟩, same_new hD⟩
        (fun i H' _ ⟨_, _, _, t⟩ => SqL.of (t _ _ l4)) (fun i x H' hx ⟨ts, hlD, hT, t⟩ => ?_) (fun H' ⟨ts, hlD, hT, t⟩ => ?_)⟩
    · obtain ⟨p', hp', rfl⟩ : ∃ p', ps2[i]? = some p' ∧ x = .str (T p') := by
        rw [List.getElem?_map] at hx
        cases e : ps2[i]? with
        | none => rw [e] at hx; cases hx
        | some p' => rw [e] at hx; exact ⟨p', rfl, (Option.some.inj hx).symm⟩
      have hi := (List.getElem?_eq_some_iff.mp hp').1
      have hTl := hT.1
      rw [List.length_take] at hTl
      refine ⟨rfl, _, rfl, p', rfl, fun r m H5 hm s5 hr5 hr6 => ⟨_, s5 _ _ hlD, sz2 (by rw [List.length_map]; omega), ts ++ [r], by rw [upd_same, List.map_append]; rfl, ⟨by rw [List.length_append, List.length_take]; simp; omega, fun j p2 r2 h1 h2 => ?_⟩, sM (t.trans s5) hD⟩⟩
      have hrD : ∀ y xs, H5 y = some (.tup xs) → y ≠ D := fun y xs e z => by
        subst z
        rw [s5 _ _ hlD] at e
        cases e
      rw [List.getElem?_take] at h1
      split at h1
      · rename_i hj
        by_cases hji : j = i
        · subst hji
          rw [List.getElem?_append_right (by omega)] at h2
          rw [show j - ts.length = 0 by omega] at h2
          rw [hp'] at h1
          cases h1
          cases h2
          exact ⟨m, hm, by rw [upd_ne (hrD _ _ hr6)]; exact hr6⟩
        · rw [List.getElem?_append_left (by omega)] at h2
          obtain ⟨m2, e1, e2⟩ := hT.2 j p2 r2 (by rw [List.getElem?_take, if_pos (by omega)]; exact h1) h2
          exact ⟨m2, e1, by rw [upd_ne (hrD _ _ (s5 _ _ e2))]; exact s5 _ _ e2⟩
      · cases h1
    · rw [txs, List.length_map, List.take_length] at hT
      have q5 := t _ _ q4
      have hDo : D ≠ o := fun z => by subst z; rw [q4] at hD; cases hD
      refine ⟨_, rfl, o, _, _, _, rfl, q5, Z.c_Shaped, Z.n_Shaped_totals, (by show 3 < 1000; decide), ?_⟩
      refine k _ (fun b u n1 n2 e => ?_) ⟨dx, a2, D, ts, by rw [upd_same]; rfl, ?_, ?_, ?_, z1, z2, z3⟩ ⟨_, by rw [upd_ne (Ne.symm hoq)]; exact t _ _ p4⟩
      · rw [upd_ne n1]; exact t _ _ (x4 b u n1 n2 e)
      · rw [upd_ne (Ne.symm hoa)]; exact t _ _ l4
      · rw [upd_ne hDo]; exact hlD
      · refine hT.mono fun r xs e => ?_
        have hro : r ≠ o := fun z => by subst z; rw [q5] at e; cases e
        rw [upd_ne hro]
        exact e
end
end Tw
namespace Tw
open PySem PySem.Spec PyProof.Rows L2
def placeB (x : V) (c : Nat) : Bool := match x with
  | .int i => decide (0 ≤ i) && decide (i ≤ c)
  | _ => false
theorem KidsOf.le {ps : List (List Bool)} {k : V} {c : Nat} (h : KidsOf ps k c) : c ≤ ps.flatten.length := by
  rcases h with ⟨_, rfl⟩ | ⟨pre, rest, n, _, hfl, hcl, rfl⟩
  · exact tops_le _ 0
  · have := tops_le (rest.take n) 0
    have h2 := cl_lt hcl
    rw [List.length_take] at this
    rw [hfl, List.length_append, List.length_cons]
    omega
theorem KidsOf.knot {ps : List (List Bool)} {k : V} {c : Nat} (h : KidsOf ps k c) (hk : k ≠ .non) : knotB k (ones ps.flatten) = true ∧ ∃ i, k = .int i := by
  rcases h with ⟨rfl, _⟩ | ⟨pre, rest, n, rfl, hfl, hcl, _⟩
  · exact absurd rfl hk
  · refine ⟨?_, _, rfl⟩
    simp only [knotB, hfl, ones_app]
    simp [ones]
    omega
section
variable {P : Program} {w : World} {K : PySem.W.Frag} {mg : Str → Option Value} {base : Heap}
def GraftEnd (K : PySem.W.Frag) (o q : Addr) (ps : List (List Bool)) (k el : V) (c : Nat) (H : Hp) (Q : VK) (E : XK) : Prop :=
  (∃ t, (∀ H', Same H H' → TyX K H' el t) ∧ PySem.W.kitOne K t (.type "list") = some false ∧ Out K H E (.wood 0)) ∨
  ∃ a xs, el = .ref a ∧ H a = some (.lst xs) ∧ (∀ y ∈ xs, Thing H y) ∧ xs.length ≤ 5000 ∧ (∀ z : Nat, lookI [] 0 (xs.map toI) = some z → Out K H E (.wood z)) ∧
    (∀ es : List Int, xs = es.map V.int → lookI [] 0 (es.map some) = none → es.length ≤ 4000 → (4000 < ones ps.flatten + es.length ∧ Out K H E .large) ∨
      (ones ps.flatten + es.length ≤ 4000 ∧ c = 0 ∧ H q = some (.lst []) ∧ ps.length ≤ 100 ∧ ∃ (pre rest : List Bool) (n : Nat), k = .int (ones pre : Nat) ∧ ps.flatten = pre ++ true :: rest ∧ cl 1 rest = some n ∧ ∀ H', Same2 o q H H' → WoodAt K H' o q (putFor ps (pre.length + 1 + n) (pre.length + 1 + n) (row es)) → (∃ u, H' q = some u) → Q .non H'))
def spGraft (K : PySem.W.Frag) : Sp := fun vs H Q E => ∃ (o q : Addr) (ps : List (List Bool)) (k pl el : V), vs = [.ref o, k, pl, el] ∧ WoodAt K H o q ps ∧
  ((k ≠ .non ∧ Thing H k ∧ knotB k (ones ps.flatten) = false ∧ Out K H E .knot) ∨
   ∃ c, KidsOf ps k c ∧ Thing H pl ∧ ((placeB pl c = false ∧ Out K H E .graft) ∨ (placeB pl c = true ∧ GraftEnd K o q ps k el c H Q E)))
abbrev N_Shaped_graft : List Str := ["self", "k", "place", "elders", "children", "text", "at"]
theorem sc_Shaped_graft : FnScope N_Shaped_graft ["self", "k", "place", "elders"] (defScope s_Shaped_graft) := ⟨rfl, rfl, rfl, by decide +kernel, rfl, by decide +kernel, by decide +kernel⟩
theorem ok_Shaped_graft {f : Addr} {fd : FuncData} (F : D0 K "graft" "Shaped.graft" s_Shaped_graft f fd) (Z : Txt K mg) (m_Shaped_look_at_knot : Mtd P w K mg base 2 (He.ga K "Shaped") "look_at_knot" ["self", "k"] (spLookK K)) (m_Shaped_children : Mtd P w K mg base 3 (He.ga K "Shaped") "children" ["self", "k"] (spKids K))
    (c_is_number : Cal P w K mg base 1 "is_number" ["thing"] spNum) (c_row_of : Cal P w K mg base 1 "row_of" ["elders"] spRow) (c_look_at : Cal P w K mg base 3 "look_at" ["elders"] (spLook K)) (m_Shaped_many_knots : Mtd P w K mg base 1 (He.ga K "Shaped") "many_knots" ["self"] (spMany K))
    (m_Shaped_ends_of : Mtd P w K mg base 2 (He.ga K "Shaped") "ends_of" ["self", "k"] (spEnds K)) (m_Shaped_shape : Mtd P w K mg base 2 (He.ga K "Shaped") "shape" ["self", "parts"] (spShape K)) (c_put_for : Cal P w K mg base 2 "put_for" ["pieces", "low", "high", "text"] spPut) :
    FnOk P w K mg base (L2.CX P w) 4 f fd ["self", "k", "place", "elders"] (spGraft K) := by
  refine F.ok sc_Shaped_graft (fun vs H Q E h => ?_) (fun cdv A outer s H vs Q E hr h => ?_)
  · obtain ⟨o, q, ps, k, pl, el, rfl, _⟩ := h
    rfl
  · obtain ⟨o, q, ps, k, pl, el, rfl, W0, hc⟩ := h
    obtain ⟨dx, a, t, ts, h1, h2, h3, h4, h5, h6, h7⟩ := id W0
    refine ⟨_, (C8.pss_cut (ps_if (pt_cmpR op_notN (pv 1) pe_non (nomark _)) (pss_one (ps_expr (pe_m m_Shaped_look_at_knot Z.c_Shaped hr (takes_of rfl rfl rfl rfl) (pv 0) (pa_cons (pv 1) pa_nil))))
        pss_nil)
      (pss_cons (ps_set (i := 4) sc_Shaped_graft.nd rfl (Or.inl rfl) (pe_m m_Shaped_children Z.c_Shaped hr (takes_of rfl rfl rfl rfl) (pv 0) (pa_cons (pv 1) pa_nil)))
      (pss_cons (ps_if (PW.pt (pw_or (pt_not (pt_val (pe_c c_is_number hr (takes_of rfl rfl rfl rfl) (pa_cons (pv 2) pa_nil)))) (pw_or1 (pt_cmpR op_gt (pv 2) (pe_callB call_len (by rfl) Z.f_len PySem.boot_len (pa_cons (pv 4) pa_nil)) (nomark _))))) (pss_one (ps_raise rfl (takes_of rfl rfl rfl rfl) (pmk_err Z.e_NoGraft Z.g_NoGraft)))
        pss_nil)
      (pss_cons (ps_set (i := 5) sc_Shaped_graft.nd rfl (Or.inl rfl) (pe_c c_row_of hr (takes_of rfl rfl rfl rfl) (pa_cons (pe_c c_look_at hr (takes_of rfl rfl rfl rfl) (pa_cons (pv 3) pa_nil)) pa_nil)))
      (pss_cons (ps_if (pt_cmpR op_gt (pe_op op_add (pe_m0 m_Shaped_many_knots Z.c_Shaped hr (takes_of rfl rfl rfl rfl) (pv 0)) (pe_op op_fdiv (pe_callB call_len (by rfl) Z.f_len PySem.boot_len (pa_cons (pv 5) pa_nil)) pe_int)) (pe_gc rfl Z.i_MOST_KNOTS) (nomark _)) (pss_one (ps_raise rfl (takes_of rfl rfl rfl rfl) (pmk_err Z.e_TooLarge Z.g_TooLarge)))
        pss_nil)
      (pss_cons (ps_if (pt_cmpR op_lt (pv 2) (pe_callB call_len (by rfl) Z.f_len PySem.boot_len (pa_cons (pv 4) pa_nil)) (nomark _)) (pss_one (ps_set (i := 6) sc_Shaped_graft.nd rfl (Or.inl rfl) (pe_ix ix_tup (pe_m m_Shaped_ends_of Z.c_Shaped hr (takes_of rfl rfl rfl rfl) (pv 0) (pa_cons (pe_ix ix_list (pv 4) (pv 2) (fun _ _ => rfl)) pa_nil)) pe_int (fun _ _ => rfl))))
        (pss_one (ps_if (pt_cmpR op_isN (pv 1) pe_non (nomark _)) (pss_one (ps_set (i := 6) sc_Shaped_graft.nd rfl (Or.inl rfl) (pe_op op_mul pe_int (pe_m0 m_Shaped_many_knots Z.c_Shaped hr (takes_of rfl rfl rfl rfl) (pv 0)))))
          (pss_one (ps_set (i := 6) sc_Shaped_graft.nd rfl (Or.inl rfl) (pe_ix ix_tup (pe_m m_Shaped_ends_of Z.c_Shaped hr (takes_of rfl rfl rfl rfl) (pv 0) (pa_cons (pv 1) pa_nil)) pe_int (fun _ _ => rfl)))))))
      (pss_one (ps_expr (pe_m m_Shaped_shape Z.c_Shaped hr (takes_of rfl rfl rfl rfl) (pv 0) (pa_cons (pe_c c_put_for hr (takes_of rfl rfl rfl rfl) (pa_cons (pe_fld (pv 0) rfl) (pa_cons (pv 6) (pa_cons (pv 6) (pa_cons (pv 5) pa_nil))))) pa_nil)))))))))), ?_⟩
    rcases hc with ⟨hkn, hk, hb, ko⟩ | ⟨c, hkids, hpl, hc⟩
    · refine ⟨fun _ _ => False, ⟨_, rfl, rfl, _, rfl, ite_n rfl (fun _ => ?_) (fun z => absurd z hkn)⟩, fun _ _ z => z.elim⟩
      exact ⟨_, rfl, o, _, _, rfl, h1, rfl, _, rfl, o, q, ps, k, rfl, W0, hk, (fun e => by rw [hb] at e; cases e), fun _ => ko⟩
    · refine ⟨fun σ H' => σ = [some (.ref o), some k, some pl, some el, none, none, none] ∧ Same H H', ?_, ?_⟩
      · refine ⟨_, rfl, rfl, _, rfl, ite_n rfl (fun hkn => ?_) (fun _ => ⟨rfl, Same.refl H⟩)⟩
        obtain ⟨hb, i, rfl⟩ := hkids.knot hkn
        exact ⟨_, rfl, o, _, _, rfl, h1, rfl, _, rfl, o, q, ps, _, rfl, W0, .inl ⟨i, rfl⟩, (fun _ H' s' => ⟨rfl, s'⟩), fun e => by rw [hb] at e; cases e⟩
      · rintro σ H1 ⟨rfl, s1⟩
        refine ⟨_, rfl, o, _, _, rfl, s1 _ _ h1, rfl, _, rfl, o, q, ps, k, c, rfl, W0.mono s1, hkids, fun ch H2 ns s2 hch0 hch hns => ?_⟩
        have s12 := s1.trans s2
        have hcl := hkids.le
        have hlenC : LenV K (.ref ch) H2 c := .inl ⟨_, SqL.of hch, by rw [List.length_map, hns]⟩
        rcases hc with ⟨hpb, ko⟩ | ⟨hpb, he⟩
        · refine ⟨_, rfl, pl, rfl, hpl.mono s12, _, rfl, ?_⟩
          have out := ko none H2 s12 rfl
          rcases hpl with ⟨i, rfl⟩ | hpl
          · refine ite_n rfl (fun hn => iteT out) (fun hn => ?_)
            refine ⟨_, rfl, _, rfl, _, _, rfl, hlenC, _, _, rfl, rfl, _, rfl, ite_d rfl (fun hm => out) (fun hm => ?_)⟩
            simp only [placeB] at hpb
            rw [decide_eq_true hn, decide_eq_true (show i ≤ (c : Nat) by omega)] at hpb
            cases hpb
          · rw [numB_odd hpl]
            exact iteT (iteT out)
        · obtain ⟨i, rfl, hi0, hic⟩ : ∃ i, pl = .int i ∧ 0 ≤ i ∧ i ≤ c := by
            cases pl <;> simp [placeB] at hpb
            exact ⟨_, rfl, hpb.1, hpb.2⟩
          refine ⟨_, rfl, _, rfl, .inl ⟨i, rfl⟩, _, rfl, ite_n rfl (fun hn => absurd hi0 hn) (fun _ => ?_)⟩
          refine ⟨_, rfl, _, rfl, _, _, rfl, hlenC, _, _, rfl, rfl, _, rfl, ite_d rfl (fun hm => by omega) (fun _ => ?_)⟩
          rcases he with ⟨ty0, ty, k0, ko⟩ | ⟨e, xs, rfl, hx, hth, hz, ko, hes⟩
          · exact ⟨_, rfl, el, rfl, .inl ⟨ty0, ty _ s12, k0, ko.mono s12⟩⟩
          · refine ⟨_, rfl, _, rfl, .inr ⟨e, xs, rfl, s12 _ _ hx, fun y hy => (hth y hy).mono s12, hz, fun z hz2 => (ko z hz2).mono s12, fun hn p H3 s3 hp hlp => ?_⟩⟩
            obtain ⟨es, hes2⟩ := lookI_ints _ _ _ hn
            have hxs := toI_ints hes2
            rw [hes2] at hn
            have hlen := lookI_len es [] 0 (by omega) hn
            have rl : (row es).length = 2 * es.length := by have := row_length es [] 0; simpa [row] using this
            refine ⟨p, es, rfl, by rw [hlp, hxs], by omega, fun H4 s4 => ?_⟩
            have s14 := (s12.trans s3).trans s4
            refine ⟨_, rfl, o, _, _, rfl, s14 _ _ h1, rfl, o, q, ps, rfl, W0.mono s14, fun H5 s5 => ?_⟩
            have s15 := s14.trans s5
            refine ⟨_, rfl, _, _, rfl, ⟨sz1 (by rw [T_length]; omega), rfl⟩, _, _, rfl, rfl, ⟨by decide, by decide⟩, _, _, rfl, rfl, _, _, rfl, rfl, _, rfl, ?_⟩
            have e2 : (((T (row es)).length : Nat) : Int) / 2 = (es.length : Nat) := by rw [T_length, rl]; omega
            rw [e2]
            rcases hes es hxs hn (by omega) with ⟨hbig, ko2⟩ | ⟨hsm, rfl, hq, hpl2, pre, rest, n, rfl, hfl, hcl2, k⟩
            · exact ite_d rfl (fun _ => ko2 none H5 s15 rfl) (fun z => absurd (by omega) z)
            · refine ite_d rfl (fun z => by omega) (fun _ => ?_)
              have hlenC5 : LenV K (.ref ch) H5 0 := .inl ⟨_, SqL.of ((s3.trans s4).trans s5 _ _ hch), by rw [List.length_map, hns]⟩
              refine ⟨_, rfl, _, rfl, _, _, rfl, hlenC5, _, _, rfl, rfl, _, rfl, ite_d rfl (fun z => by omega) (fun _ => ?_)⟩
              refine ⟨_, rfl, rfl, _, rfl, iteF ?_⟩
              refine ⟨_, rfl, o, _, _, rfl, s15 _ _ h1, rfl, _, rfl, o, q, ps, pre, rest, n, rfl, W0.mono s15, hfl, hcl2, fun r H6 s6 hr0 hr1 => ?_⟩
              have s16 := s15.trans s6
              refine ⟨r, _, _, _, rfl, rfl, SqT.of hr1, rfl, ?_⟩
              have hn2 := cl_lt hcl2
              have hpos : pre.length + 1 + n ≤ ps.flatten.length := by rw [hfl, List.length_append, List.length_cons]; omega
              refine ⟨_, rfl, o, _, _, rfl, s16 _ _ h1, rfl, _, rfl, o, _, _, _, _, rfl, s16 _ _ h1, Z.c_Shaped, Z.n_Shaped_parts, rfl, _, rfl, _, rfl, _, rfl, a, ps, pre.length + 1 + n, pre.length + 1 + n, row es, rfl, s16 _ _ h2, Nat.le_refl _, by omega, by omega, by omega, fun p7 H7 s7 hp7 hl7 => ?_⟩
              have s17 := s16.trans s7
              have fp := flat_putFor ps (pre.length + 1 + n) (pre.length + 1 + n) (row es) (Nat.le_refl _) hpos
              have hbl := bal_length h7
              have hpq : p7 ≠ q := fun z => by subst z; rw [s16 _ _ hq] at hp7; cases hp7
              refine ⟨o, q, p7, ps, _, [], rfl, W0.mono s17, s17 _ _ hq, by decide, hl7, hpq, ?_, ?_, ?_, fun H8 s8 W8 p8 => k H8 (fun b u n1 n2 e => s8 b u n1 n2 (s17 _ _ e)) W8 p8⟩
              · unfold putFor
                dsimp only
                generalize ps.drop (adv ps (pre.length + 1 + n)) = dd
                have hpart := part_le ps (adv ps (pre.length + 1 + n) - 2) (adv ps (pre.length + 1 + n) + beh dd (pre.length + 1 + n - len ps (adv ps (pre.length + 1 + n))) + 2 - (adv ps (pre.length + 1 + n) - 2))
                generalize ((ps.drop (adv ps (pre.length + 1 + n) - 2)).take (adv ps (pre.length + 1 + n) + beh dd (pre.length + 1 + n - len ps (adv ps (pre.length + 1 + n))) + 2 - (adv ps (pre.length + 1 + n) - 2))).flatten = amid at hpart ⊢
                have hce := cutEv_length (amid.take (pre.length + 1 + n - len ps (adv ps (pre.length + 1 + n) - 2)) ++ row es ++ amid.drop (pre.length + 1 + n - len ps (adv ps (pre.length + 1 + n) - 2)))
                rw [List.length_append, List.length_append, List.length_take, List.length_drop, rl] at hce
                rw [List.length_append, List.length_append, List.length_take, List.length_drop]
                omega
              · rw [fp, List.length_append, List.length_append, List.length_take, List.length_drop, rl]
                omega
              · rw [fp]
                refine bal_insert ?_ (row_bal es)
                rw [List.take_append_drop]
                exact h7
end
end Tw
namespace Tw
open PySem PySem.Spec PyProof.Rows L2
theorem SqL.mono {K : PySem.W.Frag} {H H' : Hp} {a : Addr} {xs : List V} (s : Same H H') (h : SqL K H a xs) : SqL K H' a xs := by
  rcases h with (h | ⟨o, h⟩) | h
  · exact .inl (.inl (s _ _ h))
  · exact .inl (.inr ⟨o, s _ _ h⟩)
  · exact .inr h
theorem SqL.len {P : Program} {w : World} {K : PySem.W.Frag} {H : Hp} {a : Addr} {xs : List V} (h : SqL K H a xs) : LenV K (.ref a) H xs.length := .inl ⟨xs, h, rfl⟩
def wholeB (x : V) : Bool := match x with
  | .int _ => true
  | _ => false
theorem wholeB_odd {H : Hp} {x : V} (h : Odd H x) : wholeB x = false := by cases h <;> rfl
section
variable {P : Program} {w : World} {K : PySem.W.Frag} {mg : Str → Option Value} {base : Heap}
def cellAt (ns : List Int) (k : Nat) : Int := (ns[k]?).getD 0
def spCell (K : PySem.W.Frag) : Sp := fun vs H Q _ => ∃ (a : Addr) (ns : List Int) (k : Nat), vs = [.ref a, .int (k : Nat)] ∧ SqL K H a (ns.map V.int) ∧ Q (.int (cellAt ns k)) H
abbrev N_law_cell_at : List Str := ["_law_script", "_law_k"]
theorem sc_law_cell_at : FnScope N_law_cell_at ["_law_script", "_law_k"] (defScope s_law_cell_at) := ⟨rfl, rfl, rfl, by decide +kernel, rfl, by decide +kernel, by decide +kernel⟩
theorem ok_law_cell_at {f : Addr} {fd : FuncData} (F : D0 K "_law_cell_at" "_law_cell_at" s_law_cell_at f fd) (Z : Txt K mg) : FnOk P w K mg base (L2.CX P w) 1 f fd ["_law_script", "_law_k"] (spCell K) := by
  refine F.ok sc_law_cell_at (fun vs H Q E h => ?_) (fun cdv A outer s H vs Q E hr h => ?_)
  · obtain ⟨a, ns, k, rfl, _⟩ := h
    rfl
  · obtain ⟨a, ns, j, rfl, hl, k⟩ := h
    refine ⟨_, (pss_cons (ps_if (pt_cmpR op_lt (pv 1) (pe_callB call_len (by rfl) Z.f_len PySem.boot_len (pa_cons (pv 0) pa_nil)) (nomark _)) (pss_one (ps_ret (pe_ix ix_list (pv 0) (pv 1) (fun _ _ => rfl))))
        pss_nil)
      (pss_one (ps_ret pe_int))), ?_⟩
    refine ⟨_, rfl, _, rfl, _, _, rfl, .inl ⟨_, hl, rfl⟩, _, _, rfl, rfl, _, rfl, ite_d rfl (fun h1 => ?_) (fun h1 => ?_)⟩
    · rw [List.length_map] at h1
      have hj : j < ns.length := by omega
      have e : ns[j]? = some ns[j] := List.getElem?_eq_getElem hj
      refine ⟨_, rfl, _, rfl, a, _, _, _, rfl, rfl, hl, atI_n (by rw [List.getElem?_map, e]; rfl), ?_⟩
      unfold cellAt at k
      rw [e] at k
      exact k
    · rw [List.length_map] at h1
      unfold cellAt at k
      rw [List.getElem?_eq_none (by omega)] at k
      exact k
def spWhole : Sp := fun vs H Q _ => ∃ x, vs = [x] ∧ (Thing H x ∨ x = .non) ∧ Q (.bl (wholeB x)) H
abbrev N_law_whole : List Str := ["_law_found"]
theorem sc_law_whole : FnScope N_law_whole ["_law_found"] (defScope s_law_whole) := ⟨rfl, rfl, rfl, by decide +kernel, rfl, by decide +kernel, by decide +kernel⟩
theorem ok_law_whole {f : Addr} {fd : FuncData} (F : D0 K "_law_whole" "_law_whole" s_law_whole f fd) (Z : Txt K mg) : FnOk P w K mg base (L2.CX P w) 1 f fd ["_law_found"] spWhole := by
  refine F.ok sc_law_whole (fun vs H Q E h => ?_) (fun cdv A outer s H vs Q E hr h => ?_)
  · obtain ⟨x, rfl, _⟩ := h
    rfl
  · obtain ⟨x, rfl, hx, k⟩ := h
    refine ⟨_, (pss_one (ps_ret (pe_and (pe_callB call_isi (by rfl) Z.f_isinstance (by decide +kernel) (pa_cons (pv 0) (pa_cons (pe_bltn (v := .ty "int") (u := .type "int") (by rfl) Z.f_int (by decide +kernel) rfl) pa_nil))) (pe_one (pe_not (pe_callB call_isi (by rfl) Z.f_isinstance (by decide +kernel) (pa_cons (pv 0) (pa_cons (pe_bltn (v := .ty "bool") (u := .type "bool") (by rfl) Z.f_bool (by decide +kernel) rfl) pa_nil)))))))), ?_⟩
    have hx' : Thing H x := hx.elim id (fun z => by subst z; exact .inr .non)
    rcases hx' with ⟨i, rfl⟩ | ho
    · refine ⟨_, rfl, _, _, _, _, _, rfl, .ty _, .base (.int i), int_int, _, rfl, iteT ?_⟩
      exact ⟨_, rfl, _, _, _, _, _, rfl, .ty _, .base (.int i), int_bool, _, rfl, k⟩
    · obtain ⟨t, b, ty, k1, k2⟩ := ho.ask (K := K)
      rw [wholeB_odd ho] at k
      refine ⟨_, rfl, _, _, _, _, _, rfl, .ty _, ty, k1, _, rfl, ite_b rfl (fun hb => ?_) (fun hb => ?_)⟩
      · subst hb
        exact ⟨_, rfl, _, _, _, _, _, rfl, .ty _, ty, k2, _, rfl, k⟩
      · exact k
def spMixed : Sp := fun vs H Q _ => ∃ (c : Int) (k : Nat), vs = [.int c, .int (k : Nat)] ∧ k ≤ 100 ∧ ∀ m : Nat, Q (.int (m : Nat)) H
abbrev N_law_mixed : List Str := ["_law_cell", "_law_k", "_law_once"]
theorem sc_law_mixed : FnScope N_law_mixed ["_law_cell", "_law_k"] (defScope s_law_mixed) := ⟨rfl, rfl, rfl, by decide +kernel, rfl, by decide +kernel, by decide +kernel⟩
theorem ok_law_mixed {f : Addr} {fd : FuncData} (F : D0 K "_law_mixed" "_law_mixed" s_law_mixed f fd) (Z : Txt K mg) : FnOk P w K mg base (L2.CX P w) 1 f fd ["_law_cell", "_law_k"] spMixed := by
  refine F.ok sc_law_mixed (fun vs H Q E h => ?_) (fun cdv A outer s H vs Q E hr h => ?_)
  · obtain ⟨c, k, rfl, _⟩ := h
    rfl
  · obtain ⟨c, j, rfl, hj, k⟩ := h
    refine ⟨_, (pss_cons (ps_set (i := 2) sc_law_mixed.nd rfl (Or.inl rfl) (pe_op op_mod (pe_op op_mul (pe_op op_add (pe_op op_mod (pv 0) pe_int) pe_int) (pe_op op_add pe_int (pe_op op_mul (pe_op op_mul pe_int (pv 1)) (pv 1)))) pe_int))
      (pss_one (ps_ret (pe_op op_mod (pe_op op_mul (pe_op op_add (pv 2) (pe_op op_mul pe_int (pv 1))) (pe_op op_add pe_int (pe_op op_mul pe_int (pv 1)))) pe_int)))), ?_⟩
    have b1 : 0 ≤ c % 2147483647 ∧ c % 2147483647 < 2147483647 := ⟨by omega, by omega⟩
    refine ⟨_, rfl, _, _, rfl, rfl, (by show (0 : Int) < _; decide), _, _, rfl, rfl, _, rfl, _, _, rfl, rfl, .inl ⟨by decide, by decide⟩, _, rfl, _, _, rfl, rfl, .inr ⟨by omega, by omega⟩, _, _, rfl, rfl, _, _, rfl, rfl, .inl ⟨by omega, by omega⟩, _, _, rfl, rfl, (by show (0 : Int) < _; decide), ?_⟩
    dsimp only
    generalize ho : ((c % 2147483647 + 19) * (48271 + 2 * ((j : Nat) : Int) * ((j : Nat) : Int)) % 2147483629) = once
    have b2 : 0 ≤ once ∧ once < 2147483629 := ⟨by omega, by omega⟩
    refine ⟨_, rfl, _, rfl, _, _, rfl, rfl, .inl ⟨by decide, by decide⟩, _, _, rfl, rfl, _, rfl, _, _, rfl, rfl, .inl ⟨by decide, by decide⟩, _, _, rfl, rfl, _, _, rfl, rfl, .inl ⟨by omega, by omega⟩, _, _, rfl, rfl, (by show (0 : Int) < _; decide), ?_⟩
    dsimp only
    generalize hr2 : ((once + 7 * ((j : Nat) : Int)) * (69621 + 2 * ((j : Nat) : Int)) % 2147483587) = r
    have b3 : 0 ≤ r := by omega
    have := k r.toNat
    rw [Int.toNat_of_nonneg b3] at this
    exact this
def spDigits (K : PySem.W.Frag) : Sp := fun vs H Q _ => ∃ (a : Addr) (ns : List Int) (at_ many : Nat), vs = [.ref a, .int (at_ : Nat), .int (many : Nat)] ∧ SqL K H a (ns.map V.int) ∧ many ≤ 40 ∧ ∀ (p : Addr) (H' : Hp) (ds : List Nat), Same H H' → H p = none → H' p = some (.lst (natsV ds)) → ds.length = many → Q (.ref p) H'
abbrev N_law_digits : List Str := ["_law_script", "_law_at", "_law_many", "_law_left", "_law_found", "_law_k"]
theorem sc_law_digits : FnScope N_law_digits ["_law_script", "_law_at", "_law_many"] (defScope s_law_digits) := ⟨rfl, rfl, rfl, by decide +kernel, rfl, by decide +kernel, by decide +kernel⟩
theorem ok_law_digits {f : Addr} {fd : FuncData} (F : D0 K "_law_digits" "_law_digits" s_law_digits f fd) (Z : Txt K mg) (c_law_cell_at : Cal P w K mg base 1 "_law_cell_at" ["_law_script", "_law_k"] (spCell K)) (c_law_mixed : Cal P w K mg base 1 "_law_mixed" ["_law_cell", "_law_k"] spMixed) :
    FnOk P w K mg base (L2.CX P w) 2 f fd ["_law_script", "_law_at", "_law_many"] (spDigits K) := by
  refine F.ok sc_law_digits (fun vs H Q E h => ?_) (fun cdv A outer s H vs Q E hr h => ?_)
  · obtain ⟨a, ns, i, j, rfl, _⟩ := h
    rfl
  · obtain ⟨a, ns, i, j, rfl, hl, hj, k⟩ := h
    refine ⟨_, (pss_cons (ps_set (i := 3) sc_law_digits.nd rfl (Or.inl rfl) (pe_op op_mul (pe_callB call_abs (by rfl) Z.f_abs (by decide +kernel) (pa_cons (pe_c c_law_cell_at hr (takes_of rfl rfl rfl rfl) (pa_cons (pv 0) (pa_cons (pe_op op_add (pv 1) pe_int) pa_nil))) pa_nil)) (pe_op op_sub pe_int (pe_op op_mod (pe_c c_law_cell_at hr (takes_of rfl rfl rfl rfl) (pa_cons (pv 0) (pa_cons (pv 1) pa_nil))) pe_int))))
      (pss_cons (ps_set (i := 4) sc_law_digits.nd rfl (Or.inl rfl) (pe_lst pa_nil))
      (pss_cons (ps_for (passes_of rfl) rfl (pi_range1 (by rfl) Z.f_range (pa_cons (pv 2) pa_nil)) (pg_name (i := 5) sc_law_digits.nd rfl (Or.inl rfl))
        (pss_one (ps_if (pt_cmpR op_gt (pv 3) pe_int (nomark _)) (pss_cons (ps_expr (pe_bm PySem.F.plainAttrs_list PySem.F.slot_list_append PySem.F.type_list_append mt_append (pv 4) (pa_cons (pe_op op_mod (pv 3) pe_int) pa_nil)))
          (pss_one (ps_set (i := 3) sc_law_digits.nd rfl (Or.inl rfl) (pe_op op_fdiv (pv 3) pe_int))))
          (pss_one (ps_expr (pe_bm PySem.F.plainAttrs_list PySem.F.slot_list_append PySem.F.type_list_append mt_append (pv 4) (pa_cons (pe_op op_mod (pe_c c_law_mixed hr (takes_of rfl rfl rfl rfl) (pa_cons (pe_c c_law_cell_at hr (takes_of rfl rfl rfl rfl) (pa_cons (pv 0) (pa_cons (pe_op op_add (pe_op op_add (pv 1) pe_int) (pe_op op_mod (pv 5) pe_int)) pa_nil))) (pa_cons (pv 5) pa_nil))) pe_int) pa_nil)))))))
      (pss_one (ps_ret (pv 4)))))), ?_⟩
    refine ⟨_, rfl, _, rfl, _, _, rfl, rfl, a, ns, i + 1, rfl, hl, _, rfl, ?_⟩
    have b1 : 0 ≤ cellAt ns i % 2 ∧ cellAt ns i % 2 < 2 := ⟨by omega, by omega⟩
    refine ⟨_, rfl, _, rfl, a, ns, i, rfl, hl, _, _, rfl, rfl, (by show (0 : Int) < _; decide), _, _, rfl, rfl, _, _, rfl, rfl, .inr ⟨by omega, by omega⟩, ?_⟩
    refine ⟨(by show 0 ≤ sizeLine; decide), fun p hp => ?_⟩
    refine ⟨_, rfl, _, rfl, by omega, by omega, for_range (fun u σ H' => ∃ (left : Int) (v5 : Option V) (ds : List Nat), σ = [some (.ref a), some (.int (i : Nat)), some (.int (j : Nat)), some (.int left), some (.ref p), v5] ∧ ds.length = u ∧ H' p = some (.lst (natsV ds)) ∧ Same H H') ⟨_, none, [], rfl, rfl, upd_same, same_new hp⟩ ?_ ?_⟩
    · rintro u σ H1 hu ⟨left, v5, ds, rfl, hd, hlp, s1⟩
      rw [Int.toNat_natCast] at hu
      refine ⟨_, rfl, _, _, rfl, rfl, _, rfl, ite_d rfl (fun h1 => ?_) (fun h1 => ?_)⟩
      · refine ⟨_, rfl, .inl ⟨rfl, _, SqL.of hlp⟩, _, rfl, _, _, rfl, rfl, (by show (0 : Int) < _; decide), p, _, _, rfl, rfl, hlp, sz2 (by rw [natsV, List.length_map]; omega), ?_⟩
        refine ⟨_, rfl, _, _, rfl, rfl, ⟨by decide, by decide⟩, _, _, ds ++ [(left % 64).toNat], rfl, by simp [hd], ?_, sM s1 hp⟩
        rw [upd_same, natsV, natsV, List.map_append]
        simp
        omega
      · refine ⟨_, rfl, .inl ⟨rfl, _, SqL.of hlp⟩, _, rfl, _, rfl, _, _, rfl, rfl, _, rfl, _, _, rfl, rfl, (by show (0 : Int) < _; decide), _, _, rfl, rfl, a, ns, i + 1 + u % 9, (by dsimp only; rw [show ((i : Int) + 1 + (0 + (u : Int)) % 9) = ((i + 1 + u % 9 : Nat) : Int) by omega]), SqL.mono s1 hl, _, rfl, cellAt ns (i + 1 + u % 9), u, (by rw [Int.zero_add]), by omega, fun m => ⟨_, _, rfl, rfl, (by show (0 : Int) < _; decide), p, _, _, rfl, rfl, hlp, sz2 (by rw [natsV, List.length_map]; omega), ?_⟩⟩
        · refine ⟨_, _, ds ++ [m % 64], rfl, by simp [hd], ?_, sM s1 hp⟩
          rw [upd_same, natsV, natsV, List.map_append]
          simp
    · rintro σ H1 ⟨left, v5, ds, rfl, hd, hlp, s1⟩
      exact ⟨_, rfl, k p H1 ds s1 hp hlp (by rw [hd]; omega)⟩
def spLWood : Sp := fun vs H Q _ => ∃ (a : Addr) (ds : List Nat), vs = [.ref a] ∧ H a = some (.lst (natsV ds)) ∧ ds.length ≤ 1000 ∧ ∀ (p : Addr) (H' : Hp), Same H H' → H p = none → H' p = some (.lst ((lawW [] 0 ds).map V.int)) → Q (.ref p) H'
abbrev N_law_wood : List Str := ["_law_digits_here", "_law_elders", "_law_path", "_law_k"]
theorem sc_law_wood : FnScope N_law_wood ["_law_digits_here"] (defScope s_law_wood) := ⟨rfl, rfl, rfl, by decide +kernel, rfl, by decide +kernel, by decide +kernel⟩
theorem ok_law_wood {f : Addr} {fd : FuncData} (F : D0 K "_law_wood" "_law_wood" s_law_wood f fd) (Z : Txt K mg) : FnOk P w K mg base (L2.CX P w) 1 f fd ["_law_digits_here"] spLWood := by
  refine F.ok sc_law_wood (fun vs H Q E h => ?_) (fun cdv A outer s H vs Q E hr h => ?_)
  · obtain ⟨a, ds, rfl, _⟩ := h
    rfl
  · obtain ⟨a, ds, rfl, ha, hz, k⟩ := h
    refine ⟨_, (pss_cons (ps_set (i := 1) sc_law_wood.nd rfl (Or.inl rfl) (pe_lst pa_nil))
      (pss_cons (ps_set (i := 2) sc_law_wood.nd rfl (Or.inl rfl) (pe_lst pa_nil))
      (pss_cons (ps_for (passes_of rfl) rfl (pi_range1 (by rfl) Z.f_range (pa_cons (pe_callB call_len (by rfl) Z.f_len PySem.boot_len (pa_cons (pv 0) pa_nil)) pa_nil)) (pg_name (i := 3) sc_law_wood.nd rfl (Or.inl rfl))
        (pss_cons (ps_set (i := 2) sc_law_wood.nd rfl (Or.inl rfl) (pe_slice sl_list (pv 2) po_none (po_some (pe_op op_sub (pe_callB call_len (by rfl) Z.f_len PySem.boot_len (pa_cons (pv 2) pa_nil)) (pe_op op_mod (pe_ix ix_list (pv 0) (pv 3) (fun _ _ => rfl)) (pe_op op_add (pe_callB call_len (by rfl) Z.f_len PySem.boot_len (pa_cons (pv 2) pa_nil)) pe_int))))))
        (pss_cons (ps_expr (pe_bm PySem.F.plainAttrs_list PySem.F.slot_list_append PySem.F.type_list_append mt_append (pv 1) (pa_cons (pe_ix ix_list (pe_op op_cat (pe_lst (pa_cons (pe_un un_neg pe_int) pa_nil)) (pv 2)) (pe_un un_neg pe_int) (fun _ _ => rfl)) pa_nil)))
        (pss_one (ps_set (i := 2) sc_law_wood.nd rfl (Or.inl rfl) (pe_op op_cat (pv 2) (pe_lst (pa_cons (pv 3) pa_nil))))))))
      (pss_one (ps_ret (pv 1)))))), ?_⟩
    have hln : ∀ {H' : Hp}, Same H H' → LenV K (.ref a) H' ds.length := fun {H'} s => .inl ⟨_, SqL.of (s _ _ ha), by rw [natsV, List.length_map]⟩
    refine ⟨(by show 0 ≤ sizeLine; decide), fun p hp => ⟨(by show 0 ≤ sizeLine; decide), fun q0 hq0 => ?_⟩⟩
    have hpq0 : p ≠ q0 := ne_of_none upd_same hq0
    refine ⟨_, rfl, _, _, rfl, hln (sN (same_new hp) hq0), _, rfl, by omega, by omega, for_range (fun u σ H' => ∃ (q : Addr) (v3 : Option V) (st : List Int) (es : List Int), σ = [some (.ref a), some (.ref p), some (.ref q), v3] ∧ H' p = some (.lst (es.map V.int)) ∧ H' q = some (.lst (lay st)) ∧ p ≠ q ∧ es ++ lawW st u (ds.drop u) = lawW [] 0 ds ∧ st.length ≤ u ∧ u ≤ ds.length ∧ es.length = u ∧ Same H H')
      ⟨q0, none, [], [], rfl, by rw [upd_ne hpq0, upd_same]; rfl, upd_same, hpq0, rfl, Nat.le_refl _, Nat.zero_le _, rfl, sN (same_new hp) hq0⟩ ?_ ?_⟩
    · rintro u σ H1 hu ⟨q, v3, st, es, rfl, hlp, hlq, hpq, he, hst, hul, hes, s1⟩
      rw [Int.toNat_natCast] at hu
      obtain ⟨d, hd⟩ : ∃ d, ds[u]? = some d := ⟨_, List.getElem?_eq_getElem hu⟩
      rw [drop_cons hd] at he
      simp only [lawW] at he
      have hll : LenV K (.ref q) H1 st.length := .inl ⟨_, SqL.of hlq, (lay_len st).symm⟩
      have hda : atI (natsV ds) ((0 : Int) + (u : Nat)) = some (.int (d : Nat)) := by rw [Int.zero_add]; exact atI_n (by rw [natsV, List.getElem?_map, hd]; rfl)
      refine ⟨_, rfl, _, rfl, _, _, rfl, hll, _, rfl, _, rfl, a, _, _, _, rfl, rfl, SqL.of (s1 _ _ ha), hda, _, rfl, _, _, rfl, hll, _, _, rfl, rfl, _, _, rfl, rfl, (by show (0 : Int) < _; omega), _, _, rfl, rfl, _, rfl, q, _, rfl, SqL.of hlq, fun q2 hq2 => ?_⟩
      have hm := Nat.mod_lt d (show 0 < st.length + 1 by omega)
      have e1 : ((st.length : Nat) : Int) - (d : Nat) % ((st.length : Nat) + 1) = ((st.length - d % (st.length + 1) : Nat) : Int) := by
        rw [Int.natCast_sub (by omega), Int.natCast_emod]; rfl
      dsimp only
      rw [e1, cutV_high]
      generalize hdm : d % (st.length + 1) = t at hm he
      have e2 : (lay st).take (st.length - t) = lay (st.drop t) := by
        rw [← List.map_take, List.take_reverse, show st.length - (st.length - t) = t by omega]
      rw [e2]
      have s2 := sN (o := .lst (lay (st.drop t))) s1 hq2
      have hpq2 : p ≠ q2 := ne_of_none hlp hq2
      have hlp2 : (upd H1 q2 (.lst (lay (st.drop t)))) p = some (.lst (es.map V.int)) := by rw [upd_ne hpq2]; exact hlp
      refine ⟨_, rfl, .inl ⟨rfl, _, SqL.of hlp2⟩, _, rfl, (by show 1 ≤ sizeLine; decide), fun m1 hm1 => ?_⟩
      have hm1q : q2 ≠ m1 := ne_of_none upd_same hm1
      have s3 := sN (o := .lst [.int (-1)]) s2 hm1
      refine ⟨_, rfl, m1, q2, _, _, rfl, rfl, upd_same, by rw [upd_ne hm1q, upd_same], sz1 (by rw [lay_len, List.length_drop]; simp; omega), fun m2 hm2 => ?_⟩
      have hm1p : p ≠ m1 := ne_of_none hlp2 hm1
      have hpm2 : p ≠ m2 := ne_of_none (by rw [upd_ne hm1p]; exact hlp2) hm2
      have hqm2 : q2 ≠ m2 := ne_of_none (by rw [upd_ne hm1q, upd_same]) hm2
      have s4 := sN (o := .lst ([.int (-1)] ++ lay (st.drop t))) s3 hm2
      have hat : atI ([V.int (-1)] ++ lay (st.drop t)) (-1) = some (.int ((st.drop t).headD (-1))) := by
        cases st.drop t with
        | nil => rfl
        | cons x r => rw [lay_cons, ← List.append_assoc]; exact atI_last _ _
      refine ⟨_, rfl, m2, _, _, _, rfl, rfl, SqL.of upd_same, hat, p, _, _, rfl, rfl, by rw [upd_ne hpm2, upd_ne hm1p]; exact hlp2, sz2 (by rw [List.length_map]; omega), ?_⟩
      refine ⟨_, rfl, _, rfl, (by show 1 ≤ sizeLine; decide), fun m3 hm3 => ?_⟩
      have hqv : (upd (upd (upd (upd H1 q2 (.lst (lay (st.drop t)))) m1 (.lst [.int (-1)])) m2 (.lst ([.int (-1)] ++ lay (st.drop t)))) p (.lst (es.map V.int ++ [.int ((st.drop t).headD (-1))]))) q2 = some (.lst (lay (st.drop t))) := by
        rw [upd_ne (Ne.symm hpq2), upd_ne hqm2, upd_ne hm1q, upd_same]
      have hqm3 : q2 ≠ m3 := ne_of_none hqv hm3
      have hpm3 : p ≠ m3 := ne_of_none upd_same hm3
      have s5 := sM (o := .lst (es.map V.int ++ [.int ((st.drop t).headD (-1))])) s4 hp
      have s6 := sN (o := .lst [.int ((0 : Int) + (u : Nat))]) s5 hm3
      refine ⟨q2, m3, _, _, rfl, rfl, by rw [upd_ne hqm3]; exact hqv, upd_same, sz1 (by rw [lay_len, List.length_drop]; simp; omega), fun m4 hm4 => ?_⟩
      have hpm4 : p ≠ m4 := ne_of_none (by rw [upd_ne hpm3]; exact upd_same) hm4
      refine ⟨m4, _, (u : Int) :: st.drop t, es ++ [(st.drop t).headD (-1)], rfl, ?_, ?_, hpm4, ?_, ?_, by omega, by simp [hes], sN s6 hm4⟩
      · rw [upd_ne hpm4, upd_ne hpm3, upd_same, List.map_append]; rfl
      · rw [upd_same, lay_cons, Int.zero_add]
      · rw [← he, List.append_assoc]; rfl
      · simp; omega
    · rintro σ H1 ⟨q, v3, st, es, rfl, hlp, hlq, hpq, he, hst, hul, hes, s1⟩
      rw [Int.toNat_natCast, List.drop_of_length_le (Nat.le_refl _)] at he
      simp only [lawW, List.append_nil] at he
      exact ⟨_, rfl, k p H1 s1 hp (by rw [← he]; exact hlp)⟩
end
end Tw
namespace Tw
open PySem PySem.Spec PyProof.Rows L2
def kindV : ErrK → List V
  | .knot => [.str "knot"]
  | .graft => [.str "graft"]
  | .wood z => [.str "wood", .int z]
  | .large => [.str "large"]
  | .deed => [.str "deed"]
def bsOf (e : ErrK) : List Bool := [decide (e.name = ErrK.knot.name), decide (e.name = ErrK.graft.name), decide (e.name = (ErrK.wood 0).name), decide (e.name = ErrK.large.name), decide (e.name = ErrK.deed.name)]
def ixOf : ErrK → Nat
  | .knot => 0
  | .graft => 1
  | .wood _ => 2
  | .large => 3
  | .deed => 4
theorem bsOf_eq (e : ErrK) : bsOf e = (List.range 5).map fun i => decide (i = ixOf e) := by
  cases e <;> first
    | decide +kernel
    | (show bsOf (.wood 0) = (List.range 5).map (fun i => decide (i = ixOf (.wood 0))); decide +kernel)
theorem bsOf_one (e : ErrK) : ((bsOf e).filter id).length = 1 := by
  cases e <;> first
    | decide +kernel
    | (show ((bsOf (.wood 0)).filter id).length = 1; decide +kernel)
theorem bsOf_at (e : ErrK) {i : Nat} (h : i < 5) : (bsOf e)[i]? = some (decide (i = ixOf e)) := by
  rw [bsOf_eq, List.getElem?_map, List.getElem?_range h]; rfl
theorem take_filter {bs : List Bool} {i : Nat} {b : Bool} (h : bs[i]? = some b) : (bs.take (i + 1)).filter id = (bs.take i).filter id ++ (if b then [b] else []) := by
  rw [take_more h, List.filter_append]
  cases b <;> rfl
theorem ErrAt.mono {e : ErrK} {d : Option Addr} {H H' : Hp} (s : Same H H') (h : ErrAt e d H) : ErrAt e d H' := by
  cases e <;> first
    | exact h
    | (obtain ⟨dd, h1, h2⟩ := h; exact ⟨dd, h1, s _ _ h2⟩)
theorem ErrAt.ok {e : ErrK} {d : Option Addr} {H : Hp} (h : ErrAt e d H) : DOk H d := by
  cases e <;> first
    | exact .inl h
    | (obtain ⟨dd, h1, h2⟩ := h; exact .inr ⟨dd, _, h1, h2⟩)
section
variable {P : Program} {w : World} {K : PySem.W.Frag} {mg : Str → Option Value} {base : Heap}
def KindOut (H : Hp) (Q : VK) (e : ErrK) : Prop := ∀ p H', Same H H' → H p = none → H' p = some (.lst (kindV e)) → Q (.ref p) H'
def spKind (K : PySem.W.Frag) : Sp := fun vs H Q _ => ∃ (a : Addr) (e : ErrK) (d : Option Addr), vs = [.ref a] ∧ H a = some (ExV (.ref (He.ga K e.name)) d a) ∧ ErrAt e d H ∧ KindOut H Q e
abbrev N_law_kind : List Str := ["_law_e", "_law_some", "_law_k", "_law_one"]
theorem sc_law_kind : FnScope N_law_kind ["_law_e"] (defScope s_law_kind) := ⟨rfl, rfl, rfl, by decide +kernel, rfl, by decide +kernel, by decide +kernel⟩
theorem ok_law_kind {f : Addr} {fd : FuncData} (F : D0 K "_law_kind" "_law_kind" s_law_kind f fd) (Z : Txt K mg) : FnOk P w K mg base (L2.CX P w) 1 f fd ["_law_e"] (spKind K) := by
  refine F.ok sc_law_kind (fun vs H Q E h => ?_) (fun cdv A outer s H vs Q E hr h => ?_)
  · obtain ⟨a, e, d, rfl, _⟩ := h
    rfl
  · obtain ⟨a, e, d, rfl, ha, he, k⟩ := h
    refine ⟨_, (pss_cons (ps_set (i := 1) sc_law_kind.nd rfl (Or.inr rfl) (pe_lst (pa_cons (pe_callB call_isV (by rfl) Z.f_isinstance (by decide +kernel) (pa_cons (pv 0) (pa_cons (pe_gl rfl Z.g_NoKnot) pa_nil))) (pa_cons (pe_callB call_isV (by rfl) Z.f_isinstance (by decide +kernel) (pa_cons (pv 0) (pa_cons (pe_gl rfl Z.g_NoGraft) pa_nil))) (pa_cons (pe_callB call_isV (by rfl) Z.f_isinstance (by decide +kernel) (pa_cons (pv 0) (pa_cons (pe_gl rfl Z.g_NoWood) pa_nil))) (pa_cons (pe_callB call_isV (by rfl) Z.f_isinstance (by decide +kernel) (pa_cons (pv 0) (pa_cons (pe_gl rfl Z.g_TooLarge) pa_nil))) pa_nil))))))
      (pss_cons (ps_expr (pe_bm PySem.F.plainAttrs_list PySem.F.slot_list_append PySem.F.type_list_append mt_append (pv 1) (pa_cons (pe_callB call_isV (by rfl) Z.f_isinstance (by decide +kernel) (pa_cons (pv 0) (pa_cons (pe_gl rfl Z.g_NoDeed) pa_nil))) pa_nil)))
      (pss_cons (ps_if (PW.pt (pw_or (pt_not (pt_val (pe_callB call_isV (by rfl) Z.f_isinstance (by decide +kernel) (pa_cons (pv 0) (pa_cons (pe_bltn (v := .ty "ValueError") (u := .type "ValueError") (by rfl) Z.f_ValueError (by decide +kernel) rfl) pa_nil))))) (pw_or1 (pt_cmpR op_ne (pe_callB call_len (by rfl) Z.f_len PySem.boot_len (pa_cons (pe_lc (own := [("_law_one", 3)]) (g := gName 3)  rfl sc_law_kind.nd (pi_list (pv 1)) (blkOk_by (N := N_law_kind) (sc := defScope s_law_kind) (by decide +kernel)) (fun _ _ _ _ _ => pg_name (i := 3) sc_law_kind.nd rfl (Or.inl rfl)) (fun _ _ _ _ _ => pts_one (pt_val (pv 3))) (fun _ _ _ _ _ => (pv 3))) pa_nil)) pe_int (nomark _))))) (pss_one (ps_ret (pe_lst (pa_cons pe_str pa_nil))))
        pss_nil)
      (pss_cons (ps_if (pt_val (pe_ix ix_list (pv 1) pe_int (fun _ _ => rfl))) (pss_one (ps_ret (pe_lst (pa_cons pe_str (pa_cons (pe_xv (pv 0)) pa_nil)))))
        pss_nil)
      (pss_one (ps_ret (pe_ix ix_list (pe_lc (own := [("_law_k", 2)]) (g := gName 2) (tt := tB (tOp (rIxL K) (tVar 1) (tVar 2))) (te := tOp (rIxL K) (tLst (tCons (tLst (tCons (tC (.str "knot")) tNil)) (tCons (tLst (tCons (tC (.str "graft")) tNil)) (tCons (tLst (tCons (tC (.str "wood")) tNil)) (tCons (tLst (tCons (tC (.str "large")) tNil)) (tCons (tLst (tCons (tC (.str "deed")) tNil)) tNil)))))) (tVar 2)) rfl sc_law_kind.nd (pi_range1 (by rfl) Z.f_range (pa_cons pe_int pa_nil)) (blkOk_by (N := N_law_kind) (sc := defScope s_law_kind) (by decide +kernel)) (fun _ _ _ _ _ => pg_name (i := 2) sc_law_kind.nd rfl (Or.inl rfl)) (fun _ _ _ _ _ => pts_one (pt_val (pe_ix ix_list (pv 1) (pv 2) (fun _ _ => rfl)))) (fun _ _ _ _ _ => (pe_ix ix_list (pe_lst (pa_cons (pe_lst (pa_cons pe_str pa_nil)) (pa_cons (pe_lst (pa_cons pe_str pa_nil)) (pa_cons (pe_lst (pa_cons pe_str pa_nil)) (pa_cons (pe_lst (pa_cons pe_str pa_nil)) (pa_cons (pe_lst (pa_cons pe_str pa_nil)) pa_nil)))))) (pv 2) (fun _ _ => rfl)))) pe_int (fun _ _ => rfl)))))))), ?_⟩
    refine ⟨_, rfl, a, _, d, _, _, _, rfl, .own _, ha, he.ok, Z.exc e, Z.kit e .knot, ?_⟩
    refine ⟨_, rfl, a, _, d, _, _, _, rfl, .own _, ha, he.ok, Z.exc e, Z.kit e .graft, ?_⟩
    refine ⟨_, rfl, a, _, d, _, _, _, rfl, .own _, ha, he.ok, Z.exc e, Z.kit e (.wood 0), ?_⟩
    refine ⟨_, rfl, a, _, d, _, _, _, rfl, .own _, ha, he.ok, Z.exc e, Z.kit e .large, ?_⟩
    refine ⟨(by show 4 ≤ sizeLine; decide), fun p hp => ?_⟩
    refine ⟨_, rfl, .inl ⟨rfl, _, SqL.of upd_same⟩, _, rfl, a, _, d, _, _, _, rfl, .own _, (same_new hp) _ _ ha, (he.mono (same_new hp)).ok, Z.exc e, Z.kit e .deed, p, _, _, rfl, rfl, upd_same, (by show 4 < sizeLine; decide), ?_⟩
    generalize hH1 : upd (upd H p (.lst [.bl (decide (e.name = ErrK.knot.name)), .bl (decide (e.name = ErrK.graft.name)), .bl (decide (e.name = (ErrK.wood 0).name)), .bl (decide (e.name = ErrK.large.name))])) p (.lst ([.bl (decide (e.name = ErrK.knot.name)), .bl (decide (e.name = ErrK.graft.name)), .bl (decide (e.name = (ErrK.wood 0).name)), .bl (decide (e.name = ErrK.large.name))] ++ [.bl (decide (e.name = ErrK.deed.name))])) = H1
    have s1 : Same H H1 := by rw [← hH1]; exact sM (same_new hp) hp
    have hl1 : H1 p = some (.lst ((bsOf e).map V.bl)) := by rw [← hH1]; exact upd_same
    clear hH1
    refine ⟨_, rfl, a, _, d, _, _, _, rfl, .ty _, s1 _ _ ha, (he.mono s1).ok, Z.exc e, Z.kve e, _, rfl, iteF ?_⟩
    refine ⟨_, rfl, p, rfl, ⟨_, SqL.of hl1⟩, fun D hD => lc_list (xs := (bsOf e).map V.bl) (fun i H' => H' D = some (.lst ((((bsOf e).take i).filter id).map V.bl)) ∧ Same H1 H') ⟨upd_same, same_new hD⟩ (fun i H' _ ⟨_, s⟩ => SqL.of (s _ _ hl1)) (fun i x H' hx ⟨hl, s⟩ => ?_) (fun H' ⟨hl, s⟩ => ?_)⟩
    · obtain ⟨b, hb, rfl⟩ : ∃ b, (bsOf e)[i]? = some b ∧ x = .bl b := by
        rw [List.getElem?_map] at hx
        cases q : (bsOf e)[i]? with
        | none => rw [q] at hx; cases hx
        | some b => rw [q] at hx; exact ⟨b, rfl, (Option.some.inj hx).symm⟩
      refine ⟨rfl, _, rfl, _, rfl, ?_⟩
      rw [take_filter hb]
      cases b with
      | false =>
        refine iteF ⟨?_, s⟩
        simpa using hl
      | true =>
        refine iteT ⟨_, rfl, _, hl, sz2 ?_, ?_, sM s hD⟩
        · rw [List.length_map]
          have h1 := List.length_filter_le id ((bsOf e).take i)
          rw [List.length_take] at h1
          have h2 : (bsOf e).length = 5 := rfl
          omega
        · rw [upd_same, List.map_append]; rfl
    · rw [List.length_map, List.take_length] at hl
      have s12 := s1.trans s
      refine ⟨_, _, rfl, .inl ⟨_, SqL.of hl, by rw [List.length_map, bsOf_one]⟩, rfl, _, rfl, ite_n (ndec_i _ _) (fun z => absurd rfl z) (fun _ => ?_)⟩
      have hl2 := s _ _ hl1
      have hat : ∀ i : Nat, i < 5 → atI ((bsOf e).map V.bl) ((i : Nat) : Int) = some (.bl (decide (i = ixOf e))) := fun i hi => atI_n (by rw [List.getElem?_map, bsOf_at e hi]; rfl)
      refine ⟨_, rfl, p, _, _, _, rfl, rfl, SqL.of hl2, hat 2 (by decide), _, rfl, ite_d rfl (fun h2 => ?_) (fun h2 => ?_)⟩
      · cases e with
        | wood z =>
          obtain ⟨dd, rfl, hdd⟩ := he
          refine ⟨_, rfl, a, _, dd, _, _, rfl, s12 _ _ ha, s12 _ _ hdd, ⟨(Z.exc (.wood z)).hg, (Z.exc (.wood z)).hk, (Z.exc (.wood z)).hs, (Z.exc (.wood z)).hd⟩, Z.nw.np, rfl, (by show 2 ≤ sizeLine; decide), fun r hr2 => ?_⟩
          exact k r _ (sN s12 hr2) (s12.free hr2) upd_same
        | knot => cases h2
        | graft => cases h2
        | large => cases h2
        | deed => cases h2
      · refine ⟨_, rfl, by decide, by decide, fun D2 hD2 => lc_range (lo := 0) (n := 5) (fun i H'' => ∃ rs : List Addr, H'' D2 = some (.lst (rs.map V.ref)) ∧ (i ≤ ixOf e → rs = []) ∧ (ixOf e < i → ∃ r, rs = [r] ∧ H'' r = some (.lst (kindV e)) ∧ H r = none) ∧ Same H' H'') ⟨[], upd_same, fun _ => rfl, fun z => by omega, same_new hD2⟩ (fun i H2 hi ⟨rs, hr1, hr2, hr3, s2⟩ => ?_) (fun H2 ⟨rs, hr1, hr2, hr3, s2⟩ => ?_)⟩
        · have s3 := s12.trans s2
          have hl3 := s2 _ _ hl2
          refine ⟨rfl, _, rfl, _, rfl, p, _, _, _, rfl, rfl, SqL.of hl3, by rw [Int.zero_add]; exact hat i hi, _, rfl, ite_d rfl (fun h3 => ?_) (fun h3 => ?_)⟩
          · obtain rfl := hr2 (by omega)
            refine ⟨(by show 1 ≤ sizeLine; decide), fun r0 n0 => ⟨(by show 1 ≤ sizeLine; decide), fun r1 n1 => ⟨(by show 1 ≤ sizeLine; decide), fun r2 n2 => ⟨(by show 1 ≤ sizeLine; decide), fun r3 n3 => ⟨(by show 1 ≤ sizeLine; decide), fun r4 n4 => ⟨(by show 5 ≤ sizeLine; decide), fun r5 n5 => ?_⟩⟩⟩⟩⟩⟩
            have t5 := same_new (o := .lst [.ref r0, .ref r1, .ref r2, .ref r3, .ref r4]) n5
            have t4 := (same_new (o := .lst [.str "deed"]) n4).trans t5
            have t3 := (same_new (o := .lst [.str "large"]) n3).trans t4
            have t2 := (same_new (o := .lst [.str "wood"]) n2).trans t3
            have t1 := (same_new (o := .lst [.str "graft"]) n1).trans t2
            have t0 := (same_new (o := .lst [.str "knot"]) n0).trans t1
            have key : ∃ r, atI [V.ref r0, .ref r1, .ref r2, .ref r3, .ref r4] ((i : Nat) : Int) = some (.ref r) ∧ H r = none ∧ r ≠ D2 ∧ (upd (upd (upd (upd (upd (upd H2 r0 (.lst [.str "knot"])) r1 (.lst [.str "graft"])) r2 (.lst [.str "wood"])) r3 (.lst [.str "large"])) r4 (.lst [.str "deed"])) r5 (.lst [.ref r0, .ref r1, .ref r2, .ref r3, .ref r4])) r = some (.lst (kindV e)) := by
              have d0 : r0 ≠ D2 := (ne_of_none hr1 n0).symm
              have c0 := same_new (o := .lst [.str "knot"]) n0
              have d1 : r1 ≠ D2 := (ne_of_none (c0 _ _ hr1) n1).symm
              have c1 := c0.trans (same_new (o := .lst [.str "graft"]) n1)
              have c2 := c1.trans (same_new (o := .lst [.str "wood"]) n2)
              have d3 : r3 ≠ D2 := (ne_of_none (c2 _ _ hr1) n3).symm
              have c3 := c2.trans (same_new (o := .lst [.str "large"]) n3)
              have d4 : r4 ≠ D2 := (ne_of_none (c3 _ _ hr1) n4).symm
              subst h3
              cases e with
              | knot => exact ⟨r0, rfl, s3.free n0, d0, t1 _ _ upd_same⟩
              | graft => exact ⟨r1, rfl, (s3.trans c0).free n1, d1, t2 _ _ upd_same⟩
              | wood z => exact absurd rfl h2
              | large => exact ⟨r3, rfl, (s3.trans c2).free n3, d3, t4 _ _ upd_same⟩
              | deed => exact ⟨r4, rfl, (s3.trans c3).free n4, d4, t5 _ _ upd_same⟩
            obtain ⟨r, hat2, hrn, hrd, hrv⟩ := key
            refine ⟨_, rfl, r5, _, _, _, rfl, rfl, SqL.of upd_same, by rw [Int.zero_add]; exact hat2, _, t0 _ _ hr1, (by show 0 < sizeLine; decide), [r], by rw [upd_same]; rfl, fun z => by omega, fun _ => ⟨r, rfl, by rw [upd_ne hrd]; exact hrv, hrn⟩, ?_⟩
            exact sM (s2.trans t0) hD2
          · refine ⟨rs, hr1, fun z => hr2 (by omega), fun z => hr3 (by omega), s2⟩
        · obtain ⟨r, rfl, hrv, hrn⟩ := hr3 (by cases e <;> simp [ixOf])
          refine ⟨D2, _, _, _, rfl, rfl, SqL.of hr1, rfl, ?_⟩
          exact k r H2 (s12.trans s2) hrn hrv
end
end Tw
namespace Tw
open PySem PySem.Spec PyProof.Rows L2
section
variable {P : Program} {w : World} {K : PySem.W.Frag} {mg : Str → Option Value} {base : Heap}
theorem Txt.x (Z : Txt K mg) (e : ErrK) : PySem.W.exmOne K (.ref (He.ga K e.name)) (.ref (He.ga K "WoodError")) = some true := by
  cases e
  · exact Z.x_NoKnot
  · exact Z.x_NoGraft
  · exact Z.x_NoWood
  · exact Z.x_TooLarge
  · exact Z.x_NoDeed
theorem KindOut.mono {H H' : Hp} {Q : VK} {e : ErrK} (s : Same H H') (h : KindOut H Q e) : KindOut H' Q e := fun p H2 s2 hp hl => h p H2 (s.trans s2) (s.free hp) hl
def GraftEndR (K : PySem.W.Frag) (H : Hp) (o q : Addr) (ps : List (List Bool)) (k el : V) (c : Nat) (R : ErrK → Prop) (G : List (List Bool) → Prop) : Prop :=
  (∃ t, (∀ H', Same H H' → TyX K H' el t) ∧ PySem.W.kitOne K t (.type "list") = some false ∧ R (.wood 0)) ∨
  ∃ a xs, el = .ref a ∧ H a = some (.lst xs) ∧ (∀ y ∈ xs, Thing H y) ∧ xs.length ≤ 5000 ∧ (∀ z : Nat, lookI [] 0 (xs.map toI) = some z → R (.wood z)) ∧
    (∀ es : List Int, xs = es.map V.int → lookI [] 0 (es.map some) = none → es.length ≤ 4000 → (4000 < ones ps.flatten + es.length ∧ R .large) ∨
      (ones ps.flatten + es.length ≤ 4000 ∧ c = 0 ∧ H q = some (.lst []) ∧ ps.length ≤ 100 ∧ ∃ (pre rest : List Bool) (n : Nat), k = .int (ones pre : Nat) ∧ ps.flatten = pre ++ true :: rest ∧ cl 1 rest = some n ∧ G (putFor ps (pre.length + 1 + n) (pre.length + 1 + n) (row es))))
def GraftCase (K : PySem.W.Frag) (H : Hp) (o q : Addr) (ps : List (List Bool)) (k pl el : V) (R : ErrK → Prop) (G : List (List Bool) → Prop) : Prop :=
  (k ≠ .non ∧ Thing H k ∧ knotB k (ones ps.flatten) = false ∧ R .knot) ∨
   ∃ c, KidsOf ps k c ∧ Thing H pl ∧ ((placeB pl c = false ∧ R .graft) ∨ (placeB pl c = true ∧ GraftEndR K H o q ps k el c R G))
theorem GraftCase.imp {H : Hp} {o q : Addr} {ps : List (List Bool)} {k pl el : V} {R R' : ErrK → Prop} {G G' : List (List Bool) → Prop} (f : ∀ e, R e → R' e) (g : ∀ ps2, G ps2 → G' ps2) (h : GraftCase K H o q ps k pl el R G) : GraftCase K H o q ps k pl el R' G' := by
  rcases h with ⟨h1, h2, h3, h4⟩ | ⟨c, h1, h2, ⟨h3, h4⟩ | ⟨h3, h4⟩⟩
  · exact .inl ⟨h1, h2, h3, f _ h4⟩
  · exact .inr ⟨c, h1, h2, .inl ⟨h3, f _ h4⟩⟩
  · refine .inr ⟨c, h1, h2, .inr ⟨h3, ?_⟩⟩
    rcases h4 with ⟨t, a1, a2, a3⟩ | ⟨a, xs, b1, b2, b3, b4, b5, b6⟩
    · exact .inl ⟨t, a1, a2, f _ a3⟩
    · refine .inr ⟨a, xs, b1, b2, b3, b4, fun z hz => f _ (b5 z hz), fun es e1 e2 e3 => ?_⟩
      rcases b6 es e1 e2 e3 with ⟨c1, c2⟩ | ⟨c1, c2, c3, c4, pre, rest, n, c5, c6, c7, c8⟩
      · exact .inl ⟨c1, f _ c2⟩
      · exact .inr ⟨c1, c2, c3, c4, pre, rest, n, c5, c6, c7, g _ c8⟩
theorem graft_of {H : Hp} {o q : Addr} {ps : List (List Bool)} {k pl el : V} {Q : VK} {E : XK} (W0 : WoodAt K H o q ps) (h : GraftCase K H o q ps k pl el (Out K H E) (fun ps2 => ∀ H', Same2 o q H H' → WoodAt K H' o q ps2 → (∃ u, H' q = some u) → Q .non H')) : spGraft K [.ref o, k, pl, el] H Q E :=
  ⟨o, q, ps, k, pl, el, rfl, W0, h⟩
def spDone (K : PySem.W.Frag) : Sp := fun vs H Q _ => ∃ (o q : Addr) (ps : List (List Bool)) (way : Str) (k pl el : V), vs = [.ref o, .str way, k, pl, el] ∧ WoodAt K H o q ps ∧
  ((way = "cut" ∧ Thing H k ∧ knotB k (ones ps.flatten) = false ∧ KindOut H Q .knot) ∨ (way = "back" ∧ H q = some (.lst []) ∧ KindOut H Q .deed) ∨
   (way = "graft" ∧ GraftCase K H o q ps k pl el (KindOut H Q) (fun ps2 => ∀ p H', Same2 o q H H' → WoodAt K H' o q ps2 → H p = none → H' p = some (.lst [.str "good"]) → Q (.ref p) H')))
abbrev N_law_done : List Str := ["_law_wood_here", "_law_way", "_law_k", "_law_place", "_law_elders", "_law_refused", "_law_e"]
theorem sc_law_done : FnScope N_law_done ["_law_wood_here", "_law_way", "_law_k", "_law_place", "_law_elders"] (defScope s_law_done) := ⟨rfl, rfl, rfl, by decide +kernel, rfl, by decide +kernel, by decide +kernel⟩
theorem ok_law_done {f : Addr} {fd : FuncData} (F : D0 K "_law_done" "_law_done" s_law_done f fd) (Z : Txt K mg) (m_Shaped_cut : Mtd P w K mg base 3 (He.ga K "Shaped") "cut" ["self", "k"] (spCut K)) (m_Shaped_graft : Mtd P w K mg base 4 (He.ga K "Shaped") "graft" ["self", "k", "place", "elders"] (spGraft K))
    (m_Shaped_take_back : Mtd P w K mg base 1 (He.ga K "Shaped") "take_back" ["self"] (spBack K)) (c_law_kind : Cal P w K mg base 1 "_law_kind" ["_law_e"] (spKind K)) : FnOk P w K mg base (L2.CX P w) 5 f fd ["_law_wood_here", "_law_way", "_law_k", "_law_place", "_law_elders"] (spDone K) := by
  refine F.ok sc_law_done (fun vs H Q E h => ?_) (fun cdv A outer s H vs Q E hr h => ?_)
  · obtain ⟨o, q, ps, way, k, pl, el, rfl, _⟩ := h
    rfl
  · obtain ⟨o, q, ps, way, k, pl, el, rfl, W0, hc⟩ := h
    obtain ⟨dx, a0, t, ts, h1, h2, h3, h4, h5, h6, h7⟩ := id W0
    refine ⟨_, (pss_cons (ps_set (i := 5) sc_law_done.nd rfl (Or.inl rfl) pe_non)
      (pss_cons (ps_try_asV (i := 6) rfl rfl rfl sc_law_done.nd rfl rfl ⟨rfl, by decide, .inl Z.g_WoodError⟩ (fun W pn xe tk _ =>
        (pss_one (ps_if (pt_cmpR op_eq (pv 1) pe_str (nomark _)) (pss_one (ps_expr (pe_m m_Shaped_cut Z.c_Shaped hr tk (pv 0) (pa_cons (pv 2) pa_nil))))
          (pss_one (ps_if (pt_cmpR op_eq (pv 1) pe_str (nomark _)) (pss_one (ps_expr (pe_m m_Shaped_graft Z.c_Shaped hr tk (pv 0) (pa_cons (pv 2) (pa_cons (pv 3) (pa_cons (pv 4) pa_nil))))))
            (pss_one (ps_expr (pe_m0 m_Shaped_take_back Z.c_Shaped hr tk (pv 0))))))))) (fun a pn => (pss_one (ps_set (i := 5) sc_law_done.nd rfl (Or.inl rfl) (pv 6)))))
      (pss_cons (ps_if (pt_cmpR op_isN (pv 5) pe_non (nomark _)) (pss_one (ps_ret (pe_lst (pa_cons pe_str pa_nil))))
        pss_nil)
      (pss_one (ps_ret (pe_c c_law_kind hr (takes_of rfl rfl rfl rfl) (pa_cons (pv 5) pa_nil))))))), ?_⟩
    rcases hc with ⟨rfl, hk, hb, ko⟩ | ⟨rfl, hq, ko⟩ | ⟨rfl, hg⟩
    · refine ⟨_, rfl, rfl, _, rfl, ite_d rfl (fun _ => ?_) (fun z => absurd rfl z)⟩
      refine ⟨_, rfl, o, _, _, rfl, h1, rfl, _, rfl, o, q, ps, k, rfl, W0, hk, hb, ?_⟩
      exact fun d H' s' e' => ⟨Z.x .knot, fun a ha => ⟨_, rfl, _, rfl, rfl, _, rfl, iteF ⟨_, rfl, a, .knot, d, rfl, upd_same, e'.mono (same_new ha), ko.mono (sN s' ha)⟩⟩⟩
    · refine ⟨_, rfl, rfl, _, rfl, ite_d rfl (fun z => absurd z (by decide +kernel)) (fun _ => ?_)⟩
      refine ⟨_, rfl, rfl, _, rfl, ite_d rfl (fun z => absurd z (by decide +kernel)) (fun _ => ?_)⟩
      refine ⟨_, rfl, o, _, _, rfl, h1, rfl, o, q, ps, rfl, W0, hq, ?_⟩
      exact fun d H' s' e' => ⟨Z.x .deed, fun a ha => ⟨_, rfl, _, rfl, rfl, _, rfl, iteF ⟨_, rfl, a, .deed, d, rfl, upd_same, e'.mono (same_new ha), ko.mono (sN s' ha)⟩⟩⟩
    · refine ⟨_, rfl, rfl, _, rfl, ite_d rfl (fun z => absurd z (by decide +kernel)) (fun _ => ?_)⟩
      refine ⟨_, rfl, rfl, _, rfl, ite_d rfl (fun _ => ?_) (fun z => absurd rfl z)⟩
      refine ⟨_, rfl, o, _, _, rfl, h1, rfl, _, rfl, _, rfl, _, rfl, ?_⟩
      refine graft_of W0 (hg.imp (fun e ko d H' s' e' => ⟨Z.x e, fun a ha => ⟨_, rfl, _, rfl, rfl, _, rfl, iteF ⟨_, rfl, a, e, d, rfl, upd_same, e'.mono (same_new ha), ko.mono (sN s' ha)⟩⟩⟩) (fun ps2 kg H' s' W' pq => ?_))
      refine ⟨_, rfl, rfl, _, rfl, iteT ⟨(by show 1 ≤ sizeLine; decide), fun p hp => ?_⟩⟩
      have hn : H p = none := by
        cases e : H p with
        | none => rfl
        | some u =>
          by_cases n1 : p = o
          · subst n1
            obtain ⟨dx', a', t', ts', g1, _⟩ := id W'
            rw [g1] at hp
            cases hp
          · by_cases n2 : p = q
            · subst n2
              obtain ⟨u', hu'⟩ := pq
              rw [hu'] at hp
              cases hp
            · rw [s' p u n1 n2 e] at hp
              cases hp
      refine kg p _ (fun b u n1 n2 e => by rw [upd_ne (ne_of_none e hn)]; exact s' b u n1 n2 e) (W'.mono (same_new hp)) hn upd_same
def NoList (K : PySem.W.Frag) (H : Hp) (x : V) : Prop := ∃ t, (∀ H', Same H H' → TyX K H' x t) ∧ PySem.W.kitOne K t (.type "list") = some false
def spNoWood (K : PySem.W.Frag) : Sp := fun vs H Q _ => ∃ (x : V), vs = [x] ∧ ((NoList K H x ∧ KindOut H Q (.wood 0)) ∨ ∃ a xs, ∃ z : Nat, x = .ref a ∧ H a = some (.lst xs) ∧ (∀ y ∈ xs, Thing H y) ∧ xs.length ≤ 5000 ∧ lookI [] 0 (xs.map toI) = some z ∧ KindOut H Q (.wood z))
abbrev N_law_no_wood : List Str := ["_law_elders", "_law_refused", "_law_e"]
theorem sc_law_no_wood : FnScope N_law_no_wood ["_law_elders"] (defScope s_law_no_wood) := ⟨rfl, rfl, rfl, by decide +kernel, rfl, by decide +kernel, by decide +kernel⟩
theorem ok_law_no_wood {f : Addr} {fd : FuncData} (F : D0 K "_law_no_wood" "_law_no_wood" s_law_no_wood f fd) (Z : Txt K mg) (k_Shaped : Mkr P w K mg base 4 "Shaped" (He.ga K "Shaped") ["self", "elders"] (spShapedI K)) (c_law_kind : Cal P w K mg base 1 "_law_kind" ["_law_e"] (spKind K)) :
    FnOk P w K mg base (L2.CX P w) 6 f fd ["_law_elders"] (spNoWood K) := by
  refine F.ok sc_law_no_wood (fun vs H Q E h => ?_) (fun cdv A outer s H vs Q E hr h => ?_)
  · obtain ⟨x, rfl, _⟩ := h
    rfl
  · obtain ⟨x, rfl, hc⟩ := h
    refine ⟨_, (pss_cons (ps_set (i := 1) sc_law_no_wood.nd rfl (Or.inl rfl) pe_non)
      (pss_cons (ps_try_asV (i := 2) rfl rfl rfl sc_law_no_wood.nd rfl rfl ⟨rfl, by decide, .inl Z.g_WoodError⟩ (fun W pn xe tk _ =>
        (pss_one (ps_expr (pe_k k_Shaped hr tk (pa_cons (pv 0) pa_nil))))) (fun a pn => (pss_one (ps_set (i := 1) sc_law_no_wood.nd rfl (Or.inl rfl) (pv 2)))))
      (pss_cons (ps_if (pt_cmpR op_isN (pv 1) pe_non (nomark _)) (pss_one (ps_ret (pe_lst (pa_cons pe_str pa_nil))))
        pss_nil)
      (pss_one (ps_ret (pe_c c_law_kind hr (takes_of rfl rfl rfl rfl) (pa_cons (pv 1) pa_nil))))))), ?_⟩
    refine ⟨_, rfl, fun o dx ho hdx nd => ?_⟩
    have s0 := own_new (C := He.ga K "Shaped") ho hdx nd
    rcases hc with ⟨⟨t, ty, k0⟩, ko⟩ | ⟨a, xs, z, rfl, ha, hth, hz, hlk, ko⟩
    · refine ⟨o, dx, x, rfl, upd_same, .inl ⟨t, ty _ s0, k0, ?_⟩⟩
      exact fun d H' s' e' => ⟨Z.x (.wood 0), fun a ha => ⟨_, rfl, _, rfl, rfl, _, rfl, iteF ⟨_, rfl, a, .wood 0, d, rfl, upd_same, e'.mono (same_new ha), ko.mono (sN (s0.trans s') ha)⟩⟩⟩
    · refine ⟨o, dx, _, rfl, upd_same, .inr ⟨a, xs, rfl, s0 _ _ ha, fun y hy => (hth y hy).mono s0, hz, fun k hk => ?_, fun es hes hn => ?_⟩⟩
      · obtain rfl : z = k := Option.some.inj (hlk.symm.trans hk)
        exact fun d H' s' e' => ⟨Z.x (.wood z), fun a ha => ⟨_, rfl, _, rfl, rfl, _, rfl, iteF ⟨_, rfl, a, .wood z, d, rfl, upd_same, e'.mono (same_new ha), ko.mono (sN (s0.trans s') ha)⟩⟩⟩
      · rw [hes, ints_toI, hn] at hlk
        cases hlk
theorem str_ok1 (x : Str) (h : PyData.strOk x = true) : ([V.str x]).all datOk = true := by simp [datOk, h]
def spOfNone (K : PySem.W.Frag) : Sp := fun vs H Q _ => ∃ (o q : Addr) (ps : List (List Bool)), vs = [.ref o] ∧ WoodAt K H o q ps ∧ ones ps.flatten = 0 ∧ ∀ H', Same H H' → Q (.bl true) H'
abbrev N_law_of_none : List Str := ["_law_wood_here", "_law_refused", "_law_e"]
theorem sc_law_of_none : FnScope N_law_of_none ["_law_wood_here"] (defScope s_law_of_none) := ⟨rfl, rfl, rfl, by decide +kernel, rfl, by decide +kernel, by decide +kernel⟩
theorem ok_law_of_none {f : Addr} {fd : FuncData} (F : D0 K "_law_of_none" "_law_of_none" s_law_of_none f fd) (Z : Txt K mg) (m_Shaped_nth : Mtd P w K mg base 3 (He.ga K "Shaped") "nth" ["self", "k", "i"] (spNth K)) (c_law_kind : Cal P w K mg base 1 "_law_kind" ["_law_e"] (spKind K)) :
    FnOk P w K mg base (L2.CX P w) 4 f fd ["_law_wood_here"] (spOfNone K) := by
  refine F.ok sc_law_of_none (fun vs H Q E h => ?_) (fun cdv A outer s H vs Q E hr h => ?_)
  · obtain ⟨o, q, ps, rfl, _⟩ := h
    rfl
  · obtain ⟨o, q, ps, rfl, W0, hno, k⟩ := h
    obtain ⟨dx, a0, t, ts, h1, h2, h3, h4, h5, h6, h7⟩ := id W0
    refine ⟨_, (pss_cons (ps_set (i := 1) sc_law_of_none.nd rfl (Or.inl rfl) pe_non)
      (pss_cons (ps_try_asV (i := 2) rfl rfl rfl sc_law_of_none.nd rfl rfl ⟨rfl, by decide, .inl Z.g_WoodError⟩ (fun W pn xe tk _ =>
        (pss_one (ps_expr (pe_m m_Shaped_nth Z.c_Shaped hr tk (pv 0) (pa_cons pe_int (pa_cons pe_int pa_nil)))))) (fun a pn => (pss_one (ps_set (i := 1) sc_law_of_none.nd rfl (Or.inl rfl) (pv 2)))))
      (pss_one (ps_ret (pe_and (pe_cmpR op_notN (pv 1) pe_non (nomark _)) (pe_one (pe_cmpR (op_eqD hr.units) (pe_c c_law_kind hr (takes_of rfl rfl rfl rfl) (pa_cons (pv 1) pa_nil)) (pe_lst (pa_cons pe_str pa_nil)) (nomark _)))))))), ?_⟩
    refine ⟨_, rfl, o, _, _, rfl, h1, rfl, o, q, ps, _, _, rfl, W0, .inl ⟨0, rfl⟩, by rw [hno]; rfl, ?_⟩
    refine fun d H' s' e' => ⟨Z.x .knot, fun a ha => ⟨_, rfl, _, rfl, rfl, _, rfl, iteT ⟨_, rfl, a, .knot, d, rfl, upd_same, e'.mono (same_new ha), fun p H2 s2 hp hl => ?_⟩⟩⟩
    refine ⟨(by show 1 ≤ sizeLine; decide), fun n hn => eq_same (xs := kindV .knot) (SqL.of (same_new hn _ _ hl)) (SqL.of upd_same) (by decide +kernel) ?_⟩
    exact k _ (sN ((sN s' ha).trans s2) hn)
end
end Tw
namespace Tw
open PySem PySem.Spec PyProof.Rows L2
def faultV : Option Nat → V
  | none => .non
  | some k => .int (k : Nat)
theorem eqV_int (i j : Int) : eqV (.int i) (.int j) = decide (i = j) := by
  show (i == j) = decide (i = j)
  rw [Bool.eq_iff_iff]
  simp
theorem inV_lay (e : Int) (st : List Int) : inV (.int e) (lay st) = decide (e ∈ st) := by
  rw [Bool.eq_iff_iff]
  unfold inV lay
  rw [List.any_eq_true, decide_eq_true_iff]
  constructor
  · rintro ⟨y, hy, h⟩
    obtain ⟨i, hi, rfl⟩ := List.mem_map.mp hy
    rw [eqV_int, decide_eq_true_iff] at h
    subst h
    exact List.mem_reverse.mp hi
  · intro h
    exact ⟨.int e, List.mem_map.mpr ⟨e, List.mem_reverse.mpr h, rfl⟩, by rw [eqV_int, decide_eq_true_iff]⟩
theorem lay_flat (st : List Int) : (lay st).all flatV = true := by
  unfold lay
  rw [List.all_map]
  exact List.all_eq_true.mpr fun _ _ => rfl
theorem drop_mem {st : List Int} {e : Int} : st.dropWhile (· != e) = [] ↔ e ∉ st := by
  induction st with
  | nil => simp
  | cons x r ih =>
    by_cases hx : x = e
    · subst hx
      simp
    · have hx' : (x != e) = true := by simpa using hx
      rw [List.dropWhile_cons_of_pos (p := fun y => y != e) hx', ih]
      simp [Ne.symm hx]
section
variable {P : Program} {w : World} {K : PySem.W.Frag} {mg : Str → Option Value} {base : Heap}
def spFault (K : PySem.W.Frag) : Sp := fun vs H Q _ => ∃ x : V, vs = [x] ∧ ((NoList K H x ∧ ∀ H', Same H H' → Q (.int 0) H') ∨ ∃ a xs, x = .ref a ∧ H a = some (.lst xs) ∧ (∀ y ∈ xs, Thing H y) ∧ xs.length ≤ 4000 ∧ ∀ H', Same H H' → Q (faultV (lookI [] 0 (xs.map toI))) H')
abbrev N_law_fault : List Str := ["_law_elders", "_law_path", "_law_k", "_law_elder"]
theorem sc_law_fault : FnScope N_law_fault ["_law_elders"] (defScope s_law_fault) := ⟨rfl, rfl, rfl, by decide +kernel, rfl, by decide +kernel, by decide +kernel⟩
theorem ok_law_fault {f : Addr} {fd : FuncData} (F : D0 K "_law_fault" "_law_fault" s_law_fault f fd) (Z : Txt K mg) (c_law_whole : Cal P w K mg base 1 "_law_whole" ["_law_found"] spWhole) : FnOk P w K mg base (L2.CX P w) 2 f fd ["_law_elders"] (spFault K) := by
  refine F.ok sc_law_fault (fun vs H Q E h => ?_) (fun cdv A outer s H vs Q E hr h => ?_)
  · obtain ⟨x, rfl, _⟩ := h
    rfl
  · obtain ⟨x, rfl, h⟩ := h
    refine ⟨_, (pss_cons (ps_if (pt_not (pt_val (pe_callB call_isi (by rfl) Z.f_isinstance (by decide +kernel) (pa_cons (pv 0) (pa_cons (pe_bltn (v := .ty "list") (u := .type "list") (by rfl) Z.f_list (by decide +kernel) rfl) pa_nil))))) (pss_one (ps_ret pe_int))
        pss_nil)
      (pss_cons (ps_set (i := 1) sc_law_fault.nd rfl (Or.inl rfl) (pe_lst pa_nil))
      (pss_cons (ps_for (passes_of rfl) rfl (pi_range1 (by rfl) Z.f_range (pa_cons (pe_callB call_len (by rfl) Z.f_len PySem.boot_len (pa_cons (pv 0) pa_nil)) pa_nil)) (pg_name (i := 2) sc_law_fault.nd rfl (Or.inl rfl))
        (pss_cons (ps_set (i := 3) sc_law_fault.nd rfl (Or.inl rfl) (pe_ix ix_list (pv 0) (pv 2) (fun _ _ => rfl)))
        (pss_cons (ps_if (PW.pt (pw_or (pt_not (pt_val (pe_c c_law_whole hr (takes_of rfl rfl rfl rfl) (pa_cons (pv 3) pa_nil)))) (pw_or1 (PW.pt (pw_and (pt_cmpR op_ne (pv 3) (pe_un un_neg pe_int) (nomark _)) (pw_and1 (pt_cmpR op_notIn_seq (pv 3) (pv 1) (by rfl)))))))) (pss_one (ps_ret (pv 2)))
          pss_nil)
        (pss_cons (ps_while (passes_of rfl) (PW.pt (pw_and (pt_cmpR (op_neD hr.units) (pv 1) (pe_lst pa_nil) (nomark _)) (pw_and1 (pt_cmpR op_ne (pe_ix ix_list (pv 1) (pe_un un_neg pe_int) (fun _ _ => rfl)) (pv 3) (nomark _)))))
          (pss_one (ps_expr (pe_bm0 PySem.F.plainAttrs_list PySem.F.slot_list_pop PySem.F.type_list_pop mt_pop (pv 1)))))
        (pss_one (ps_expr (pe_bm PySem.F.plainAttrs_list PySem.F.slot_list_append PySem.F.type_list_append mt_append (pv 1) (pa_cons (pv 2) pa_nil))))))))
      (pss_one (ps_ret pe_non))))), ?_⟩
    rcases h with ⟨⟨t, ty, k0⟩, k⟩ | ⟨a, xs, rfl, ha, hth, hz, k⟩
    · exact ⟨_, rfl, _, _, _, _, _, rfl, .ty _, ty _ (Same.refl H), k0, _, rfl, iteT (k H (Same.refl H))⟩
    · refine ⟨_, rfl, _, _, _, _, _, rfl, .ty _, .base (.lst ha), kit_ty (r := true) (by decide +kernel), _, rfl, iteF ?_⟩
      refine ⟨(by show 0 ≤ sizeLine; decide), fun q hq => ?_⟩
      refine ⟨_, rfl, _, _, rfl, .inl ⟨_, SqL.of (same_new hq _ _ ha), rfl⟩, _, rfl, by omega, by omega, for_range (fun i σ H' => ∃ (v2 v3 : Option V) (st : List Int), σ = [some (.ref a), some (.ref q), v2, v3] ∧ H' q = some (.lst (lay st)) ∧ Same H H' ∧ lookI st i ((xs.map toI).drop i) = lookI [] 0 (xs.map toI) ∧ st.length ≤ i)
        ⟨none, none, [], rfl, upd_same, same_new hq, rfl, Nat.le_refl _⟩ ?_ ?_⟩
      · rintro i σ H1 hi ⟨v2, v3, st, rfl, hlq, s1, he, hst⟩
        rw [Int.toNat_natCast] at hi
        obtain ⟨x, hx⟩ : ∃ x, xs[i]? = some x := ⟨_, List.getElem?_eq_getElem hi⟩
        have hxt : (xs.map toI)[i]? = some (toI x) := by rw [List.getElem?_map, hx]; rfl
        rw [drop_cons hxt] at he
        have ht2 := (hth x (List.mem_of_getElem? hx)).mono s1
        refine ⟨_, rfl, _, rfl, a, _, _, _, rfl, rfl, SqL.of (s1 _ _ ha), by rw [Int.zero_add]; exact atI_n hx, ?_⟩
        have out : ∀ H3, Same H H3 → lookI st i (toI x :: List.drop (i + 1) (xs.map toI)) = some i → Q (.int (0 + (i : Nat))) H3 := fun H3 s3 hl => by
          have := k H3 s3
          rw [← he, hl] at this
          rw [Int.zero_add]
          exact this
        refine ⟨_, rfl, x, rfl, .inl ht2, _, rfl, ?_⟩
        rcases ht2 with ⟨e, rfl⟩ | ho
        · refine iteF ⟨_, rfl, _, rfl, rfl, _, rfl, ?_⟩
          have body : ∀ H3 st', Same H H3 → H3 q = some (.lst (lay st')) → st'.takeWhile (· != e) = [] → st'.dropWhile (· != e) = st.dropWhile (· != e) → st'.length ≤ st.length → (st.dropWhile (· != e) ≠ [] ∨ e = -1) →
              (H3 q = some (.lst (lay st')) ∧ (lay st').length < sizeLine ∧ ∃ (v2 v3 : Option V) (st2 : List Int), [some (V.ref a), some (.ref q), some (.int (0 + (i : Nat))), some (.int e)] = [some (V.ref a), some (.ref q), v2, v3] ∧
                (upd H3 q (.lst (lay st' ++ [V.int (0 + (i : Nat))]))) q = some (.lst (lay st2)) ∧ Same H (upd H3 q (.lst (lay st' ++ [V.int (0 + (i : Nat))]))) ∧ lookI st2 (i + 1) ((xs.map toI).drop (i + 1)) = lookI [] 0 (xs.map toI) ∧ st2.length ≤ i + 1) := fun H3 st' s3 hl3 h1 h2 h3 h4 => by
            have hdw : st'.dropWhile (· != e) = st' := by
              have := List.takeWhile_append_dropWhile (p := (· != e)) (l := st')
              rw [h1] at this
              exact this
            refine ⟨hl3, sz2 (by rw [lay_len]; omega), _, _, (i : Int) :: st', rfl, by rw [upd_same, lay_cons, Int.zero_add], sM s3 hq, ?_, by simp only [List.length_cons]; omega⟩
            rw [← he]
            simp only [lookI, toI]
            rw [if_neg (show i ≠ 4000 by omega), if_neg (fun z => by
              rcases h4 with h4 | h4
              · exact h4 z.1
              · exact z.2 h4), ← h2, hdw]
          by_cases h : e = -1
          · have hcond : st.dropWhile (· != e) ≠ [] ∨ e = -1 := .inr h
            refine ite_n (ndec_i _ _) (fun z => absurd h z) (fun _ => iteF ?_)
            refine ⟨fun m σ H' => ∃ (st' : List Int), m = st'.length ∧ σ = [some (.ref a), some (.ref q), some (.int (0 + (i : Nat))), some (.int e)] ∧ H' q = some (.lst (lay st')) ∧ Same H H' ∧ st'.dropWhile (· != e) = st.dropWhile (· != e) ∧ st'.length ≤ st.length,
              ⟨_, st, rfl, rfl, hlq, s1, rfl, Nat.le_refl _⟩, ?_⟩
            rintro m σ H2 ⟨st', rfl, rfl, hlq2, s3, hd2, hd3⟩
            cases st' with
            | nil =>
              refine ⟨_, rfl, (by show 0 ≤ sizeLine; decide), fun n hn => ne_same (xs := lay []) (SqL.of (same_new hn _ _ hlq2)) (SqL.of upd_same) (lay_ok _) ⟨_, rfl, iteF (iteF ?_)⟩⟩
              have s4 := same_new (o := .lst []) hn
              obtain ⟨b1, b2, b3⟩ := body _ [] (s3.trans s4) (s4 _ _ hlq2) rfl hd2 hd3 hcond
              exact ⟨_, rfl, .inl ⟨rfl, _, SqL.of b1⟩, _, rfl, q, _, _, rfl, rfl, b1, b2, b3⟩
            | cons x r =>
              refine ⟨_, rfl, (by show 0 ≤ sizeLine; decide), fun n hn => ne_diff (xs := lay (x :: r)) (SqL.of (same_new hn _ _ hlq2)) (SqL.of upd_same) (lay_ok _) rfl lay_nb (by simp [lay]) ⟨_, rfl, iteT ?_⟩⟩
              have s4 := same_new (o := .lst []) hn
              have hlq3 := s4 _ _ hlq2
              refine ⟨_, rfl, _, rfl, q, _, _, V.int x, rfl, rfl, SqL.of hlq3, by rw [lay_cons]; exact atI_last _ _, _, rfl, rfl, _, rfl, ite_n (ndec_i x e) (fun hxe => ?_) (fun hxe => ?_)⟩
              · have hp1 : (x != e) = true := by simpa using hxe
                refine ⟨_, fun σ' H' z => z, ?_⟩
                refine ⟨_, rfl, .inl ⟨rfl, _, SqL.of hlq3⟩, q, _, V.int x, rfl, rfl, hlq3, by rw [lay_cons]; exact pop_at _ _, ?_⟩
                rw [lay_cons, List.dropLast_concat]
                refine ⟨r.length, by simp, r, rfl, rfl, upd_same, sM (s3.trans s4) hq, ?_, ?_⟩
                · rw [← hd2, List.dropWhile_cons_of_pos (p := fun y => y != e) hp1]
                · simp only [List.length_cons] at hd3; omega
              · obtain ⟨b1, b2, b3⟩ := body _ (x :: r) (s3.trans s4) hlq3 (List.takeWhile_cons_of_neg (by simpa using hxe)) hd2 hd3 hcond
                exact ⟨_, rfl, .inl ⟨rfl, _, SqL.of b1⟩, _, rfl, q, _, _, rfl, rfl, b1, b2, b3⟩
          · refine ite_n (ndec_i _ _) (fun _ => ?_) (fun z => absurd z h)
            refine ⟨_, rfl, _, rfl, q, _, rfl, .inl (SqL.of hlq), rfl, lay_flat _, _, rfl, ite_n (p := e ∈ st) (by rw [if_pos rfl, inV_lay]) (fun hm => ?_) (fun hm => ?_)⟩
            · refine ⟨_, rfl, out _ s1 ?_⟩
              simp only [lookI, toI]
              rw [if_neg (show i ≠ 4000 by omega), if_pos ⟨drop_mem.mpr hm, h⟩]
            have hcond : st.dropWhile (· != e) ≠ [] ∨ e = -1 := .inl fun z => drop_mem.mp z hm
            refine ⟨fun m σ H' => ∃ (st' : List Int), m = st'.length ∧ σ = [some (.ref a), some (.ref q), some (.int (0 + (i : Nat))), some (.int e)] ∧ H' q = some (.lst (lay st')) ∧ Same H H' ∧ st'.dropWhile (· != e) = st.dropWhile (· != e) ∧ st'.length ≤ st.length,
              ⟨_, st, rfl, rfl, hlq, s1, rfl, Nat.le_refl _⟩, ?_⟩
            rintro m σ H2 ⟨st', rfl, rfl, hlq2, s3, hd2, hd3⟩
            cases st' with
            | nil =>
              refine ⟨_, rfl, (by show 0 ≤ sizeLine; decide), fun n hn => ne_same (xs := lay []) (SqL.of (same_new hn _ _ hlq2)) (SqL.of upd_same) (lay_ok _) ⟨_, rfl, iteF (iteF ?_)⟩⟩
              have s4 := same_new (o := .lst []) hn
              obtain ⟨b1, b2, b3⟩ := body _ [] (s3.trans s4) (s4 _ _ hlq2) rfl hd2 hd3 hcond
              exact ⟨_, rfl, .inl ⟨rfl, _, SqL.of b1⟩, _, rfl, q, _, _, rfl, rfl, b1, b2, b3⟩
            | cons x r =>
              refine ⟨_, rfl, (by show 0 ≤ sizeLine; decide), fun n hn => ne_diff (xs := lay (x :: r)) (SqL.of (same_new hn _ _ hlq2)) (SqL.of upd_same) (lay_ok _) rfl lay_nb (by simp [lay]) ⟨_, rfl, iteT ?_⟩⟩
              have s4 := same_new (o := .lst []) hn
              have hlq3 := s4 _ _ hlq2
              refine ⟨_, rfl, _, rfl, q, _, _, V.int x, rfl, rfl, SqL.of hlq3, by rw [lay_cons]; exact atI_last _ _, _, rfl, rfl, _, rfl, ite_n (ndec_i x e) (fun hxe => ?_) (fun hxe => ?_)⟩
              · have hp1 : (x != e) = true := by simpa using hxe
                refine ⟨_, fun σ' H' z => z, ?_⟩
                refine ⟨_, rfl, .inl ⟨rfl, _, SqL.of hlq3⟩, q, _, V.int x, rfl, rfl, hlq3, by rw [lay_cons]; exact pop_at _ _, ?_⟩
                rw [lay_cons, List.dropLast_concat]
                refine ⟨r.length, by simp, r, rfl, rfl, upd_same, sM (s3.trans s4) hq, ?_, ?_⟩
                · rw [← hd2, List.dropWhile_cons_of_pos (p := fun y => y != e) hp1]
                · simp only [List.length_cons] at hd3; omega
              · obtain ⟨b1, b2, b3⟩ := body _ (x :: r) (s3.trans s4) hlq3 (List.takeWhile_cons_of_neg (by simpa using hxe)) hd2 hd3 hcond
                exact ⟨_, rfl, .inl ⟨rfl, _, SqL.of b1⟩, _, rfl, q, _, _, rfl, rfl, b1, b2, b3⟩
        · rw [wholeB_odd ho]
          rw [toI_odd ho] at out
          exact iteT (iteT ⟨_, rfl, out _ s1 rfl⟩)
      · rintro σ H1 ⟨v2, v3, st, rfl, hlq, s1, he, hst⟩
        rw [Int.toNat_natCast, List.drop_of_length_le (by rw [List.length_map]; exact Nat.le_refl _)] at he
        have := k H1 s1
        rw [← he] at this
        exact this
def DueCase (K : PySem.W.Frag) (H : Hp) (many c : Nat) (k pl el : V) (R : ErrK → Prop) (G : Prop) : Prop :=
  (k ≠ .non ∧ Thing H k ∧ knotB k many = false ∧ R .knot) ∨ ((k = .non ∨ (k ≠ .non ∧ Thing H k ∧ knotB k many = true)) ∧ Thing H pl ∧ ((placeB pl c = false ∧ R .graft) ∨ (placeB pl c = true ∧
    ((NoList K H el ∧ R (.wood 0)) ∨ ∃ a xs, el = .ref a ∧ H a = some (.lst xs) ∧ (∀ y ∈ xs, Thing H y) ∧ xs.length ≤ 1000 ∧ ((∃ z : Nat, lookI [] 0 (xs.map toI) = some z ∧ R (.wood z)) ∨ (lookI [] 0 (xs.map toI) = none ∧ G))))))
def GoodOut (H : Hp) (Q : VK) : Prop := ∀ p H', Same H H' → H p = none → H' p = some (.lst [.str "good"]) → Q (.ref p) H'
def spDue (K : PySem.W.Frag) : Sp := fun vs H Q _ => ∃ (many c : Nat) (k pl el : V), vs = [.int (many : Nat), k, pl, .int (c : Nat), el] ∧ many ≤ 1000 ∧ DueCase K H many c k pl el (KindOut H Q) (GoodOut H Q)
theorem NoList.mono {H H' : Hp} {x : V} (s : Same H H') (h : NoList K H x) : NoList K H' x := by
  obtain ⟨t, h1, h2⟩ := h
  exact ⟨t, fun H2 s2 => h1 H2 (s.trans s2), h2⟩
abbrev N_law_due : List Str := ["_law_many", "_law_k", "_law_place", "_law_children", "_law_elders"]
theorem sc_law_due : FnScope N_law_due ["_law_many", "_law_k", "_law_place", "_law_children", "_law_elders"] (defScope s_law_due) := ⟨rfl, rfl, rfl, by decide +kernel, rfl, by decide +kernel, by decide +kernel⟩
theorem ok_law_due {f : Addr} {fd : FuncData} (F : D0 K "_law_due" "_law_due" s_law_due f fd) (Z : Txt K mg) (c_law_whole : Cal P w K mg base 1 "_law_whole" ["_law_found"] spWhole) (c_law_fault : Cal P w K mg base 2 "_law_fault" ["_law_elders"] (spFault K)) :
    FnOk P w K mg base (L2.CX P w) 3 f fd ["_law_many", "_law_k", "_law_place", "_law_children", "_law_elders"] (spDue K) := by
  refine F.ok sc_law_due (fun vs H Q E h => ?_) (fun cdv A outer s H vs Q E hr h => ?_)
  · obtain ⟨many, c, k, pl, el, rfl, _⟩ := h
    rfl
  · obtain ⟨many, c, k, pl, el, rfl, hmany, hc⟩ := h
    refine ⟨_, (C8.pss_cut (ps_if (PW.pt (pw_and (pt_cmpR op_notN (pv 1) pe_non (nomark _)) (pw_and1 (PW.pt (pw_or (pt_not (pt_val (pe_c c_law_whole hr (takes_of rfl rfl rfl rfl) (pa_cons (pv 1) pa_nil)))) (pw_or1 (pt_not (pt_chain op_le op_lt pe_int (pv 1) (pv 0))))))))) (pss_one (ps_ret (pe_lst (pa_cons pe_str pa_nil))))
        pss_nil)
      (pss_cons (ps_if (PW.pt (pw_or (pt_not (pt_val (pe_c c_law_whole hr (takes_of rfl rfl rfl rfl) (pa_cons (pv 2) pa_nil)))) (pw_or1 (pt_not (pt_chain op_le op_le pe_int (pv 2) (pv 3)))))) (pss_one (ps_ret (pe_lst (pa_cons pe_str pa_nil))))
        pss_nil)
      (pss_cons (ps_if (pt_cmpR op_notN (pe_c c_law_fault hr (takes_of rfl rfl rfl rfl) (pa_cons (pv 4) pa_nil)) pe_non (nomark _)) (pss_one (ps_ret (pe_lst (pa_cons pe_str (pa_cons (pe_c c_law_fault hr (takes_of rfl rfl rfl rfl) (pa_cons (pv 4) pa_nil)) pa_nil)))))
        pss_nil)
      (pss_one (ps_ret (pe_ix ix_list (pe_lst (pa_cons (pe_lst (pa_cons pe_str pa_nil)) (pa_cons (pe_lst (pa_cons pe_str pa_nil)) pa_nil))) (pe_callTy call_int1 (by rfl) Z.f_int (by decide +kernel) (pa_cons (pe_cmpR op_gt (pe_op op_add (pv 0) (pe_callB call_len (by rfl) Z.f_len PySem.boot_len (pa_cons (pv 4) pa_nil))) pe_int (nomark _)) pa_nil)) (fun _ _ => rfl))))))), ?_⟩
    rcases hc with ⟨hkn, hk, hb, ko⟩ | ⟨hk, hpl, hc⟩
    · refine ⟨fun _ _ => False, ⟨_, rfl, rfl, _, rfl, ite_n rfl (fun _ => ?_) (fun z => absurd z hkn)⟩, fun _ _ z => z.elim⟩
      refine ⟨_, rfl, k, rfl, .inl hk, _, rfl, ?_⟩
      have out : ∀ p, H p = none → Q (.ref p) (upd H p (.lst [.str "knot"])) := fun p hp => ko p _ (same_new hp) hp upd_same
      rcases hk with ⟨i, rfl⟩ | ho
      · refine iteF ⟨_, rfl, _, _, rfl, rfl, _, rfl, ite_d rfl (fun h1 => ?_) (fun h1 => ?_)⟩
        · refine ⟨_, rfl, _, _, rfl, rfl, _, rfl, ite_n rfl (fun h2 => ⟨(by show 1 ≤ sizeLine; decide), out⟩) (fun h2 => ?_)⟩
          simp only [knotB] at hb
          rw [decide_eq_true h1, decide_eq_true h2] at hb
          cases hb
        · exact ⟨_, rfl, iteT ⟨(by show 1 ≤ sizeLine; decide), out⟩⟩
      · rw [wholeB_odd ho]
        exact iteT (iteT ⟨(by show 1 ≤ sizeLine; decide), out⟩)
    · refine ⟨fun σ H' => σ = [some (.int (many : Nat)), some k, some pl, some (.int (c : Nat)), some el] ∧ H' = H, ?_, ?_⟩
      · rcases hk with rfl | ⟨hkn, hk, hb⟩
        · exact ⟨_, rfl, rfl, _, rfl, iteF (iteF ⟨rfl, rfl⟩)⟩
        · obtain ⟨i, rfl, h1, h2⟩ : ∃ i, k = .int i ∧ 0 ≤ i ∧ i < many := by
            cases k <;> simp [knotB] at hb
            exact ⟨_, rfl, hb.1, hb.2⟩
          refine ⟨_, rfl, rfl, _, rfl, ite_n rfl (fun _ => ?_) (fun z => absurd z hkn)⟩
          refine ⟨_, rfl, _, rfl, .inl (.inl ⟨i, rfl⟩), _, rfl, iteF ?_⟩
          refine ⟨_, rfl, _, _, rfl, rfl, _, rfl, ite_d rfl (fun _ => ?_) (fun z => absurd h1 z)⟩
          exact ⟨_, rfl, _, _, rfl, rfl, _, rfl, ite_n rfl (fun z => absurd h2 z) (fun _ => ⟨rfl, rfl⟩)⟩
      · rintro σ H1 ⟨rfl, rfl⟩
        refine ⟨_, rfl, pl, rfl, .inl hpl, _, rfl, ?_⟩
        rcases hc with ⟨hb, ko⟩ | ⟨hb, he⟩
        · have out : ∀ p, H1 p = none → Q (.ref p) (upd H1 p (.lst [.str "graft"])) := fun p hp => ko p _ (same_new hp) hp upd_same
          rcases hpl with ⟨i, rfl⟩ | ho
          · refine iteF ⟨_, rfl, _, _, rfl, rfl, _, rfl, ite_d rfl (fun h1 => ?_) (fun h1 => ?_)⟩
            · refine ⟨_, rfl, _, _, rfl, rfl, _, rfl, ite_n rfl (fun h2 => ⟨(by show 1 ≤ sizeLine; decide), out⟩) (fun h2 => ?_)⟩
              simp only [placeB] at hb
              rw [decide_eq_true h1, decide_eq_true h2] at hb
              cases hb
            · exact ⟨_, rfl, iteT ⟨(by show 1 ≤ sizeLine; decide), out⟩⟩
          · rw [wholeB_odd ho]
            exact iteT (iteT ⟨(by show 1 ≤ sizeLine; decide), out⟩)
        · obtain ⟨i, rfl, h1, h2⟩ : ∃ i, pl = .int i ∧ 0 ≤ i ∧ i ≤ c := by
            cases pl <;> simp [placeB] at hb
            exact ⟨_, rfl, hb.1, hb.2⟩
          refine iteF ⟨_, rfl, _, _, rfl, rfl, _, rfl, ite_d rfl (fun _ => ?_) (fun z => absurd h1 z)⟩
          refine ⟨_, rfl, _, _, rfl, rfl, _, rfl, ite_n rfl (fun z => absurd h2 z) (fun _ => ?_)⟩
          rcases he with ⟨hn, ko⟩ | ⟨a, xs, rfl, ha, hth, hz, ⟨z, hlk, ko⟩ | ⟨hlk, kg⟩⟩
          · refine ⟨_, rfl, el, rfl, .inl ⟨hn, fun H2 s2 => ⟨rfl, _, rfl, iteT ?_⟩⟩⟩
            refine ⟨_, rfl, el, rfl, .inl ⟨hn.mono s2, fun H3 s3 => ⟨(by show 2 ≤ sizeLine; decide), fun p hp => ?_⟩⟩⟩
            exact ko p _ (sN (s2.trans s3) hp) ((s2.trans s3).free hp) upd_same
          · refine ⟨_, rfl, _, rfl, .inr ⟨a, xs, rfl, ha, hth, by omega, fun H2 s2 => ?_⟩⟩
            rw [hlk]
            refine ⟨rfl, _, rfl, iteT ?_⟩
            refine ⟨_, rfl, _, rfl, .inr ⟨a, xs, rfl, s2 _ _ ha, fun y hy => (hth y hy).mono s2, by omega, fun H3 s3 => ?_⟩⟩
            rw [hlk]
            refine ⟨(by show 2 ≤ sizeLine; decide), fun p hp => ?_⟩
            exact ko p _ (sN (s2.trans s3) hp) ((s2.trans s3).free hp) upd_same
          · refine ⟨_, rfl, _, rfl, .inr ⟨a, xs, rfl, ha, hth, by omega, fun H2 s2 => ?_⟩⟩
            rw [hlk]
            refine ⟨rfl, _, rfl, iteF ?_⟩
            refine ⟨(by show 1 ≤ sizeLine; decide), fun r0 n0 => ⟨(by show 1 ≤ sizeLine; decide), fun r1 n1 => ⟨(by show 2 ≤ sizeLine; decide), fun r2 n2 => ?_⟩⟩⟩
            have t2 := same_new (o := .lst [.ref r0, .ref r1]) n2
            have t1 := (same_new (o := .lst [.str "large"]) n1).trans t2
            have t0 := (same_new (o := .lst [.str "good"]) n0).trans t1
            have s3 := s2.trans t0
            refine ⟨_, rfl, _, rfl, _, _, rfl, .inl ⟨_, SqL.of (s3 _ _ ha), rfl⟩, _, _, rfl, rfl, _, _, rfl, rfl, .inr ⟨_, rfl, ?_⟩⟩
            refine ⟨r2, _, _, V.ref r0, rfl, rfl, SqL.of upd_same, ?_, kg r0 _ s3 (s2.free n0) (t1 _ _ upd_same)⟩
            rw [decide_eq_false (show ¬ ((many : Int) + (xs.length : Int) > 4000) by omega)]
            rfl
theorem count_filter (es : List Int) (k : Int) : (es.filter (fun x => decide (x = k))).length = es.count k := by
  rw [List.count_eq_countP, List.countP_eq_length_filter]
  congr 1
theorem row_split {es : List Int} (hok : ok es) {k : Nat} (hk : k < es.length) : ∃ (pre rest : List Bool) (n : Nat), row es = pre ++ true :: rest ∧ ones pre = k ∧ cl 1 rest = some n ∧ tops 0 (rest.take n) = es.count (k : Int) := by
  have ho : ones (row es) = es.length := row_ones es [] 0
  obtain ⟨pre, rest, e, o⟩ := knot_at (row es) k (by omega)
  have hb := row_bal es
  rw [e] at hb
  obtain ⟨n, hn⟩ := closes hb
  refine ⟨pre, rest, n, e, o, hn, ?_⟩
  rw [← kids hb hn, ← e, row_back hok, o]
def spBeyond (K : PySem.W.Frag) : Sp := fun vs H Q _ => ∃ (o q a : Addr) (es : List Int) (num : Nat), vs = [.ref o, .ref a, .int (num : Nat)] ∧ WoodAt K H o q (cutEv (row es)) ∧ H a = some (.lst (es.map V.int)) ∧ ok es ∧ es.length ≤ 1000 ∧ ∀ H', Same H H' → Q (.bl true) H'
abbrev N_law_beyond : List Str := ["_law_wood_here", "_law_elders", "_law_number", "_law_k", "_law_children", "_law_elder"]
theorem sc_law_beyond : FnScope N_law_beyond ["_law_wood_here", "_law_elders", "_law_number"] (defScope s_law_beyond) := ⟨rfl, rfl, rfl, by decide +kernel, rfl, by decide +kernel, by decide +kernel⟩
theorem ok_law_beyond {f : Addr} {fd : FuncData} (F : D0 K "_law_beyond" "_law_beyond" s_law_beyond f fd) (Z : Txt K mg) (c_law_of_none : Cal P w K mg base 4 "_law_of_none" ["_law_wood_here"] (spOfNone K)) (c_law_done : Cal P w K mg base 5 "_law_done" ["_law_wood_here", "_law_way", "_law_k", "_law_place", "_law_elders"] (spDone K)) :
    FnOk P w K mg base (L2.CX P w) 6 f fd ["_law_wood_here", "_law_elders", "_law_number"] (spBeyond K) := by
  refine F.ok sc_law_beyond (fun vs H Q E h => ?_) (fun cdv A outer s H vs Q E hr h => ?_)
  · obtain ⟨o, q, a, es, num, rfl, _⟩ := h
    rfl
  · obtain ⟨o, q, a, es, num, rfl, W0, ha, hok, hz, k⟩ := h
    refine ⟨_, (pss_cons (ps_if (pt_cmpR (op_eqD hr.units) (pv 1) (pe_lst pa_nil) (nomark _)) (pss_one (ps_ret (pe_c c_law_of_none hr (takes_of rfl rfl rfl rfl) (pa_cons (pv 0) pa_nil))))
        pss_nil)
      (pss_cons (ps_set (i := 3) sc_law_beyond.nd rfl (Or.inr rfl) (pe_op op_mod (pv 2) (pe_callB call_len (by rfl) Z.f_len PySem.boot_len (pa_cons (pv 1) pa_nil))))
      (pss_cons (ps_set (i := 4) sc_law_beyond.nd rfl (Or.inl rfl) (pe_callB call_len (by rfl) Z.f_len PySem.boot_len (pa_cons (pe_lc (own := [("_law_elder", 5)]) (g := gName 5)  rfl sc_law_beyond.nd (pi_list (pv 1)) (blkOk_by (N := N_law_beyond) (sc := defScope s_law_beyond) (by decide +kernel)) (fun _ _ _ _ _ => pg_name (i := 5) sc_law_beyond.nd rfl (Or.inl rfl)) (fun _ _ _ _ _ => pts_one (pt_cmpR op_eq (pv 5) (pv 3) (nomark _))) (fun _ _ _ _ _ => (pv 5))) pa_nil)))
      (pss_one (ps_ret (pe_cmpR (op_eqD hr.units) (pe_c c_law_done hr (takes_of rfl rfl rfl rfl) (pa_cons (pv 0) (pa_cons pe_str (pa_cons (pv 3) (pa_cons (pe_op op_add (pe_op op_add (pv 4) pe_int) (pe_op op_mod (pv 2) pe_int)) (pa_cons (pe_lst (pa_cons (pe_un un_neg pe_int) pa_nil)) pa_nil)))))) (pe_lst (pa_cons pe_str pa_nil)) (nomark _))))))), ?_⟩
    cases es with
    | nil =>
      refine ⟨_, rfl, (by show 0 ≤ sizeLine; decide), fun n hn => eq_same (xs := []) (SqL.of (same_new hn _ _ ha)) (SqL.of upd_same) rfl ⟨_, rfl, iteT ?_⟩⟩
      exact ⟨_, rfl, o, q, _, rfl, W0.mono (same_new hn), rfl, fun H' s' => k H' ((same_new hn).trans s')⟩
    | cons e0 er =>
      generalize hes : e0 :: er = es at *
      have hpos : 0 < es.length := by rw [← hes]; simp
      refine ⟨_, rfl, (by show 0 ≤ sizeLine; decide), fun n0 hn0 => eq_diff (xs := es.map V.int) (SqL.of (same_new hn0 _ _ ha)) (SqL.of upd_same) (ints_ok es) rfl (ints_nb (ms := [])) (by rw [← hes]; simp) ⟨_, rfl, iteF ?_⟩⟩
      have s0 := same_new (o := .lst []) hn0
      have ha1 := s0 _ _ ha
      refine ⟨_, rfl, _, rfl, _, _, rfl, .inl ⟨_, SqL.of ha1, rfl⟩, _, _, rfl, rfl, (by rw [List.length_map]; omega), ?_⟩
      have ek : ((num : Nat) : Int) % ((es.map V.int).length : Nat) = ((num % es.length : Nat) : Int) := by rw [List.length_map]; exact (Int.natCast_emod _ _).symm
      dsimp only
      rw [ek]
      have hk := Nat.mod_lt num hpos
      generalize num % es.length = kk at hk
      obtain ⟨pre, rest, n, e1, e2, e3, e4⟩ := row_split hok hk
      refine ⟨_, rfl, a, rfl, ⟨_, SqL.of ha1⟩, fun D hD => lc_list (xs := es.map V.int) (fun i H' => H' D = some (.lst (((es.take i).filter (fun x => decide (x = (kk : Int)))).map V.int)) ∧ Same (upd H n0 (.lst [])) H') ⟨upd_same, same_new hD⟩ (fun i H' _ ⟨_, s⟩ => SqL.of (s _ _ ha1)) (fun i x H' hx ⟨hl, s⟩ => ?_) (fun H' ⟨hl, s⟩ => ?_)⟩
      · obtain ⟨e, he, rfl⟩ := map_at hx
        have hi := (List.getElem?_eq_some_iff.mp he).1
        have ht : (es.take (i + 1)).filter (fun x => decide (x = (kk : Int))) = (es.take i).filter (fun x => decide (x = (kk : Int))) ++ (if e = (kk : Int) then [e] else []) := by
          rw [take_more he, List.filter_append]
          by_cases q : e = (kk : Int) <;> simp [q]
        refine ⟨rfl, _, rfl, _, rfl, rfl, _, rfl, ite_d (dec_i _ _) (fun h => ?_) (fun h => ?_)⟩
        · refine ⟨_, rfl, _, hl, sz2 ?_, ?_, sM s hD⟩
          · have h1 := List.length_filter_le (fun x => decide (x = (kk : Int))) (es.take i)
            rw [List.length_take] at h1
            rw [List.length_map]
            omega
          · rw [upd_same, ht, if_pos h, List.map_append]; rfl
        · refine ⟨?_, s⟩
          rw [ht, if_neg h, List.append_nil]
          exact hl
      · rw [List.length_map, List.take_length] at hl
        have s1 := s0.trans s
        refine ⟨_, _, rfl, .inl ⟨_, SqL.of hl, rfl⟩, ?_⟩
        rw [List.length_map, count_filter]
        refine ⟨_, rfl, _, rfl, _, rfl, _, _, rfl, rfl, _, rfl, _, _, rfl, rfl, (by show (0 : Int) < _; decide), _, _, rfl, rfl, _, rfl, (by show 1 ≤ sizeLine; decide), fun el hel => ?_⟩
        have s2 := sN (o := .lst [.int (-1)]) s1 hel
        refine ⟨o, q, _, _, _, _, _, rfl, W0.mono s2, .inr (.inr ⟨rfl, .inr ⟨es.count (kk : Int), .inr ⟨pre, rest, n, by rw [e2], by rw [cutEv_flat]; exact e1, e3, e4.symm⟩, .inl ⟨_, rfl⟩, .inl ⟨?_, fun p H2 s3 hp hlp => ?_⟩⟩⟩)⟩
        · simp only [placeB]
          rw [decide_eq_false (show ¬ ((es.count (kk : Int) : Nat) + (1 : Int) + ((num : Nat) : Int) % 3 ≤ (es.count (kk : Int) : Nat)) by omega), Bool.and_false]
        · refine ⟨(by show 1 ≤ sizeLine; decide), fun n2 hn2 => eq_same (xs := kindV .graft) (SqL.of (same_new hn2 _ _ hlp)) (SqL.of upd_same) (by decide +kernel) ?_⟩
          exact k _ (sN (s2.trans s3) hn2)
end
end Tw
namespace Tw
def up : Nat → Nat → List Int
  | _, 0 => []
  | c, m + 1 => (c : Int) :: up (c + 1) m
theorem up_range : ∀ (m c : Nat), up c m = (List.range m).map fun i => ((c + i : Nat) : Int)
  | 0, _ => rfl
  | m + 1, c => by
    rw [List.range_succ_eq_map, List.map_cons, List.map_map]
    simp only [up, up_range m (c + 1)]
    congr 1
    apply List.map_congr_left
    intro i _
    simp only [Function.comp]
    omega
theorem up_length (c m : Nat) : (up c m).length = m := by rw [up_range]; simp
theorem up_ok : ∀ (m c : Nat) (s : List Int), okGo ((c : Int) :: s) (c + 1) (up c m)
  | 0, _, _ => trivial
  | m + 1, c, s => by
    simp only [up, okGo]
    rw [List.dropWhile_cons_of_neg (by simp)]
    exact ⟨.inl (fun z => nomatch z), up_ok m (c + 1) _⟩
theorem up_row : ∀ (m c : Nat) (s : List Int), rowGo ((c : Int) :: s) (c + 1) (up c m) = List.replicate m true ++ List.replicate (m + 1 + s.length) false
  | 0, c, s => by
    simp only [up, rowGo, List.length_cons, List.replicate_zero, List.nil_append]
    congr 1
    omega
  | m + 1, c, s => by
    simp only [up, rowGo]
    rw [List.dropWhile_cons_of_neg (by simp), List.takeWhile_cons_of_neg (by simp)]
    have := up_row m (c + 1) ((c : Int) :: s)
    rw [show ((c + 1 : Nat) : Int) = (c : Int) + 1 from rfl] at this
    rw [List.length_nil, List.replicate_zero, List.nil_append, List.replicate_succ, List.cons_append]
    congr 1
    rw [show ((c + 1 : Nat) : Int) = (c : Int) + 1 from rfl, this, List.length_cons]
    congr 2
    omega
def chainE : List Int := -1 :: up 0 3959
theorem chain_length : chainE.length = 3960 := by unfold chainE; rw [List.length_cons, up_length]
theorem chain_ok : ok chainE := by
  unfold ok chainE
  exact ⟨.inr rfl, up_ok 3959 0 []⟩
def chainB : List Bool := List.replicate 3960 true ++ List.replicate 3960 false
theorem chain_row : row chainE = chainB := by
  unfold row chainE chainB
  simp only [rowGo]
  have := up_row 3959 0 []
  rw [show List.dropWhile (fun x => x != (-1 : Int)) [] = [] from rfl, show List.takeWhile (fun x => x != (-1 : Int)) [] = [] from rfl, List.length_nil, List.replicate_zero, List.nil_append]
  rw [show ((0 : Nat) : Int) = 0 from rfl] at this
  rw [show ((0 : Nat) : Int) = 0 from rfl, this, List.length_nil, ← List.cons_append, ← List.replicate_succ]
def advL : List Nat → Nat → Nat
  | [], _ => 0
  | p :: r, low => if p ≤ low then advL r (low - p) + 1 else 0
def behL : List Nat → Nat → Nat
  | [], _ => 0
  | p :: r, d => if 0 < d then behL r (d - p) + 1 else 0
def cutL (n : Nat) : List Nat := (List.range (manyP n)).map fun k => n * (k + 1) / manyP n - n * k / manyP n
def putL (ls : List Nat) (low high tx : Nat) : List Nat :=
  let a := advL ls low
  let b := a + behL (ls.drop a) (high - (ls.take a).sum)
  let amid := ((ls.drop (a - 2)).take (b + 2 - (a - 2))).sum
  ls.take (a - 2) ++ cutL (min (low - (ls.take (a - 2)).sum) amid + tx + (amid - (high - (ls.take (a - 2)).sum))) ++ ls.drop (b + 2)
theorem adv_L (ps : List (List Bool)) (low : Nat) : adv ps low = advL (ps.map List.length) low := by
  induction ps generalizing low with
  | nil => rfl
  | cons p r ih => simp only [adv, advL, List.map_cons, ih]
theorem beh_L (ps : List (List Bool)) (d : Nat) : beh ps d = behL (ps.map List.length) d := by
  induction ps generalizing d with
  | nil => rfl
  | cons p r ih => simp only [beh, behL, List.map_cons, ih]
theorem cut_L (bs : List Bool) : (cutEv bs).map List.length = cutL bs.length := by
  unfold cutEv cutL
  rw [List.map_map]
  apply List.map_congr_left
  intro k hk
  have hk' := List.mem_range.mp hk
  simp only [Function.comp]
  rw [List.length_take, List.length_drop]
  have h1 : bs.length * (k + 1) / manyP bs.length ≤ bs.length := by
    rw [Nat.div_le_iff_le_mul_add_pred (by omega)]
    have : bs.length * (k + 1) ≤ bs.length * manyP bs.length := Nat.mul_le_mul_left _ (by omega)
    rw [Nat.mul_comm (manyP bs.length)]
    omega
  omega
theorem len_L (ps : List (List Bool)) (k : Nat) : len ps k = ((ps.map List.length).take k).sum := by
  unfold len
  rw [List.length_flatten, List.map_take]
theorem put_L (ps : List (List Bool)) (low high : Nat) (tx : List Bool) : (putFor ps low high tx).map List.length = putL (ps.map List.length) low high tx.length := by
  unfold putFor putL
  dsimp only
  rw [adv_L, beh_L, len_L, len_L, List.map_append, List.map_append, cut_L, List.map_take, List.map_drop, List.map_drop, List.length_append, List.length_append, List.length_take, List.length_drop, List.length_flatten, List.map_take, List.map_drop]
def okL (ls : List Nat) : Bool := ls.all (fun p => decide (0 < p) && decide (p < 129)) && (List.range (ls.length - 1)).all fun i => decide (64 < ls.getD i 0 + ls.getD (i + 1) 0)
theorem chain_lens : okL (putL (cutL 7920) 3960 3960 80) = true := by decide +kernel
def tops40 : List Bool := (List.replicate 40 [true, false]).flatten
theorem row40 : row (List.replicate 40 (-1)) = tops40 := by decide +kernel
theorem chain_put_lens : okL ((putFor (cutEv (row chainE)) 3960 3960 (row (List.replicate 40 (-1)))).map List.length) = true := by
  rw [put_L, cut_L, chain_row, row40]
  rw [show chainB.length = 7920 by unfold chainB; rw [List.length_append, List.length_replicate, List.length_replicate], show tops40.length = 80 by decide +kernel]
  exact chain_lens
theorem chain_put_len : (putFor (cutEv (row chainE)) 3960 3960 (row (List.replicate 40 (-1)))).length = 63 := by
  have := congrArg List.length (put_L (cutEv (row chainE)) 3960 3960 (row (List.replicate 40 (-1))))
  rw [List.length_map] at this
  rw [this, cut_L, chain_row, row40]
  rw [show chainB.length = 7920 by unfold chainB; rw [List.length_append, List.length_replicate, List.length_replicate], show tops40.length = 80 by decide +kernel]
  decide +kernel
theorem chain_flat : (putFor (cutEv (row chainE)) 3960 3960 (row (List.replicate 40 (-1)))).flatten = List.replicate 3960 true ++ tops40 ++ List.replicate 3960 false := by
  rw [flat_putFor _ _ _ _ (Nat.le_refl _) (by rw [cutEv_flat, chain_row]; unfold chainB; rw [List.length_append, List.length_replicate, List.length_replicate]; omega), cutEv_flat, chain_row, row40]
  unfold chainB
  rw [List.take_append_of_le_length (by simp), List.drop_append_of_le_length (by simp), List.take_of_length_le (by simp), List.drop_of_length_le (by simp), List.nil_append]
theorem chain_cut_len : (cutEv (row chainE)).length = 62 := by
  rw [chain_row]
  unfold cutEv
  rw [List.length_map, List.length_range]
  rw [show chainB.length = 7920 by unfold chainB; rw [List.length_append, List.length_replicate, List.length_replicate]]
  rfl
theorem ones_rep (n : Nat) : ones (List.replicate n true) = n := by
  induction n with
  | zero => rfl
  | succ n ih => rw [List.replicate_succ]; simp [ones, ih]; omega
theorem chain_ones : ones (cutEv (row chainE)).flatten = 3960 := by
  rw [cutEv_flat]; unfold row; rw [row_ones, chain_length]
end Tw
namespace Tw
open PySem PySem.Spec PyProof.Rows L2
theorem okL_one {ps : List (List Bool)} (h : okL (ps.map List.length) = true) {i : Nat} {p : List Bool} (hp : ps[i]? = some p) : 0 < p.length ∧ p.length < 129 := by
  unfold okL at h
  rw [Bool.and_eq_true] at h
  have h1 := List.all_eq_true.mp h.1 p.length (List.mem_map.mpr ⟨p, List.mem_of_getElem? hp, rfl⟩)
  simpa using h1
theorem okL_two {ps : List (List Bool)} (h : okL (ps.map List.length) = true) {i : Nat} {p p' : List Bool} (hp : ps[i]? = some p) (hp' : ps[i + 1]? = some p') : 64 < p.length + p'.length := by
  unfold okL at h
  rw [Bool.and_eq_true] at h
  have hi := (List.getElem?_eq_some_iff.mp hp').1
  have h1 := List.all_eq_true.mp h.2 i (List.mem_range.mpr (by rw [List.length_map]; omega))
  rw [decide_eq_true_iff] at h1
  simpa [List.getD_eq_getElem?_getD, hp, hp'] using h1
theorem map_int_inj : ∀ {xs ys : List Int}, xs.map V.int = ys.map V.int → xs = ys
  | [], [], _ => rfl
  | [], _ :: _, h => by cases h
  | _ :: _, [], h => by cases h
  | x :: xs, y :: ys, h => by
    simp only [List.map_cons, List.cons.injEq] at h
    rw [V.int.inj h.1, map_int_inj h.2]
theorem rep_ints (m : Nat) : (List.replicate m [V.int (-1)]).flatten = (List.replicate m (-1 : Int)).map V.int := by simp
theorem rep_look (m : Nat) : lookI [] 0 (((List.replicate m (-1 : Int)).map V.int).map toI) = if 4000 < m then some 4000 else none := by
  rw [ints_toI, List.map_replicate]
  have := lookI_tops m [] 0 (by omega)
  rw [Nat.zero_add] at this
  exact this
theorem rep_thing {H : Hp} (m : Nat) : ∀ y ∈ (List.replicate m (-1 : Int)).map V.int, Thing H y := fun y hy => by
  obtain ⟨i, _, rfl⟩ := List.mem_map.mp hy
  exact .inl ⟨i, rfl⟩
theorem kidsC : KidsOf (cutEv (row chainE)) (.int 3959) 0 :=
  .inr ⟨List.replicate 3959 true, List.replicate 3960 false, 0, by rw [ones_rep]; rfl, by rw [cutEv_flat, chain_row]; unfold chainB; rw [show List.replicate 3960 true = List.replicate 3959 true ++ [true] by rw [← List.replicate_succ'], List.append_assoc]; rfl, rfl, rfl⟩
theorem chain_ones2 : ones (putFor (cutEv (row chainE)) 3960 3960 (row (List.replicate 40 (-1)))).flatten = 4000 := by
  rw [chain_flat, ones_app, ones_app, ones_rep, ones_falses, show ones tops40 = 40 by decide +kernel]
theorem chain_xs : [V.int (-1)] ++ rgV 0 3959 = chainE.map V.int := by
  unfold chainE rgV
  rw [List.map_cons, up_range, List.map_map]
  show V.int (-1) :: _ = _
  congr 1
theorem upd_nn {H : Hp} {b q : Addr} {o : HO} (h : upd H b o q = none) : q ≠ b ∧ H q = none := by
  have n : q ≠ b := fun z => by subst z; rw [upd_same] at h; cases h
  exact ⟨n, by rw [upd_ne n] at h; exact h⟩
section
variable {P : Program} {w : World} {K : PySem.W.Frag} {mg : Str → Option Value} {base : Heap}
def spChain (K : PySem.W.Frag) : Sp := fun vs H Q _ => ∃ (a : Addr) (ns : List Int), vs = [.ref a] ∧ SqL K H a (ns.map V.int) ∧ ∀ H', Same H H' → Q (.bl true) H'
abbrev N_law_chain : List Str := ["_law_script", "_law_wood_here", "_law_k", "_law_many", "_law_parts", "_law_one"]
theorem sc_law_chain : FnScope N_law_chain ["_law_script"] (defScope s_law_chain) := ⟨rfl, rfl, rfl, by decide +kernel, rfl, by decide +kernel, by decide +kernel⟩
theorem ok_law_chain {f : Addr} {fd : FuncData} (F : D0 K "_law_chain" "_law_chain" s_law_chain f fd) (Z : Txt K mg) (k_Shaped : Mkr P w K mg base 4 "Shaped" (He.ga K "Shaped") ["self", "elders"] (spShapedI K)) (c_law_cell_at : Cal P w K mg base 1 "_law_cell_at" ["_law_script", "_law_k"] (spCell K))
    (c_law_done : Cal P w K mg base 5 "_law_done" ["_law_wood_here", "_law_way", "_law_k", "_law_place", "_law_elders"] (spDone K)) (m_Shaped_many_knots : Mtd P w K mg base 1 (He.ga K "Shaped") "many_knots" ["self"] (spMany K)) (m_Shaped_pieces : Mtd P w K mg base 1 (He.ga K "Shaped") "pieces" ["self"] (spPieces K))
    (c_law_no_wood : Cal P w K mg base 6 "_law_no_wood" ["_law_elders"] (spNoWood K)) :
    FnOk P w K mg base (L2.CX P w) 7 f fd ["_law_script"] (spChain K) := by
  refine F.ok sc_law_chain (fun vs H Q E h => ?_) (fun cdv A outer s H vs Q E hr h => ?_)
  · obtain ⟨a, ns, rfl, _⟩ := h
    rfl
  · obtain ⟨a, ns, rfl, hS, k⟩ := h
    refine ⟨_, (pss_cons (ps_set (i := 1) sc_law_chain.nd rfl (Or.inl rfl) (pe_k k_Shaped hr (takes_of rfl rfl rfl rfl) (pa_cons (pe_op op_cat (pe_lst (pa_cons (pe_un un_neg pe_int) pa_nil)) (pe_listRg rfl (by rfl) Z.f_list (prg_1 (by rfl) Z.f_range pe_int))) pa_nil)))
      (pss_cons (ps_for (passes_of rfl) rfl (pi_range1 (by rfl) Z.f_range (pa_cons pe_int pa_nil)) (pg_name (i := 2) sc_law_chain.nd rfl (Or.inl rfl))
        (pss_cons (ps_set (i := 3) sc_law_chain.nd rfl (Or.inl rfl) (pe_op op_add pe_int (pe_op op_mod (pe_op op_add (pe_c c_law_cell_at hr (takes_of rfl rfl rfl rfl) (pa_cons (pv 0) (pa_cons (pe_op op_add pe_int (pv 2)) pa_nil))) (pv 2)) pe_int)))
        (pss_cons (ps_if (PW.pt (pw_or (pt_cmpR (op_neD hr.units) (pe_c c_law_done hr (takes_of rfl rfl rfl rfl) (pa_cons (pv 1) (pa_cons pe_str (pa_cons pe_int (pa_cons pe_int (pa_cons (pe_op op_rep (pe_lst (pa_cons (pe_un un_neg pe_int) pa_nil)) (pv 3)) pa_nil)))))) (pe_lst (pa_cons pe_str pa_nil)) (nomark _)) (pw_or1 (pt_cmpR op_ne (pe_m0 m_Shaped_many_knots Z.c_Shaped hr (takes_of rfl rfl rfl rfl) (pv 1)) pe_int (nomark _))))) (pss_one (ps_ret pe_bl))
          pss_nil)
        (pss_one (ps_if (pt_cmpR (op_neD hr.units) (pe_c c_law_done hr (takes_of rfl rfl rfl rfl) (pa_cons (pv 1) (pa_cons pe_str (pa_cons pe_int (pa_cons pe_int (pa_cons (pe_op op_rep (pe_lst (pa_cons (pe_un un_neg pe_int) pa_nil)) (pv 3)) pa_nil)))))) (pe_lst (pa_cons pe_str pa_nil)) (nomark _)) (pss_one (ps_ret pe_bl))
          pss_nil)))))
      (pss_cons (ps_if (pt_cmpR (op_neD hr.units) (pe_c c_law_done hr (takes_of rfl rfl rfl rfl) (pa_cons (pv 1) (pa_cons pe_str (pa_cons pe_non (pa_cons pe_non (pa_cons pe_non pa_nil)))))) (pe_lst (pa_cons pe_str pa_nil)) (nomark _)) (pss_one (ps_ret pe_bl))
        pss_nil)
      (pss_cons (ps_if (PW.pt (pw_or (pt_cmpR (op_neD hr.units) (pe_c c_law_done hr (takes_of rfl rfl rfl rfl) (pa_cons (pv 1) (pa_cons pe_str (pa_cons pe_int (pa_cons pe_int (pa_cons (pe_op op_rep (pe_lst (pa_cons (pe_un un_neg pe_int) pa_nil)) pe_int) pa_nil)))))) (pe_lst (pa_cons pe_str pa_nil)) (nomark _)) (pw_or1 (pt_cmpR op_ne (pe_m0 m_Shaped_many_knots Z.c_Shaped hr (takes_of rfl rfl rfl rfl) (pv 1)) pe_int (nomark _))))) (pss_one (ps_ret pe_bl))
        pss_nil)
      (pss_cons (ps_set (i := 4) sc_law_chain.nd rfl (Or.inr rfl) (pe_m0 m_Shaped_pieces Z.c_Shaped hr (takes_of rfl rfl rfl rfl) (pv 1)))
      (pss_cons (ps_if (PW.pt (pw_or (pt_cmpR op_ne (pe_join pe_str (pv 4)) (pe_op op_add_str (pe_op op_add_str (pe_op op_mul_str pe_str pe_int) (pe_op op_mul_str pe_str pe_int)) (pe_op op_mul_str pe_str pe_int)) (nomark _)) (pw_or1 (pt_cmpR (op_neD hr.units) (pe_lc (own := [("_law_one", 5)]) (g := gName 5) (tt := tNot (tTest (tChain (rI0 fun i j => V.bl (decide (i < j))) (rI0 fun i j => V.bl (decide (i < j))) (tC (.int 0)) (tCB (fun xs H Q => ∃ x n, xs = [x] ∧ LenV K x H n ∧ Q (.int n) H) (tCons (tVar 5) tNil)) (tC (.int 129))))) rfl sc_law_chain.nd (pi_list (pv 4)) (blkOk_by (N := N_law_chain) (sc := defScope s_law_chain) (by decide +kernel)) (fun _ _ _ _ _ => pg_name (i := 5) sc_law_chain.nd rfl (Or.inl rfl)) (fun _ _ _ _ _ => pts_one (pt_not (pt_chain op_lt op_lt pe_int (pe_callB call_len (by rfl) Z.f_len PySem.boot_len (pa_cons (pv 5) pa_nil)) pe_int))) (fun _ _ _ _ _ => (pv 5))) (pe_lst pa_nil) (nomark _))))) (pss_one (ps_ret pe_bl))
        pss_nil)
      (pss_cons (ps_if (pt_cmpR (op_neD hr.units) (pe_lc (own := [("_law_k", 2)]) (g := gName 2) (tt := tTest (tOp (rI0 fun i j => V.bl (decide (i ≤ j))) (tOp (rI0 fun i j => V.int (i + j)) (tCB (fun xs H Q => ∃ x n, xs = [x] ∧ LenV K x H n ∧ Q (.int n) H) (tCons (tOp (rIxL K) (tVar 4) (tOp (rI0 fun i j => V.int (i - j)) (tVar 2) (tC (.int 1)))) tNil)) (tCB (fun xs H Q => ∃ x n, xs = [x] ∧ LenV K x H n ∧ Q (.int n) H) (tCons (tOp (rIxL K) (tVar 4) (tVar 2)) tNil))) (tC (.int 64)))) rfl sc_law_chain.nd (pi_range2 (by rfl) Z.f_range (pa_cons pe_int (pa_cons (pe_callB call_len (by rfl) Z.f_len PySem.boot_len (pa_cons (pv 4) pa_nil)) pa_nil))) (blkOk_by (N := N_law_chain) (sc := defScope s_law_chain) (by decide +kernel)) (fun _ _ _ _ _ => pg_name (i := 2) sc_law_chain.nd rfl (Or.inl rfl)) (fun _ _ _ _ _ => pts_one (pt_cmpR op_le (pe_op op_add (pe_callB call_len (by rfl) Z.f_len PySem.boot_len (pa_cons (pe_ix ix_list (pv 4) (pe_op op_sub (pv 2) pe_int) (fun _ _ => rfl)) pa_nil)) (pe_callB call_len (by rfl) Z.f_len PySem.boot_len (pa_cons (pe_ix ix_list (pv 4) (pv 2) (fun _ _ => rfl)) pa_nil))) pe_int (nomark _))) (fun _ _ _ _ _ => (pv 2))) (pe_lst pa_nil) (nomark _)) (pss_one (ps_ret pe_bl))
        pss_nil)
      (pss_one (ps_ret (pe_cmpR (op_eqD hr.units) (pe_c c_law_no_wood hr (takes_of rfl rfl rfl rfl) (pa_cons (pe_op op_rep (pe_lst (pa_cons (pe_un un_neg pe_int) pa_nil)) pe_int) pa_nil)) (pe_lst (pa_cons pe_str (pa_cons pe_int pa_nil))) (nomark _))))))))))), ?_⟩
    refine ⟨_, rfl, (by show 1 ≤ sizeLine; decide), fun m1 hm1 => ⟨_, rfl, RgOk.of_le (by omega) (by omega) (by omega) (by omega), fun q1 hq1 => ?_⟩⟩
    refine ⟨m1, q1, _, _, rfl, rfl, by rw [upd_ne (ne_of_none upd_same hq1), upd_same], upd_same, sz1 (by rw [rgV_length]; simp), fun r hr0 => fun o dx ho hdx nd => ?_⟩
    have c0 := sN (o := .lst ([V.int (-1)] ++ rgV 0 3959)) (sN (o := .lst (rgV 0 3959)) (same_new (o := .lst [.int (-1)]) hm1) hq1) hr0
    have c1 := c0.trans (same_new (o := .own o) hdx)
    have ho' : H o = none := c0.free ho
    have hor : r ≠ o := ne_of_none upd_same ho
    have hdr : r ≠ dx := ne_of_none upd_same hdx
    have hxs : ([V.int (-1)] ++ rgV 0 3959).map toI = chainE.map some := by rw [chain_xs, ints_toI]
    have hnone : lookI [] 0 (chainE.map some) = none := lookI_ok _ _ _ chain_ok (by rw [chain_length]; omega)
    refine ⟨o, dx, _, rfl, upd_same, .inr ⟨r, [V.int (-1)] ++ rgV 0 3959, rfl, by rw [upd_ne hor, upd_ne hdr, upd_same], fun y hy => ?_, by rw [chain_xs, List.length_map, chain_length]; omega, (fun z hz => by rw [hxs, hnone] at hz; cases hz), fun es hes hn hle q H1 sx hq hql W => ⟨rfl, ?_⟩⟩⟩
    · rw [chain_xs] at hy
      obtain ⟨i, _, rfl⟩ := List.mem_map.mp hy
      exact .inl ⟨i, rfl⟩
    rw [chain_xs] at hes
    obtain rfl := map_int_inj hes
    obtain ⟨hqo, hq2⟩ := upd_nn hq
    obtain ⟨hqdx, hq3⟩ := upd_nn hq2
    have hq' : H q = none := c0.free hq3
    have s1 : Same H H1 := c1.trans (SameX.of_new (by rw [upd_ne (Ne.symm nd)]; exact ho) sx)
    clear sx hq hq2 hq3 c1 c0
    have hch : ones (cutEv (row chainE)).flatten = 3960 := chain_ones
    have repN : ∀ m : Nat, ((List.replicate ((m : Int)).toNat [V.int (-1)]).flatten) = (List.replicate m (-1 : Int)).map V.int := fun m => by rw [Int.toNat_natCast, rep_ints]
    refine ⟨_, rfl, by decide, by decide, for_range (fun i σ H' => ∃ (v2 v3 : Option V), σ = [some (.ref a), some (.ref o), v2, v3, none, none] ∧ WoodAt K H' o q (cutEv (row chainE)) ∧ H' q = some (.lst []) ∧ Same H H') ⟨none, none, rfl, W, hql, s1⟩ ?_ ?_⟩
    · rintro i σ H2 hi ⟨v2, v3, rfl, W2, hq2, s2⟩
      refine ⟨_, rfl, _, rfl, _, _, rfl, rfl, a, ns, 3 + i, (by dsimp only; rw [show ((3 : Int) + (0 + (i : Int))) = ((3 + i : Nat) : Int) by omega]), SqL.mono s2 hS, _, rfl, _, _, rfl, rfl, _, _, rfl, rfl, (by show (0 : Int) < _; decide), _, _, rfl, rfl, ?_⟩
      dsimp only
      obtain ⟨m, hm, hm2⟩ : ∃ m : Nat, 41 + (cellAt ns (3 + i) + (0 + (i : Int))) % 20 = (m : Int) ∧ 41 ≤ m ∧ m ≤ 60 := ⟨(41 + (cellAt ns (3 + i) + (0 + (i : Int))) % 20).toNat, by omega, by omega⟩
      rw [hm]
      refine ⟨_, rfl, _, rfl, (by show 1 ≤ sizeLine; decide), fun l hl => ⟨_, rfl, l, _, _, rfl, rfl, upd_same, by omega, by omega, sz1 (by simp; omega), fun el hel => ?_⟩⟩
      have s3 := sN (o := .lst ((List.replicate ((m : Int)).toNat [V.int (-1)]).flatten)) (same_new (o := .lst [.int (-1)]) hl) hel
      refine ⟨o, q, cutEv (row chainE), _, _, _, _, rfl, W2.mono s3, .inr (.inr ⟨rfl, .inr ⟨0, kidsC, .inl ⟨0, rfl⟩, .inr ⟨rfl, .inr ⟨el, (List.replicate m (-1 : Int)).map V.int, rfl, by rw [upd_same]; rw [← repN], rep_thing m, by rw [List.length_map, List.length_replicate]; omega, (fun z hz => by rw [rep_look, if_neg (by omega)] at hz; cases hz), fun es hes _ _ => .inl ⟨?_, fun p H4 s4 hp hlp => ?_⟩⟩⟩⟩⟩)⟩
      · rw [← map_int_inj hes, List.length_replicate, hch]
        omega
      have s24 := (s2.trans s3).trans s4
      have W4 := (W2.mono s3).mono s4
      have hq4 := s4 _ _ (s3 _ _ hq2)
      refine ⟨(by show 1 ≤ sizeLine; decide), fun n1 hn1 => ne_same (xs := kindV .large) (SqL.of (same_new hn1 _ _ hlp)) (SqL.of upd_same) (by decide +kernel) ⟨_, rfl, iteF ?_⟩⟩
      have s5 := same_new (o := .lst [.str "large"]) hn1
      have W5 := W4.mono s5
      obtain ⟨dx5, _, _, _, g5, _⟩ := id W5
      refine ⟨_, rfl, o, _, _, rfl, g5, rfl, o, q, _, rfl, W5, fun H6 s6 => ⟨rfl, _, rfl, ite_n (ndec_i _ _) (fun z => absurd (by rw [hch]; rfl) z) (fun _ => ?_)⟩⟩
      have W6 := W5.mono s6
      have hq6 := s6 _ _ (s5 _ _ hq4)
      refine ⟨_, rfl, _, rfl, (by show 1 ≤ sizeLine; decide), fun l hl => ⟨_, rfl, l, _, _, rfl, rfl, upd_same, by omega, by omega, sz1 (by simp; omega), fun el hel => ?_⟩⟩
      have s7 := sN (o := .lst ((List.replicate ((m : Int)).toNat [V.int (-1)]).flatten)) (same_new (o := .lst [.int (-1)]) hl) hel
      refine ⟨o, q, cutEv (row chainE), _, _, _, _, rfl, W6.mono s7, .inr (.inr ⟨rfl, .inr ⟨0, kidsC, .inl ⟨1, rfl⟩, .inl ⟨rfl, fun p H8 s8 hp hlp => ?_⟩⟩⟩)⟩
      refine ⟨(by show 1 ≤ sizeLine; decide), fun n1 hn1 => ne_same (xs := kindV .graft) (SqL.of (same_new hn1 _ _ hlp)) (SqL.of upd_same) (by decide +kernel) ⟨_, rfl, iteF ?_⟩⟩
      have s9 := same_new (o := .lst [.str "graft"]) hn1
      exact ⟨_, _, rfl, ((W6.mono s7).mono s8).mono s9, s9 _ _ (s8 _ _ (s7 _ _ hq6)), ((((s24.trans s5).trans s6).trans s7).trans s8).trans s9⟩
    · rintro σ H2 ⟨v2, v3, rfl, W2, hq2, s2⟩
      refine ⟨_, rfl, o, q, _, _, _, _, _, rfl, W2, .inr (.inl ⟨rfl, hq2, fun p H3 s3 hp hlp => ?_⟩)⟩
      refine ⟨(by show 1 ≤ sizeLine; decide), fun n1 hn1 => ne_same (xs := kindV .deed) (SqL.of (same_new hn1 _ _ hlp)) (SqL.of upd_same) (by decide +kernel) ⟨_, rfl, iteF ?_⟩⟩
      have s4 := sN (o := .lst [.str "deed"]) s3 hn1
      have W4 := W2.mono s4
      have hq4 := s4 _ _ hq2
      have s24 := s2.trans s4
      refine ⟨_, rfl, _, rfl, (by show 1 ≤ sizeLine; decide), fun l hl => ⟨l, _, _, rfl, rfl, upd_same, by omega, by omega, sz1 (by simp), fun el hel => ?_⟩⟩
      have s5 := sN (o := .lst ((List.replicate ((40 : Int)).toNat [V.int (-1)]).flatten)) (same_new (o := .lst [.int (-1)]) hl) hel
      have W5 := W4.mono s5
      have hq5 := s5 _ _ hq4
      have s25 := s24.trans s5
      refine ⟨o, q, cutEv (row chainE), _, _, _, _, rfl, W5, .inr (.inr ⟨rfl, .inr ⟨0, kidsC, .inl ⟨0, rfl⟩, .inr ⟨rfl, .inr ⟨el, (List.replicate 40 (-1 : Int)).map V.int, rfl, by rw [upd_same]; rw [← rep_ints]; rfl, rep_thing 40, by rw [List.length_map, List.length_replicate]; omega, (fun z hz => by rw [rep_look, if_neg (by omega)] at hz; cases hz), fun es hes _ _ => .inr ?_⟩⟩⟩⟩)⟩
      obtain rfl := map_int_inj hes
      refine ⟨by rw [hch, List.length_replicate]; omega, rfl, hq5, by rw [chain_cut_len]; omega, List.replicate 3959 true, List.replicate 3960 false, 0, by rw [ones_rep]; rfl, ?_, rfl, fun p H6 t6 W6 hp hlp => ?_⟩
      · rw [cutEv_flat, chain_row]; unfold chainB; rw [show List.replicate 3960 true = List.replicate 3959 true ++ [true] by rw [← List.replicate_succ'], List.append_assoc]; rfl
      rw [List.length_replicate] at W6
      have s26 : Same H H6 := fun b u e => t6 b u (ne_of_none e ho') (ne_of_none e hq') (s25 b u e)
      generalize hps : putFor (cutEv (row chainE)) 3960 3960 (row (List.replicate 40 (-1))) = ps2 at W6
      have hflat : ps2.flatten = List.replicate 3960 true ++ tops40 ++ List.replicate 3960 false := by rw [← hps]; exact chain_flat
      have hones : ones ps2.flatten = 4000 := by rw [← hps]; exact chain_ones2
      have hlens : okL (ps2.map List.length) = true := by rw [← hps]; exact chain_put_lens
      have hlen63 : ps2.length = 63 := by rw [← hps]; exact chain_put_len
      clear hps
      refine ⟨(by show 1 ≤ sizeLine; decide), fun n2 hn2 => ne_same (xs := [.str "good"]) (SqL.of (same_new hn2 _ _ hlp)) (SqL.of upd_same) (by decide +kernel) ⟨_, rfl, iteF ?_⟩⟩
      have s7 := same_new (o := .lst [.str "good"]) hn2
      have W7 := W6.mono s7
      obtain ⟨dx7, _, _, _, g7, _⟩ := id W7
      refine ⟨_, rfl, o, _, _, rfl, g7, rfl, o, q, _, rfl, W7, fun H8 s8 => ⟨rfl, _, rfl, ite_n (ndec_i _ _) (fun z => absurd (by rw [hones]; rfl) z) (fun _ => ?_)⟩⟩
      have W8 := W7.mono s8
      obtain ⟨dx8, _, _, _, g8, _⟩ := id W8
      refine ⟨_, rfl, o, _, _, rfl, g8, rfl, o, q, _, rfl, W8, fun pl H9 s9 hpl0 hpl => ?_⟩
      have s29 := ((s26.trans s7).trans s8).trans s9
      have hfl2 : ps2.flatten.length = 8000 := by rw [hflat, List.length_append, List.length_append, List.length_replicate, List.length_replicate, show tops40.length = 80 by decide +kernel]
      refine ⟨⟨_, rfl⟩, _, rfl, _, _, ps2.map T, rfl, rfl, .inl (joinL (SqL.of hpl)), joinN (by omega), ?_⟩
      rw [T_join]
      refine ⟨_, _, rfl, rfl, by decide, by decide, (by rw [T_one, T_length]; exact sz1 (by decide)), ?_⟩
      refine ⟨_, _, rfl, rfl, by decide, by decide, (by rw [T_ten, T_length]; exact sz1 (by decide)), ?_⟩
      rw [T_one, T_mul, T_ten, T_mul]
      refine ⟨_, _, rfl, rfl, (by rw [T_length, T_length]; exact sz1 (by simp)), ?_⟩
      refine ⟨_, _, rfl, rfl, by decide, by decide, (by rw [T_zero, T_length]; exact sz1 (by decide)), ?_⟩
      rw [T_app, T_zero, T_mul]
      refine ⟨_, _, rfl, rfl, (by rw [T_length, T_length]; exact sz1 (by simp)), ?_⟩
      rw [T_app]
      have eT : (List.replicate (3960 : Int).toNat [true]).flatten ++ (List.replicate (40 : Int).toNat [true, false]).flatten ++ (List.replicate (3960 : Int).toNat [false]).flatten = ps2.flatten := by
        rw [hflat]
        unfold tops40
        have e1 : ∀ (n : Nat) (b : Bool), (List.replicate n [b]).flatten = List.replicate n b := fun n b => by simp
        rw [show (3960 : Int).toNat = 3960 from rfl, show (40 : Int).toNat = 40 from rfl, e1, e1]
      rw [eT]
      refine ⟨rfl, _, rfl, ite_n rfl (fun z => absurd rfl z) (fun _ => ?_)⟩
      have hpc : ∀ {i : Nat} {x : V}, (txs ps2)[i]? = some x → ∃ p', ps2[i]? = some p' ∧ x = .str (T p') := fun {i x} hx => by
        rw [List.getElem?_map] at hx
        cases e : ps2[i]? with
        | none => rw [e] at hx; cases hx
        | some p' => rw [e] at hx; exact ⟨p', rfl, (Option.some.inj hx).symm⟩
      refine ⟨_, rfl, pl, rfl, ⟨_, SqL.of hpl⟩, fun D hD => lc_list (xs := txs ps2) (fun i H' => H' D = some (.lst []) ∧ Same H9 H') ⟨upd_same, same_new hD⟩ (fun i H' _ ⟨_, s⟩ => SqL.of (s _ _ hpl)) (fun i x H' hx ⟨hl, s⟩ => ?_) (fun HA ⟨hlA, sA⟩ => ?_)⟩
      · obtain ⟨p', hp', rfl⟩ := hpc hx
        obtain ⟨l1, l2⟩ := okL_one hlens hp'
        refine ⟨rfl, _, rfl, _, _, rfl, ⟨sz1 (by rw [T_length]; omega), rfl⟩, _, _, rfl, rfl, _, rfl, ite_d rfl (fun _ => ?_) (fun z => absurd (by rw [T_length]; omega) z)⟩
        exact ⟨_, _, rfl, rfl, _, rfl, ite_n rfl (fun z => absurd (by rw [T_length]; omega) z) (fun _ => ⟨hl, s⟩)⟩
      refine ⟨(by show 0 ≤ sizeLine; decide), fun n3 hn3 => ne_same (xs := []) (SqL.of (same_new hn3 _ _ hlA)) (SqL.of upd_same) rfl ⟨_, rfl, iteF ?_⟩⟩
      have sB := sN (o := .lst []) sA hn3
      have hplB := sB _ _ hpl
      refine ⟨_, rfl, _, _, rfl, .inl ⟨_, SqL.of hplB, rfl⟩, _, _, rfl, ⟨by decide, by decide, by omega, by rw [txs, List.length_map]; omega⟩, fun D2 hD2 => lc_range (lo := 1) (n := (((txs ps2).length : Int) - 1).toNat) (fun i H' => H' D2 = some (.lst []) ∧ Same (upd HA n3 (.lst [])) H') ⟨upd_same, same_new hD2⟩ (fun i H' hi ⟨hl, s⟩ => ?_) (fun HC ⟨hlC, sC⟩ => ?_)⟩
      · rw [txs, List.length_map, hlen63] at hi
        have hi2 : i < 62 := by omega
        obtain ⟨p1, hp1⟩ : ∃ p, ps2[i]? = some p := ⟨_, List.getElem?_eq_getElem (by omega)⟩
        obtain ⟨p2, hp2⟩ : ∃ p, ps2[i + 1]? = some p := ⟨_, List.getElem?_eq_getElem (by omega)⟩
        have l1 := okL_one hlens hp1
        have l2 := okL_one hlens hp2
        have l3 := okL_two hlens hp1 hp2
        have a1 : atI (txs ps2) ((1 : Int) + (i : Nat) - 1) = some (.str (T p1)) := by
          rw [show ((1 : Int) + (i : Nat) - 1) = ((i : Nat) : Int) by omega]; exact atI_n (txs_at hp1)
        have a2 : atI (txs ps2) ((1 : Int) + (i : Nat)) = some (.str (T p2)) := by
          rw [show ((1 : Int) + (i : Nat)) = ((i + 1 : Nat) : Int) by omega]; exact atI_n (txs_at hp2)
        have hplC := s _ _ hplB
        refine ⟨rfl, _, rfl, _, rfl, _, _, rfl, rfl, pl, _, _, _, rfl, rfl, SqL.of hplC, a1, _, _, rfl, ⟨sz1 (by rw [T_length]; omega), rfl⟩, _, rfl, _, rfl, pl, _, _, _, rfl, rfl, SqL.of hplC, a2, _, _, rfl, ⟨sz1 (by rw [T_length]; omega), rfl⟩, _, _, rfl, rfl, _, _, rfl, rfl, _, rfl, ite_d rfl (fun z => absurd z (by rw [T_length, T_length]; omega)) (fun _ => ⟨hl, s⟩)⟩
      refine ⟨(by show 0 ≤ sizeLine; decide), fun n4 hn4 => ne_same (xs := []) (SqL.of (same_new hn4 _ _ hlC)) (SqL.of upd_same) rfl ⟨_, rfl, iteF ?_⟩⟩
      have sD := ((s29.trans sB).trans (sC)).trans (same_new (o := .lst []) hn4)
      refine ⟨_, rfl, (by show 1 ≤ sizeLine; decide), fun l5 hl5 => ⟨l5, _, _, rfl, rfl, upd_same, by omega, by omega, sz1 (by simp), fun el5 hel5 => ?_⟩⟩
      have sE := sN (o := .lst ((List.replicate ((4001 : Int)).toNat [V.int (-1)]).flatten)) (sN (o := .lst [.int (-1)]) sD hl5) hel5
      refine ⟨_, rfl, .inr ⟨el5, (List.replicate 4001 (-1 : Int)).map V.int, 4000, rfl, by rw [upd_same]; rw [← rep_ints]; rfl, rep_thing 4001, by rw [List.length_map, List.length_replicate]; omega, by rw [rep_look, if_pos (by omega)], fun p6 H6' s6' hp6 hlp6 => ?_⟩⟩
      refine ⟨(by show 2 ≤ sizeLine; decide), fun n7 hn7 => eq_same (xs := kindV (.wood 4000)) (SqL.of (same_new hn7 _ _ hlp6)) (SqL.of upd_same) (by decide +kernel) ?_⟩
      exact k _ (sN (sE.trans s6') hn7)
end
end Tw
namespace Tw
open PySem PySem.Spec PyProof.Rows L2
theorem filter_neg {es : List Int} (h : ∀ x ∈ es, -1 ≤ x) : (es.filter (fun x => decide (x < 0))).length = es.count (-1) := by
  rw [← count_filter]
  congr 1
  apply List.filter_congr
  intro x hx
  have := h x hx
  rw [Bool.eq_iff_iff, decide_eq_true_iff, decide_eq_true_iff]
  omega
def OtherOk (K : PySem.W.Frag) (H : Hp) (el : V) : Prop := NoList K H el ∨ ∃ a xs, el = .ref a ∧ H a = some (.lst xs) ∧ (∀ y ∈ xs, Thing H y) ∧ xs.length ≤ 1000
theorem OtherOk.mono {K : PySem.W.Frag} {H H' : Hp} {el : V} (s : Same H H') (h : OtherOk K H el) : OtherOk K H' el := by
  rcases h with h | ⟨a, xs, h1, h2, h3, h4⟩
  · exact .inl (h.mono s)
  · exact .inr ⟨a, xs, h1, s _ _ h2, fun y hy => (h3 y hy).mono s, h4⟩
def KOk (H : Hp) (k : V) (many : Nat) : Prop := k = .non ∨ (k ≠ .non ∧ Thing H k ∧ knotB k many = false)
theorem refusal {K : PySem.W.Frag} {H : Hp} {o q : Addr} {ps : List (List Bool)} {k pl el : V} {c many : Nat} (hm : ones ps.flatten = many) (hc : c = tops 0 ps.flatten) (hk : KOk H k many) (hpl : Thing H pl) (hel : OtherOk K H el) :
    (∃ e, (∀ (R : ErrK → Prop) (G : Prop), R e → DueCase K H many c k pl el R G) ∧ ∀ H', Same H H' → ∀ (R : ErrK → Prop) (G : List (List Bool) → Prop), R e → GraftCase K H' o q ps k pl el R G) ∨
    (∀ (R : ErrK → Prop) (G : Prop), G → DueCase K H many c k pl el R G) := by
  rcases hk with rfl | ⟨h1, h2, h3⟩
  · have hkid : KidsOf ps .non c := .inl ⟨rfl, hc⟩
    cases hb : placeB pl c with
    | false => exact .inl ⟨.graft, fun R G r => .inr ⟨.inl rfl, hpl, .inl ⟨hb, r⟩⟩, fun H' s R G r => .inr ⟨c, hkid, hpl.mono s, .inl ⟨hb, r⟩⟩⟩
    | true =>
      rcases hel with hn | ⟨a, xs, rfl, ha, hth, hz⟩
      · refine .inl ⟨.wood 0, fun R G r => .inr ⟨.inl rfl, hpl, .inr ⟨hb, .inl ⟨hn, r⟩⟩⟩, fun H' s R G r => .inr ⟨c, hkid, hpl.mono s, .inr ⟨hb, .inl ?_⟩⟩⟩
        obtain ⟨t, t1, t2⟩ := hn.mono s
        exact ⟨t, t1, t2, r⟩
      · cases hl : lookI [] 0 (xs.map toI) with
        | some z =>
          refine .inl ⟨.wood z, fun R G r => .inr ⟨.inl rfl, hpl, .inr ⟨hb, .inr ⟨a, xs, rfl, ha, hth, hz, .inl ⟨z, hl, r⟩⟩⟩⟩, fun H' s R G r => .inr ⟨c, hkid, hpl.mono s, .inr ⟨hb, .inr ⟨a, xs, rfl, s _ _ ha, fun y hy => (hth y hy).mono s, by omega, fun z' hz' => ?_, fun es he hn _ => ?_⟩⟩⟩⟩
          · obtain rfl : z = z' := Option.some.inj (hl.symm.trans hz')
            exact r
          · rw [he, ints_toI, hn] at hl
            cases hl
        | none => exact .inr fun R G g => .inr ⟨.inl rfl, hpl, .inr ⟨hb, .inr ⟨a, xs, rfl, ha, hth, hz, .inr ⟨hl, g⟩⟩⟩⟩
  · exact .inl ⟨.knot, fun R G r => .inl ⟨h1, h2, h3, r⟩, fun H' s R G r => .inl ⟨h1, h2.mono s, by rw [hm]; exact h3, r⟩⟩
theorem kind_ok (e : ErrK) : (kindV e).all datOk = true := by
  cases e <;> first
    | decide +kernel
    | (show (datOk (V.str "wood") && (datOk (V.int _) && true)) = true; rw [show datOk (V.str "wood") = true by decide +kernel]; rfl)
theorem kind_nb (e : ErrK) : ∀ v ∈ kindV e ++ [V.str "good"], ∀ b, v ≠ .bl b := fun v hv b z => by
  subst z
  cases e <;> simp [kindV] at hv
theorem kind_ne (e : ErrK) : kindV e ≠ [V.str "good"] := by
  cases e <;> first
    | exact fun z => absurd z (by decide +kernel)
    | (intro z; have := congrArg List.length z; simp [kindV] at this)
def ThingsAt (H : Hp) (th : Addr) (many : Nat) : Prop := ∃ xs : List V, H th = some (.lst xs) ∧ xs.length = 10 ∧ ∀ x ∈ xs, Thing H x ∧ knotB x many = false
def OthersAt (K : PySem.W.Frag) (H : Hp) (nw : Addr) : Prop := ∃ xs : List V, H nw = some (.lst xs) ∧ xs.length = 9 ∧ ∀ x ∈ xs, OtherOk K H x
theorem kok_of {H : Hp} {x : V} {many : Nat} (h : Thing H x ∧ knotB x many = false) : KOk H x many := by
  by_cases e : x = .non
  · exact .inl e
  · exact .inr ⟨e, h.1, h.2⟩
section
variable {P : Program} {w : World} {K : PySem.W.Frag} {mg : Str → Option Value} {base : Heap}
def spLaw (K : PySem.W.Frag) : Sp := fun vs H Q _ => ∃ (a : Addr) (ns : List Int), vs = [.ref a] ∧ SqL K H a (ns.map V.int) ∧ ns.length ≤ 63 ∧ ∀ H', Q (.bl true) H'
abbrev N_law : List Str := ["_law_script", "_law_seed", "_law_elders", "_law_wood_here", "_law_parts", "_law_things", "_law_no_woods", "_law_cell", "_law_number", "_law_odd", "_law_k", "_law_tops", "_law_place", "_law_other", "_law_due_here", "_law_elder"]
theorem sc_law : FnScope N_law ["_law_script"] (defScope s_law) := ⟨rfl, rfl, rfl, by decide +kernel, rfl, by decide +kernel, by decide +kernel⟩
theorem ok_law {f : Addr} {fd : FuncData} (F : D0 K "law" "law" s_law f fd) (Z : Txt K mg) (c_law_mixed : Cal P w K mg base 1 "_law_mixed" ["_law_cell", "_law_k"] spMixed) (c_law_cell_at : Cal P w K mg base 1 "_law_cell_at" ["_law_script", "_law_k"] (spCell K)) (c_law_chain : Cal P w K mg base 7 "_law_chain" ["_law_script"] (spChain K))
    (c_law_wood : Cal P w K mg base 1 "_law_wood" ["_law_digits_here"] spLWood) (c_law_digits : Cal P w K mg base 2 "_law_digits" ["_law_script", "_law_at", "_law_many"] (spDigits K)) (k_Shaped : Mkr P w K mg base 4 "Shaped" (He.ga K "Shaped") ["self", "elders"] (spShapedI K))
    (m_Shaped_pieces : Mtd P w K mg base 1 (He.ga K "Shaped") "pieces" ["self"] (spPieces K)) (c_law_done : Cal P w K mg base 5 "_law_done" ["_law_wood_here", "_law_way", "_law_k", "_law_place", "_law_elders"] (spDone K)) (c_law_fault : Cal P w K mg base 2 "_law_fault" ["_law_elders"] (spFault K))
    (c_law_no_wood : Cal P w K mg base 6 "_law_no_wood" ["_law_elders"] (spNoWood K)) (c_law_due : Cal P w K mg base 3 "_law_due" ["_law_many", "_law_k", "_law_place", "_law_children", "_law_elders"] (spDue K))
    (c_law_beyond : Cal P w K mg base 6 "_law_beyond" ["_law_wood_here", "_law_elders", "_law_number"] (spBeyond K)) (m_Shaped_elders : Mtd P w K mg base 7 (He.ga K "Shaped") "elders" ["self"] (spSElders K)) :
    FnOk P w K mg base (L2.CX P w) 8 f fd ["_law_script"] (spLaw K) := by
  refine F.ok sc_law (fun vs H Q E h => ?_) (fun cdv A outer s H vs Q E hr h => ?_)
  · obtain ⟨a, ns, rfl, _⟩ := h
    rfl
  · obtain ⟨a, ns, rfl, hS, hlen, k⟩ := h
    refine ⟨_, (pss_cons (ps_set (i := 1) sc_law.nd rfl (Or.inl rfl) (pe_c c_law_mixed hr (takes_of rfl rfl rfl rfl) (pa_cons (pe_c c_law_cell_at hr (takes_of rfl rfl rfl rfl) (pa_cons (pv 0) (pa_cons pe_int pa_nil))) (pa_cons pe_int pa_nil))))
      (C8.pss_cut (ps_if (PW.pt (pw_and (pt_cmpR op_eq (pe_op op_mod (pe_op op_fdiv (pv 1) pe_int) pe_int) pe_int (nomark _)) (pw_and1 (pt_not (pt_val (pe_c c_law_chain hr (takes_of rfl rfl rfl rfl) (pa_cons (pv 0) pa_nil))))))) (pss_one (ps_ret pe_bl))
        pss_nil)
      (pss_cons (ps_set (i := 2) sc_law.nd rfl (Or.inl rfl) (pe_c c_law_wood hr (takes_of rfl rfl rfl rfl) (pa_cons (pe_c c_law_digits hr (takes_of rfl rfl rfl rfl) (pa_cons (pv 0) (pa_cons pe_int (pa_cons (pe_op op_mod (pv 1) pe_int) pa_nil)))) pa_nil)))
      (pss_cons (ps_set (i := 3) sc_law.nd rfl (Or.inl rfl) (pe_k k_Shaped hr (takes_of rfl rfl rfl rfl) (pa_cons (pe_callTy call_list_of (by rfl) Z.f_list (by decide +kernel) (pa_cons (pv 2) pa_nil)) pa_nil)))
      (pss_cons (ps_set (i := 4) sc_law.nd rfl (Or.inl rfl) (pe_m0 m_Shaped_pieces Z.c_Shaped hr (takes_of rfl rfl rfl rfl) (pv 3)))
      (C8.pss_cut (ps_set (i := 5) sc_law.nd rfl (Or.inl rfl) (pe_lst (pa_cons (pe_un un_neg pe_int) (pa_cons (pe_callB call_len (by rfl) Z.f_len PySem.boot_len (pa_cons (pv 2) pa_nil)) (pa_cons pe_non (pa_cons pe_bl (pa_cons pe_str (pa_cons (pe_lst (pa_cons pe_int pa_nil)) (pa_cons (pe_tup (pa_cons pe_int pa_nil)) (pa_cons (pe_op op_pow pe_int pe_int) (pa_cons pe_dnewK (pa_cons pe_str pa_nil))))))))))))
      (C8.pss_cut (ps_set (i := 6) sc_law.nd rfl (Or.inl rfl) (pe_lst (pa_cons pe_non (pa_cons (pe_lst (pa_cons pe_int pa_nil)) (pa_cons (pe_lst (pa_cons (pe_un un_neg pe_int) (pa_cons pe_int pa_nil))) (pa_cons (pe_lst (pa_cons (pe_un un_neg pe_int) (pa_cons pe_bl pa_nil))) (pa_cons (pe_tup (pa_cons (pe_un un_neg pe_int) pa_nil)) (pa_cons (pe_lst (pa_cons (pe_un un_neg pe_int) (pa_cons (pe_un un_neg pe_int) pa_nil))) (pa_cons (pe_lst (pa_cons (pe_un un_neg pe_int) (pa_cons pe_int (pa_cons (pe_un un_neg pe_int) (pa_cons pe_int pa_nil))))) (pa_cons (pe_lst (pa_cons pe_str pa_nil)) (pa_cons (pe_lst (pa_cons (pe_un un_neg pe_int) (pa_cons pe_int pa_nil))) pa_nil)))))))))))
      (pss_cons (ps_for (passes_of rfl) rfl (pi_list (pe_op op_cat (pe_slice sl_list (pv 0) (po_some pe_int) (po_some pe_int)) (pe_lst (pa_cons (pe_callB call_len (by rfl) Z.f_len PySem.boot_len (pa_cons (pv 0) pa_nil)) pa_nil)))) (pg_name (i := 7) sc_law.nd rfl (Or.inl rfl))
        (pss_cons (ps_set (i := 8) sc_law.nd rfl (Or.inl rfl) (pe_c c_law_mixed hr (takes_of rfl rfl rfl rfl) (pa_cons (pv 7) (pa_cons pe_int pa_nil))))
        (pss_cons (ps_set (i := 9) sc_law.nd rfl (Or.inl rfl) (pe_ix ix_list (pv 5) (pe_op op_mod (pv 8) pe_int) (fun _ _ => rfl)))
        (pss_cons (ps_if (pt_cmpR (op_neD hr.units) (pe_c c_law_done hr (takes_of rfl rfl rfl rfl) (pa_cons (pv 3) (pa_cons pe_str (pa_cons (pv 9) (pa_cons pe_non (pa_cons pe_non pa_nil)))))) (pe_lst (pa_cons pe_str pa_nil)) (nomark _)) (pss_one (ps_ret pe_bl))
          pss_nil)
        (pss_cons (ps_set (i := 10) sc_law.nd rfl (Or.inl rfl) (pe_ix ix_list (pv 5) (pe_op op_mod (pe_op op_fdiv (pv 8) pe_int) pe_int) (fun _ _ => rfl)))
        (C8.pss_cut (ps_if (pt_cmpR op_gt (pe_op op_mod (pe_op op_fdiv (pv 8) pe_int) pe_int) pe_int (nomark _)) (pss_one (ps_set (i := 10) sc_law.nd rfl (Or.inl rfl) pe_non))
          pss_nil)
        (pss_cons (ps_set (i := 11) sc_law.nd rfl (Or.inl rfl) (pe_callB call_len (by rfl) Z.f_len PySem.boot_len (pa_cons (pe_lc (own := [("_law_elder", 15)]) (g := gName 15)  rfl sc_law.nd (pi_list (pv 2)) (blkOk_by (N := N_law) (sc := defScope s_law) (by decide +kernel)) (fun _ _ _ _ _ => pg_name (i := 15) sc_law.nd rfl (Or.inl rfl)) (fun _ _ _ _ _ => pts_one (pt_cmpR op_lt (pv 15) pe_int (nomark _))) (fun _ _ _ _ _ => (pv 15))) pa_nil)))
        (pss_cons (ps_set (i := 12) sc_law.nd rfl (Or.inl rfl) (pe_ix ix_list (pe_op op_cat (pe_lst (pa_cons pe_int (pa_cons (pv 11) (pa_cons (pe_op op_add (pv 11) pe_int) pa_nil)))) (pv 5)) (pe_op op_mod (pe_op op_fdiv (pv 8) pe_int) pe_int) (fun _ _ => rfl)))
        (pss_cons (ps_set (i := 13) sc_law.nd rfl (Or.inl rfl) (pe_ix ix_list (pv 6) (pe_op op_mod (pe_op op_fdiv (pv 8) pe_int) pe_int) (fun _ _ => rfl)))
        (C8.pss_cut (ps_if (PW.pt (pw_and (pt_cmpR op_notN (pe_c c_law_fault hr (takes_of rfl rfl rfl rfl) (pa_cons (pv 13) pa_nil)) pe_non (nomark _)) (pw_and1 (pt_cmpR (op_neD hr.units) (pe_c c_law_no_wood hr (takes_of rfl rfl rfl rfl) (pa_cons (pv 13) pa_nil)) (pe_lst (pa_cons pe_str (pa_cons (pe_c c_law_fault hr (takes_of rfl rfl rfl rfl) (pa_cons (pv 13) pa_nil)) pa_nil))) (nomark _))))) (pss_one (ps_ret pe_bl))
          pss_nil)
        (C8.pss_cut (ps_set (i := 14) sc_law.nd rfl (Or.inl rfl) (pe_c c_law_due hr (takes_of rfl rfl rfl rfl) (pa_cons (pe_callB call_len (by rfl) Z.f_len PySem.boot_len (pa_cons (pv 2) pa_nil)) (pa_cons (pv 10) (pa_cons (pv 12) (pa_cons (pv 11) (pa_cons (pv 13) pa_nil)))))))
        (C8.pss_cut (ps_if (PW.pt (pw_and (pt_cmpR (op_neD hr.units) (pv 14) (pe_lst (pa_cons pe_str pa_nil)) (nomark _)) (pw_and1 (pt_cmpR (op_neD hr.units) (pe_c c_law_done hr (takes_of rfl rfl rfl rfl) (pa_cons (pv 3) (pa_cons pe_str (pa_cons (pv 10) (pa_cons (pv 12) (pa_cons (pv 13) pa_nil)))))) (pv 14) (nomark _))))) (pss_one (ps_ret pe_bl))
          pss_nil)
        (pss_cons (ps_if (pt_not (pt_val (pe_c c_law_beyond hr (takes_of rfl rfl rfl rfl) (pa_cons (pv 3) (pa_cons (pv 2) (pa_cons (pv 8) pa_nil)))))) (pss_one (ps_ret pe_bl))
          pss_nil)
        (pss_cons (ps_if (PW.pt (pw_or (pt_cmpR (op_neD hr.units) (pe_m0 m_Shaped_elders Z.c_Shaped hr (takes_of rfl rfl rfl rfl) (pv 3)) (pv 2) (nomark _)) (pw_or1 (pt_cmpR (op_neD hr.units) (pe_m0 m_Shaped_pieces Z.c_Shaped hr (takes_of rfl rfl rfl rfl) (pv 3)) (pv 4) (nomark _))))) (pss_one (ps_ret pe_bl))
          pss_nil)
        (pss_one (ps_if (pt_cmpR (op_neD hr.units) (pe_c c_law_done hr (takes_of rfl rfl rfl rfl) (pa_cons (pv 3) (pa_cons pe_str (pa_cons pe_non (pa_cons pe_non (pa_cons pe_non pa_nil)))))) (pe_lst (pa_cons pe_str pa_nil)) (nomark _)) (pss_one (ps_ret pe_bl))
          pss_nil))))))))))))))))
      (pss_one (ps_ret pe_bl)))))))))), ?_⟩
    refine ⟨_, rfl, a, ns, 0, rfl, hS, _, 1, rfl, by omega, fun seed => ?_⟩
    refine ⟨fun σ H' => σ = [some (.ref a), some (.int (seed : Nat)), none, none, none, none, none, none, none, none, none, none, none, none, none, none] ∧ Same H H', ?_, ?_⟩
    · refine ⟨_, rfl, _, _, rfl, rfl, ⟨by decide, by decide⟩, _, _, rfl, rfl, (by show (0 : Int) < _; decide), rfl, _, rfl, ite_d (dec_i _ _) (fun _ => ?_) (fun _ => iteF ⟨rfl, Same.refl H⟩)⟩
      exact ⟨_, rfl, a, ns, rfl, hS, fun H' s' => ⟨_, rfl, iteF ⟨rfl, s'⟩⟩⟩
    rintro σ H1 ⟨rfl, s1⟩
    refine ⟨_, rfl, _, rfl, _, _, rfl, rfl, (by show (0 : Int) < _; decide), a, ns, 2, seed % 31, (by dsimp only; rw [Int.natCast_emod]; rfl), SqL.mono s1 hS, by omega, fun pd H2 ds s2 hpd0 hpd hdl => ?_⟩
    refine ⟨pd, ds, rfl, hpd, by omega, fun e1 H3 s3 he0 he1 => ?_⟩
    have hel : (lawW [] 0 ds).length ≤ 30 := by rw [lawW_length]; omega
    have hok : ok (lawW [] 0 ds) := lawW_ok ds [] 0 ⟨List.Pairwise.nil, fun x hx => nomatch hx⟩
    generalize lawW [] 0 ds = es at hel hok he1
    have s03 := (s1.trans s2).trans s3
    refine ⟨_, rfl, e1, _, rfl, .inl (SqL.of he1), fun l hl => fun o dx ho hdx nd => ?_⟩
    have s4 := same_new (o := .lst (es.map V.int)) hl
    have hnone : lookI [] 0 (es.map some) = none := lookI_ok _ _ _ hok (by omega)
    have hlo : l ≠ o := ne_of_none upd_same ho
    have hld : l ≠ dx := ne_of_none upd_same hdx
    refine ⟨o, dx, _, rfl, upd_same, .inr ⟨l, es.map V.int, rfl, by rw [upd_ne hlo, upd_ne hld, upd_same], (fun y hy => by
      obtain ⟨i, _, rfl⟩ := List.mem_map.mp hy
      exact .inl ⟨i, rfl⟩), by rw [List.length_map]; omega, (fun z hz => by rw [ints_toI, hnone] at hz; cases hz), fun es' hes hn hle q H4 sx hq hql W => ⟨rfl, ?_⟩⟩⟩
    obtain rfl := map_int_inj hes
    have s34 : Same H3 H4 := (s4.trans (same_new (o := .own o) hdx)).trans (SameX.of_new (by rw [upd_ne (Ne.symm nd)]; exact ho) sx)
    have he4 := s34 _ _ he1
    have s04 := s03.trans s34
    clear sx hq
    obtain ⟨dxW, _, _, _, gW, _⟩ := id W
    refine ⟨_, rfl, o, _, _, rfl, gW, rfl, o, q, _, rfl, W, fun pl H5 s5 hpl0 hpl => ?_⟩
    have W5 := W.mono s5
    have he5 := s5 _ _ he4
    have hq5 := s5 _ _ hql
    have s05 := s04.trans s5
    have hon : ones (cutEv (row es)).flatten = es.length := by rw [cutEv_flat]; exact row_ones es [] 0
    have z1 : Thing H5 .non := .inr .non
    refine ⟨fun σ H' => ∃ th : Addr, σ = [some (.ref a), some (.int (seed : Nat)), some (.ref e1), some (.ref o), some (.ref pl), some (.ref th), none, none, none, none, none, none, none, none, none, none] ∧ ThingsAt H' th es.length ∧ Same H5 H', ?_, ?_⟩
    · refine ⟨_, rfl, _, rfl, _, _, rfl, .inl ⟨_, SqL.of he5, rfl⟩, (by show 1 ≤ sizeLine; decide), fun t5 n5 => ⟨(by show 1 ≤ sizeLine; decide), fun t6 n6 => ⟨_, _, rfl, rfl, ⟨by decide, by decide, by decide⟩, fun t8 n8 => ⟨(by show 10 ≤ sizeLine; decide), fun th nth => ⟨th, rfl, ?_, ?_⟩⟩⟩⟩⟩
      · have y8 := same_new (o := .lst [.int (-1), .int ((es.map V.int).length : Nat), .non, .bl true, .str "0", .ref t5, .ref t6, .int ((10 : Int) ^ ((30 : Int).toNat)), .ref t8, .str "top"]) nth
        have y6 := (same_new (o := .dK []) n8).trans y8
        have y5 := (same_new (o := .tup [.int 0]) n6).trans y6
        refine ⟨_, upd_same, rfl, fun x hx => ?_⟩
        rw [List.length_map] at hx
        simp only [List.mem_cons, List.not_mem_nil, or_false] at hx
        rcases hx with rfl | rfl | rfl | rfl | rfl | rfl | rfl | rfl | rfl | rfl
        · exact ⟨.inl ⟨_, rfl⟩, rfl⟩
        · refine ⟨.inl ⟨_, rfl⟩, ?_⟩
          simp only [knotB]
          rw [decide_eq_false (Int.lt_irrefl _), Bool.and_false]
        · exact ⟨.inr .non, rfl⟩
        · exact ⟨.inr (.bl _), rfl⟩
        · exact ⟨.inr (.str _), rfl⟩
        · exact ⟨.inr (.lst (y5 _ _ upd_same)), rfl⟩
        · exact ⟨.inr (.tup (y6 _ _ upd_same)), rfl⟩
        · refine ⟨.inl ⟨_, rfl⟩, ?_⟩
          simp only [knotB]
          rw [decide_eq_false (show ¬ ((10 : Int) ^ ((30 : Int).toNat) < (es.length : Nat)) by
            have : (10 : Int) ^ ((30 : Int).toNat) = 1000000000000000000000000000000 := by decide +kernel
            omega), Bool.and_false]
        · exact ⟨.inr (.dK (y8 _ _ upd_same)), rfl⟩
        · exact ⟨.inr (.str _), rfl⟩
      · exact sN (sN (sN (same_new n5) n6) n8) nth
    rintro σ H6 ⟨th, rfl, hth, s56⟩
    refine ⟨fun σ H' => ∃ nw : Addr, σ = [some (.ref a), some (.int (seed : Nat)), some (.ref e1), some (.ref o), some (.ref pl), some (.ref th), some (.ref nw), none, none, none, none, none, none, none, none, none] ∧ OthersAt K H' nw ∧ Same H6 H', ?_, ?_⟩
    · refine ⟨(by show 1 ≤ sizeLine; decide), fun t1 n1 => ⟨_, rfl, (by show 2 ≤ sizeLine; decide), fun t2 n2 => ⟨_, rfl, (by show 2 ≤ sizeLine; decide), fun t3 n3 => ⟨_, rfl, (by show 1 ≤ sizeLine; decide), fun t4 n4 => ⟨_, rfl, _, rfl, (by show 2 ≤ sizeLine; decide), fun t5 n5 => ⟨_, rfl, _, rfl, (by show 4 ≤ sizeLine; decide), fun t6 n6 => ⟨(by show 1 ≤ sizeLine; decide), fun t7 n7 => ⟨_, rfl, (by show 2 ≤ sizeLine; decide), fun t8 n8 => ⟨(by show 9 ≤ sizeLine; decide), fun nw nn => ⟨nw, rfl, ?_, ?_⟩⟩⟩⟩⟩⟩⟩⟩⟩⟩
      · have y8 := same_new (o := .lst [.non, .ref t1, .ref t2, .ref t3, .ref t4, .ref t5, .ref t6, .ref t7, .ref t8]) nn
        have y7 := (same_new (o := .lst [.int (-1), .int 0]) n8).trans y8
        have y6 := (same_new (o := .lst [.str "0"]) n7).trans y7
        have y5 := (same_new (o := .lst [.int (-1), .int 0, .int (-1), .int 1]) n6).trans y6
        have y4 := (same_new (o := .lst [.int (-1), .int (-2)]) n5).trans y5
        have y3 := (same_new (o := .tup [.int (-1)]) n4).trans y4
        have y2 := (same_new (o := .lst [.int (-1), .bl true]) n3).trans y3
        have y1 := (same_new (o := .lst [.int (-1), .int 1]) n2).trans y2
        have two : ∀ {Hx : Hp} (i j : Int), ∀ y ∈ [V.int i, V.int j], Thing Hx y := fun i j y hy => by
          simp only [List.mem_cons, List.not_mem_nil, or_false] at hy
          rcases hy with rfl | rfl <;> exact .inl ⟨_, rfl⟩
        refine ⟨_, upd_same, rfl, fun x hx => ?_⟩
        simp only [List.mem_cons, List.not_mem_nil, or_false] at hx
        rcases hx with rfl | rfl | rfl | rfl | rfl | rfl | rfl | rfl | rfl
        · exact .inl ⟨_, fun _ _ => .base .non, kit_ty (r := false) (by decide +kernel)⟩
        · exact .inr ⟨t1, _, rfl, y1 _ _ upd_same, (fun y hy => by
            simp only [List.mem_cons, List.not_mem_nil, or_false] at hy
            subst hy
            exact .inl ⟨_, rfl⟩), by decide⟩
        · exact .inr ⟨t2, _, rfl, y2 _ _ upd_same, two _ _, by show 2 ≤ 1000; decide⟩
        · exact .inr ⟨t3, _, rfl, y3 _ _ upd_same, (fun y hy => by
            simp only [List.mem_cons, List.not_mem_nil, or_false] at hy
            rcases hy with rfl | rfl
            · exact .inl ⟨_, rfl⟩
            · exact .inr (.bl _)), by show 2 ≤ 1000; decide⟩
        · exact .inl ⟨_, fun H' s' => .base (.tup (s' _ _ (y4 _ _ upd_same))), kit_ty (r := false) (by decide +kernel)⟩
        · exact .inr ⟨t5, _, rfl, y5 _ _ upd_same, two _ _, by show 2 ≤ 1000; decide⟩
        · exact .inr ⟨t6, _, rfl, y6 _ _ upd_same, (fun y hy => by
            simp only [List.mem_cons, List.not_mem_nil, or_false] at hy
            rcases hy with rfl | rfl | rfl | rfl <;> exact .inl ⟨_, rfl⟩), by show 4 ≤ 1000; decide⟩
        · exact .inr ⟨t7, _, rfl, y7 _ _ upd_same, (fun y hy => by
            simp only [List.mem_cons, List.not_mem_nil, or_false] at hy
            subst hy
            exact .inr (.str _)), by decide⟩
        · exact .inr ⟨t8, _, rfl, y8 _ _ upd_same, two _ _, by show 2 ≤ 1000; decide⟩
      · exact sN (sN (sN (sN (sN (sN (sN (sN (same_new n1) n2) n3) n4) n5) n6) n7) n8) nn
    rintro σ H7 ⟨nw, rfl, hnw, s67⟩
    have s57 := s56.trans s67
    have s07 := s05.trans s57
    have W7 := W5.mono s57
    have he7 := s57 _ _ he5
    have hq7 := s57 _ _ hq5
    have hpl7 := s57 _ _ hpl
    have hge : ∀ x ∈ es, -1 ≤ x := by
      have := eld_ge (row es) [-1] 0 (fun x hx => by simp at hx; omega)
      rw [row_back hok] at this
      exact this
    have htops : es.count (-1) = tops 0 (cutEv (row es)).flatten := by
      have := tops_all (row_bal es)
      rw [row_back hok] at this
      rw [cutEv_flat]; exact this
    obtain ⟨xs, hx1, hx2, hx3⟩ := hth
    have hx7 := s67 _ _ hx1
    have hx37 : ∀ x ∈ xs, Thing H7 x ∧ knotB x es.length = false := fun x hx => ⟨(hx3 x hx).1.mono s67, (hx3 x hx).2⟩
    obtain ⟨ys, hy1, hy2, hy3⟩ := hnw
    refine ⟨_, rfl, _, rfl, _, rfl, a, _, rfl, SqL.mono s07 hS, fun y hy => ⟨_, rfl, _, _, rfl, .inl ⟨_, SqL.mono (same_new hy) (SqL.mono s07 hS), rfl⟩, (by show 1 ≤ sizeLine; decide), fun z hz => ?_⟩⟩
    have hzl : (cutV (ns.map V.int) (some 12) (some 32)).length + 1 ≤ 1000 := by
      unfold cutV
      rw [List.length_take, List.length_drop, List.length_map]
      omega
    refine ⟨y, z, _, _, rfl, rfl, by rw [upd_ne (ne_of_none upd_same hz), upd_same], upd_same, sz1 (by show _ + 1 ≤ _; omega), fun c hc => ?_⟩
    have s78 := sN (o := .lst (cutV (ns.map V.int) (some 12) (some 32) ++ [.int ((ns.map V.int).length : Nat)])) (sN (o := .lst [.int ((ns.map V.int).length : Nat)]) (same_new (o := .lst (cutV (ns.map V.int) (some 12) (some 32))) hy) hz) hc
    refine ⟨c, rfl, ⟨_, SqL.of upd_same⟩, for_list (xs := cutV (ns.map V.int) (some 12) (some 32) ++ [.int ((ns.map V.int).length : Nat)]) (fun i σ H' => ∃ v7 v8 v9 v10 v11 v12 v13 v14 : Option V, σ = [some (.ref a), some (.int (seed : Nat)), some (.ref e1), some (.ref o), some (.ref pl), some (.ref th), some (.ref nw), v7, v8, v9, v10, v11, v12, v13, v14, none] ∧ H' c = some (.lst (cutV (ns.map V.int) (some 12) (some 32) ++ [.int ((ns.map V.int).length : Nat)])) ∧ Same H7 H')
      ⟨none, none, none, none, none, none, none, none, rfl, upd_same, s78⟩ (fun i σ H' _ ⟨_, _, _, _, _, _, _, _, _, hcc, _⟩ => SqL.of hcc) ?_ (fun σ H' ⟨_, _, _, _, _, _, _, _, hσ, _, _⟩ => k H')⟩
    rintro i x σ HA hx ⟨v7, v8, v9, v10, v11, v12, v13, v14, rfl, hcA, sA⟩
    obtain ⟨cell, rfl⟩ : ∃ cell : Int, x = .int cell := by
      have h1 := List.mem_of_getElem? hx
      rcases List.mem_append.mp h1 with h1 | h1
      · unfold cutV at h1
        obtain ⟨n, _, rfl⟩ := List.mem_map.mp (List.mem_of_mem_drop (List.mem_of_mem_take h1))
        exact ⟨n, rfl⟩
      · simp only [List.mem_cons, List.not_mem_nil, or_false] at h1
        exact ⟨_, h1⟩
    have ixT : ∀ (j : Nat), j < 10 → ∃ v, atI xs ((j : Nat) : Int) = some v ∧ v ∈ xs := fun j hj => by
      have e : xs[j]? = some (xs[j]'(by omega)) := List.getElem?_eq_getElem (by omega)
      exact ⟨_, atI_n e, List.mem_of_getElem? e⟩
    refine ⟨_, rfl, cell, 3, rfl, by omega, fun num => ?_⟩
    have ed : ∀ d : Nat, ((num : Nat) : Int) / ((d : Nat) : Int) = ((num / d : Nat) : Int) := fun d => (Int.natCast_ediv _ _).symm
    obtain ⟨odd, ho1, ho2⟩ := ixT (num % 10) (by omega)
    have xA := sA _ _ hx7
    refine ⟨_, rfl, _, rfl, _, _, rfl, rfl, (by show (0 : Int) < _; decide), th, _, _, odd, rfl, rfl, SqL.of xA, (by (try dsimp only); rw [show ((num : Nat) : Int) % 10 = ((num % 10 : Nat) : Int) by omega]; exact ho1), ?_⟩
    refine ⟨_, rfl, _, rfl, o, q, _, _, odd, _, _, rfl, W7.mono sA, .inl ⟨rfl, (hx37 odd ho2).1.mono sA, by rw [hon]; exact (hx37 odd ho2).2, fun p HB sB hp hlp => ?_⟩⟩
    refine ⟨(by show 1 ≤ sizeLine; decide), fun n1 hn1 => ne_same (xs := kindV .knot) (SqL.of (same_new hn1 _ _ hlp)) (SqL.of upd_same) (by decide +kernel) ⟨_, rfl, iteF ?_⟩⟩
    have sC := sN (o := .lst [.str "knot"]) sB hn1
    have s7C := sA.trans sC
    obtain ⟨kk, hk1, hk2⟩ := ixT (num / 10 % 10) (by omega)
    refine ⟨_, rfl, _, rfl, _, _, rfl, rfl, ⟨by decide, by decide⟩, _, _, rfl, rfl, (by show (0 : Int) < _; decide), th, _, _, kk, rfl, rfl, SqL.of (sC _ _ xA), (by (try dsimp only); rw [show ((num : Nat) : Int) / 10 % 10 = ((num / 10 % 10 : Nat) : Int) by omega]; exact hk1), ?_⟩
    refine ⟨fun σ H' => ∃ kv : V, σ = [some (.ref a), some (.int (seed : Nat)), some (.ref e1), some (.ref o), some (.ref pl), some (.ref th), some (.ref nw), some (.int cell), some (.int (num : Nat)), some odd, some kv, v11, v12, v13, v14, none] ∧ KOk H7 kv es.length ∧ H' c = some (.lst (cutV (ns.map V.int) (some 12) (some 32) ++ [.int ((ns.map V.int).length : Nat)])) ∧ Same H7 H', ?_, ?_⟩
    · refine ⟨_, rfl, _, _, rfl, rfl, ⟨by decide, by decide⟩, _, _, rfl, rfl, (by show (0 : Int) < _; decide), _, _, rfl, rfl, _, rfl, ite_d rfl (fun _ => ?_) (fun _ => ?_)⟩
      · exact ⟨.non, rfl, .inl rfl, sC _ _ hcA, s7C⟩
      · exact ⟨kk, rfl, kok_of (hx37 kk hk2), sC _ _ hcA, s7C⟩
    rintro σ HD ⟨kv, rfl, hkv, hcD, sD⟩
    have he1D := sD _ _ he7
    refine ⟨_, rfl, e1, rfl, ⟨_, SqL.of he1D⟩, fun D hD => lc_list (xs := es.map V.int) (fun i H' => H' D = some (.lst (((es.take i).filter (fun x => decide (x < 0))).map V.int)) ∧ Same HD H') ⟨upd_same, same_new hD⟩ (fun i H' _ ⟨_, s⟩ => SqL.of (s _ _ he1D)) (fun i x H' hx ⟨hl, s⟩ => ?_) (fun HE ⟨hlE, sE⟩ => ?_)⟩
    · obtain ⟨e, he, rfl⟩ := map_at hx
      have hi := (List.getElem?_eq_some_iff.mp he).1
      have ht : (es.take (i + 1)).filter (fun x => decide (x < 0)) = (es.take i).filter (fun x => decide (x < 0)) ++ (if e < 0 then [e] else []) := by
        rw [take_more he, List.filter_append]
        by_cases q : e < 0 <;> simp [q]
      refine ⟨rfl, _, rfl, _, _, rfl, rfl, _, rfl, ite_d rfl (fun h => ?_) (fun h => ?_)⟩
      · refine ⟨_, rfl, _, hl, sz2 ?_, ?_, sM s hD⟩
        · have h1 := List.length_filter_le (fun x => decide (x < 0)) (es.take i)
          rw [List.length_take] at h1
          rw [List.length_map]
          omega
        · rw [upd_same, ht, if_pos h, List.map_append]; rfl
      · refine ⟨?_, s⟩
        rw [ht, if_neg h, List.append_nil]
        exact hl
    rw [List.length_map, List.take_length] at hlE
    refine ⟨_, _, rfl, .inl ⟨_, SqL.of hlE, rfl⟩, ?_⟩
    rw [show ((es.filter (fun x => decide (x < 0))).map V.int).length = es.count (-1) by rw [List.length_map, filter_neg hge]]
    have s7E := sD.trans sE
    have xE := s7E _ _ hx7
    refine ⟨_, rfl, _, rfl, _, _, rfl, rfl, (by show 3 ≤ sizeLine; decide), fun l1 hl1 => ⟨_, rfl, l1, th, _, _, rfl, rfl, upd_same, (same_new hl1) _ _ xE, sz1 (by rw [hx2]; show 3 + 10 ≤ 1000000; decide), fun l2 hl2 => ?_⟩⟩
    have s7F := sN (o := .lst ([.int 0, .int (es.count (-1) : Nat), .int ((es.count (-1) : Nat) + (1 : Int))] ++ xs)) (sN (o := .lst [.int 0, .int (es.count (-1) : Nat), .int ((es.count (-1) : Nat) + (1 : Int))]) s7E hl1) hl2
    obtain ⟨pv, hp1, hp2⟩ : ∃ v, atI ([.int 0, .int (es.count (-1) : Nat), .int ((es.count (-1) : Nat) + (1 : Int))] ++ xs) (((num / 300 % 13 : Nat)) : Int) = some v ∧ Thing H7 v := by
      have e : ([V.int 0, .int (es.count (-1) : Nat), .int ((es.count (-1) : Nat) + (1 : Int))] ++ xs)[num / 300 % 13]? = some (([V.int 0, .int (es.count (-1) : Nat), .int ((es.count (-1) : Nat) + (1 : Int))] ++ xs)[num / 300 % 13]'(by rw [List.length_append, hx2]; show _ < 13; omega)) := List.getElem?_eq_getElem _
      refine ⟨_, atI_n e, ?_⟩
      rcases List.mem_append.mp (List.mem_of_getElem? e) with h1 | h1
      · simp only [List.mem_cons, List.not_mem_nil, or_false] at h1
        rcases h1 with h1 | h1 | h1 <;> (rw [h1]; exact .inl ⟨_, rfl⟩)
      · exact (hx37 _ h1).1
    refine ⟨_, rfl, _, _, rfl, rfl, ⟨by decide, by decide⟩, _, _, rfl, rfl, (by show (0 : Int) < _; decide), l2, _, _, pv, rfl, rfl, SqL.of upd_same, (by (try dsimp only); rw [show ((num : Nat) : Int) / 300 % 13 = ((num / 300 % 13 : Nat) : Int) by omega]; exact hp1), ?_⟩
    obtain ⟨ot, hot1, hot2⟩ : ∃ v, atI ys (((num / 3900 % 9 : Nat)) : Int) = some v ∧ OtherOk K H7 v := by
      have e : ys[num / 3900 % 9]? = some (ys[num / 3900 % 9]'(by omega)) := List.getElem?_eq_getElem (by omega)
      exact ⟨_, atI_n e, hy3 _ (List.mem_of_getElem? e)⟩
    refine ⟨_, rfl, _, rfl, _, _, rfl, rfl, ⟨by decide, by decide⟩, _, _, rfl, rfl, (by show (0 : Int) < _; decide), nw, _, _, ot, rfl, rfl, SqL.of (s7F _ _ hy1), (by (try dsimp only); rw [show ((num : Nat) : Int) / 3900 % 9 = ((num / 3900 % 9 : Nat) : Int) by omega]; exact hot1), ?_⟩
    have hc0 : ∀ {Hx : Hp}, Same HD Hx → Hx c = some (.lst (cutV (ns.map V.int) (some 12) (some 32) ++ [.int ((ns.map V.int).length : Nat)])) := fun {Hx} s' => s' _ _ hcD
    have sDF := sN (o := .lst ([.int 0, .int (es.count (-1) : Nat), .int ((es.count (-1) : Nat) + (1 : Int))] ++ xs)) (sN (o := .lst [.int 0, .int (es.count (-1) : Nat), .int ((es.count (-1) : Nat) + (1 : Int))]) sE hl1) hl2
    have hcF := hc0 sDF
    generalize hHF : upd (upd HE l1 (.lst [.int 0, .int (es.count (-1) : Nat), .int ((es.count (-1) : Nat) + (1 : Int))])) l2 (.lst ([.int 0, .int (es.count (-1) : Nat), .int ((es.count (-1) : Nat) + (1 : Int))] ++ xs)) = HF at hcF s7F
    have hotF := hot2.mono s7F
    refine ⟨fun σ H' => σ = [some (.ref a), some (.int (seed : Nat)), some (.ref e1), some (.ref o), some (.ref pl), some (.ref th), some (.ref nw), some (.int cell), some (.int (num : Nat)), some odd, some kv, some (.int (es.count (-1) : Nat)), some pv, some ot, v14, none] ∧ Same HF H', ?_, ?_⟩
    · rcases hotF with hn | ⟨oa, os, rfl, hoa, hos, hoz⟩
      · refine ⟨_, rfl, ot, rfl, .inl ⟨hn, fun HG sG => ⟨rfl, _, rfl, iteT ?_⟩⟩⟩
        refine ⟨_, rfl, ot, rfl, .inl ⟨hn.mono sG, fun p HI sI hp hlp => ?_⟩⟩
        refine ⟨_, rfl, ot, rfl, .inl ⟨hn.mono (sG.trans sI), fun HJ sJ => ⟨(by show 2 ≤ sizeLine; decide), fun n2 hn2 => ne_same (xs := kindV (.wood 0)) (SqL.of (same_new hn2 _ _ (sJ _ _ hlp))) (SqL.of upd_same) (kind_ok _) ⟨_, rfl, iteF ⟨rfl, sN ((sG.trans sI).trans sJ) hn2⟩⟩⟩⟩⟩
      · refine ⟨_, rfl, _, rfl, .inr ⟨oa, os, rfl, hoa, hos, by omega, fun HG sG => ?_⟩⟩
        cases hlk : lookI [] 0 (os.map toI) with
        | none => exact ⟨rfl, _, rfl, iteF (iteF ⟨rfl, sG⟩)⟩
        | some z =>
          refine ⟨rfl, _, rfl, iteT ?_⟩
          refine ⟨_, rfl, _, rfl, .inr ⟨oa, os, z, rfl, sG _ _ hoa, fun y hy => (hos y hy).mono sG, by omega, hlk, fun p HI sI hp hlp => ?_⟩⟩
          refine ⟨_, rfl, _, rfl, .inr ⟨oa, os, rfl, (sG.trans sI) _ _ hoa, fun y hy => (hos y hy).mono (sG.trans sI), by omega, fun HJ sJ => ?_⟩⟩
          rw [hlk]
          exact ⟨(by show 2 ≤ sizeLine; decide), fun n2 hn2 => ne_same (xs := kindV (.wood z)) (SqL.of (same_new hn2 _ _ (sJ _ _ hlp))) (SqL.of upd_same) (kind_ok _) ⟨_, rfl, iteF ⟨rfl, sN ((sG.trans sI).trans sJ) hn2⟩⟩⟩
    rintro σ HG ⟨rfl, sG⟩
    have s7G := s7F.trans sG
    have hkvG : KOk HG kv es.length := by
      rcases hkv with h | ⟨h1, h2, h3⟩
      · exact .inl h
      · exact .inr ⟨h1, h2.mono s7G, h3⟩
    have href := refusal (K := K) (o := o) (q := q) hon htops hkvG (hp2.mono s7G) (hot2.mono s7G)
    refine ⟨fun σ H' => ∃ d : Addr, σ = [some (.ref a), some (.int (seed : Nat)), some (.ref e1), some (.ref o), some (.ref pl), some (.ref th), some (.ref nw), some (.int cell), some (.int (num : Nat)), some odd, some kv, some (.int (es.count (-1) : Nat)), some pv, some ot, some (.ref d), none] ∧ Same HG H' ∧
        ((∃ e, H' d = some (.lst (kindV e)) ∧ ∀ H'', Same HG H'' → ∀ (R : ErrK → Prop) (G : List (List Bool) → Prop), R e → GraftCase K H'' o q (cutEv (row es)) kv pv ot R G) ∨ H' d = some (.lst [.str "good"])), ?_, ?_⟩
    · refine ⟨_, rfl, _, _, rfl, .inl ⟨_, SqL.of (s7G _ _ he7), rfl⟩, _, rfl, _, rfl, _, rfl, _, rfl, es.length, es.count (-1), kv, pv, ot, (by rw [List.length_map]), by omega, ?_⟩
      rcases href with ⟨e, hd, hg⟩ | hd
      · exact hd _ _ (fun p H' s' hp hlp => ⟨p, rfl, s', .inl ⟨e, hlp, hg⟩⟩)
      · exact hd _ _ (fun p H' s' hp hlp => ⟨p, rfl, s', .inr hlp⟩)
    rintro σ HI ⟨d, rfl, sI, hd⟩
    refine ⟨fun σ H' => σ = [some (.ref a), some (.int (seed : Nat)), some (.ref e1), some (.ref o), some (.ref pl), some (.ref th), some (.ref nw), some (.int cell), some (.int (num : Nat)), some odd, some kv, some (.int (es.count (-1) : Nat)), some pv, some ot, some (.ref d), none] ∧ Same HI H', ?_, ?_⟩
    · rcases hd with ⟨e, hde, hg⟩ | hde
      · refine ⟨_, rfl, (by show 1 ≤ sizeLine; decide), fun n2 hn2 => ne_diff (xs := kindV e) (SqL.of (same_new hn2 _ _ hde)) (SqL.of upd_same) (kind_ok _) (by decide +kernel) (kind_nb e) (kind_ne e) ⟨_, rfl, iteT ?_⟩⟩
        have sJ := same_new (o := .lst [.str "good"]) hn2
        have s7J := (s7G.trans sI).trans sJ
        refine ⟨_, rfl, _, rfl, _, rfl, _, rfl, o, q, _, _, kv, pv, ot, rfl, W7.mono s7J, .inr (.inr ⟨rfl, hg _ (sI.trans sJ) _ _ (fun p HK sK hp hlp => ?_)⟩)⟩
        exact ⟨_, rfl, ne_same (xs := kindV e) (SqL.of hlp) (SqL.of (sK _ _ (sJ _ _ hde))) (kind_ok _) ⟨_, rfl, iteF ⟨rfl, sJ.trans sK⟩⟩⟩
      · refine ⟨_, rfl, (by show 1 ≤ sizeLine; decide), fun n2 hn2 => ne_same (xs := [.str "good"]) (SqL.of (same_new hn2 _ _ hde)) (SqL.of upd_same) (by decide +kernel) ⟨_, rfl, iteF (iteF ⟨rfl, same_new hn2⟩)⟩⟩
    rintro σ HL ⟨rfl, sL⟩
    have s7L := (s7G.trans sI).trans sL
    refine ⟨_, rfl, _, rfl, _, rfl, o, q, e1, es, num, rfl, W7.mono s7L, s7L _ _ he7, hok, by omega, fun HM sM1 => ⟨_, rfl, iteF ?_⟩⟩
    have s7M := s7L.trans sM1
    obtain ⟨dx9, _, _, _, g9, _⟩ := id (W7.mono s7M)
    refine ⟨_, rfl, o, _, _, rfl, g9, rfl, o, q, _, rfl, W7.mono s7M, fun p3 HN sN1 hp3 hlp3 => ?_⟩
    have s7N := s7M.trans sN1
    rw [cutEv_flat, row_back hok] at hlp3
    refine ⟨_, rfl, ne_same (xs := es.map V.int) (SqL.of hlp3) (SqL.of (s7N _ _ he7)) (ints_ok es) ⟨_, rfl, iteF ?_⟩⟩
    obtain ⟨dx10, _, _, _, g10, _⟩ := id (W7.mono s7N)
    refine ⟨_, rfl, o, _, _, rfl, g10, rfl, o, q, _, rfl, W7.mono s7N, fun p4 HO sO hp4 hlp4 => ?_⟩
    have s7O := s7N.trans sO
    refine ⟨_, rfl, ne_same (xs := txs (cutEv (row es))) (SqL.of hlp4) (SqL.of (s7O _ _ hpl7)) (texts_ok _) ⟨_, rfl, iteF ?_⟩⟩
    refine ⟨_, rfl, o, q, _, _, _, _, _, rfl, W7.mono s7O, .inr (.inl ⟨rfl, s7O _ _ hq7, fun p5 HP sP hp5 hlp5 => ?_⟩)⟩
    refine ⟨(by show 1 ≤ sizeLine; decide), fun n5 hn5 => ne_same (xs := kindV .deed) (SqL.of (same_new hn5 _ _ hlp5)) (SqL.of upd_same) (by decide +kernel) ⟨_, rfl, iteF ?_⟩⟩
    have sQ := sN (o := .lst [.str "deed"]) sP hn5
    refine ⟨_, _, _, _, _, _, _, _, rfl, ?_, s7O.trans sQ⟩
    exact sQ _ _ (sO _ _ (sN1 _ _ (sM1 _ _ (sL _ _ (sI _ _ (sG _ _ hcF))))))
end
end Tw
namespace Tw
open PySem PySem.Spec PyProof.Rows L2
theorem facts {P : Program} {w : World} {K : PySem.W.Frag} {h : Heap} {mg : Str → Option Value} {fL : Addr} (X : K.In h) (G : h.Ns mainGlobals mg) (hfa : mg ("law" : Str) = some (.ref fL)) (c : He.SaysD fa fn K) (e : ex K = true) :
    ∃ fd : FuncData, (∀ (s : Shared) (v : Value), BindsTo s fd ⟨[v], []⟩ [("_law_script", v)]) ∧ ∀ base : Heap, K.In base → base.Ns mainGlobals mg → FnOk P w K mg base (L2.CX P w) 8 fL fd ["_law_script"] (spLaw K) := by
  have Z := txt_of X G c e
  obtain ⟨d_sums_of, F_sums_of⟩ := c.def_ 0 rfl
  have b_sums_of : Binds K d_sums_of ["text"] [] := F_sums_of.bindsN fun _ _ _ _ _ _ us hl => match us, hl with | [_], _ => rfl
  obtain ⟨d_tops_in, F_tops_in⟩ := c.def_ 1 rfl
  have b_tops_in : Binds K d_tops_in ["text", "first"] [] := F_tops_in.bindsN fun _ _ _ _ _ _ us hl => match us, hl with | [_, _], _ => rfl
  obtain ⟨d_cut_evenly, F_cut_evenly⟩ := c.def_ 2 rfl
  have b_cut_evenly : Binds K d_cut_evenly ["text"] [] := F_cut_evenly.bindsN fun _ _ _ _ _ _ us hl => match us, hl with | [_], _ => rfl
  obtain ⟨d_put_for, F_put_for⟩ := c.def_ 3 rfl
  have b_put_for : Binds K d_put_for ["pieces", "low", "high", "text"] [] := F_put_for.bindsN fun _ _ _ _ _ _ us hl => match us, hl with | [_, _, _, _], _ => rfl
  obtain ⟨d_NoWood_init, F_NoWood_init⟩ := c.def_ 53 rfl
  have b_NoWood_init : Binds K d_NoWood_init ["self", "place"] [] := F_NoWood_init.bindsN fun _ _ _ _ _ _ us hl => match us, hl with | [_, _], _ => rfl
  obtain ⟨d_is_number, F_is_number⟩ := c.def_ 12 rfl
  have b_is_number : Binds K d_is_number ["thing"] [] := F_is_number.bindsN fun _ _ _ _ _ _ us hl => match us, hl with | [_], _ => rfl
  obtain ⟨d_is_amid, F_is_amid⟩ := c.def_ 5 rfl
  have b_is_amid : Binds K d_is_amid ["thing", "low", "high"] [] := F_is_amid.bindsN fun _ _ _ _ _ _ us hl => match us, hl with | [_, _, _], _ => rfl
  obtain ⟨d_ones_in, F_ones_in⟩ := c.def_ 4 rfl
  have b_ones_in : Binds K d_ones_in ["word"] [] := F_ones_in.bindsN fun _ _ _ _ _ _ us hl => match us, hl with | [_], _ => rfl
  obtain ⟨d_row_of, F_row_of⟩ := c.def_ 10 rfl
  have b_row_of : Binds K d_row_of ["elders"] [] := F_row_of.bindsN fun _ _ _ _ _ _ us hl => match us, hl with | [_], _ => rfl
  obtain ⟨d_look_at, F_look_at⟩ := c.def_ 9 rfl
  have b_look_at : Binds K d_look_at ["elders"] [] := F_look_at.bindsN fun _ _ _ _ _ _ us hl => match us, hl with | [_], _ => rfl
  obtain ⟨d_words_of, F_words_of⟩ := c.def_ 6 rfl
  have b_words_of : Binds K d_words_of ["text"] [] := F_words_of.bindsN fun _ _ _ _ _ _ us hl => match us, hl with | [_], _ => rfl
  obtain ⟨d_Bits_init, F_Bits_init⟩ := c.def_ 27 rfl
  have b_Bits_init : Binds K d_Bits_init ["self", "text"] [] := F_Bits_init.bindsN fun _ _ _ _ _ _ us hl => match us, hl with | [_, _], _ => rfl
  obtain ⟨d_Bits_size, F_Bits_size⟩ := c.def_ 28 rfl
  have b_Bits_size : Binds K d_Bits_size ["self"] [] := F_Bits_size.bindsN fun _ _ _ _ _ _ us hl => match us, hl with | [_], _ => rfl
  obtain ⟨d_Bits_words, F_Bits_words⟩ := c.def_ 29 rfl
  have b_Bits_words : Binds K d_Bits_words ["self"] [] := F_Bits_words.bindsN fun _ _ _ _ _ _ us hl => match us, hl with | [_], _ => rfl
  obtain ⟨d_Bits_need, F_Bits_need⟩ := c.def_ 30 rfl
  have b_Bits_need : Binds K d_Bits_need ["self", "place", "most"] [] := F_Bits_need.bindsN fun _ _ _ _ _ _ us hl => match us, hl with | [_, _, _], _ => rfl
  obtain ⟨d_Bits_at, F_Bits_at⟩ := c.def_ 31 rfl
  have b_Bits_at : Binds K d_Bits_at ["self", "place"] [] := F_Bits_at.bindsN fun _ _ _ _ _ _ us hl => match us, hl with | [_, _], _ => rfl
  obtain ⟨d_Bits_stretch, F_Bits_stretch⟩ := c.def_ 32 rfl
  have b_Bits_stretch : Binds K d_Bits_stretch ["self", "low", "high"] [] := F_Bits_stretch.bindsN fun _ _ _ _ _ _ us hl => match us, hl with | [_, _, _], _ => rfl
  obtain ⟨d_Bits_text, F_Bits_text⟩ := c.def_ 33 rfl
  have b_Bits_text : Binds K d_Bits_text ["self"] [] := F_Bits_text.bindsN fun _ _ _ _ _ _ us hl => match us, hl with | [_], _ => rfl
  obtain ⟨d_Counts_init, F_Counts_init⟩ := c.def_ 34 rfl
  have b_Counts_init : Binds K d_Counts_init ["self", "bits"] [] := F_Counts_init.bindsN fun _ _ _ _ _ _ us hl => match us, hl with | [_, _], _ => rfl
  obtain ⟨d_ask_row, F_ask_row⟩ := c.def_ 7 rfl
  have b_ask_row : Binds K d_ask_row ["text"] [] := F_ask_row.bindsN fun _ _ _ _ _ _ us hl => match us, hl with | [_], _ => rfl
  obtain ⟨d_table_of, F_table_of⟩ := c.def_ 8 rfl
  have b_table_of : Binds K d_table_of ["text"] [] := F_table_of.bindsN fun _ _ _ _ _ _ us hl => match us, hl with | [_], _ => rfl
  obtain ⟨d_Pairs_init, F_Pairs_init⟩ := c.def_ 35 rfl
  have b_Pairs_init : Binds K d_Pairs_init ["self", "text"] [] := F_Pairs_init.bindsN fun _ _ _ _ _ _ us hl => match us, hl with | [_, _], _ => rfl
  obtain ⟨d_Pairs_text, F_Pairs_text⟩ := c.def_ 36 rfl
  have b_Pairs_text : Binds K d_Pairs_text ["self"] [] := F_Pairs_text.bindsN fun _ _ _ _ _ _ us hl => match us, hl with | [_], _ => rfl
  obtain ⟨d_elders_of, F_elders_of⟩ := c.def_ 11 rfl
  have b_elders_of : Binds K d_elders_of ["text"] [] := F_elders_of.bindsN fun _ _ _ _ _ _ us hl => match us, hl with | [_], _ => rfl
  obtain ⟨d_Shaped_init, F_Shaped_init⟩ := c.def_ 37 rfl
  have b_Shaped_init : Binds K d_Shaped_init ["self", "elders"] [] := F_Shaped_init.bindsN fun _ _ _ _ _ _ us hl => match us, hl with | [_, _], _ => rfl
  obtain ⟨d_Shaped_pieces, F_Shaped_pieces⟩ := c.def_ 38 rfl
  have b_Shaped_pieces : Binds K d_Shaped_pieces ["self"] [] := F_Shaped_pieces.bindsN fun _ _ _ _ _ _ us hl => match us, hl with | [_], _ => rfl
  obtain ⟨d_Shaped_row, F_Shaped_row⟩ := c.def_ 39 rfl
  have b_Shaped_row : Binds K d_Shaped_row ["self"] [] := F_Shaped_row.bindsN fun _ _ _ _ _ _ us hl => match us, hl with | [_], _ => rfl
  obtain ⟨d_Shaped_elders, F_Shaped_elders⟩ := c.def_ 40 rfl
  have b_Shaped_elders : Binds K d_Shaped_elders ["self"] [] := F_Shaped_elders.bindsN fun _ _ _ _ _ _ us hl => match us, hl with | [_], _ => rfl
  obtain ⟨d_Shaped_many_knots, F_Shaped_many_knots⟩ := c.def_ 41 rfl
  have b_Shaped_many_knots : Binds K d_Shaped_many_knots ["self"] [] := F_Shaped_many_knots.bindsN fun _ _ _ _ _ _ us hl => match us, hl with | [_], _ => rfl
  obtain ⟨d_Shaped_look_at_knot, F_Shaped_look_at_knot⟩ := c.def_ 42 rfl
  have b_Shaped_look_at_knot : Binds K d_Shaped_look_at_knot ["self", "k"] [] := F_Shaped_look_at_knot.bindsN fun _ _ _ _ _ _ us hl => match us, hl with | [_, _], _ => rfl
  obtain ⟨d_Shaped_row_place, F_Shaped_row_place⟩ := c.def_ 45 rfl
  have b_Shaped_row_place : Binds K d_Shaped_row_place ["self", "at", "place"] [] := F_Shaped_row_place.bindsN fun _ _ _ _ _ _ us hl => match us, hl with | [_, _, _], _ => rfl
  obtain ⟨d_Shaped_spot_of, F_Shaped_spot_of⟩ := c.def_ 43 rfl
  have b_Shaped_spot_of : Binds K d_Shaped_spot_of ["self", "k"] [] := F_Shaped_spot_of.bindsN fun _ _ _ _ _ _ us hl => match us, hl with | [_, _], _ => rfl
  obtain ⟨d_Shaped_closing_from, F_Shaped_closing_from⟩ := c.def_ 44 rfl
  have b_Shaped_closing_from : Binds K d_Shaped_closing_from ["self", "at", "place", "height"] [] := F_Shaped_closing_from.bindsN fun _ _ _ _ _ _ us hl => match us, hl with | [_, _, _, _], _ => rfl
  obtain ⟨d_Shaped_ends_of, F_Shaped_ends_of⟩ := c.def_ 46 rfl
  have b_Shaped_ends_of : Binds K d_Shaped_ends_of ["self", "k"] [] := F_Shaped_ends_of.bindsN fun _ _ _ _ _ _ us hl => match us, hl with | [_, _], _ => rfl
  obtain ⟨d_Shaped_children, F_Shaped_children⟩ := c.def_ 47 rfl
  have b_Shaped_children : Binds K d_Shaped_children ["self", "k"] [] := F_Shaped_children.bindsN fun _ _ _ _ _ _ us hl => match us, hl with | [_, _], _ => rfl
  obtain ⟨d_Shaped_nth, F_Shaped_nth⟩ := c.def_ 48 rfl
  have b_Shaped_nth : Binds K d_Shaped_nth ["self", "k", "i"] [] := F_Shaped_nth.bindsN fun _ _ _ _ _ _ us hl => match us, hl with | [_, _, _], _ => rfl
  obtain ⟨d_Shaped_cut, F_Shaped_cut⟩ := c.def_ 50 rfl
  have b_Shaped_cut : Binds K d_Shaped_cut ["self", "k"] [] := F_Shaped_cut.bindsN fun _ _ _ _ _ _ us hl => match us, hl with | [_, _], _ => rfl
  obtain ⟨d_Shaped_take_back, F_Shaped_take_back⟩ := c.def_ 52 rfl
  have b_Shaped_take_back : Binds K d_Shaped_take_back ["self"] [] := F_Shaped_take_back.bindsN fun _ _ _ _ _ _ us hl => match us, hl with | [_], _ => rfl
  obtain ⟨d_Shaped_shape, F_Shaped_shape⟩ := c.def_ 49 rfl
  have b_Shaped_shape : Binds K d_Shaped_shape ["self", "parts"] [] := F_Shaped_shape.bindsN fun _ _ _ _ _ _ us hl => match us, hl with | [_, _], _ => rfl
  obtain ⟨d_Shaped_graft, F_Shaped_graft⟩ := c.def_ 51 rfl
  have b_Shaped_graft : Binds K d_Shaped_graft ["self", "k", "place", "elders"] [] := F_Shaped_graft.bindsN fun _ _ _ _ _ _ us hl => match us, hl with | [_, _, _, _], _ => rfl
  obtain ⟨d_law_cell_at, F_law_cell_at⟩ := c.def_ 13 rfl
  have b_law_cell_at : Binds K d_law_cell_at ["_law_script", "_law_k"] [] := F_law_cell_at.bindsN fun _ _ _ _ _ _ us hl => match us, hl with | [_, _], _ => rfl
  obtain ⟨d_law_whole, F_law_whole⟩ := c.def_ 14 rfl
  have b_law_whole : Binds K d_law_whole ["_law_found"] [] := F_law_whole.bindsN fun _ _ _ _ _ _ us hl => match us, hl with | [_], _ => rfl
  obtain ⟨d_law_mixed, F_law_mixed⟩ := c.def_ 15 rfl
  have b_law_mixed : Binds K d_law_mixed ["_law_cell", "_law_k"] [] := F_law_mixed.bindsN fun _ _ _ _ _ _ us hl => match us, hl with | [_, _], _ => rfl
  obtain ⟨d_law_digits, F_law_digits⟩ := c.def_ 16 rfl
  have b_law_digits : Binds K d_law_digits ["_law_script", "_law_at", "_law_many"] [] := F_law_digits.bindsN fun _ _ _ _ _ _ us hl => match us, hl with | [_, _, _], _ => rfl
  obtain ⟨d_law_wood, F_law_wood⟩ := c.def_ 17 rfl
  have b_law_wood : Binds K d_law_wood ["_law_digits_here"] [] := F_law_wood.bindsN fun _ _ _ _ _ _ us hl => match us, hl with | [_], _ => rfl
  obtain ⟨d_law_kind, F_law_kind⟩ := c.def_ 18 rfl
  have b_law_kind : Binds K d_law_kind ["_law_e"] [] := F_law_kind.bindsN fun _ _ _ _ _ _ us hl => match us, hl with | [_], _ => rfl
  obtain ⟨d_law_done, F_law_done⟩ := c.def_ 19 rfl
  have b_law_done : Binds K d_law_done ["_law_wood_here", "_law_way", "_law_k", "_law_place", "_law_elders"] [] := F_law_done.bindsN fun _ _ _ _ _ _ us hl => match us, hl with | [_, _, _, _, _], _ => rfl
  obtain ⟨d_law_no_wood, F_law_no_wood⟩ := c.def_ 20 rfl
  have b_law_no_wood : Binds K d_law_no_wood ["_law_elders"] [] := F_law_no_wood.bindsN fun _ _ _ _ _ _ us hl => match us, hl with | [_], _ => rfl
  obtain ⟨d_law_of_none, F_law_of_none⟩ := c.def_ 24 rfl
  have b_law_of_none : Binds K d_law_of_none ["_law_wood_here"] [] := F_law_of_none.bindsN fun _ _ _ _ _ _ us hl => match us, hl with | [_], _ => rfl
  obtain ⟨d_law_fault, F_law_fault⟩ := c.def_ 21 rfl
  have b_law_fault : Binds K d_law_fault ["_law_elders"] [] := F_law_fault.bindsN fun _ _ _ _ _ _ us hl => match us, hl with | [_], _ => rfl
  obtain ⟨d_law_due, F_law_due⟩ := c.def_ 22 rfl
  have b_law_due : Binds K d_law_due ["_law_many", "_law_k", "_law_place", "_law_children", "_law_elders"] [] := F_law_due.bindsN fun _ _ _ _ _ _ us hl => match us, hl with | [_, _, _, _, _], _ => rfl
  obtain ⟨d_law_beyond, F_law_beyond⟩ := c.def_ 25 rfl
  have b_law_beyond : Binds K d_law_beyond ["_law_wood_here", "_law_elders", "_law_number"] [] := F_law_beyond.bindsN fun _ _ _ _ _ _ us hl => match us, hl with | [_, _, _], _ => rfl
  obtain ⟨d_law_chain, F_law_chain⟩ := c.def_ 23 rfl
  have b_law_chain : Binds K d_law_chain ["_law_script"] [] := F_law_chain.bindsN fun _ _ _ _ _ _ us hl => match us, hl with | [_], _ => rfl
  obtain ⟨d_law, F_law⟩ := c.def_ 26 rfl
  have b_law : Binds K d_law ["_law_script"] [] := F_law.bindsN fun _ _ _ _ _ _ us hl => match us, hl with | [_], _ => rfl
  have eL := hfa.symm.trans Z.g_law
  cases eL
  have bA := FunD.bindsA (ps := ["_law_script"]) F_law fun _ _ _ _ _ _ us hl => match us, hl with | [_], _ => rfl
  refine ⟨d_law, fun s v => bA s [v] rfl, fun base _ _ => ?_⟩
  have c_sums_of : Cal P w K mg base 1 "sums_of" ["text"] spSums := ⟨_, _, Z.g_sums_of, F_sums_of.kp, ok_sums_of F_sums_of Z, b_sums_of⟩
  have c_tops_in : Cal P w K mg base 1 "tops_in" ["text", "first"] spTops := ⟨_, _, Z.g_tops_in, F_tops_in.kp, ok_tops_in F_tops_in Z, b_tops_in⟩
  have c_cut_evenly : Cal P w K mg base 1 "cut_evenly" ["text"] spCutE := ⟨_, _, Z.g_cut_evenly, F_cut_evenly.kp, ok_cut_evenly F_cut_evenly Z, b_cut_evenly⟩
  have c_put_for : Cal P w K mg base 2 "put_for" ["pieces", "low", "high", "text"] spPut := ⟨_, _, Z.g_put_for, F_put_for.kp, ok_put_for F_put_for Z c_cut_evenly, b_put_for⟩
  have n_w : Mtd P w K mg base 1 (He.ga K "NoWood") "__init__" ["self", "place"] (spNwI K) := ⟨_, _, Z.m_NoWood___init__, ok_NoWood_init F_NoWood_init Z, b_NoWood_init⟩
  have c_is_number : Cal P w K mg base 1 "is_number" ["thing"] spNum := ⟨_, _, Z.g_is_number, F_is_number.kp, ok_is_number F_is_number Z, b_is_number⟩
  have c_is_amid : Cal P w K mg base 1 "is_amid" ["thing", "low", "high"] spAmid := ⟨_, _, Z.g_is_amid, F_is_amid.kp, ok_is_amid F_is_amid Z, b_is_amid⟩
  have c_ones_in : Cal P w K mg base 1 "ones_in" ["word"] spOnes := ⟨_, _, Z.g_ones_in, F_ones_in.kp, ok_ones_in F_ones_in Z, b_ones_in⟩
  have c_row_of : Cal P w K mg base 1 "row_of" ["elders"] spRow := ⟨_, _, Z.g_row_of, F_row_of.kp, ok_row_of F_row_of Z, b_row_of⟩
  have c_look_at : Cal P w K mg base 3 "look_at" ["elders"] (spLook K) := ⟨_, _, Z.g_look_at, F_look_at.kp, ok_look_at F_look_at Z n_w, b_look_at⟩
  have c_words_of : Cal P w K mg base 1 "words_of" ["text"] spWords := ⟨_, _, Z.g_words_of, F_words_of.kp, ok_words_of F_words_of Z, b_words_of⟩
  have k_Bits : Mkr P w K mg base 2 "Bits" (He.ga K "Bits") ["self", "text"] (spBitsI K) := ⟨_, _, Z.g_Bits, Z.k_Bits, ok_Bits_init F_Bits_init Z c_words_of, b_Bits_init⟩
  have m_Bits_size : Mtd P w K mg base 1 (He.ga K "Bits") "size" ["self"] (spSize K) := ⟨_, _, Z.m_Bits_size, ok_Bits_size F_Bits_size Z, b_Bits_size⟩
  have m_Bits_words : Mtd P w K mg base 1 (He.ga K "Bits") "words" ["self"] (spWordsM K) := ⟨_, _, Z.m_Bits_words, ok_Bits_words F_Bits_words Z, b_Bits_words⟩
  have m_Bits_need : Mtd P w K mg base 2 (He.ga K "Bits") "need" ["self", "place", "most"] spNeed := ⟨_, _, Z.m_Bits_need, ok_Bits_need F_Bits_need Z c_is_amid, b_Bits_need⟩
  have m_Bits_at : Mtd P w K mg base 1 (He.ga K "Bits") "at" ["self", "place"] (spAt K) := ⟨_, _, Z.m_Bits_at, ok_Bits_at F_Bits_at Z, b_Bits_at⟩
  have m_Bits_stretch : Mtd P w K mg base 3 (He.ga K "Bits") "stretch" ["self", "low", "high"] (spStretch K) := ⟨_, _, Z.m_Bits_stretch, ok_Bits_stretch F_Bits_stretch Z m_Bits_need m_Bits_at, b_Bits_stretch⟩
  have m_Bits_text : Mtd P w K mg base 4 (He.ga K "Bits") "text" ["self"] (spText K) := ⟨_, _, Z.m_Bits_text, ok_Bits_text F_Bits_text Z m_Bits_stretch, b_Bits_text⟩
  have k_Counts : Mkr P w K mg base 2 "Counts" (He.ga K "Counts") ["self", "bits"] (spCountsI K) := ⟨_, _, Z.g_Counts, Z.k_Counts, ok_Counts_init F_Counts_init Z c_ones_in m_Bits_words m_Bits_size, b_Counts_init⟩
  have c_ask_row : Cal P w K mg base 1 "ask_row" ["text"] spAsk := ⟨_, _, Z.g_ask_row, F_ask_row.kp, ok_ask_row F_ask_row Z, b_ask_row⟩
  have c_table_of : Cal P w K mg base 1 "table_of" ["text"] spTable := ⟨_, _, Z.g_table_of, F_table_of.kp, ok_table_of F_table_of Z, b_table_of⟩
  have k_Pairs : Mkr P w K mg base 4 "Pairs" (He.ga K "Pairs") ["self", "text"] (spPairsI K) := ⟨_, _, Z.g_Pairs, Z.k_Pairs, ok_Pairs_init F_Pairs_init Z c_ask_row k_Bits m_Bits_words k_Counts c_table_of, b_Pairs_init⟩
  have m_Pairs_text : Mtd P w K mg base 5 (He.ga K "Pairs") "text" ["self"] (spPText K) := ⟨_, _, Z.m_Pairs_text, ok_Pairs_text F_Pairs_text Z m_Bits_text, b_Pairs_text⟩
  have c_elders_of : Cal P w K mg base 6 "elders_of" ["text"] spElders := ⟨_, _, Z.g_elders_of, F_elders_of.kp, ok_elders_of F_elders_of Z k_Pairs m_Pairs_text, b_elders_of⟩
  have k_Shaped : Mkr P w K mg base 4 "Shaped" (He.ga K "Shaped") ["self", "elders"] (spShapedI K) := ⟨_, _, Z.g_Shaped, Z.k_Shaped, ok_Shaped_init F_Shaped_init Z c_cut_evenly c_row_of c_look_at c_sums_of, b_Shaped_init⟩
  have m_Shaped_pieces : Mtd P w K mg base 1 (He.ga K "Shaped") "pieces" ["self"] (spPieces K) := ⟨_, _, Z.m_Shaped_pieces, ok_Shaped_pieces F_Shaped_pieces Z, b_Shaped_pieces⟩
  have m_Shaped_row : Mtd P w K mg base 1 (He.ga K "Shaped") "row" ["self"] (spSRow K) := ⟨_, _, Z.m_Shaped_row, ok_Shaped_row F_Shaped_row Z, b_Shaped_row⟩
  have m_Shaped_elders : Mtd P w K mg base 7 (He.ga K "Shaped") "elders" ["self"] (spSElders K) := ⟨_, _, Z.m_Shaped_elders, ok_Shaped_elders F_Shaped_elders Z c_elders_of m_Shaped_row, b_Shaped_elders⟩
  have m_Shaped_many_knots : Mtd P w K mg base 1 (He.ga K "Shaped") "many_knots" ["self"] (spMany K) := ⟨_, _, Z.m_Shaped_many_knots, ok_Shaped_many_knots F_Shaped_many_knots Z, b_Shaped_many_knots⟩
  have m_Shaped_look_at_knot : Mtd P w K mg base 2 (He.ga K "Shaped") "look_at_knot" ["self", "k"] (spLookK K) := ⟨_, _, Z.m_Shaped_look_at_knot, ok_Shaped_look_at_knot F_Shaped_look_at_knot Z c_is_number m_Shaped_many_knots, b_Shaped_look_at_knot⟩
  have m_Shaped_row_place : Mtd P w K mg base 1 (He.ga K "Shaped") "row_place" ["self", "at", "place"] (spRowPlace K) := ⟨_, _, Z.m_Shaped_row_place, ok_Shaped_row_place F_Shaped_row_place Z, b_Shaped_row_place⟩
  have m_Shaped_spot_of : Mtd P w K mg base 1 (He.ga K "Shaped") "spot_of" ["self", "k"] (spSpot K) := ⟨_, _, Z.m_Shaped_spot_of, ok_Shaped_spot_of F_Shaped_spot_of Z, b_Shaped_spot_of⟩
  have m_Shaped_closing_from : Mtd P w K mg base 1 (He.ga K "Shaped") "closing_from" ["self", "at", "place", "height"] (spClose K) := ⟨_, _, Z.m_Shaped_closing_from, ok_Shaped_closing_from F_Shaped_closing_from Z, b_Shaped_closing_from⟩
  have m_Shaped_ends_of : Mtd P w K mg base 2 (He.ga K "Shaped") "ends_of" ["self", "k"] (spEnds K) := ⟨_, _, Z.m_Shaped_ends_of, ok_Shaped_ends_of F_Shaped_ends_of Z m_Shaped_spot_of m_Shaped_closing_from m_Shaped_row_place, b_Shaped_ends_of⟩
  have m_Shaped_children : Mtd P w K mg base 3 (He.ga K "Shaped") "children" ["self", "k"] (spKids K) := ⟨_, _, Z.m_Shaped_children, ok_Shaped_children F_Shaped_children Z c_tops_in m_Shaped_row m_Shaped_ends_of, b_Shaped_children⟩
  have m_Shaped_nth : Mtd P w K mg base 3 (He.ga K "Shaped") "nth" ["self", "k", "i"] (spNth K) := ⟨_, _, Z.m_Shaped_nth, ok_Shaped_nth F_Shaped_nth Z m_Shaped_look_at_knot, b_Shaped_nth⟩
  have m_Shaped_cut : Mtd P w K mg base 3 (He.ga K "Shaped") "cut" ["self", "k"] (spCut K) := ⟨_, _, Z.m_Shaped_cut, ok_Shaped_cut F_Shaped_cut Z m_Shaped_look_at_knot, b_Shaped_cut⟩
  have m_Shaped_take_back : Mtd P w K mg base 1 (He.ga K "Shaped") "take_back" ["self"] (spBack K) := ⟨_, _, Z.m_Shaped_take_back, ok_Shaped_take_back F_Shaped_take_back Z, b_Shaped_take_back⟩
  have m_Shaped_shape : Mtd P w K mg base 2 (He.ga K "Shaped") "shape" ["self", "parts"] (spShape K) := ⟨_, _, Z.m_Shaped_shape, ok_Shaped_shape F_Shaped_shape Z c_sums_of, b_Shaped_shape⟩
  have m_Shaped_graft : Mtd P w K mg base 4 (He.ga K "Shaped") "graft" ["self", "k", "place", "elders"] (spGraft K) := ⟨_, _, Z.m_Shaped_graft, ok_Shaped_graft F_Shaped_graft Z m_Shaped_look_at_knot m_Shaped_children c_is_number c_row_of c_look_at m_Shaped_many_knots m_Shaped_ends_of m_Shaped_shape c_put_for, b_Shaped_graft⟩
  have c_law_cell_at : Cal P w K mg base 1 "_law_cell_at" ["_law_script", "_law_k"] (spCell K) := ⟨_, _, Z.g__law_cell_at, F_law_cell_at.kp, ok_law_cell_at F_law_cell_at Z, b_law_cell_at⟩
  have c_law_whole : Cal P w K mg base 1 "_law_whole" ["_law_found"] spWhole := ⟨_, _, Z.g__law_whole, F_law_whole.kp, ok_law_whole F_law_whole Z, b_law_whole⟩
  have c_law_mixed : Cal P w K mg base 1 "_law_mixed" ["_law_cell", "_law_k"] spMixed := ⟨_, _, Z.g__law_mixed, F_law_mixed.kp, ok_law_mixed F_law_mixed Z, b_law_mixed⟩
  have c_law_digits : Cal P w K mg base 2 "_law_digits" ["_law_script", "_law_at", "_law_many"] (spDigits K) := ⟨_, _, Z.g__law_digits, F_law_digits.kp, ok_law_digits F_law_digits Z c_law_cell_at c_law_mixed, b_law_digits⟩
  have c_law_wood : Cal P w K mg base 1 "_law_wood" ["_law_digits_here"] spLWood := ⟨_, _, Z.g__law_wood, F_law_wood.kp, ok_law_wood F_law_wood Z, b_law_wood⟩
  have c_law_kind : Cal P w K mg base 1 "_law_kind" ["_law_e"] (spKind K) := ⟨_, _, Z.g__law_kind, F_law_kind.kp, ok_law_kind F_law_kind Z, b_law_kind⟩
  have c_law_done : Cal P w K mg base 5 "_law_done" ["_law_wood_here", "_law_way", "_law_k", "_law_place", "_law_elders"] (spDone K) := ⟨_, _, Z.g__law_done, F_law_done.kp, ok_law_done F_law_done Z m_Shaped_cut m_Shaped_graft m_Shaped_take_back c_law_kind, b_law_done⟩
  have c_law_no_wood : Cal P w K mg base 6 "_law_no_wood" ["_law_elders"] (spNoWood K) := ⟨_, _, Z.g__law_no_wood, F_law_no_wood.kp, ok_law_no_wood F_law_no_wood Z k_Shaped c_law_kind, b_law_no_wood⟩
  have c_law_of_none : Cal P w K mg base 4 "_law_of_none" ["_law_wood_here"] (spOfNone K) := ⟨_, _, Z.g__law_of_none, F_law_of_none.kp, ok_law_of_none F_law_of_none Z m_Shaped_nth c_law_kind, b_law_of_none⟩
  have c_law_fault : Cal P w K mg base 2 "_law_fault" ["_law_elders"] (spFault K) := ⟨_, _, Z.g__law_fault, F_law_fault.kp, ok_law_fault F_law_fault Z c_law_whole, b_law_fault⟩
  have c_law_due : Cal P w K mg base 3 "_law_due" ["_law_many", "_law_k", "_law_place", "_law_children", "_law_elders"] (spDue K) := ⟨_, _, Z.g__law_due, F_law_due.kp, ok_law_due F_law_due Z c_law_whole c_law_fault, b_law_due⟩
  have c_law_beyond : Cal P w K mg base 6 "_law_beyond" ["_law_wood_here", "_law_elders", "_law_number"] (spBeyond K) := ⟨_, _, Z.g__law_beyond, F_law_beyond.kp, ok_law_beyond F_law_beyond Z c_law_of_none c_law_done, b_law_beyond⟩
  have c_law_chain : Cal P w K mg base 7 "_law_chain" ["_law_script"] (spChain K) := ⟨_, _, Z.g__law_chain, F_law_chain.kp, ok_law_chain F_law_chain Z k_Shaped c_law_cell_at c_law_done m_Shaped_many_knots m_Shaped_pieces c_law_no_wood, b_law_chain⟩
  exact ok_law F_law Z c_law_mixed c_law_cell_at c_law_chain c_law_wood c_law_digits k_Shaped m_Shaped_pieces c_law_done c_law_fault c_law_no_wood c_law_due c_law_beyond m_Shaped_elders
end Tw
open PySem PySem.W PySem.Calls PyProof.Rows
theorem PySem.Challenge.cw_tightwood_k75_refused_holds : PySem.Challenge.rw_tightwood_k75_refused.Holds := by
  w_on; o_law
  refine HandSHeadRun.head_any (r := OpenLaw.row PySem.Challenge.rw_tightwood_k75_refused) (q := view (OpenLaw.row PySem.Challenge.rw_tightwood_k75_refused).prog [62]) (H := Tw.hk) (ob := Tw.ob) (M := 40000) (loose := Tw.names) (d := HandSHeadRun.topDef (OpenLaw.row PySem.Challenge.rw_tightwood_k75_refused).prog 62) (kwd := []) Tw.ob_eq
    (by kernel_rfl) (fun s => by kernel_rfl) Tw.run (by kernel_rfl) (by kernel_rfl) (by kernel_rfl) (by rfl) (by first | assumption | decide +kernel) (by decide +kernel) ⟨rfl, rfl, rfl, rfl, rfl, by decide +kernel⟩ ?hw ?hc
  case hw => w_witness2
  case hc =>
    refine LamX.walk_ofTsE (l := PySem.Challenge.rw_tightwood_k75_refused) (n := 63) (k := 8) (x := "_law_script") (CX := fun w => L2.CX (PySem.Challenge.rw_tightwood_k75_refused).prog w) rfl (by decide) (by kernel_rfl) ⟨rfl, by decide, by decide⟩ ?F (fun _ _ _ _ _ ⟨_, _, _, _, _, _, _, _, _, _, _, _, z⟩ => z)
    intro w mg fa h Y G hmg0
    obtain ⟨K, KX, c, e⟩ := Y
    have hmg : mg ("law" : PySem.Str) = some (.ref fa) := by
      have e : (HandSHeadRun.topDef (OpenLaw.row PySem.Challenge.rw_tightwood_k75_refused).prog 62).name = ("law" : PySem.Str) := by kernel_rfl
      rw [← e]
      exact hmg0
    obtain ⟨fd, hb, hF⟩ := Tw.facts (P := (PySem.Challenge.rw_tightwood_k75_refused).prog) (w := w) KX G hmg c e
    exact ⟨K, KX, fd, [], Tw.spLaw K, (fun _ hp => nomatch hp), (fun _ hp => nomatch hp), (fun _ hp => nomatch hp), hb, fun H a ns hl _ _ hS => ⟨a, ns, rfl, hS, hl, fun _ => rfl⟩, fun base h1 h2 _ => hF base h1 h2⟩
