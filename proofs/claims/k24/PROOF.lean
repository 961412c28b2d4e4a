import PyProof.Rows.All
import Wide.All
import OpenK.AllK
import Wide.FinOn
import KE.KStateDown
import KE.KDictWalk
import HandS.ForMost
import HandS.Exc
import HandS.ExcOwn
import HandS.WordsExc
import HandS.ExcInit
import HandS.ExcField
import HandS.TryMany
import HandS.IsInst
import HandS.More
import HandS.Conv
import HandS.Flow
import HandS.Style
import HandS.Defaults
import HandS.Head0
import HandS.Head1
import HandS.Head2
import HandS.HeadEnd
import HandS.HeadHook1
import HandS.HeadHook2
import HandS.HeadHook3
import PySem.Challenge.RW_oneunseen_k24_fewest_looks_by_all_rows
set_option Elab.async false
set_option linter.all false
set_option maxRecDepth 100000
set_option maxHeartbeats 0
/-! Rules that the hand layer lacks for this program: a base class's maker called through an own class, two except clauses with a name, a written dict walked, a list's item changed by an operator. -/
namespace Own
open PySem PySem.Spec PyProof.Rows L2

/-! ### xs[i] op= e -/
def gtL (K : PySem.W.Frag) : V → V → Hp → VK → Prop := fun x y H Q => ∃ p xs i v, x = .ref p ∧ y = .int i ∧ 0 ≤ i ∧ SqL K H p xs ∧ xs[i.toNat]? = some v ∧ Q v H
theorem get_list {X : Cx} : PGet X (gtL X.K) := by
  intro pins s σ H o i ov iv Q I ro ri h
  obtain ⟨p, xs, k, v, rfl, rfl, h0, hq, he, q⟩ := h
  cases ro
  obtain ⟨t, rfl⟩ := ri
  obtain ⟨its, r, pl, hz⟩ := I.list hq
  obtain ⟨w, ew, rw'⟩ := r.get he
  have hl := r.length
  have hn := line63
  have hlt : k.toNat < its.length := (List.getElem?_eq_some_iff.mp ew).1
  refine wpAny_getItem_list pl.isList h0 (by omega) (by simpa using ew) ⟨v, H, I, rw', q⟩

/-! ### B.__init__(self, ..), B an own class that has ValueError's -/
/-- what the written part says of B -/
structure BaseC (K : PySem.W.Frag) (B : Addr) : Prop where
  rd : PySem.W.readsIn K B (.type "type") = true
  ga : PySem.W.specialIn K (.ref B) "__getattribute__" = some (some (.builtin "type.__getattribute__"))
  fi : PySem.W.findCls K (.ref B) (.type "type") "__init__" = some (.val (.builtin "ValueError.__init__"))
theorem pe_binit {X : Cx} {x : Str} {B : Addr} {e : Expr} {es : List Expr} {ta : TA} {p1 p2 pos : Pos} {pl : Sem Bool} (hg : Gl X x) (hm : X.mg x = some (.ref B)) (T : BaseC X.K B) (ha : PA X (e :: es) ta)
    (hdb : (x == ("__debug__" : Str)) = false := by decide)
    (hc : eval (.Call (.Attribute (.Name x p1) "__init__" p2) (e :: es) [] pos) X.env = (do
      let ov ← eval (.Name x p1) X.env
      standAt p2.atName
      let (f, first) ← holding [ov] (getMethod ov "__init__" pl)
      callWith pos f first (backTo pos (starEach (e :: es) X.env)) (backToKw pos (keywordEach [] X.env))) := by rfl)
    (he : starEach (e :: es) X.env = (false, eval e X.env) :: starEach es X.env := by rfl) (hpl : (backTo pos (starEach es X.env)).any (·.1) = false := by rfl) :
    PE X (.Call (.Attribute (.Name x p1) "__init__" p2) (e :: es) [] pos) (tVeI X.K ta) := by
  refine ⟨fun pins s σ H Q I h => PySem.W.methodCall_KW (ld_glob I hg hm (PySem.W.method_cls I.kIn T.ga (PySem.W.cls_value I.kIn T.rd T.fi (by decide +kernel) ?_)) hdb) hc⟩
  have I0 := I.tok (s.toks + 1)
  refine PyProof.Rows.callWith_method1 (id := "ValueError.__init__") (first := []) (thn (ha.run pos pins _ σ H _ I0 h) fun us s1 hh => ?_) he hpl
  obtain ⟨vs, H1, I1, r1, a, C, ws, ev, hl, TC, ea, q⟩ := hh
  subst ev
  cases r1 with
  | @cons _ u0 _ ur ra rr =>
    obtain rfl : u0 = Value.ref a := ra
    exact oinit_ok TC I1 ea (by rw [← Paired.length rr, sizeLine_eq]; omega) fun s' J => ⟨.non, H1, J, rfl, q⟩

/-! ### for k in d, d a dict of the module's own with written text keys -/
structure KKeys (K : PySem.W.Frag) (d : Addr) (ks : List Str) : Prop where
  at_ : ∃ es n, K.lookup d = some ⟨.type "dict", none, .dict es n, #[]⟩ ∧ es.size = ks.length ∧ ∀ i (hi : i < es.size), ∃ k t, ks[i]? = some k ∧ es[i].key = .str k t
  low : (d == sysModules) = false
def Itks (ks : List Str) : It := ⟨fun i _ => i < ks.length, fun i H x H' => H' = H ∧ ∃ k, ks[i]? = some k ∧ x = .str k, fun i _ => ks.length ≤ i⟩
theorem turn_kks {P : Program} {w : World} {K : PySem.W.Frag} {tg : Expr} {d : Addr} {ks : List Str} {es : Array DictEntry} {n : Nat} (it : Addr) (hat : K.lookup d = some ⟨.type "dict", none, .dict es n, #[]⟩) (hz : es.size = ks.length)
    (hk : ∀ i (hi : i < es.size), ∃ k t, ks[i]? = some k ∧ es[i].key = .str k t) : Turn P w K tg (Itks ks) [it] it (fun i h => h.IsKeyIter it d i es.size n) where
  mem := by simp
  obj := fun i h st b hb => by
    obtain rfl : b = it := by simpa using hb
    obtain ⟨oi, e, c, dd⟩ := st
    exact ⟨oi, e, fun v z => by rw [dd] at z; cases z⟩
  keep := fun i h h' st k => st.at fun oi e => k it (by simp) oi e
  item := by
    intro X hP hw hK hc i pins s σ H E I hf st hg
    subst hP hw hK
    obtain ⟨f0, f1, f2, f3, f4, f5⟩ := hf it (by simp)
    have hi : i < es.size := by rw [hz]; exact hg
    obtain ⟨k, t, e1, e2⟩ := hk i hi
    refine wpAny_pyNext_keys_item_raw st ⟨_, I.kIn _ _ hat, ⟨rfl, rfl, rfl⟩, rfl⟩ hi fun h' st' sb => ⟨es[i].key, rfl, ?_⟩
    have I1 : Inv X pins σ H { s with heap := h' } := I.turned (t' := s.toks) (fun b ob hb e => (sb.2 b hb).trans e) f0 f1 f3 f4 f5
    obtain ⟨oi, e, c, dd⟩ := id st'
    exact go_of (s := { s with heap := h' }) e c dd (by decide) ⟨.str k, H, I1, ⟨t, e2⟩, ⟨rfl, k, e1, rfl⟩, st', fun b hb => (hf b hb).1⟩
  done := by
    intro X hP hw hK hc i pins s σ H E I hf st hg
    subst hP hw hK
    obtain ⟨f0, f1, f2, f3, f4, f5⟩ := hf it (by simp)
    exact wpAny_pyNext_keys_end_raw (I.ok.hd hc) st ⟨_, I.kIn _ _ hat, ⟨rfl, rfl, rfl⟩, rfl⟩ (by rw [hz]; exact hg) fun h' eb => ⟨rfl, I.turned (t' := s.toks) (fun b ob hb e => eb b ob hb e) f0 f1 f3 f4 f5⟩
  self := fun A i s Q E st h => wpAny_pyIter_keyiter st h
def iKks (K : PySem.W.Frag) (td : TE) : TI := fun σ H R => td σ H fun x H1 => ∃ d ks, x = .ref d ∧ KKeys K d ks ∧ R (Itks ks) H1
theorem pi_kks {X : Cx} {tg e : Expr} {td : TE} (he : PE X e td) : PI X tg e (iKks X.K td) := by
  refine ⟨fun pins s σ H R I h => thn (he.run pins s σ H _ I h) fun u s1 ⟨x, H1, I1, rx, d, ks, ex, ⟨⟨es, n, hat, hz, hk⟩, hlow⟩, q⟩ => ?_⟩
  subst ex
  obtain rfl : u = Value.ref d := rx
  exact wpAny_pyIter_dict_raw hlow ⟨_, I1.kIn _ _ hat, ⟨rfl, rfl, rfl⟩, rfl⟩ (pi_one (tk := s1.toks) I1 _ (turn_kks _ hat hz hk) ⟨_, Heap.get?_push_size _ rfl, rfl, rfl⟩ q)
/-- the loop over them, by an invariant -/
theorem for_kks {ks : List Str} {g : TG} {tb : TS} {D : Ends} {σ0 : L2.St} {H0 : Hp} (Pv : Nat → L2.St → Hp → Prop) (h0 : Pv 0 σ0 H0)
    (hs : ∀ i k σ H, ks[i]? = some k → Pv i σ H → g (.str k) σ H fun σ' H' => tb { D with nx := Pv (i + 1), ct := Pv (i + 1), bk := D.nx } σ' H') (hd : ∀ σ H, Pv ks.length σ H → D.nx σ H) :
    ∃ W : Nat → Nat → L2.St → Hp → Prop, (∃ m, W 0 m σ0 H0) ∧ ∀ i m σ H, W i m σ H →
      ((Itks ks).stop i H ∧ D.nx σ H) ∨ ((Itks ks).go i H ∧ ∃ N : L2.St → Hp → Prop, (∀ σ' H', N σ' H' → ∃ m', m' < m ∧ W (i + 1) m' σ' H') ∧ ∀ x H', (Itks ks).yld i H x H' → g x σ H' fun σ2 H2 => tb { D with nx := N, ct := N, bk := D.nx } σ2 H2) := by
  refine ⟨fun i m σ H => m + i = ks.length ∧ Pv i σ H, ⟨ks.length, rfl, h0⟩, fun i m σ H ⟨hm, p⟩ => ?_⟩
  by_cases hi : i < ks.length
  · refine .inr ⟨hi, Pv (i + 1), fun σ' H' n => ⟨m - 1, by omega, by omega, n⟩, fun x H' ⟨e, k, hk, ex⟩ => ?_⟩
    subst e ex
    exact hs i k σ H' hk p
  · have e : i = ks.length := by omega
    subst e
    exact .inl ⟨Nat.le_refl _, hd σ H p⟩
end Own
/-! try with several clauses, each with a name. -/
namespace Own
open PySem PySem.Spec PyProof.Rows L2
abbrev Suit := Addr → Value → Option Addr → TS
/-- behind a suite the clause's name (slot i) stands for nothing -/
def unn (i : Nat) (D : Ends) : Ends := { nx := fun z G => D.nx (z.set i none) G, rt := D.rt, bk := fun z G => D.bk (z.set i none) G, ct := fun z G => D.ct (z.set i none) G }
def wAsL (K : PySem.W.Frag) (Wout : WX) (D : Ends) : List (Value × Nat × Suit) → WX
  | [] => Wout
  | (c, i, ts) :: r => fun cls d σ H => ∃ b, PySem.W.exmOne K cls c = some b ∧ (b = true → ∀ a, H a = none → ts a cls d (unn i D) (σ.set i (some (.ref a))) H) ∧ (b = false → wAsL K Wout D r cls d σ H)
inductive AsL (X : Cx) : List ExceptHandler → List (Value × Nat × Suit) → Prop
  | nil : AsL X [] []
  | cons {x n : Str} {c : Value} {i : Nat} {ts : Suit} {b₀ : Stmt} {su : List Stmt} {p1 p2 : Pos} {hds : List ExceptHandler} {l : List (Value × Nat × Suit)} (hc : Names X x c) (hi : X.N[i]? = some n) (hn : X.env.kindOf n = some .local)
      (hsu : ∀ (a : Addr) (oe : Obj) (cls : Value) (d : Option Addr) (pn : List (Addr × Obj)), Zc cls d oe → (∃ vs, oe.data = .fields vs) → PSs (X.suite a ((a, oe) :: pn)) (b₀ :: su) (ts a cls d)) (r : AsL X hds l) :
      AsL X (.ExceptHandler (some (.Name x p1)) (some n) (b₀ :: su) p2 :: hds) ((c, i, ts) :: l)
theorem ps_try_asL {X : Cx} {body : List Stmt} {h₀ : ExceptHandler} {hds : List ExceptHandler} {l : List (Value × Nat × Suit)} {pos : Pos} {tb : WX → TS} {Wout : WX} (hs : X.stack = X.env :: X.outer) (hf : X.env.frame = some X.env.locals) (hN : X.N.Nodup) (tk : Takes X Wout)
    (hb : ∀ (W : WX) (pn : List (Addr × Obj)) (xe : Value → Shared → Prop), Takes (X.tr pn xe) W → PassesOwn (model X.prog X.w) X.A X.env xe → PSs (X.tr pn xe) body (tb W))
    (hh : AsL X (h₀ :: hds) l) : PS X (.Try body (h₀ :: hds) [] [] pos) (fun D σ H => tb (wAsL X.K Wout D l) D σ H) := by
  constructor
  intro pins s σ H D I h
  have ok := I.ok
  have hfr : X.A.frames = some (X.env :: X.outer) := by rw [ok.frames, hs]
  apply wpAny_Try_except
  have body' := (hb (wAsL X.K Wout D l) (X.pn ++ pins) (fun e s1 => wpAny (model X.prog X.w) X.A (noteFrame e X.env) (fun _ s2 => wpAny (model X.prog X.w) X.A (setFlight e none) (fun _ s3 => wpAny (model X.prog X.w) X.A (handleBy e X.env (h₀ :: hds)) (SP X pins D) X.xe s3) X.xe s2) X.xe s1) ?caught PassesOwn.looking).run [] s σ H D (I.toTry _) h
  case caught =>
    rintro u s' ⟨a, B, sI, pins', σ', H', cls, d, rfl, Jt, nb, up, sky, na, os, ag, w⟩
    have J : Inv X pins σ' H' sI := Jt.ofTry ok
    have sk : Sky B (X.env :: X.outer) a (Zc cls d) X.env.locals s'.heap := by rw [← hs]; exact sky
    show wpAny (model X.prog X.w) X.A (noteFrame (.ref a) X.env) _ _ _
    apply Sky.land Zc.steady hfr hf sk
    intro g3 fl3 up3
    obtain ⟨oe, vs, he, hz, hd⟩ := fl3.there
    have nfr : a ∉ frs (X.env :: X.outer) := fun hm => by obtain ⟨_, o', e', hnf⟩ := fl3.2.2.1.mem hm; rw [he] at e'; cases e'; exact hnf _ hd
    have nL : a ≠ X.env.locals := fun z => nfr (List.mem_filterMap.mpr ⟨X.env, List.mem_cons_self, by rw [hf, z]⟩)
    have nF : a ∉ X.fs := fun hm => by obtain ⟨e, q1, q⟩ := List.mem_filterMap.mp hm; exact nfr (List.mem_filterMap.mpr ⟨e, List.mem_cons_of_mem _ q1, q⟩)
    have J3 : Inv X pins σ' H' { s' with heap := g3 } := J.landed nb fl3.1 (up.trans up3) os ag
    have S3 := J3.suite he hd na nL nF
    have LT : PySem.W.Looks (model X.prog X.w) g3 (typeOf (.ref a)) cls := fun _ _ _ _ k q => wpAny_typeOf_ref (k _ _ he) (by rw [hz.1]; exact q)
    suffices go : ∀ (hs' : List ExceptHandler) (l' : List (Value × Nat × Suit)), AsL X hs' l' → wAsL X.K Wout D l' cls d σ' H' → wpAny (model X.prog X.w) X.A (handleBy (.ref a) X.env hs') (SP X pins D) X.xe { s' with heap := g3 } from go _ _ hh w
    intro hs' l' hk
    induction hk with
    | nil =>
      intro w
      apply wpAny_handleBy_nil
      obtain ⟨_, _, _, oe2, vs2, T, oT, ts', he2, _, hd2, h1, _⟩ := id fl3
      have last : wpAny (model X.prog X.w) X.A (setFlight (.ref a) X.env.frame) (fun _ s4 => wpAny (model X.prog X.w) X.A (throw (.ref a) : Sem Flow) (SP X pins D) X.xe s4) X.xe { s' with heap := g3 } := by
        rw [hf]
        exact HandSPX.setFlight_upZ fl3 fun g4 hh4 up4 => wpAny_throw (tk _ _ ⟨a, B, sI, pins, σ', H', cls, d, rfl, J, nb, (up.trans up3).trans up4, .inr (.inr (by rw [hs]; exact hh4)), na, os, ag, w⟩)
      unfold PySem.passOn
      apply wpAny_bind
      apply wpAny_field he2 hd2 h1
      rw [if_neg (show ¬ ((Value.ref T == Value.none) = true) by simp)]
      first | exact wpAny_bind (wpAny_pure (wpAny_bind last)) | exact wpAny_bind last
    | @cons x n c i ts b₀ su p1 p2 hds2 l2 hc hi hn hsu r ih =>
      rintro ⟨b, hb1, hyes, hno⟩
      apply wpAny_handleBy_cons (codeAny_handlers_test ?_) (by intro q; cases q)
      have LM := PySem.W.exm_one (M := model X.prog X.w) J3.kIn LT hb1
      have look : ∀ {Q E : Value → Shared → Prop}, Q c { s' with heap := g3 } → wpAny (model X.prog X.w) (X.A.mark (some (.ref a))) (eval (.Name x p1) X.env) Q E { s' with heap := g3 } := fun {Q E} q => by
        obtain ⟨hg, hdbg, hm | ⟨hm, hv, hnn⟩⟩ := hc
        · exact ld_glob (X := X.suite a ((a, oe) :: (X.pn ++ pins))) S3 hg hm q hdbg
        · exact ld_blt (X := X.suite a ((a, oe) :: (X.pn ++ pins))) S3 hg hm hv q hnn hdbg
      apply look
      apply LM.here
      cases b with
      | false =>
        show wpAny _ X.A (handleBy (.ref a) X.env hds2) _ _ _
        exact ih (hno rfl)
      | true =>
        apply codeAny_handlers_suite_as
        apply HandSPX.lands_againZ fl3
        intro g4 fl4 up4
        obtain ⟨oe4, vs4, he4, hz4, hd4⟩ := fl4.there
        have J4 : Inv X pins σ' H' { s' with heap := g4 } := J.landed nb fl4.1 ((up.trans up3).trans up4) os ag
        apply store_ok (X := X.suite a ((a, oe4) :: (X.pn ++ pins))) (v := .ref a) (J4.suite he4 hd4 na nL nF) hN hi (.inl hn) rfl ?_ (.inr hn)
        intro s5 S5
        have after : ∀ {z : L2.St} {G : Hp} {Q : Shared → Prop} {s6 : Shared}, Inv (X.suite a ((a, oe4) :: (X.pn ++ pins))) [] z G s6 → (∀ s7, Inv X pins (z.set i none) G s7 → Q s7) →
            wpAny (model X.prog X.w) X.A (do bindName X.env n .none; unbindBehindTheSuite X.env n p2) (fun _ s7 => Q s7) X.xe s6 := fun S6 hq => gone_ok (S6.unsuite ok) hN hi hn hq
        apply wpAny_mono ((hsu a oe4 cls d (X.pn ++ pins) hz4 ⟨_, hd4⟩).run [] s5 _ H' _ S5 (hyes rfl a na)) ?_ (fun _ _ z => False.elim z)
        intro f s6 hsp
        cases f with
        | ret u => obtain ⟨v6, z6, G6, S6, r6, q6⟩ := hsp; exact after S6 fun s7 J7 => ⟨_, _, _, J7, r6, q6⟩
        | next => obtain ⟨z6, G6, S6, q6⟩ := hsp; exact after S6 fun s7 J7 => ⟨_, _, J7, q6⟩
        | brk => obtain ⟨z6, G6, S6, q6⟩ := hsp; exact after S6 fun s7 J7 => ⟨_, _, J7, q6⟩
        | cont => obtain ⟨z6, G6, S6, q6⟩ := hsp; exact after S6 fun s7 J7 => ⟨_, _, J7, q6⟩
  refine wpAny_mono body' (fun f s1 hsp => ?_) fun _ _ he => he
  cases f with
  | ret u => obtain ⟨v, σ', H', J', r, q⟩ := hsp; exact ⟨v, σ', H', J'.ofTry ok, r, q⟩
  | next => obtain ⟨σ', H', J', q⟩ := hsp; exact wpAny_execs_nil ⟨σ', H', J'.ofTry ok, q⟩
  | brk => obtain ⟨σ', H', J', q⟩ := hsp; exact ⟨σ', H', J'.ofTry ok, q⟩
  | cont => obtain ⟨σ', H', J', q⟩ := hsp; exact ⟨σ', H', J'.ofTry ok, q⟩
end Own
/-! Packs: a def as the module's name has it, an own exception class with one field, what a Hook tells of them. -/
namespace Own
open PySem PySem.Spec PyProof.Rows L2

/-! ### heaps -/
theorem _root_.L2.Same.new {H : Hp} {p : Addr} {o : HO} (h : H p = none) : Same H (upd H p o) := fun b u e => by
  rw [upd_ne (ne_of_none e h)]
  exact e
/-- what is new to H may be written -/
theorem _root_.L2.Same.put {H H' : Hp} {p : Addr} {o : HO} (e : Same H H') (h : H p = none) : Same H (upd H' p o) := fun b u x => by
  rw [upd_ne (ne_of_none x h)]
  exact e b u x
theorem _root_.L2.Same.tup {K : PySem.W.Frag} {H H' : Hp} {a : Addr} {xs : List V} (e : Same H H') (h : SqT K H a xs) : SqT K H' a xs := by
  rcases h with (h | ⟨o, h⟩) | h
  · exact .inl (.inl (e _ _ h))
  · exact .inl (.inr ⟨o, e _ _ h⟩)
  · exact .inr h
/-- all but what stands at a is as it was -/
def But (a : Addr) (H H' : Hp) : Prop := ∀ b o, b ≠ a → H b = some o → H' b = some o
theorem But.refl (a : Addr) (H : Hp) : But a H H := fun _ _ _ h => h
theorem But.trans {a : Addr} {H H1 H2 : Hp} (e : But a H H1) (f : But a H1 H2) : But a H H2 := fun b o n h => f b o n (e b o n h)
theorem But.of {a : Addr} {H H' : Hp} (e : Same H H') : But a H H' := fun b o _ h => e b o h
theorem But.upd {a : Addr} {H H' : Hp} {o : HO} (e : But a H H') : But a H (upd H' a o) := fun b u n h => by
  rw [upd_ne n]
  exact e b u n h
theorem But.put {a p : Addr} {H H' : Hp} {o : HO} (e : But a H H') (h : H p = none) : But a H (L2.upd H' p o) := fun b u n x => by
  rw [upd_ne (ne_of_none x h)]
  exact e b u n x

/-! ### the types of what stands -/
theorem ty_l {K : PySem.W.Frag} {H : Hp} {a : Addr} {xs : List V} (h : SqL K H a xs) : TyX K H (.ref a) (.type "list") := by
  rcases h with (h | ⟨o, h⟩) | ⟨o, its, n, h1, h2, _⟩
  · exact .base (.lst h)
  · exact .base (.frz h)
  · exact .kList h1 h2
theorem ty_t {K : PySem.W.Frag} {H : Hp} {a : Addr} {xs : List V} (h : SqT K H a xs) : TyX K H (.ref a) (.type "tuple") := by
  rcases h with (h | ⟨o, h⟩) | ⟨o, its, n, h1, h2, _⟩
  · exact .base (.tup h)
  · exact .fTuple h
  · exact .kTuple h1 h2
/-- two values that stand for the same data, at most n deep -/
inductive Alike (K : PySem.W.Frag) (H : Hp) : Nat → V → V → Prop
  | non {n : Nat} : Alike K H n .non .non
  | bl {n : Nat} (b : Bool) : Alike K H n (.bl b) (.bl b)
  | int {n : Nat} (i : Int) : Alike K H n (.int i) (.int i)
  | str {n : Nat} (z : Str) : Alike K H n (.str z) (.str z)
  | lst {n : Nat} {a b : Addr} {xs ys : List V} (ha : SqL K H a xs) (hb : SqL K H b ys) (hl : xs.length = ys.length) (hz : xs.length ≤ 1000000) (h : ∀ (i : Nat) (x y : V), xs[i]? = some x → ys[i]? = some y → Alike K H n x y) : Alike K H (n + 1) (.ref a) (.ref b)
  | tup {n : Nat} {a b : Addr} {xs ys : List V} (ha : SqT K H a xs) (hb : SqT K H b ys) (hl : xs.length = ys.length) (hz : xs.length ≤ 1000000) (h : ∀ (i : Nat) (x y : V), xs[i]? = some x → ys[i]? = some y → Alike K H n x y) : Alike K H (n + 1) (.ref a) (.ref b)
theorem Alike.keep {K : PySem.W.Frag} {H H' : Hp} (e : Same H H') {n : Nat} {x y : V} (h : Alike K H n x y) : Alike K H' n x y := by
  induction h with
  | non => exact .non
  | bl b => exact .bl b
  | int i => exact .int i
  | str z => exact .str z
  | lst ha hb hl hz _ ih => exact .lst (e.seq ha) (e.seq hb) hl hz ih
  | tup ha hb hl hz _ ih => exact .tup (e.tup ha) (e.tup hb) hl hz ih

/-! ### defs -/
/-- the module's name x stands for the def st -/
structure Dn (K : PySem.W.Frag) (mg : Str → Option Value) (x : Str) (st : Stmt) : Prop where
  g : mg x = some (.ref (He.ga K x))
  d : ∃ fd, FunD K x x (defArgs st) (defBody st) (defScope st) [] [] (He.ga K x) fd
/-- a def of the module that raises nothing: its promise, its defaults' values -/
structure Cal (P : Program) (w : World) (K : PySem.W.Frag) (mg : Str → Option Value) (base : Heap) (k : Nat) (x : Str) (sp : Sp) : Prop where
  ex : ∃ (f : Addr) (fd : FuncData) (ps : List Str), FnOk P w K mg base CX0 k f fd ps sp ∧ mg x = some (.ref f) ∧ PySem.W.keepIn K (.ref f) = true ∧ Binds K fd ps []
/-- a def of the module that may raise own errors -/
structure CalX (P : Program) (w : World) (K : PySem.W.Frag) (mg : Str → Option Value) (base : Heap) (k : Nat) (x : Str) (sp : Sp) : Prop where
  ex : ∃ (f : Addr) (fd : FuncData) (ps : List Str), FnOk P w K mg base (L2.CX P w) k f fd ps sp ∧ mg x = some (.ref f) ∧ PySem.W.keepIn K (.ref f) = true ∧ Binds K fd ps []
section
variable {P : Program} {w : World} {K : PySem.W.Frag} {mg : Str → Option Value} {base : Heap} {x : Str} {st : Stmt} {N ps : List Str} {k : Nat} {sp : Sp}
abbrev BindsAs (x : Str) (st : Stmt) (ps : List Str) : Prop := ∀ (kV doc pm : Value) (an : Option Addr) (cdv ct : Value) (us : List Value), us.length = ps.length → bindArgs (PySem.W.fnOf x x (defArgs st) (defBody st) (defScope st) .none kV doc pm an cdv ct) ⟨us, []⟩ = pure (ps.zip us)
theorem Dn.cal (D : Dn K mg x st) (S : FnScope N ps (defScope st)) (hb : BindsAs x st ps) (len : ∀ vs H Q E, sp vs H Q E → vs.length = ps.length)
    (body : ∀ (f : Addr) (cdv : Value) (A : Around) (outer : List Env) (s : Shared) (H : Hp) (E : XK), Room k (A.deeper (envOfC x (defScope st) s.heap.objs.size f cdv)) →
      ∃ t, PSs (cxOf CX0 P w K mg base N x (defScope st) f cdv A outer s H E).nox (defBody st) t ∧ ∀ (vs : List V) (Q : VK), sp vs H Q E → t { nx := fun _ H' => Q .non H', rt := Q } (start N vs) H) :
    Cal P w K mg base (k + 1) x sp := by
  obtain ⟨fd, F⟩ := D.d
  refine ⟨He.ga K x, fd, ps, F.ok S len (fun cdv A outer s H vs Q E hr hsp => ?_), D.g, F.kp, F.bindsN hb⟩
  obtain ⟨t, h1, h2⟩ := body (He.ga K x) cdv A outer s H E hr
  exact ⟨t, h1.nox, h2 vs Q hsp⟩
theorem Dn.calX (D : Dn K mg x st) (S : FnScope N ps (defScope st)) (hb : BindsAs x st ps) (len : ∀ vs H Q E, sp vs H Q E → vs.length = ps.length)
    (body : ∀ (f : Addr) (cdv : Value) (A : Around) (outer : List Env) (s : Shared) (H : Hp) (E : XK), Room k (A.deeper (envOfC x (defScope st) s.heap.objs.size f cdv)) →
      Takes (cxOf (L2.CX P w) P w K mg base N x (defScope st) f cdv A outer s H E) (fun cls d _ H => E cls d H) →
      PassesOwn (model P w) (A.deeper (envOfC x (defScope st) s.heap.objs.size f cdv)) (envOfC x (defScope st) s.heap.objs.size f cdv) (cxOf (L2.CX P w) P w K mg base N x (defScope st) f cdv A outer s H E).xe →
      ∃ t, PSs (cxOf (L2.CX P w) P w K mg base N x (defScope st) f cdv A outer s H E) (defBody st) t ∧ ∀ (vs : List V) (Q : VK), sp vs H Q E → t { nx := fun _ H' => Q .non H', rt := Q } (start N vs) H) :
    CalX P w K mg base (k + 1) x sp := by
  obtain ⟨fd, F⟩ := D.d
  refine ⟨He.ga K x, fd, ps, F.ok S len (fun cdv A outer s H vs Q E hr hsp => ?_), D.g, F.kp, F.bindsN hb⟩
  obtain ⟨t, h1, h2⟩ := body (He.ga K x) cdv A outer s H E hr (takes_of rfl rfl rfl rfl) (passes_of rfl)
  exact ⟨t, h1, h2 vs Q hsp⟩
/-- nothing is promised: for a call that is never reached -/
theorem Dn.nope (D : Dn K mg x st) (hb : BindsAs x st ps) : Cal P w K mg base 0 x fun _ _ _ _ => False := by
  obtain ⟨fd, F⟩ := D.d
  exact ⟨He.ga K x, fd, ps, ⟨fun _ _ _ _ h => h.elim, fun _ _ _ _ _ _ _ _ _ _ _ _ _ h => h.elim⟩, D.g, F.kp, F.bindsN hb⟩
theorem Cal.imp {sp' : Sp} (C : Cal P w K mg base k x sp) (h : ∀ vs H Q E, sp' vs H Q E → sp vs H Q E) : Cal P w K mg base k x sp' := by
  obtain ⟨f, fd, ps, F, r⟩ := C.ex
  exact ⟨f, fd, ps, F.imp h, r⟩
theorem Cal.mono {j : Nat} (C : Cal P w K mg base k x sp) (h : k ≤ j) : Cal P w K mg base j x sp := by
  obtain ⟨f, fd, ps, F, r⟩ := C.ex
  exact ⟨f, fd, ps, F.mono h, r⟩
end
section
variable {X : Cx} {x : Str} {e : Expr} {es : List Expr} {ta : TA} {p pos : Pos} {W : WX} {k j : Nat} {sp : Sp}
theorem if_yes {p : Prop} [Decidable p] {A B : Prop} (h : p) (a : A) : if decide p = true then A else B := by
  rw [if_pos (decide_eq_true h)]
  exact a
theorem if_no {p : Prop} [Decidable p] {A B : Prop} (h : ¬ p) (b : B) : if decide p = true then A else B := by
  rw [if_neg (by rw [decide_eq_false h]; exact Bool.false_ne_true)]
  exact b
/-- a call of a def that raises nothing -/
theorem pe_cc (c : Cal X.prog X.w X.K X.mg X.base k x sp) (hr : Room j X.A) (hk : k ≤ j) (hg : Gl X x) (ha : PA X (e :: es) ta)
    (hdb : (x == ("__debug__" : Str)) = false := by decide) (he : starEach (e :: es) X.env = (false, eval e X.env) :: starEach es X.env := by rfl) (hpl : (backTo pos (starEach es X.env)).any (·.1) = false := by rfl) :
    PE X (.Call (.Name x p) (e :: es) [] pos) (tCall sp [] E0 ta) := by
  obtain ⟨f, fd, ps, F, hm, kp, b⟩ := c.ex
  exact pe_call F (hr.mono hk) hg hm kp b .nil pass0 ha hdb he hpl
/-- a call of such a def: what it raises is what is wished here, at the slots as they are -/
theorem pe_cx (c : CalX X.prog X.w X.K X.mg X.base k x sp) (hr : Room j X.A) (hk : k ≤ j) (hg : Gl X x) (tk : Takes X W) (ha : PA X (e :: es) ta)
    (hdb : (x == ("__debug__" : Str)) = false := by decide) (he : starEach (e :: es) X.env = (false, eval e X.env) :: starEach es X.env := by rfl) (hpl : (backTo pos (starEach es X.env)).any (·.1) = false := by rfl) :
    PE X (.Call (.Name x p) (e :: es) [] pos) (tCallS sp (WE W) ta) := by
  obtain ⟨f, fd, ps, F, hm, kp, b⟩ := c.ex
  exact pe_callS F (hr.mono hk) hg hm kp b (fun σ => passAt tk σ) ha hdb he hpl
end

/-! ### an own error class over an own base over ValueError, whose __init__ calls the base's and keeps its argument as the field f -/
def oexB (K : PySem.W.Frag) (C : Addr) : Bool := (match K.lookup C with
  | some ⟨.type t, _, .cls cd, sl⟩ => decide (t = "type") && (match cd.mro, sl.toList with
    | .ref C' :: bm, [_, _, _, _, some (.builtin n), _] => decide (C' = C) && (decide (n = "ValueError.__new__") && (!cd.hasDel && (cd.hasDict && PySem.HandSPX.refsVE bm)))
    | _, _ => false)
  | _ => false) && (He.eqO (PySem.W.findIn K (.ref C) "__setattr__") (some (some (.builtin "object.__setattr__"))) && (decide (PySem.W.subIn K (.ref C) (.type "BaseException") = some true) && (decide (PySem.W.typeIn K (.ref C) = some (.type "type")) && PySem.W.keepIn K (.ref C))))
theorem oexB_ok {K : PySem.W.Frag} {C : Addr} (h : oexB K C = true) : OexC K C := by
  obtain ⟨h0, h⟩ := He.ba h
  obtain ⟨h1, h⟩ := He.ba h
  obtain ⟨h2, h⟩ := He.ba h
  obtain ⟨h3, h4⟩ := He.ba h
  refine ⟨?_, He.eqO_ok h1, of_decide_eq_true h2, of_decide_eq_true h3, h4⟩
  cases q : K.lookup C with
  | none => rw [q] at h0; cases h0
  | some o =>
    obtain ⟨oc, od, dt, sl⟩ := o
    rw [q] at h0
    cases oc with
    | type t =>
      cases dt with
      | cls cd =>
        obtain ⟨a1, a2⟩ := He.ba (show (decide (t = "type") && (match cd.mro, sl.toList with
          | .ref C' :: bm, [_, _, _, _, some (.builtin n), _] => decide (C' = C) && (decide (n = "ValueError.__new__") && (!cd.hasDel && (cd.hasDict && PySem.HandSPX.refsVE bm)))
          | _, _ => false)) = true from h0)
        obtain rfl := of_decide_eq_true a1
        obtain ⟨n1, n2, n3, n4, n5, n6, n7, n8, n9, n10, n11⟩ := cd
        split at a2
        · rename_i C' bm k0 k1 k2 k3 n k5 em es
          have em : n3 = .ref C' :: bm := em
          have es : sl = #[k0, k1, k2, k3, some (.builtin n), k5] := by
            have e := congrArg List.toArray es
            simpa using e
          subst em es
          obtain ⟨b1, b⟩ := He.ba a2
          obtain ⟨b2, b⟩ := He.ba b
          obtain ⟨b3, b⟩ := He.ba b
          obtain ⟨b4, b5⟩ := He.ba b
          obtain rfl := of_decide_eq_true b1
          obtain rfl := of_decide_eq_true b2
          have b3 : n11 = false := by simpa using b3
          have b4 : n6 = true := b4
          subst b3 b4
          exact ⟨_, _, _, _, _, _, _, _, _, _, _, _, _, _, _, rfl, b5⟩
        · cases a2
      | _ => cases h0
    | _ => cases dt <;> cases h0
/-- the base class -/
def baseB (K : PySem.W.Frag) (B : Addr) : Bool := PySem.W.readsIn K B (.type "type") && (He.eqO (PySem.W.specialIn K (.ref B) "__getattribute__") (some (some (.builtin "type.__getattribute__"))) && (match PySem.W.findCls K (.ref B) (.type "type") "__init__" with
  | some (.val (.builtin n)) => decide (n = "ValueError.__init__")
  | _ => false))
theorem baseB_ok {K : PySem.W.Frag} {B : Addr} (h : baseB K B = true) : BaseC K B := by
  obtain ⟨h1, h⟩ := He.ba h
  obtain ⟨h2, h3⟩ := He.ba h
  refine ⟨h1, He.eqO_ok h2, ?_⟩
  split at h3
  · rename_i n e
    rw [e, of_decide_eq_true h3]
  · cases h3
def spXI (C : Addr) (f : Str) : Sp := fun vs H Q _ => ∃ (a : Addr) (y : V), vs = [.ref a, y] ∧ H a = some (exo a C none) ∧ ∀ dx, H dx = none → dx ≠ a → Q .non (upd (upd H dx (exd dx [(f, y)])) a (exo a C (some dx)))
/-- what is known of the class x with the field f -/
structure XCl (P : Program) (w : World) (K : PySem.W.Frag) (mg : Str → Option Value) (base : Heap) (x f : Str) : Prop where
  g : mg x = some (.ref (He.ga K x))
  o : OexC K (He.ga K x)
  xf : XfC K (He.ga K x)
  no : PySem.W.findIn K (.ref (He.ga K x)) f = some none
  maker : ∃ (fI : Addr) (fd : FuncData) (p1 p2 : Str), PySem.W.findIn K (.ref (He.ga K x)) "__init__" = some (some (.ref fI)) ∧ PySem.W.typeIn K (.ref fI) = some (.type "function") ∧ FnOk P w K mg base CX0 1 fI fd [p1, p2] (spXI (He.ga K x) f) ∧ Binds K fd [p1, p2] []
/-- C(e): the error, its own dict at d new -/
def tMk1 (C : Addr) (f : Str) (te : TE) : L2.St → Hp → XK → Prop := fun σ H Q => te σ H fun y H1 => ∀ d, H1 d = none → Q (.ref C) (some d) (upd H1 d (.xd [(f, y)]))
theorem pass0' {X : Cx} : Passes CX0 X (fun _ _ _ => False) := fun _ _ _ _ _ _ _ h => h.elim
/-- what follows from a weaker wish -/
def tW (te : TE) : TE := fun σ H Q => ∃ R : VK, te σ H R ∧ ∀ v H', R v H' → Q v H'
theorem pe_w {X : Cx} {e : Expr} {te : TE} (h : PE X e te) : PE X e (tW te) :=
  ⟨fun pins s σ H _ I ⟨R, h1, h2⟩ => thn (h.run pins s σ H R I h1) fun _ _ ⟨v, H', I', r, q⟩ => ⟨v, H', I', r, h2 v H' q⟩⟩
def tWT (t : TT) : TT := fun σ H Q => ∃ R : Bool → Hp → Prop, t σ H R ∧ ∀ b H', R b H' → Q b H'
theorem pt_w {X : Cx} {e : Expr} {t : TT} (h : PT X e t) : PT X e (tWT t) :=
  ⟨fun pins s σ H _ I ⟨R, h1, h2⟩ => thn (h.run pins s σ H R I h1) fun _ _ ⟨H', I', q⟩ => ⟨H', I', h2 _ H' q⟩⟩
/-- a statement, what follows it by a wish of one's own (the ways join there) -/
def tWS (t : TS) : TS := fun D σ H => ∃ R : L2.St → Hp → Prop, t { D with nx := R } σ H ∧ ∀ σ' H', R σ' H' → D.nx σ' H'
theorem ps_w {X : Cx} {st : Stmt} {t : TS} (h : PS X st t) : PS X st (tWS t) :=
  ⟨fun pins s σ H D I ⟨R, h1, h2⟩ => thn (h.run pins s σ H { D with nx := R } I h1) fun f _ q => by
    cases f with
    | next => exact let ⟨σ', H', I', r⟩ := q; ⟨σ', H', I', h2 σ' H' r⟩
    | brk => exact q
    | cont => exact q
    | ret u => exact q⟩
theorem pe_k {X : Cx} {e : Expr} {t' t : TE} (h : PE X e t') (q : t' = t) : PE X e t := q ▸ h
theorem pts_k {X : Cx} {e : List Expr} {t' t : TT} (h : PTs X e t') (q : t' = t) : PTs X e t := q ▸ h
theorem pg_k {X : Cx} {e : Expr} {t' t : TG} (h : PG X e t') (q : t' = t) : PG X e t := q ▸ h
theorem xd_put {H : Hp} {a d : Addr} {C : Addr} {u : HO} {fs : List (Str × V)} (ha : H a = none) (hne : d ≠ a) :
    upd (del (upd (upd (upd H a (exo a C none)) d u) a (exo a C (some d))) a) d (.xd fs) = upd H d (.xd fs) := by
  funext b
  by_cases h1 : b = d
  · rw [h1, upd_same, upd_same]
  · rw [upd_ne h1, upd_ne h1]
    by_cases h2 : b = a
    · rw [h2, del_same, ha]
    · rw [del_ne h2, upd_ne h2, upd_ne h1, upd_ne h2]
theorem pmk_x {X : Cx} {x f : Str} {e : Expr} {te : TE} {p pos : Pos} {k : Nat} (T : XCl X.prog X.w X.K X.mg X.base x f) (hr : Room k X.A) (hk : 2 ≤ k) (hg : Gl X x) (he : PE X e te) (hdb : (x == ("__debug__" : Str)) = false := by decide)
    (hst : starEach [e] X.env = (false, eval e X.env) :: starEach [] X.env := by rfl) :
    PMk X (.Call (.Name x p) [e] [] pos) (tMk1 (He.ga X.K x) f te) := by
  obtain ⟨fI, fd, p1, p2, hi, ht, F, b⟩ := T.maker
  intro pins s σ H Q I h
  refine pmk_oex (X := X) (x := x) (pos := pos) (p := p) T.o hi ht F (hr.mono hk) b .nil pass0' hg T.g (pa_cons (pe_w he) pa_nil (hs := hst)) hdb hst (by rfl) pins s σ H Q I ?_
  refine ⟨_, h, fun y H1 q => ⟨(by show 1 ≤ 1000; decide), fun a ha => ⟨a, y, rfl, upd_same, fun d hd hne => ⟨rfl, d, [(f, y)], upd_same, ?_, ?_, ?_⟩⟩⟩⟩
  · rw [upd_ne hne, upd_same]
  · rw [upd_ne hne] at hd
    exact hd
  · rw [upd_ne hne] at hd
    rw [xd_put ha hne]
    exact q d hd
theorem ps_rx {X : Cx} {x f : Str} {e : Expr} {te : TE} {p pos rpos : Pos} {k : Nat} {W : WX} (T : XCl X.prog X.w X.K X.mg X.base x f) (hc : X.calm = true) (tk : Takes X W) (hr : Room k X.A) (hk : 2 ≤ k) (hg : Gl X x) (he : PE X e te) (hdb : (x == ("__debug__" : Str)) = false := by decide)
    (hst : starEach [e] X.env = (false, eval e X.env) :: starEach [] X.env := by rfl) : PS X (.Raise (some (.Call (.Name x p) [e] [] pos)) none rpos) (fun _ σ H => te σ H fun y H1 => ∀ d, H1 d = none → W (.ref (He.ga X.K x)) (some d) σ (upd H1 d (.xd [(f, y)]))) :=
  ps_raise hc tk (pmk_x T hr hk hg he hdb hst)

/-! ### the Hook: HeadHook3's, and one Bool more -/
abbrev AlE : Type := He.AlT × Bool
def obsE (fa : List He.Fa) (fn : List He.DefD) (ts : List He.Tab) (ex : PySem.W.Frag → Bool) (K : PySem.W.Frag) : AlE := (He.obsT fa fn ts K, ex K)
def obsEG (n : Nat) (fa : List He.Fa) (fn : List He.DefD) (ts : List He.Tab) (ex : PySem.W.Frag → Bool) (g : Addr → Option Obj) : AlE := obsE fa fn ts ex (He.frG g (PySem.cStatics :: He.asD g n))
def hookE (n : Nat) (fa : List He.Fa) (fn : List He.DefD) (ts : List He.Tab) (ex : PySem.W.Frag → Bool) : PySem.W.Hook where
  α := AlE
  obs := fun s => obsEG n fa fn ts ex s.heap.get?
  val := fun w => (He.valT fn ts w, true)
  says := fun w h => ∃ K : PySem.W.Frag, K.In h ∧ obsE fa fn ts ex K = (He.valT fn ts w, true)
  of := fun _ _ e => ⟨_, He.frG_in, e⟩
  keeps := fun _ _ _ ⟨K, hK, c⟩ k => ⟨K, PySem.W.Frag.In.keeps hK k, c⟩
theorem obsEG_eq {n : Nat} {fa : List He.Fa} {fn : List He.DefD} {ts : List He.Tab} {ex : PySem.W.Frag → Bool} {g : Addr → Option Obj} {s : Shared} (h : ∀ a, g a = s.heap.get? a) : obsEG n fa fn ts ex g = (hookE n fa fn ts ex).obs s := by
  rw [show g = s.heap.get? from funext h] <;> rfl
section
variable {fa : List He.Fa} {fn : List He.DefD} {ts : List He.Tab} {ex : PySem.W.Frag → Bool} {K : PySem.W.Frag} {w : World} {h : Heap} {mg : Str → Option Value}
structure Says (fa : List He.Fa) (fn : List He.DefD) (ts : List He.Tab) (ex : PySem.W.Frag → Bool) (w : World) (K : PySem.W.Frag) (h : Heap) (mg : Str → Option Value) : Prop where
  X : K.In h
  G : h.Ns mainGlobals mg
  c : obsE fa fn ts ex K = (He.valT fn ts w, true)
theorem Says.t (c : Says fa fn ts ex w K h mg) : He.SaysT fa fn ts w K := congrArg (fun z : AlE => z.1) c.c
theorem Says.own (c : Says fa fn ts ex w K h mg) : ex K = true := congrArg (fun z : AlE => z.2) c.c
theorem Says.free (c : Says fa fn ts ex w K h mg) (i : Nat) {x : Str} (e : fa[i]? = some (.free x) := by rfl) : mg x = none := He.free_ok c.X c.G (c.t.d.fact i e)
theorem Says.glo (c : Says fa fn ts ex w K h mg) (i : Nat) {x : Str} (e : fa[i]? = some (.glo x) := by rfl) : mg x = some (.ref (He.ga K x)) := He.glo_ok c.X c.G (c.t.d.fact i e)
theorem Says.int (c : Says fa fn ts ex w K h mg) (i : Nat) {x : Str} {z : Int} (e : fa[i]? = some (.int x z) := by rfl) : ∃ t, mg x = some (.int z t) := He.int_ok c.X c.G (c.t.d.fact i e)
theorem Says.dn (c : Says fa fn ts ex w K h mg) (i j : Nat) {x : Str} {st : Stmt} (e : fa[i]? = some (.glo x) := by rfl) (e2 : fn[j]? = some ⟨(x, none), x, x, defArgs st, defBody st, defScope st, [], []⟩ := by rfl) : Dn K mg x st :=
  ⟨c.glo i e, c.t.d.def_ j e2⟩
end
/-- a table's keys in their order -/
theorem kkeys_of {K : PySem.W.Frag} {P : Params} {a : Addr} {ks : List Str} (h : He.dicW K a = some (He.keysIn P ks)) : KKeys K a ks := by
  unfold He.dicW at h
  cases q : K.lookup a with
  | none => rw [q] at h; cases h
  | some o =>
    obtain ⟨oc, od, dt, osl⟩ := o
    rw [q] at h
    cases oc with
    | type c =>
      cases od with
      | some d => cases dt <;> cases h
      | none =>
        cases dt with
        | dict es n =>
          have h1 : (match decide (c = "dict") && (osl.isEmpty && !(a == sysModules)) with
            | true => some (es.toList.map He.keyOf)
            | false => none) = some (He.keysIn P ks) := h
          cases z : decide (c = "dict") && (osl.isEmpty && !(a == sysModules)) with
          | false => rw [z] at h1; cases h1
          | true =>
            rw [z] at h1
            obtain ⟨z1, z2⟩ := He.ba z
            obtain ⟨z2, z3⟩ := He.ba z2
            obtain rfl := of_decide_eq_true z1
            obtain rfl : osl = #[] := Array.isEmpty_iff.mp z2
            have e1 : es.toList.map He.keyOf = He.keysIn P ks := Option.some.inj h1
            have el : es.size = ks.length := by
              have e2 := congrArg List.length e1
              simpa [He.keysIn] using e2
            refine ⟨⟨es, n, q, el, fun i hi => ?_⟩, by simpa using z3⟩
            have hk : i < ks.length := by omega
            have e2 := congrArg (fun l => l[i]?) e1
            simp only [He.keysIn, List.getElem?_map, Array.getElem?_toList, Array.getElem?_eq_getElem hi, List.getElem?_eq_getElem hk, Option.map_some, Option.some.injEq] at e2
            unfold He.keyOf at e2
            split at e2
            · rename_i y t ey
              have e3 : (y, es[i].hash) = (ks[i], PyData.keyHash P ks[i]) := Option.some.inj e2
              have e4 : y = ks[i] := congrArg Prod.fst e3
              subst e4
              exact ⟨_, t, List.getElem?_eq_getElem hk, ey⟩
            · cases e2
        | _ => cases h
    | _ => cases od <;> cases dt <;> cases h
end Own
/-! Comprehensions and loops whose turns leave alone what was there. -/
namespace Own
open PySem PySem.Spec PyProof.Rows L2
/-- what holds of each item and its image -/
def Each (R : Nat → V → V → Hp → Prop) (xs ys : List V) (H : Hp) : Prop := ys.length = xs.length ∧ ∀ i x y, xs[i]? = some x → ys[i]? = some y → R i x y H
def Up (D : Addr) (R : Nat → V → V → Hp → Prop) : Prop := ∀ i x y H H', But D H H' → R i x y H → R i x y H'
theorem Each.up {D : Addr} {R : Nat → V → V → Hp → Prop} (u : Up D R) {xs ys : List V} {H H' : Hp} (e : But D H H') (h : Each R xs ys H) : Each R xs ys H' := ⟨h.1, fun i x y a b => u i x y H H' e (h.2 i x y a b)⟩
theorem Each.snoc {R : Nat → V → V → Hp → Prop} {xs ys : List V} {i : Nat} {x y : V} {H : Hp} (h : Each R (xs.take i) ys H) (hx : xs[i]? = some x) (r : R i x y H) : Each R (xs.take (i + 1)) (ys ++ [y]) H := by
  have hi : i < xs.length := (List.getElem?_eq_some_iff.mp hx).1
  have hl : ys.length = i := by
    rw [h.1, List.length_take]
    omega
  refine ⟨?_, fun j u v hu hv => ?_⟩
  · rw [List.length_append, List.length_take, List.length_singleton, hl]
    omega
  · by_cases c : j < i
    · rw [List.getElem?_take_of_lt (by omega)] at hu
      rw [List.getElem?_append_left (by omega)] at hv
      exact h.2 j u v (by rw [List.getElem?_take_of_lt c]; exact hu) hv
    · have hj : j < i + 1 := by
        have h2 := (List.getElem?_eq_some_iff.mp hu).1
        rw [List.length_take] at h2
        omega
      obtain rfl : j = i := by omega
      rw [List.getElem?_take_of_lt (by omega), hx] at hu
      rw [List.getElem?_append_right (by omega), hl, Nat.sub_self] at hv
      cases hu
      cases hv
      exact r
section
variable {K : PySem.W.Frag} {a D : Addr} {xs : List V} {g : TG} {tt : TT} {te : TE} {vs : List Nat} {σ : L2.St} {H1 : Hp} {Qd : Hp → Prop}
theorem few {n : Nat} (h : n ≤ 1000000) : n < sizeLine := Nat.lt_of_le_of_lt h (by decide)
/-- every item's image; D is where the new list grows: R may say that what is new is not D -/
theorem lc_each (R : Nat → V → V → Hp → Prop) (u : Up D R) (hS : SqL K H1 a xs) (hD : H1 D = none) (hz : xs.length ≤ 1000000)
    (hs : ∀ i x H (Qk : V → Hp → Prop) (Qn : Hp → Prop), xs[i]? = some x → Same H1 H → H D ≠ none → (∀ y H', Same H H' → R i x y H' → Qk y H') → g x (wipe σ vs) H fun σ2 H2 => wipe σ2 vs = wipe σ vs ∧ tt σ2 H2 fun b H3 => if b = true then te σ2 H3 Qk else Qn H3)
    (hd : ∀ ys H, Each R xs ys H → Same H1 H → H D = some (.lst ys) → Qd H) :
    ∃ W : Nat → Nat → Hp → Prop, (∃ m, W 0 m (upd H1 D (.lst []))) ∧ ∀ i m H, W i m H →
      ((Itl K a).stop i H ∧ Qd H) ∨ ((Itl K a).go i H ∧ ∃ Nx : Hp → Prop, (∀ H', Nx H' → ∃ m', m' < m ∧ W (i + 1) m' H') ∧ ∀ x H', (Itl K a).yld i H x H' → g x (wipe σ vs) H' fun σ2 H2 => wipe σ2 vs = wipe σ vs ∧ tt σ2 H2 fun b H3 =>
        if b = true then te σ2 H3 fun y H4 => ∃ acc, H4 D = some (.lst acc) ∧ acc.length < sizeLine ∧ Nx (upd H4 D (.lst (acc ++ [y]))) else Nx H3) := by
  refine lc_list (K := K) (a := a) (xs := xs) (fun i H => ∃ ys, Same H1 H ∧ H D = some (.lst ys) ∧ Each R (xs.take i) ys H) ⟨[], Same.new hD, upd_same, by simp [Each]⟩ (fun i H _ ⟨_, e, _, _⟩ => e.seq hS)
    (fun i x H hx ⟨ys, e, hys, he⟩ => hs i x H _ _ hx e (by rw [hys]; simp) fun y H' e' r => ⟨ys, e' _ _ hys, few ?_, ys ++ [y], (e.trans e').put hD, upd_same, ?_⟩) ?_
  · rw [he.1, List.length_take]
    omega
  · exact Each.up u (But.upd (But.refl D H')) ((he.up u (.of e')).snoc hx r)
  · rintro H ⟨ys, e, hys, he⟩
    rw [List.take_length] at he
    exact hd ys H he e hys
/-- over range(lo, lo + n): the items are the intR -/
def intR (lo : Int) (n : Nat) : List V := (List.range n).map fun (i : Nat) => V.int (lo + (i : Int))
theorem intR_len (lo : Int) (n : Nat) : (intR lo n).length = n := by simp [intR]
theorem intR_at {lo : Int} {n i : Nat} (h : i < n) : (intR lo n)[i]? = some (.int (lo + i)) := by simp [intR, h]
theorem lc_eachR {lo : Int} {n : Nat} (R : Nat → V → V → Hp → Prop) (u : Up D R) (hD : H1 D = none) (hz : n ≤ 1000000)
    (hs : ∀ i H (Qk : V → Hp → Prop) (Qn : Hp → Prop), i < n → Same H1 H → H D ≠ none → (∀ y H', Same H H' → R i (.int (lo + i)) y H' → Qk y H') → g (.int (lo + i)) (wipe σ vs) H fun σ2 H2 => wipe σ2 vs = wipe σ vs ∧ tt σ2 H2 fun b H3 => if b = true then te σ2 H3 Qk else Qn H3)
    (hd : ∀ ys H, Each R (intR lo n) ys H → Same H1 H → H D = some (.lst ys) → Qd H) :
    ∃ W : Nat → Nat → Hp → Prop, (∃ m, W 0 m (upd H1 D (.lst []))) ∧ ∀ i m H, W i m H →
      ((Itr lo n).stop i H ∧ Qd H) ∨ ((Itr lo n).go i H ∧ ∃ Nx : Hp → Prop, (∀ H', Nx H' → ∃ m', m' < m ∧ W (i + 1) m' H') ∧ ∀ x H', (Itr lo n).yld i H x H' → g x (wipe σ vs) H' fun σ2 H2 => wipe σ2 vs = wipe σ vs ∧ tt σ2 H2 fun b H3 =>
        if b = true then te σ2 H3 fun y H4 => ∃ acc, H4 D = some (.lst acc) ∧ acc.length < sizeLine ∧ Nx (upd H4 D (.lst (acc ++ [y]))) else Nx H3) := by
  refine lc_range (lo := lo) (n := n) (fun i H => ∃ ys, Same H1 H ∧ H D = some (.lst ys) ∧ Each R ((intR lo n).take i) ys H) ⟨[], Same.new hD, upd_same, by simp [Each]⟩
    (fun i H hi ⟨ys, e, hys, he⟩ => hs i H _ _ hi e (by rw [hys]; simp) fun y H' e' r => ⟨ys, e' _ _ hys, few ?_, ys ++ [y], (e.trans e').put hD, upd_same, ?_⟩) ?_
  · rw [he.1, List.length_take, intR_len]
    omega
  · exact Each.up u (But.upd (But.refl D H')) ((he.up u (.of e')).snoc (intR_at hi) r)
  · rintro H ⟨ys, e, hys, he⟩
    rw [List.take_of_length_le (by rw [intR_len]; omega)] at he
    exact hd ys H he e hys
end
/-- values that stand for data, one by one -/
def Rel2 {α : Type} (R : α → V → Hp → Prop) (ms : List α) (vs : List V) (H : Hp) : Prop := vs.length = ms.length ∧ ∀ (i : Nat) (m : α) (v : V), ms[i]? = some m → vs[i]? = some v → R m v H
section
variable {α : Type} {R : α → V → Hp → Prop} {ms ns : List α} {vs us : List V} {H H' : Hp}
theorem Rel2.nil : Rel2 R [] [] H := ⟨rfl, fun i m v h => by simp at h⟩
theorem Rel2.up (h : Rel2 R ms vs H) (u : ∀ m v, R m v H → R m v H') : Rel2 R ms vs H' := ⟨h.1, fun i m v a b => u m v (h.2 i m v a b)⟩
theorem Rel2.append (h : Rel2 R ms vs H) (k : Rel2 R ns us H) : Rel2 R (ms ++ ns) (vs ++ us) H := by
  refine ⟨by rw [List.length_append, List.length_append, h.1, k.1], fun i m v a b => ?_⟩
  by_cases c : i < ms.length
  · rw [List.getElem?_append_left c] at a
    rw [List.getElem?_append_left (by rw [h.1]; exact c)] at b
    exact h.2 i m v a b
  · rw [List.getElem?_append_right (by omega)] at a
    rw [List.getElem?_append_right (by rw [h.1]; omega), h.1] at b
    exact k.2 _ m v a b
theorem Rel2.one {m : α} {v : V} (h : R m v H) : Rel2 R [m] [v] H := ⟨rfl, fun i m' v' a b => by
  match i with
  | 0 => cases a; cases b; exact h
  | i + 1 => simp at a⟩
theorem Rel2.snoc {m : α} {v : V} (h : Rel2 R ms vs H) (k : R m v H) : Rel2 R (ms ++ [m]) (vs ++ [v]) H := h.append (.one k)
theorem Rel2.get (h : Rel2 R ms vs H) {i : Nat} {v : V} (e : vs[i]? = some v) : ∃ m, ms[i]? = some m ∧ R m v H := by
  have hi : i < ms.length := by rw [← h.1]; exact (List.getElem?_eq_some_iff.mp e).1
  exact ⟨ms[i], List.getElem?_eq_getElem hi, h.2 i _ v (List.getElem?_eq_getElem hi) e⟩
end
/-- images that are intR by a function -/
theorem each_ints {f : Int → Int} {ms : List Int} {ys : List V} {H : Hp} (h : Each (fun _ x y _ => ∀ m, x = .int m → y = .int (f m)) (ms.map V.int) ys H) : ys = (ms.map f).map V.int := by
  obtain ⟨hl, h⟩ := h
  apply List.ext_getElem?
  intro i
  by_cases hi : i < ms.length
  · have h1 : (ms.map V.int)[i]? = some (.int ms[i]) := by simp [hi]
    have h2 : i < ys.length := by rw [hl, List.length_map]; exact hi
    have := h i _ ys[i] h1 (by simp [h2]) _ rfl
    simp [hi, h2, this]
  · have h2 : ¬ i < ys.length := by rw [hl, List.length_map]; exact hi
    simp [hi, h2]
theorem cut_map {f : Int → V} (ms : List Int) (lo hi : Option Int) : ∃ l : List Int, cutV (ms.map f) lo hi = l.map f ∧ l.length ≤ ms.length := by
  have h := cutV_length (ms.map f) lo hi
  have e : ∃ l : List Int, cutV (ms.map f) lo hi = l.map f := by
    unfold cutV
    exact ⟨_, by rw [← List.map_drop, ← List.map_take]⟩
  obtain ⟨l, e⟩ := e
  exact ⟨l, e, by rw [e] at h; simpa using h⟩
end Own
namespace K24
open PySem PySem.Spec PyProof.Rows L2 Own
def topS (i : Nat) : Stmt := PySem.Challenge.pw_oneunseen_k24_fewest_looks_by_all_rows.main.body.getD i (.Pass ⟨0, 0, 0, 0⟩)
abbrev s_TooMany___init__ : Stmt := inClass (topS 2) 0
theorem sc_TooMany___init__ : FnScope ["self", "what"] ["self", "what"] (defScope s_TooMany___init__) := ⟨rfl, rfl, rfl, by decide +kernel, rfl, by decide +kernel, by decide +kernel⟩
abbrev s_NotTold___init__ : Stmt := inClass (topS 3) 0
theorem sc_NotTold___init__ : FnScope ["self", "what"] ["self", "what"] (defScope s_NotTold___init__) := ⟨rfl, rfl, rfl, by decide +kernel, rfl, by decide +kernel, by decide +kernel⟩
abbrev s_check_sizes : Stmt := topS 6
theorem sc_check_sizes : FnScope ["sizes", "passed", "what", "row"] ["sizes"] (defScope s_check_sizes) := ⟨rfl, rfl, rfl, by decide +kernel, rfl, by decide +kernel, by decide +kernel⟩
abbrev s_check_within : Stmt := topS 7
theorem sc_check_within : FnScope ["what", "number", "bound"] ["what", "number", "bound"] (defScope s_check_within) := ⟨rfl, rfl, rfl, by decide +kernel, rfl, by decide +kernel, by decide +kernel⟩
abbrev s_check_code : Stmt := topS 10
theorem sc_check_code : FnScope ["m", "d"] ["m", "d"] (defScope s_check_code) := ⟨rfl, rfl, rfl, by decide +kernel, rfl, by decide +kernel, by decide +kernel⟩
abbrev s_sum_words : Stmt := topS 11
theorem sc_sum_words : FnScope ["m", "p", "power"] ["m"] (defScope s_sum_words) := ⟨rfl, rfl, rfl, by decide +kernel, rfl, by decide +kernel, by decide +kernel⟩
abbrev s_code_length : Stmt := topS 12
theorem sc_code_length : FnScope ["m", "d"] ["m", "d"] (defScope s_code_length) := ⟨rfl, rfl, rfl, by decide +kernel, rfl, by decide +kernel, by decide +kernel⟩
abbrev s_looks_length : Stmt := topS 13
theorem sc_looks_length : FnScope ["m", "d", "fogs"] ["m", "d", "fogs"] (defScope s_looks_length) := ⟨rfl, rfl, rfl, by decide +kernel, rfl, by decide +kernel, by decide +kernel⟩
abbrev s_least_looks : Stmt := topS 14
theorem sc_least_looks : FnScope ["m", "d", "fogs"] ["m", "d", "fogs"] (defScope s_least_looks) := ⟨rfl, rfl, rfl, by decide +kernel, rfl, by decide +kernel, by decide +kernel⟩
abbrev s_turn_length : Stmt := topS 15
theorem sc_turn_length : FnScope ["m", "f", "g", "length"] ["m", "f", "g"] (defScope s_turn_length) := ⟨rfl, rfl, rfl, by decide +kernel, rfl, by decide +kernel, by decide +kernel⟩
abbrev s_turn_looks : Stmt := topS 16
theorem sc_turn_looks : FnScope ["m", "f", "g", "fogs"] ["m", "f", "g", "fogs"] (defScope s_turn_looks) := ⟨rfl, rfl, rfl, by decide +kernel, rfl, by decide +kernel, by decide +kernel⟩
abbrev s_law_code_due : Stmt := topS 18
theorem sc_law_code_due : FnScope ["m", "d", "p"] ["m", "d"] (defScope s_law_code_due) := ⟨rfl, rfl, rfl, by decide +kernel, rfl, by decide +kernel, by decide +kernel⟩
abbrev s_law_looks_due : Stmt := topS 19
theorem sc_law_looks_due : FnScope ["m", "d", "fogs"] ["m", "d", "fogs"] (defScope s_law_looks_due) := ⟨rfl, rfl, rfl, by decide +kernel, rfl, by decide +kernel, by decide +kernel⟩
abbrev s_law_mix : Stmt := topS 20
theorem sc_law_mix : FnScope ["purse", "things", "left", "turn"] ["purse", "things"] (defScope s_law_mix) := ⟨rfl, rfl, rfl, by decide +kernel, rfl, by decide +kernel, by decide +kernel⟩
abbrev s_law_matches : Stmt := topS 21
theorem sc_law_matches : FnScope ["answer", "due", "at"] ["answer", "due"] (defScope s_law_matches) := ⟨rfl, rfl, rfl, by decide +kernel, rfl, by decide +kernel, by decide +kernel⟩
abbrev s_law_purse : Stmt := topS 22
theorem sc_law_purse : FnScope ["script", "at", "cell", "size", "one"] ["script", "at"] (defScope s_law_purse) := ⟨rfl, rfl, rfl, by decide +kernel, rfl, by decide +kernel, by decide +kernel⟩
abbrev s_law_draw : Stmt := topS 23
theorem sc_law_draw : FnScope ["purse", "many", "found"] ["purse", "many"] (defScope s_law_draw) := ⟨rfl, rfl, rfl, by decide +kernel, rfl, by decide +kernel, by decide +kernel⟩
abbrev s_law_said : Stmt := topS 24
theorem sc_law_said : FnScope ["kind", "numbers", "raised", "said"] ["kind", "numbers"] (defScope s_law_said) := ⟨rfl, rfl, rfl, by decide +kernel, rfl, by decide +kernel, by decide +kernel⟩
abbrev s_law_least_sum : Stmt := topS 25
theorem sc_law_least_sum : FnScope ["many", "d", "best", "rows", "turn", "row", "longer", "one"] ["many", "d"] (defScope s_law_least_sum) := ⟨rfl, rfl, rfl, by decide +kernel, rfl, by decide +kernel, by decide +kernel⟩
abbrev s_law_looks_said : Stmt := topS 26
theorem sc_law_looks_said : FnScope ["m", "d", "fogs"] ["m", "d", "fogs"] (defScope s_law_looks_said) := ⟨rfl, rfl, rfl, by decide +kernel, rfl, by decide +kernel, by decide +kernel⟩
abbrev s_law_turn_due : Stmt := topS 27
theorem sc_law_turn_due : FnScope ["m", "f", "g"] ["m", "f", "g"] (defScope s_law_turn_due) := ⟨rfl, rfl, rfl, by decide +kernel, rfl, by decide +kernel, by decide +kernel⟩
abbrev s_law : Stmt := topS 28
theorem sc_law : FnScope ["script", "purse", "fogs", "m", "d", "triples", "f", "g", "turn", "due"] ["script"] (defScope s_law) := ⟨rfl, rfl, rfl, by decide +kernel, rfl, by decide +kernel, by decide +kernel⟩
def fa : List He.Fa := [.glo "check_sizes", .glo "check_within", .glo "check_code", .glo "sum_words", .glo "code_length", .glo "looks_length", .glo "least_looks", .glo "turn_length", .glo "turn_looks", .glo "_law_code_due", .glo "_law_looks_due", .glo "_law_mix", .glo "_law_matches", .glo "_law_purse", .glo "_law_draw", .glo "_law_said", .glo "_law_least_sum", .glo "_law_looks_said", .glo "_law_turn_due", .glo "law", .free "len", .free "abs", .free "sum", .free "isinstance", .free "int", .free "str", .free "bool", .free "list", .free "tuple", .free "min", .free "range", .glo "LIMITS", .glo "UnseenError", .glo "TooMany", .glo "NotTold", .int "FARTHEST" 8, .meth "TooMany" "__init__", .noat "TooMany" "what", .meth "NotTold" "__init__", .noat "NotTold" "what"]
def dd0 : He.DefD := ⟨("TooMany", some "__init__"), "__init__", "TooMany.__init__", defArgs s_TooMany___init__, defBody s_TooMany___init__, defScope s_TooMany___init__, [], []⟩
def dd1 : He.DefD := ⟨("NotTold", some "__init__"), "__init__", "NotTold.__init__", defArgs s_NotTold___init__, defBody s_NotTold___init__, defScope s_NotTold___init__, [], []⟩
def dd2 : He.DefD := ⟨("check_sizes", none), "check_sizes", "check_sizes", defArgs s_check_sizes, defBody s_check_sizes, defScope s_check_sizes, [], []⟩
def dd3 : He.DefD := ⟨("check_within", none), "check_within", "check_within", defArgs s_check_within, defBody s_check_within, defScope s_check_within, [], []⟩
def dd4 : He.DefD := ⟨("check_code", none), "check_code", "check_code", defArgs s_check_code, defBody s_check_code, defScope s_check_code, [], []⟩
def dd5 : He.DefD := ⟨("sum_words", none), "sum_words", "sum_words", defArgs s_sum_words, defBody s_sum_words, defScope s_sum_words, [], []⟩
def dd6 : He.DefD := ⟨("code_length", none), "code_length", "code_length", defArgs s_code_length, defBody s_code_length, defScope s_code_length, [], []⟩
def dd7 : He.DefD := ⟨("looks_length", none), "looks_length", "looks_length", defArgs s_looks_length, defBody s_looks_length, defScope s_looks_length, [], []⟩
def dd8 : He.DefD := ⟨("least_looks", none), "least_looks", "least_looks", defArgs s_least_looks, defBody s_least_looks, defScope s_least_looks, [], []⟩
def dd9 : He.DefD := ⟨("turn_length", none), "turn_length", "turn_length", defArgs s_turn_length, defBody s_turn_length, defScope s_turn_length, [], []⟩
def dd10 : He.DefD := ⟨("turn_looks", none), "turn_looks", "turn_looks", defArgs s_turn_looks, defBody s_turn_looks, defScope s_turn_looks, [], []⟩
def dd11 : He.DefD := ⟨("_law_code_due", none), "_law_code_due", "_law_code_due", defArgs s_law_code_due, defBody s_law_code_due, defScope s_law_code_due, [], []⟩
def dd12 : He.DefD := ⟨("_law_looks_due", none), "_law_looks_due", "_law_looks_due", defArgs s_law_looks_due, defBody s_law_looks_due, defScope s_law_looks_due, [], []⟩
def dd13 : He.DefD := ⟨("_law_mix", none), "_law_mix", "_law_mix", defArgs s_law_mix, defBody s_law_mix, defScope s_law_mix, [], []⟩
def dd14 : He.DefD := ⟨("_law_matches", none), "_law_matches", "_law_matches", defArgs s_law_matches, defBody s_law_matches, defScope s_law_matches, [], []⟩
def dd15 : He.DefD := ⟨("_law_purse", none), "_law_purse", "_law_purse", defArgs s_law_purse, defBody s_law_purse, defScope s_law_purse, [], []⟩
def dd16 : He.DefD := ⟨("_law_draw", none), "_law_draw", "_law_draw", defArgs s_law_draw, defBody s_law_draw, defScope s_law_draw, [], []⟩
def dd17 : He.DefD := ⟨("_law_said", none), "_law_said", "_law_said", defArgs s_law_said, defBody s_law_said, defScope s_law_said, [], []⟩
def dd18 : He.DefD := ⟨("_law_least_sum", none), "_law_least_sum", "_law_least_sum", defArgs s_law_least_sum, defBody s_law_least_sum, defScope s_law_least_sum, [], []⟩
def dd19 : He.DefD := ⟨("_law_looks_said", none), "_law_looks_said", "_law_looks_said", defArgs s_law_looks_said, defBody s_law_looks_said, defScope s_law_looks_said, [], []⟩
def dd20 : He.DefD := ⟨("_law_turn_due", none), "_law_turn_due", "_law_turn_due", defArgs s_law_turn_due, defBody s_law_turn_due, defScope s_law_turn_due, [], []⟩
def dd21 : He.DefD := ⟨("law", none), "law", "law", defArgs s_law, defBody s_law, defScope s_law, [], []⟩
def fn : List He.DefD := [dd0, dd1, dd2, dd3, dd4, dd5, dd6, dd7, dd8, dd9, dd10, dd11, dd12, dd13, dd14, dd15, dd16, dd17, dd18, dd19, dd20, dd21]
def rows_LIMITS : List (Str × Int) := [("bridges", 60), ("goes", 600), ("turn", 600), ("number", 120), ("facts", 400), ("names", 4), ("sheets", 6), ("plan", 120), ("code", 12), ("alike", 6), ("pictures", 8), ("choices", 4000), ("rounds", 6), ("deeds", 120), ("spots", 6000)]
def keys_LIMITS : List Str := rows_LIMITS.map (·.1)
def vals_LIMITS : List (Str × He.Dv) := rows_LIMITS.map fun q => (q.1, .int q.2)
def ts : List He.Tab := [(fun K => He.ga K "LIMITS", keys_LIMITS)]
def exl (K : PySem.W.Frag) : List Bool := [baseB K (He.ga K "UnseenError"), oexB K (He.ga K "TooMany"), xfB K (He.ga K "TooMany"), oexB K (He.ga K "NotTold"), xfB K (He.ga K "NotTold"), decide (PySem.W.exmOne K (.ref (He.ga K "TooMany")) (.ref (He.ga K "TooMany")) = some true), decide (PySem.W.exmOne K (.ref (He.ga K "TooMany")) (.ref (He.ga K "NotTold")) = some false), decide (PySem.W.exmOne K (.ref (He.ga K "TooMany")) (.ref (He.ga K "UnseenError")) = some true), decide (PySem.W.exmOne K (.ref (He.ga K "NotTold")) (.ref (He.ga K "TooMany")) = some false), decide (PySem.W.exmOne K (.ref (He.ga K "NotTold")) (.ref (He.ga K "NotTold")) = some true), decide (PySem.W.exmOne K (.ref (He.ga K "NotTold")) (.ref (He.ga K "UnseenError")) = some true), He.valsB K (He.ga K "LIMITS") vals_LIMITS]
def ex (K : PySem.W.Frag) : Bool := (exl K).all id
abbrev R : PySem.W.OpenRow := PySem.W.OpenLaw.row PySem.Challenge.rw_oneunseen_k24_fewest_looks_by_all_rows
abbrev hk : PySem.W.Hook := hookE 5 fa fn ts ex
def ob (s : PySem.W.SharedT) : AlE := obsEG 5 fa fn ts ex (HandSHeadRun.getT s)
theorem ob_eq (s : PySem.W.SharedT) : ob s = hk.obs s.abs := obsEG_eq (HandSHeadRun.getT_eq s)
def loose : List Str := (["UnseenError", "TooMany", "NotTold", "LIMITS", "check_sizes", "check_within", "FARTHEST", "check_code", "sum_words", "code_length", "looks_length", "least_looks", "turn_length", "turn_looks", "_law_code_due", "_law_looks_due", "_law_mix", "_law_matches", "_law_purse", "_law_draw", "_law_said", "_law_least_sum", "_law_looks_said", "_law_turn_due"] : List Str)
abbrev RunP (w : World) : Prop := HandSHeadRun.RunEq R (PySem.W.view R.prog [28]) hk ob 6000 loose w
theorem run0 (w : World) : RunP (w.withFollow "special-get-raises" false) := by
  intro os
  kernel_rfl
theorem run1 (w : World) : RunP (w.withFollow "special-get-raises" true) := by
  intro os
  kernel_rfl
theorem run (w : World) : RunP w := PySem.W.byRow2 "special-get-raises" (P := RunP) run0 run1 w
end K24
namespace K24
open PySem PySem.Spec PyProof.Rows L2 Own
/-- what the readings ask of the module's names -/
structure Txt (K : PySem.W.Frag) (mg : Str → Option Value) : Prop where
  z_len : mg "len" = none
  z_abs : mg "abs" = none
  z_sum : mg "sum" = none
  z_isinstance : mg "isinstance" = none
  z_int : mg "int" = none
  z_str : mg "str" = none
  z_bool : mg "bool" = none
  z_list : mg "list" = none
  z_tuple : mg "tuple" = none
  z_min : mg "min" = none
  z_range : mg "range" = none
section
variable {P : Program} {w : World} {K : PySem.W.Frag} {mg : Str → Option Value} {base : Heap}
/-! ### _law_draw, _law_purse, _law_mix, _law_matches -/
/-- purse a list of three ints at a, 0 < many: some r below many; the purse holds other ints -/
def spDraw : Sp := fun vs H Q _ => ∃ (a : Addr) (x y z n : Int), vs = [.ref a, .int n] ∧ H a = some (.lst [.int x, .int y, .int z]) ∧ 0 < n ∧ n < 1073741824 ∧
  ∀ r x' y' z' : Int, 0 ≤ r → r < n → Q (.int r) (upd H a (.lst [.int x', .int y', .int z']))
theorem ok_draw (T : Txt K mg) (D : Dn K mg "_law_draw" s_law_draw) : Cal P w K mg base 1 "_law_draw" spDraw := by
  refine D.cal sc_law_draw (fun _ _ _ _ _ _ us hl => match us, hl with | [_, _], _ => rfl) (fun vs H Q E h => ?_) (fun f cdv A outer s H E hr => ⟨_, (pss_cons (ps_if (pt_cmpR op_gt (pe_ix ix_list (pv 0) pe_int (fun _ _ => rfl)) pe_int (nomark _)) (pss_cons (ps_set (i := 2) sc_law_draw.nd rfl (Or.inl rfl) (pe_op op_mod (pe_callTy call_int1 (by rfl) T.z_int (by decide +kernel) (pa_cons (pe_ix ix_list (pv 0) pe_int (fun _ _ => rfl)) pa_nil)) (pv 1)))
    (pss_cons (ps_asg (pe_op op_fdiv (pe_ix ix_list (pv 0) pe_int (fun _ _ => rfl)) (pv 1)) (pg_sub (pv 0) pe_int set_list))
    (pss_one (ps_ret (pv 2))))) pss_nil)
    (pss_cons (ps_augS (pv 0) pe_int get_list pe_int ip_add set_list)
    (pss_cons (ps_asg (pe_op op_mod (pe_callTy call_int1 (by rfl) T.z_int (by decide +kernel) (pa_cons (pe_op op_add (pe_op op_mul (pe_ix ix_list (pv 0) pe_int (fun _ _ => rfl)) pe_int) (pe_op op_mul (pe_ix ix_list (pv 0) pe_int (fun _ _ => rfl)) pe_int)) pa_nil)) pe_int) (pg_sub (pv 0) pe_int set_list))
    (pss_one (ps_ret (pe_op op_mod (pe_op op_fdiv (pe_op op_mod (pe_callTy call_int1 (by rfl) T.z_int (by decide +kernel) (pa_cons (pe_op op_add (pe_op op_mul (pe_ix ix_list (pv 0) pe_int (fun _ _ => rfl)) pe_int) (pe_op op_mul (pe_ix ix_list (pv 0) pe_int (fun _ _ => rfl)) pe_int)) pa_nil)) pe_int) pe_int) (pv 1))))))), fun vs Q h => ?_⟩)
  · obtain ⟨a, x, y, z, n, rfl, _⟩ := h
    rfl
  · obtain ⟨a, x, y, z, n, rfl, hA, n0, n1, q⟩ := h
    refine ⟨_, rfl, a, _, 0, .int x, rfl, rfl, SqL.of hA, atI_nat (j := 0) rfl, _, _, rfl, rfl, _, rfl, ite2 (fun c => ?_) (fun c => ?_)⟩
    · refine ⟨_, rfl, a, _, 0, .int x, rfl, rfl, SqL.of hA, atI_nat (j := 0) rfl, .inl ⟨_, rfl, _, rfl, _, _, rfl, rfl, n0, ?_⟩⟩
      refine ⟨_, rfl, a, _, 0, .int x, rfl, rfl, SqL.of hA, atI_nat (j := 0) rfl, _, rfl, _, _, rfl, rfl, ⟨n0, n1⟩, ?_⟩
      refine ⟨_, rfl, a, _, 0, 0, rfl, rfl, hA, rfl, _, rfl, ?_⟩
      exact q (x % n) (x / n) y z (Int.emod_nonneg _ (by omega)) (Int.emod_lt_of_pos _ n0)
    · refine ⟨_, rfl, a, _, 2, .int z, rfl, rfl, by decide, SqL.of hA, rfl, _, _, rfl, rfl, a, _, 2, 2, rfl, rfl, hA, rfl, ?_⟩
      have h1 : upd H a (.lst [.int x, .int y, .int (z + 1)]) a = some (.lst [.int x, .int y, .int (z + 1)]) := upd_same
      refine ⟨_, rfl, a, _, 1, .int y, rfl, rfl, SqL.of h1, atI_nat (j := 1) rfl, _, _, rfl, rfl, .inr ⟨by decide, by decide⟩, ?_⟩
      refine ⟨_, rfl, a, _, 2, .int (z + 1), rfl, rfl, SqL.of h1, atI_nat (j := 2) rfl, _, _, rfl, rfl, .inr ⟨by decide, by decide⟩, _, _, rfl, rfl, .inl ⟨_, rfl, _, _, rfl, rfl, (by decide : (0 : Int) < 2147483647), ?_⟩⟩
      refine ⟨_, rfl, a, _, 1, 1, rfl, rfl, h1, rfl, ?_⟩
      refine ⟨_, rfl, a, _, 1, _, rfl, rfl, SqL.of upd_same, atI_nat (j := 1) rfl, _, _, rfl, rfl, .inr ⟨by decide, by decide⟩, ?_⟩
      refine ⟨_, rfl, a, _, 2, .int (z + 1), rfl, rfl, SqL.of upd_same, atI_nat (j := 2) rfl, _, _, rfl, rfl, .inr ⟨by decide, by decide⟩, _, _, rfl, rfl, .inl ⟨_, rfl, _, _, rfl, rfl, (by decide : (0 : Int) < 2147483629), ?_⟩⟩
      refine ⟨_, _, rfl, rfl, ⟨by decide, by decide⟩, _, rfl, _, _, rfl, rfl, n0, ?_⟩
      have e := q ((((y * 48271 + (z + 1) * 69621) % 2147483647) * 16807 + (z + 1) * 7919) % 2147483629 / 8 % n) x ((y * 48271 + (z + 1) * 69621) % 2147483647) (z + 1) (Int.emod_nonneg _ (by omega)) (Int.emod_lt_of_pos _ n0)
      rw [← upd_upd (o := .lst [.int x, .int y, .int (z + 1)])] at e
      exact e
/-- a new purse -/
def spPurse (K : PySem.W.Frag) : Sp := fun vs H Q _ => ∃ (a : Addr) (ns : List Int) (k : Int), vs = [.ref a, .int k] ∧ SqL K H a (ns.map V.int) ∧ 0 ≤ k ∧ k < 1000 ∧ ns.length ≤ 63 ∧
  ∀ (x y z : Int) (p : Addr) (H' : Hp), H p = none → Same H H' → H' p = some (.lst [.int x, .int y, .int z]) → Q (.ref p) H'
theorem ok_purse (T : Txt K mg) (D : Dn K mg "_law_purse" s_law_purse) : Cal P w K mg base 1 "_law_purse" (spPurse K) := by
  refine D.cal sc_law_purse (fun _ _ _ _ _ _ us hl => match us, hl with | [_, _], _ => rfl) (fun vs H Q E h => ?_) (fun f cdv A outer s H E hr => ⟨_, (pss_cons (ps_set (i := 2) sc_law_purse.nd rfl (Or.inl rfl) (pe_w (pe_ifExp (pt_cmpR op_lt (pv 1) (pe_callB call_len_seq (by rfl) T.z_len (by decide +kernel) (pa_cons (pv 0) pa_nil)) (nomark _)) (pe_callTy call_int1 (by rfl) T.z_int (by decide +kernel) (pa_cons (pe_ix ix_list (pv 0) (pv 1) (fun _ _ => rfl)) pa_nil)) (pe_op op_mul pe_int (pe_callB (cr_sum rfl) (by rfl) T.z_sum (by decide +kernel) (pa_cons (pe_lc (own := [("one", 4)]) rfl sc_law_purse.nd (pi_list (pe_slice sl_list (pv 0) po_none (po_some pe_int))) (blkOk_by (N := ["script", "at", "cell", "size", "one"]) (sc := defScope s_law_purse) (by decide +kernel)) (fun _ _ _ _ _ => pg_k (pg_name (i := 4) sc_law_purse.nd rfl (Or.inl rfl)) (by first | rfl | (dsimp only [Cx.blk, Cx.nox, Cx.wish, cxOf] <;> rfl))) (fun _ _ _ _ _ => pts_k pts_nil (by first | rfl | (dsimp only [Cx.blk, Cx.nox, Cx.wish, cxOf] <;> rfl))) (fun _ _ _ _ _ => pe_k (pe_callTy call_int1 (by rfl) T.z_int (by decide +kernel) (pa_cons (pv 4) pa_nil)) (by first | rfl | (dsimp only [Cx.blk, Cx.nox, Cx.wish, cxOf] <;> rfl)))) pa_nil))))))
    (pss_cons (ps_set (i := 3) sc_law_purse.nd rfl (Or.inl rfl) (pe_op op_add (pe_op op_mul pe_int (pe_callB call_abs (by rfl) T.z_abs (by decide +kernel) (pa_cons (pv 2) pa_nil))) (pe_w (pe_ifExp (pt_cmpR op_lt (pv 2) pe_int (nomark _)) pe_int pe_int))))
    (pss_one (ps_ret (pe_lst (pa_cons (pe_w (pe_ifExp (pt_cmpR op_ge (pv 3) (pe_op op_pow pe_int pe_int) (nomark _)) (pv 3) pe_int)) (pa_cons (pe_op op_mod (pe_callTy call_int1 (by rfl) T.z_int (by decide +kernel) (pa_cons (pe_op op_add (pe_op op_add (pv 3) (pe_op op_mul (pv 1) pe_int)) pe_int) pa_nil)) pe_int) (pa_cons (pv 1) pa_nil)))))))), fun vs Q h => ?_⟩)
  · obtain ⟨a, ns, k, rfl, _⟩ := h
    rfl
  · obtain ⟨a, ns, k, rfl, hS, k0, k1, hl, q⟩ := h
    -- cell = ..
    refine ⟨fun v H' => ∃ c : Int, v = .int c ∧ Same H H', ?_, ?_⟩
    · refine ⟨_, rfl, _, rfl, a, _, rfl, .inl hS, _, _, rfl, rfl, _, rfl, ite2 (fun c => ?_) (fun c => ?_)⟩
      · have hk : k.toNat < ns.length := by
          have h2 := of_decide_eq_true c
          rw [List.length_map] at h2
          omega
        refine ⟨_, rfl, _, rfl, a, _, k, .int ns[k.toNat], rfl, rfl, hS, at_of (by omega) (j := k.toNat) (by rw [List.getElem?_map, List.getElem?_eq_getElem hk] <;> rfl), .inl ⟨_, rfl, _, rfl, Same.refl H⟩⟩
      · refine ⟨_, rfl, 4, rfl, a, _, rfl, hS, fun p np => ?_⟩
        obtain ⟨ms, em, hz⟩ := cut_map ns none (some 4) (f := V.int)
        rw [em]
        refine ⟨p, rfl, ⟨_, SqL.of upd_same⟩, fun d nd => lc_each (K := K) (xs := ms.map V.int) (fun _ x y _ => ∀ m, x = .int m → y = .int m) (fun _ _ _ _ _ _ h => h) (SqL.of upd_same) nd (by rw [List.length_map]; omega) ?_ ?_⟩
        · rintro i v H' Qk Qn hi e hn k
          obtain ⟨m, hm, rfl⟩ := Option.map_eq_some_iff.mp (List.getElem?_map ▸ hi)
          exact ⟨rfl, _, rfl, .inl ⟨_, rfl, k _ _ (Same.refl _) fun _ h => h⟩⟩
        · intro ys H' he e hd
          have ey := each_ints (f := fun m => m) he
          rw [List.map_id'] at ey
          rw [ey] at hd
          exact ⟨d, ms, rfl, SqL.of hd, _, _, rfl, rfl, .inl ⟨by decide, by decide⟩, _, rfl, (Same.new np).trans e⟩
    · rintro v H1 ⟨c, rfl, s1⟩
      refine ⟨_, rfl, _, rfl, _, _, rfl, rfl, .inl ⟨by decide, by decide⟩, fun v H' => (∃ s : Int, v = .int s) ∧ H' = H1, ?_, ?_⟩
      · exact ⟨_, rfl, _, _, rfl, rfl, _, rfl, ite2 (fun _ => ⟨⟨1, rfl⟩, rfl⟩) fun _ => ⟨⟨0, rfl⟩, rfl⟩⟩
      · rintro v H2 ⟨⟨s, rfl⟩, rfl⟩
        refine ⟨_, _, rfl, rfl, fun v H' => (∃ s : Int, v = .int s) ∧ H' = H2, ?_, ?_⟩
        · exact ⟨_, rfl, _, _, rfl, rfl, ⟨by decide, by decide, by decide⟩, _, _, rfl, rfl, _, rfl, ite2 (fun _ => ⟨_, rfl, ⟨_, rfl⟩, rfl⟩) fun _ => ⟨⟨_, rfl⟩, rfl⟩⟩
        · rintro v H3 ⟨⟨z, rfl⟩, rfl⟩
          refine ⟨_, rfl, _, rfl, _, _, rfl, rfl, .inr ⟨by decide, by decide⟩, _, _, rfl, rfl, _, _, rfl, rfl, .inl ⟨_, rfl, _, _, rfl, rfl, (by decide : (0 : Int) < 2147483629), _, rfl, ?_⟩⟩
          exact ⟨(by show 3 ≤ sizeLine; decide), fun p np => q _ _ _ p _ (s1.free np) (s1.trans (Same.new np)) upd_same⟩
/-- the things in some order -/
def spMix (K : PySem.W.Frag) : Sp := fun vs H Q _ => ∃ (a b : Addr) (x y z : Int) (xs : List V), vs = [.ref a, .ref b] ∧ H a = some (.lst [.int x, .int y, .int z]) ∧ SqL K H b xs ∧ xs.length ≤ 100000 ∧
  ∀ (ys : List V) (p : Addr) (x y z : Int) (H' : Hp), ys.Perm xs → H p = none → H' p = some (.lst ys) → H' a = some (.lst [.int x, .int y, .int z]) → But a H H' → Q (.ref p) H'
theorem perm_pop {xs acc rest : List V} {k : Nat} {y : V} (h : (acc ++ rest).Perm xs) (hy : rest[k]? = some y) : ((acc ++ [y]) ++ rest.eraseIdx k).Perm xs := by
  refine List.Perm.trans ?_ h
  rw [List.append_assoc]
  refine List.Perm.append_left acc ?_
  show (y :: rest.eraseIdx k).Perm rest
  have hk : k < rest.length := (List.getElem?_eq_some_iff.mp hy).1
  have e : rest = rest.take k ++ y :: rest.drop (k + 1) := by
    have h2 := List.getElem?_eq_some_iff.mp hy
    rw [← h2.2, ← List.drop_eq_getElem_cons hk, List.take_append_drop]
  rw [List.eraseIdx_eq_take_drop_succ]
  conv => rhs; rw [e]
  exact List.Perm.symm (List.perm_middle (a := y) (l₁ := rest.take k) (l₂ := rest.drop (k + 1)))
theorem ok_mix (T : Txt K mg) (D : Dn K mg "_law_mix" s_law_mix) (C_law_draw : Cal P w K mg base 1 "_law_draw" spDraw) : Cal P w K mg base 2 "_law_mix" (spMix K) := by
  refine D.cal sc_law_mix (fun _ _ _ _ _ _ us hl => match us, hl with | [_, _], _ => rfl) (fun vs H Q E h => ?_) (fun f cdv A outer s H E hr => ⟨_, (pss_cons (ps_set (i := 2) sc_law_mix.nd rfl (Or.inr rfl) (pe_callTy call_list_of (by rfl) T.z_list (by decide +kernel) (pa_cons (pv 1) pa_nil)))
    (pss_one (ps_ret (pe_lc (own := [("turn", 3)]) rfl sc_law_mix.nd (pi_range1 rfl T.z_range (pa_cons (pe_callB call_len_seq (by rfl) T.z_len (by decide +kernel) (pa_cons (pv 1) pa_nil)) pa_nil)) (blkOk_by (N := ["purse", "things", "left", "turn"]) (sc := defScope s_law_mix) (by decide +kernel)) (fun _ _ _ _ _ => pg_k (pg_name (i := 3) sc_law_mix.nd rfl (Or.inl rfl)) (by first | rfl | (dsimp only [Cx.blk, Cx.nox, Cx.wish, cxOf] <;> rfl))) (fun _ _ _ _ _ => pts_k pts_nil (by first | rfl | (dsimp only [Cx.blk, Cx.nox, Cx.wish, cxOf] <;> rfl))) (fun _ _ _ _ _ => pe_k (pe_bm PySem.F.plainAttrs_list PySem.F.slot_list_pop PySem.F.type_list_pop mt_popAt (pv 2) (pa_cons (pe_cc C_law_draw hr (by decide) (by rfl) (pa_cons (pv 0) (pa_cons (pe_callB call_len_seq (by rfl) T.z_len (by decide +kernel) (pa_cons (pv 2) pa_nil)) pa_nil))) pa_nil)) (by first | rfl | (dsimp only [Cx.blk, Cx.nox, Cx.wish, cxOf] <;> rfl))))))), fun vs Q h => ?_⟩)
  · obtain ⟨a, b, x, y, z, xs, rfl, _⟩ := h
    rfl
  · obtain ⟨a, b, x, y, z, xs, rfl, hA, hS, hz, q⟩ := h
    refine ⟨_, rfl, b, xs, rfl, .inl hS, fun l nl => ?_⟩
    have s1 : Same H (upd H l (.lst xs)) := Same.new nl
    refine ⟨_, rfl, b, xs, rfl, .inl (s1.seq hS), _, rfl, by omega, by omega, fun d nd => ?_⟩
    have nla : a ≠ l := ne_of_none hA nl
    have nda : a ≠ d := ne_of_none (s1 _ _ hA) nd
    have ndl : l ≠ d := ne_of_none upd_same nd
    refine lc_range (lo := 0) (n := xs.length) (fun i H' => ∃ (acc rest : List V) (x y z : Int), H' d = some (.lst acc) ∧ H' l = some (.lst rest) ∧ H' a = some (.lst [.int x, .int y, .int z]) ∧ (acc ++ rest).Perm xs ∧ acc.length = i ∧ But a H H')
      ⟨[], xs, x, y, z, upd_same, ?_, ?_, by simp, rfl, ?_⟩ ?_ ?_
    · rw [upd_ne ndl, upd_same]
    · rw [upd_ne nda, upd_ne nla, hA]
    · exact (But.of s1).trans (.of (Same.new nd))
    · rintro i H' hi ⟨acc, rest, x, y, z, hd, hl, ha, hp, hn, hb⟩
      have hlen : acc.length + rest.length = xs.length := by
        have := hp.length_eq
        rwa [List.length_append] at this
      refine ⟨rfl, _, rfl, .inl ⟨rfl, _, SqL.of hl⟩, _, rfl, _, rfl, l, rest, rfl, .inl (SqL.of hl), a, x, y, z, _, rfl, ha, by omega, by omega, fun r x' y' z' r0 r1 => ?_⟩
      have hl2 : upd H' a (.lst [.int x', .int y', .int z']) l = some (.lst rest) := by rw [upd_ne nla.symm]; exact hl
      have hk : r.toNat < rest.length := by omega
      refine ⟨l, rest, r, r.toNat, rest[r.toNat], rfl, rfl, hl2, by omega, by omega, ?_, by simp [hk], ?_⟩
      · exact seqIndex_of r0 (by omega)
      · refine ⟨acc, ?_, few (by omega), acc ++ [rest[r.toNat]], rest.eraseIdx r.toNat, x', y', z', upd_same, ?_, ?_, perm_pop hp (by simp [hk]), by simp [hn], ?_⟩
        · rw [upd_ne ndl.symm, upd_ne nda.symm]
          exact hd
        · rw [upd_ne ndl, upd_same]
        · rw [upd_ne nda, upd_ne nla, upd_same]
        · exact (But.put (hb.upd.put nl) (s1.free nd))
    · rintro H' ⟨acc, rest, x, y, z, hd, hl, ha, hp, hn, hb⟩
      have hr0 : rest = [] := by
        have := hp.length_eq
        rw [List.length_append] at this
        exact List.eq_nil_of_length_eq_zero (by omega)
      subst hr0
      rw [List.append_nil] at hp
      exact q acc d x y z H' hp (s1.free nd) hd ha hb
end
end K24
namespace K24
open PySem PySem.Spec PyProof.Rows L2 Own
section
variable {P : Program} {w : World} {K : PySem.W.Frag} {mg : Str → Option Value} {base : Heap}
def spMatches (K : PySem.W.Frag) (n : Nat) : Sp := fun vs H Q _ => ∃ x y, vs = [x, y] ∧ Alike K H n x y ∧ ∀ H', Same H H' → Q (.bl true) H'
/-- the promise of the call within -/
def spPrev (K : PySem.W.Frag) : Nat → Sp
  | 0 => fun _ _ _ _ => False
  | n + 1 => spMatches K n
theorem inV_true (n : Nat) : inV (.bl false) (List.replicate n (.bl true)) = false := by
  induction n with
  | zero => rfl
  | succ n ih => rw [List.replicate_succ]; exact ih
theorem all_true {ys : List V} {xs : List V} {H : Hp} (h : Each (fun _ _ y _ => y = .bl true) xs ys H) : ys = List.replicate xs.length (.bl true) := by
  refine List.eq_replicate_iff.mpr ⟨h.1, fun y hy => ?_⟩
  obtain ⟨i, hi, e⟩ := List.mem_iff_getElem.mp hy
  have hx : i < xs.length := by rw [← h.1]; exact hi
  exact h.2 i xs[i] y (List.getElem?_eq_getElem hx) (by rw [List.getElem?_eq_getElem hi, e])
theorem matches_step (T : Txt K mg) (D : Dn K mg "_law_matches" s_law_matches) (n : Nat) (C_law_matches : Cal P w K mg base n "_law_matches" (spPrev K n)) : Cal P w K mg base (n + 1) "_law_matches" (spMatches K n) := by
  refine D.cal sc_law_matches (fun _ _ _ _ _ _ us hl => match us, hl with | [_, _], _ => rfl) (fun vs H Q E h => ?_) (fun f cdv A outer s H E hr => ⟨_, (pss_cons (ps_if (PW.pt (pw_or (pt_cmpR op_isN (pv 1) pe_non (nomark _)) (pw_or (pt_cmpR op_isN (pv 0) pe_non (nomark _)) (pw_or (pt_val (pe_callB call_isi (by rfl) T.z_isinstance (by decide +kernel) (pa_cons (pv 1) (pa_cons (pe_bltn (v := .ty "bool") (u := .type "bool") (by rfl) T.z_bool (by decide +kernel) rfl) pa_nil)))) (pw_or1 (pt_val (pe_callB call_isi (by rfl) T.z_isinstance (by decide +kernel) (pa_cons (pv 0) (pa_cons (pe_bltn (v := .ty "bool") (u := .type "bool") (by rfl) T.z_bool (by decide +kernel) rfl) pa_nil))))))))) (pss_one (ps_ret (pe_and (pe_cmpR op_eq (pe_cmpR op_isN (pv 1) pe_non (nomark _)) (pe_cmpR op_isN (pv 0) pe_non (nomark _)) (nomark _)) (pe_and (pe_cmpR op_eq (pe_callB call_isi (by rfl) T.z_isinstance (by decide +kernel) (pa_cons (pv 1) (pa_cons (pe_bltn (v := .ty "bool") (u := .type "bool") (by rfl) T.z_bool (by decide +kernel) rfl) pa_nil))) (pe_callB call_isi (by rfl) T.z_isinstance (by decide +kernel) (pa_cons (pv 0) (pa_cons (pe_bltn (v := .ty "bool") (u := .type "bool") (by rfl) T.z_bool (by decide +kernel) rfl) pa_nil))) (nomark _)) (pe_one (pe_cmpR op_eq (pv 0) (pv 1) (nomark _))))))) pss_nil)
    (pss_cons (ps_if (pt_val (pe_callB call_isiT (by rfl) T.z_isinstance (by decide +kernel) (pa_cons (pv 1) (pa_cons (pe_tup (pa_cons (pe_bltn (v := .ty "int") (u := .type "int") (by rfl) T.z_int (by decide +kernel) rfl) (pa_cons (pe_bltn (v := .ty "str") (u := .type "str") (by rfl) T.z_str (by decide +kernel) rfl) pa_nil))) pa_nil)))) (pss_one (ps_ret (pe_and (pe_cmpR op_eq (pe_callB call_isi (by rfl) T.z_isinstance (by decide +kernel) (pa_cons (pv 0) (pa_cons (pe_bltn (v := .ty "int") (u := .type "int") (by rfl) T.z_int (by decide +kernel) rfl) pa_nil))) (pe_callB call_isi (by rfl) T.z_isinstance (by decide +kernel) (pa_cons (pv 1) (pa_cons (pe_bltn (v := .ty "int") (u := .type "int") (by rfl) T.z_int (by decide +kernel) rfl) pa_nil))) (nomark _)) (pe_and (pe_cmpR op_eq (pe_callB call_isi (by rfl) T.z_isinstance (by decide +kernel) (pa_cons (pv 0) (pa_cons (pe_bltn (v := .ty "str") (u := .type "str") (by rfl) T.z_str (by decide +kernel) rfl) pa_nil))) (pe_callB call_isi (by rfl) T.z_isinstance (by decide +kernel) (pa_cons (pv 1) (pa_cons (pe_bltn (v := .ty "str") (u := .type "str") (by rfl) T.z_str (by decide +kernel) rfl) pa_nil))) (nomark _)) (pe_one (pe_cmpR op_eq (pv 0) (pv 1) (nomark _))))))) pss_nil)
    (pss_cons (ps_if (PW.pt (pw_or (pt_cmpR op_ne (pe_callB call_isi (by rfl) T.z_isinstance (by decide +kernel) (pa_cons (pv 1) (pa_cons (pe_bltn (v := .ty "tuple") (u := .type "tuple") (by rfl) T.z_tuple (by decide +kernel) rfl) pa_nil))) (pe_callB call_isi (by rfl) T.z_isinstance (by decide +kernel) (pa_cons (pv 0) (pa_cons (pe_bltn (v := .ty "tuple") (u := .type "tuple") (by rfl) T.z_tuple (by decide +kernel) rfl) pa_nil))) (nomark _)) (pw_or (pt_cmpR op_ne (pe_callB call_isi (by rfl) T.z_isinstance (by decide +kernel) (pa_cons (pv 1) (pa_cons (pe_bltn (v := .ty "list") (u := .type "list") (by rfl) T.z_list (by decide +kernel) rfl) pa_nil))) (pe_callB call_isi (by rfl) T.z_isinstance (by decide +kernel) (pa_cons (pv 0) (pa_cons (pe_bltn (v := .ty "list") (u := .type "list") (by rfl) T.z_list (by decide +kernel) rfl) pa_nil))) (nomark _)) (pw_or1 (pt_cmpR op_ne (pe_callB call_len_seq (by rfl) T.z_len (by decide +kernel) (pa_cons (pv 0) pa_nil)) (pe_callB call_len_seq (by rfl) T.z_len (by decide +kernel) (pa_cons (pv 1) pa_nil)) (nomark _)))))) (pss_one (ps_ret pe_bl)) pss_nil)
    (pss_one (ps_ret (pe_cmpR op_notIn_seq pe_bl (pe_lc (own := [("at", 2)]) rfl sc_law_matches.nd (pi_range1 rfl T.z_range (pa_cons (pe_callB call_len_seq (by rfl) T.z_len (by decide +kernel) (pa_cons (pv 1) pa_nil)) pa_nil)) (blkOk_by (N := ["answer", "due", "at"]) (sc := defScope s_law_matches) (by decide +kernel)) (fun _ _ _ _ _ => pg_k (pg_name (i := 2) sc_law_matches.nd rfl (Or.inl rfl)) (by first | rfl | (dsimp only [Cx.blk, Cx.nox, Cx.wish, cxOf] <;> rfl))) (fun _ _ _ _ _ => pts_k pts_nil (by first | rfl | (dsimp only [Cx.blk, Cx.nox, Cx.wish, cxOf] <;> rfl))) (fun _ _ _ _ _ => pe_k (pe_cc C_law_matches hr (Nat.le_refl _) (by rfl) (pa_cons (pe_ix ix_seq (pv 0) (pv 2) (fun _ _ => rfl)) (pa_cons (pe_ix ix_seq (pv 1) (pv 2) (fun _ _ => rfl)) pa_nil))) (by first | rfl | (dsimp only [Cx.blk, Cx.nox, Cx.wish, cxOf] <;> rfl)))) (by rfl))))))), fun vs Q h => ?_⟩)
  · obtain ⟨x, y, rfl, _⟩ := h
    rfl
  · obtain ⟨x, y, rfl, ha, q⟩ := h
    have kt : ∀ {a b : String} {r : Bool}, kitB a b = some r → PySem.W.kitOne K (.type a) (.type b) = some r := fun h => kit_ty h
    have k2 : ∀ {t : String} {r1 r2 : Bool}, kitB t "int" = some r1 → kitB t "str" = some r2 → PySem.W.kitAny K (.type t) [.type "int", .type "str"] = some (r1 || r2) := fun {t r1 r2} h1 h2 =>
      kitAny_cons (kt h1) (fun e => by subst e; exact kitAny_cons (kt h2) (fun e => by subst e; rfl) fun e => by subst e; rfl) fun e => by subst e; rfl
    have qt : ∀ {p : Prop} [Decidable p] {H' : Hp}, p → Same H H' → Q (.bl (decide p)) H' := fun {p _ H'} h e => by rw [decide_eq_true h]; exact q H' e
    have qn : ∀ {zs : List V} {m : Nat} {H' : Hp}, zs = List.replicate m (.bl true) → Same H H' → Q (.bl (if true = true then !inV (.bl false) zs else inV (.bl false) zs)) H' := fun {zs m H'} h e => by subst h; rw [inV_true]; exact q H' e
    have fl : ∀ m : Nat, (List.replicate m (V.bl true)).all flatV = true := fun m => List.all_eq_true.mpr fun y hy => by rw [(List.mem_replicate.mp hy).2]; rfl
    cases ha with
    | non =>
      refine ⟨_, rfl, rfl, _, rfl, if_yes rfl ?_⟩
      refine ⟨_, rfl, rfl, _, rfl, rfl, rfl, _, rfl, if_yes rfl ?_⟩
      refine ⟨_, rfl, .non, .ty "bool", _, _, false, rfl, .ty _, .base .non, kt (by decide +kernel), _, rfl, .non, .ty "bool", _, _, false, rfl, .ty _, .base .non, kt (by decide +kernel), rfl, _, rfl, if_yes rfl ?_⟩
      exact ⟨_, rfl, _, rfl, rfl, qt rfl (Same.refl H)⟩
    | bl b =>
      refine ⟨_, rfl, rfl, _, rfl, if_no (by simp) ⟨_, rfl, rfl, _, rfl, if_no (by simp) ⟨_, rfl, .bl b, .ty "bool", _, _, true, rfl, .ty _, .base (.bl b), kt (by decide +kernel), _, rfl, ?_⟩⟩⟩
      refine ⟨_, rfl, rfl, _, rfl, rfl, rfl, _, rfl, if_yes rfl ?_⟩
      refine ⟨_, rfl, .bl b, .ty "bool", _, _, true, rfl, .ty _, .base (.bl b), kt (by decide +kernel), _, rfl, .bl b, .ty "bool", _, _, true, rfl, .ty _, .base (.bl b), kt (by decide +kernel), rfl, _, rfl, if_yes rfl ?_⟩
      exact ⟨_, rfl, _, rfl, rfl, qt rfl (Same.refl H)⟩
    | int i =>
      refine ⟨_, rfl, rfl, _, rfl, if_no (by simp) ⟨_, rfl, rfl, _, rfl, if_no (by simp) ⟨_, rfl, .int i, .ty "bool", _, _, false, rfl, .ty _, .base (.int i), kt (by decide +kernel), _, rfl, _, rfl, .int i, .ty "bool", _, _, false, rfl, .ty _, .base (.int i), kt (by decide +kernel), _, rfl, ?_⟩⟩⟩
      refine ⟨_, rfl, (by show 2 ≤ sizeLine; decide), fun p np => ⟨.int i, p, _, _, _, true, rfl, upd_same, .cons (.ty "int") (.cons (.ty "str") .nil), .base (.int i), k2 (r1 := true) (r2 := false) (by decide +kernel) (by decide +kernel), _, rfl, ?_⟩⟩
      refine ⟨_, rfl, .int i, .ty "int", _, _, true, rfl, .ty _, .base (.int i), kt (by decide +kernel), _, rfl, .int i, .ty "int", _, _, true, rfl, .ty _, .base (.int i), kt (by decide +kernel), rfl, _, rfl, if_yes rfl ?_⟩
      refine ⟨_, rfl, .int i, .ty "str", _, _, false, rfl, .ty _, .base (.int i), kt (by decide +kernel), _, rfl, .int i, .ty "str", _, _, false, rfl, .ty _, .base (.int i), kt (by decide +kernel), rfl, _, rfl, if_yes rfl ?_⟩
      exact ⟨_, rfl, _, rfl, rfl, qt rfl (Same.new np)⟩
    | str z =>
      refine ⟨_, rfl, rfl, _, rfl, if_no (by simp) ⟨_, rfl, rfl, _, rfl, if_no (by simp) ⟨_, rfl, .str z, .ty "bool", _, _, false, rfl, .ty _, .base (.str z), kt (by decide +kernel), _, rfl, _, rfl, .str z, .ty "bool", _, _, false, rfl, .ty _, .base (.str z), kt (by decide +kernel), _, rfl, ?_⟩⟩⟩
      refine ⟨_, rfl, (by show 2 ≤ sizeLine; decide), fun p np => ⟨.str z, p, _, _, _, true, rfl, upd_same, .cons (.ty "int") (.cons (.ty "str") .nil), .base (.str z), k2 (r1 := false) (r2 := true) (by decide +kernel) (by decide +kernel), _, rfl, ?_⟩⟩
      refine ⟨_, rfl, .str z, .ty "int", _, _, false, rfl, .ty _, .base (.str z), kt (by decide +kernel), _, rfl, .str z, .ty "int", _, _, false, rfl, .ty _, .base (.str z), kt (by decide +kernel), rfl, _, rfl, if_yes rfl ?_⟩
      refine ⟨_, rfl, .str z, .ty "str", _, _, true, rfl, .ty _, .base (.str z), kt (by decide +kernel), _, rfl, .str z, .ty "str", _, _, true, rfl, .ty _, .base (.str z), kt (by decide +kernel), rfl, _, rfl, if_yes rfl ?_⟩
      exact ⟨_, rfl, _, rfl, rfl, qt rfl (Same.new np)⟩
    | @lst n a b xs ys ha hb hl hz h =>
      refine ⟨_, rfl, rfl, _, rfl, if_no (by simp) ⟨_, rfl, rfl, _, rfl, if_no (by simp) ⟨_, rfl, .ref b, .ty "bool", _, _, false, rfl, .ty _, ty_l hb, kt (by decide +kernel), _, rfl, _, rfl, .ref a, .ty "bool", _, _, false, rfl, .ty _, ty_l ha, kt (by decide +kernel), _, rfl, ?_⟩⟩⟩
      refine ⟨_, rfl, (by show 2 ≤ sizeLine; decide), fun p np => ⟨.ref b, p, _, _, _, false, rfl, upd_same, .cons (.ty "int") (.cons (.ty "str") .nil), ty_l ((Same.new np).seq hb), k2 (r1 := false) (r2 := false) (by decide +kernel) (by decide +kernel), _, rfl, ?_⟩⟩
      have s1 := Same.new (o := .tup [.ty "int", .ty "str"]) np
      have ha1 := s1.seq ha
      have hb1 := s1.seq hb
      refine ⟨_, rfl, .ref b, .ty "tuple", _, _, false, rfl, .ty _, ty_l hb1, kt (by decide +kernel), _, rfl, .ref a, .ty "tuple", _, _, false, rfl, .ty _, ty_l ha1, kt (by decide +kernel), rfl, _, rfl, iteNS rfl ?_⟩
      refine ⟨_, rfl, .ref b, .ty "list", _, _, true, rfl, .ty _, ty_l hb1, kt (by decide +kernel), _, rfl, .ref a, .ty "list", _, _, true, rfl, .ty _, ty_l ha1, kt (by decide +kernel), rfl, _, rfl, iteNS rfl ?_⟩
      refine ⟨_, rfl, a, xs, rfl, .inl ha1, _, rfl, b, ys, rfl, .inl hb1, rfl, _, rfl, iteNS (by rw [hl]) ?_⟩
      refine ⟨_, rfl, b, ys, rfl, .inl hb1, _, rfl, by omega, by omega, fun d nd => lc_eachR (lo := 0) (n := ys.length) (fun _ _ y _ => y = .bl true) (fun _ _ _ _ _ _ h => h) nd (by omega) ?_ ?_⟩
      · intro i H' Qk Qn hi e hn k
        have hx : xs[i]? = some xs[i] := List.getElem?_eq_getElem (by omega)
        have hy : ys[i]? = some ys[i] := List.getElem?_eq_getElem hi
        exact ⟨rfl, _, rfl, _, rfl, .inl ⟨a, xs, _, xs[i], rfl, rfl, e.seq ha1, at_of (Int.zero_add _) hx, _, rfl, _, rfl, .inl ⟨b, ys, _, ys[i], rfl, rfl, e.seq hb1, at_of (Int.zero_add _) hy, xs[i], ys[i], rfl, (h i _ _ hx hy).keep (s1.trans e), fun H'' e' => k _ _ e' rfl⟩⟩⟩
      · intro zs H' he e hd
        have ez := all_true he
        rw [intR_len] at ez
        refine ⟨d, zs, rfl, .inl (SqL.of hd), rfl, by rw [ez]; exact fl _, qn ez (s1.trans e)⟩
    | @tup n a b xs ys ha hb hl hz h =>
      refine ⟨_, rfl, rfl, _, rfl, if_no (by simp) ⟨_, rfl, rfl, _, rfl, if_no (by simp) ⟨_, rfl, .ref b, .ty "bool", _, _, false, rfl, .ty _, ty_t hb, kt (by decide +kernel), _, rfl, _, rfl, .ref a, .ty "bool", _, _, false, rfl, .ty _, ty_t ha, kt (by decide +kernel), _, rfl, ?_⟩⟩⟩
      refine ⟨_, rfl, (by show 2 ≤ sizeLine; decide), fun p np => ⟨.ref b, p, _, _, _, false, rfl, upd_same, .cons (.ty "int") (.cons (.ty "str") .nil), ty_t ((Same.new np).tup hb), k2 (r1 := false) (r2 := false) (by decide +kernel) (by decide +kernel), _, rfl, ?_⟩⟩
      have s1 := Same.new (o := .tup [.ty "int", .ty "str"]) np
      have ha1 := s1.tup ha
      have hb1 := s1.tup hb
      refine ⟨_, rfl, .ref b, .ty "tuple", _, _, true, rfl, .ty _, ty_t hb1, kt (by decide +kernel), _, rfl, .ref a, .ty "tuple", _, _, true, rfl, .ty _, ty_t ha1, kt (by decide +kernel), rfl, _, rfl, iteNS rfl ?_⟩
      refine ⟨_, rfl, .ref b, .ty "list", _, _, false, rfl, .ty _, ty_t hb1, kt (by decide +kernel), _, rfl, .ref a, .ty "list", _, _, false, rfl, .ty _, ty_t ha1, kt (by decide +kernel), rfl, _, rfl, iteNS rfl ?_⟩
      refine ⟨_, rfl, a, xs, rfl, .inr ha1, _, rfl, b, ys, rfl, .inr hb1, rfl, _, rfl, iteNS (by rw [hl]) ?_⟩
      refine ⟨_, rfl, b, ys, rfl, .inr hb1, _, rfl, by omega, by omega, fun d nd => lc_eachR (lo := 0) (n := ys.length) (fun _ _ y _ => y = .bl true) (fun _ _ _ _ _ _ h => h) nd (by omega) ?_ ?_⟩
      · intro i H' Qk Qn hi e hn k
        have hx : xs[i]? = some xs[i] := List.getElem?_eq_getElem (by omega)
        have hy : ys[i]? = some ys[i] := List.getElem?_eq_getElem hi
        exact ⟨rfl, _, rfl, _, rfl, .inr (.inl ⟨a, xs, _, xs[i], rfl, rfl, e.tup ha1, at_of (Int.zero_add _) hx, _, rfl, _, rfl, .inr (.inl ⟨b, ys, _, ys[i], rfl, rfl, e.tup hb1, at_of (Int.zero_add _) hy, xs[i], ys[i], rfl, (h i _ _ hx hy).keep (s1.trans e), fun H'' e' => k _ _ e' rfl⟩)⟩)⟩
      · intro zs H' he e hd
        have ez := all_true he
        rw [intR_len] at ez
        refine ⟨d, zs, rfl, .inl (SqL.of hd), rfl, by rw [ez]; exact fl _, qn ez (s1.trans e)⟩
theorem ok_matches (T : Txt K mg) (D : Dn K mg "_law_matches" s_law_matches) : ∀ n, Cal P w K mg base (n + 1) "_law_matches" (spMatches K n)
  | 0 => matches_step T D 0 (D.nope (ps := ["answer", "due"]) (fun _ _ _ _ _ _ us hl => match us, hl with | [_, _], _ => rfl))
  | n + 1 => matches_step T D (n + 1) (ok_matches T D n)
end
end K24
namespace K24
open PySem PySem.Spec PyProof.Rows L2 Own
section
variable {P : Program} {w : World} {K : PySem.W.Frag} {mg : Str → Option Value} {base : Heap}
/-! ### the bounds' table, the error classes -/
def limit (k : Str) : Int := (rows_LIMITS.lookup k).getD 0
structure Lim (K : PySem.W.Frag) (w : World) (mg : Str → Option Value) : Prop where
  g : mg "LIMITS" = some (.ref (He.ga K "LIMITS"))
  kk : KKeys K (He.ga K "LIMITS") keys_LIMITS
  at_ : ∀ k, k ∈ keys_LIMITS → KDct K w (He.ga K "LIMITS") k (.int (limit k))
theorem lim_of {h : Heap} (c : Says fa fn ts ex w K h mg) (g : mg "LIMITS" = some (.ref (He.ga K "LIMITS"))) (hv : He.valsB K (He.ga K "LIMITS") vals_LIMITS = true) : Lim K w mg := by
  have e : ts.map (fun t => He.dicW K (t.1 K)) = ts.map fun t => some (He.keysIn w.params t.2) := congrArg (fun z : He.AlT => z.2) c.t
  have e1 : He.dicW K (He.ga K "LIMITS") = some (He.keysIn w.params keys_LIMITS) := by
    injection e
  refine ⟨g, kkeys_of e1, fun k hk => ?_⟩
  obtain ⟨es, n, D⟩ := He.dicW_ok e1
  have all : keys_LIMITS.all (fun k => rows_LIMITS.contains (k, limit k)) = true := by decide +kernel
  have hr : (k, limit k) ∈ rows_LIMITS := List.contains_iff_mem.mp (List.all_eq_true.mp all k hk)
  have hm : (k, He.Dv.int (limit k)) ∈ vals_LIMITS := List.mem_map.mpr ⟨_, hr, rfl⟩
  obtain ⟨u, h1, h2⟩ := He.valsB_ok hv hm
  exact ⟨es, n, u, D.at_, D.lit, h1, h2⟩
theorem xc_TooMany (gB : mg "UnseenError" = some (.ref (He.ga K "UnseenError"))) (bB : BaseC K (He.ga K "UnseenError")) (g : mg "TooMany" = some (.ref (He.ga K "TooMany"))) (o : OexC K (He.ga K "TooMany")) (xf : XfC K (He.ga K "TooMany")) (no : PySem.W.findIn K (.ref (He.ga K "TooMany")) "what" = some none)
    (me : Meth K (He.ga K "TooMany") "__init__" (He.ma K (He.ga K "TooMany") "__init__")) (fd : ∃ fd, FunD K "__init__" "TooMany.__init__" (defArgs s_TooMany___init__) (defBody s_TooMany___init__) (defScope s_TooMany___init__) [] [] (He.ma K (He.ga K "TooMany") "__init__") fd) : XCl P w K mg base "TooMany" "what" := by
  obtain ⟨fd, F⟩ := fd
  refine ⟨g, o, xf, no, _, fd, "self", "what", me.at_, beq_iff_eq.mp me.fn, F.ok sc_TooMany___init__ (fun vs H Q E h => ?_) (fun cdv A outer s H vs Q E hr h => ⟨_, PSs.nox (pss_cons (ps_expr (pe_binit (by rfl) gB bB (pa_cons (pv 0) (pa_cons pe_str pa_nil)))) (pss_one (ps_ost (pv 0) (pv 1)))), ?_⟩), F.bindsN (ps := ["self", "what"]) fun _ _ _ _ _ _ us hl => match us, hl with | [_, _], _ => rfl⟩
  · obtain ⟨a, y, rfl, _⟩ := h
    rfl
  · obtain ⟨a, y, rfl, ha, q⟩ := h
    exact ⟨_, rfl, a, _, _, rfl, (by show 1 ≤ 1000; decide), o, ha, _, rfl, _, rfl, a, _, rfl, o, no, .inl ⟨ha, fun dx nd ne => q dx nd ne⟩⟩
theorem xc_NotTold (gB : mg "UnseenError" = some (.ref (He.ga K "UnseenError"))) (bB : BaseC K (He.ga K "UnseenError")) (g : mg "NotTold" = some (.ref (He.ga K "NotTold"))) (o : OexC K (He.ga K "NotTold")) (xf : XfC K (He.ga K "NotTold")) (no : PySem.W.findIn K (.ref (He.ga K "NotTold")) "what" = some none)
    (me : Meth K (He.ga K "NotTold") "__init__" (He.ma K (He.ga K "NotTold") "__init__")) (fd : ∃ fd, FunD K "__init__" "NotTold.__init__" (defArgs s_NotTold___init__) (defBody s_NotTold___init__) (defScope s_NotTold___init__) [] [] (He.ma K (He.ga K "NotTold") "__init__") fd) : XCl P w K mg base "NotTold" "what" := by
  obtain ⟨fd, F⟩ := fd
  refine ⟨g, o, xf, no, _, fd, "self", "what", me.at_, beq_iff_eq.mp me.fn, F.ok sc_NotTold___init__ (fun vs H Q E h => ?_) (fun cdv A outer s H vs Q E hr h => ⟨_, PSs.nox (pss_cons (ps_expr (pe_binit (by rfl) gB bB (pa_cons (pv 0) (pa_cons pe_str pa_nil)))) (pss_one (ps_ost (pv 0) (pv 1)))), ?_⟩), F.bindsN (ps := ["self", "what"]) fun _ _ _ _ _ _ us hl => match us, hl with | [_, _], _ => rfl⟩
  · obtain ⟨a, y, rfl, _⟩ := h
    rfl
  · obtain ⟨a, y, rfl, ha, q⟩ := h
    exact ⟨_, rfl, a, _, _, rfl, (by show 1 ≤ 1000; decide), o, ha, _, rfl, _, rfl, a, _, rfl, o, no, .inl ⟨ha, fun dx nd ne => q dx nd ne⟩⟩
end
section
variable {P : Program} {w : World} {K : PySem.W.Frag} {mg : Str → Option Value} {base : Heap}
/-! ### the bounds -/
def overs (rows : List (Str × Int)) : List (Str × Int) := rows.filter fun q => decide (limit q.1 < q.2)
/-- the first word of the bounds, in their order, that is passed -/
def firstOver (rows : List (Str × Int)) : Option Str := keys_LIMITS.find? fun k => ((overs rows).map (·.1)).contains k
def spSizes (K : PySem.W.Frag) : Sp := fun vs H Q E => ∃ (a : Addr) (rs : List Addr) (rows : List (Str × Int)), vs = [.ref a] ∧ SqL K H a (rs.map V.ref) ∧ rs.length = rows.length ∧ rows.length ≤ 1000 ∧
  (∀ (i : Nat) (r : Addr) (q : Str × Int), rs[i]? = some r → rows[i]? = some q → SqT K H r [.str q.1, .int q.2] ∧ q.1 ∈ keys_LIMITS) ∧
  (∀ z d H', firstOver rows = some z → H d = none → Same H H' → H' d = some (.xd [("what", .str z)]) → E (.ref (He.ga K "TooMany")) (some d) H') ∧ (firstOver rows = none → ∀ H', Same H H' → Q .non H')
theorem inV_strs (z : Str) (l : List Str) : inV (.str z) (l.map V.str) = l.contains z := by
  unfold inV
  rw [List.any_map, List.contains_eq_any_beq]
  congr 1
  funext y
  show (y == z) = (z == y)
  exact Bool.eq_iff_iff.mpr ⟨fun h => by rw [beq_iff_eq] at h ⊢; exact h.symm, fun h => by rw [beq_iff_eq] at h ⊢; exact h.symm⟩
theorem flat_strs (l : List Str) : (l.map V.str).all flatV = true := List.all_eq_true.mpr fun y hy => by
  obtain ⟨z, _, rfl⟩ := List.mem_map.mp hy
  rfl
theorem ok_sizes (T : Txt K mg) (L : Lim K w mg) (X_TooMany : XCl P w K mg base "TooMany" "what") (D : Dn K mg "check_sizes" s_check_sizes) : CalX P w K mg base 3 "check_sizes" (spSizes K) := by
  refine D.calX sc_check_sizes (fun _ _ _ _ _ _ us hl => match us, hl with | [_], _ => rfl) (fun vs H Q E h => ?_) (fun f cdv A outer s H E hr tkX poX => ⟨_, (pss_cons (ps_setLc (i := 1) (own := [("row", 3)]) rfl sc_check_sizes.nd rfl rfl (sw_true rfl rfl rfl (by decide +kernel)) (pi_list (pv 0)) (blkOk_by (N := ["sizes", "passed", "what", "row"]) (sc := defScope s_check_sizes) (by decide +kernel)) (fun _ _ _ _ _ => pg_k (pg_name (i := 3) sc_check_sizes.nd rfl (Or.inl rfl)) (by first | rfl | (dsimp only [Cx.blk, Cx.nox, Cx.wish, cxOf] <;> rfl))) (fun _ _ _ _ _ => pts_k (pts_one (pt_cmpR op_gt (pe_ix ix_tup (pv 3) pe_int (fun _ _ => rfl)) (pe_ix ix_kdict (pe_glob (v := .ref (He.ga K "LIMITS")) (by rfl) L.g rfl) (pe_ix ix_tup (pv 3) pe_int (fun _ _ => rfl)) (fun _ _ => rfl)) (nomark _))) (by first | rfl | (dsimp only [Cx.blk, Cx.nox, Cx.wish, cxOf] <;> rfl))) (fun _ _ _ _ _ => pe_k (pe_ix ix_tup (pv 3) pe_int (fun _ _ => rfl)) (by first | rfl | (dsimp only [Cx.blk, Cx.nox, Cx.wish, cxOf] <;> rfl))))
    (pss_one (ps_for poX rfl (pi_kks (pe_glob (v := .ref (He.ga K "LIMITS")) (by rfl) L.g rfl)) (pg_name (i := 2) sc_check_sizes.nd rfl (Or.inl rfl))
    (pss_one (ps_if (pt_cmpR op_in_seq (pv 2) (pv 1) (by rfl)) (pss_one (ps_rx X_TooMany rfl tkX hr (by decide) (by rfl) (pv 2))) pss_nil))))), fun vs Q h => ?_⟩)
  · obtain ⟨a, rs, rows, rfl, _⟩ := h
    rfl
  · obtain ⟨a, rs, rows, rfl, hS, hl, hz, hrow, hE, hQ⟩ := h
    refine ⟨_, rfl, a, rfl, ⟨_, hS⟩, fun d nd => lc_list (K := K) (a := a) (xs := rs.map V.ref) (fun i H' => Same H H' ∧ H' d = some (.lst ((overs (rows.take i)).map fun q => .str q.1))) ⟨Same.new nd, upd_same⟩ (fun i H' _ h => h.1.seq hS) ?_ ?_⟩
    · rintro i v H' hi ⟨e, hd⟩
      obtain ⟨r, hr', rfl⟩ := Option.map_eq_some_iff.mp (List.getElem?_map ▸ hi)
      have hir : i < rows.length := by rw [← hl]; exact (List.getElem?_eq_some_iff.mp hr').1
      obtain ⟨hT, hk⟩ := hrow i r _ hr' (List.getElem?_eq_getElem hir)
      have tk : rows.take (i + 1) = rows.take i ++ [rows[i]] := by rw [List.take_succ_eq_append_getElem hir]
      refine ⟨rfl, _, rfl, r, _, 1, _, rfl, rfl, e.tup hT, atI_nat (j := 1) rfl, _, rfl, r, _, 0, _, rfl, rfl, e.tup hT, atI_nat (j := 0) rfl, _, _, .int (limit rows[i].1), rfl, rfl, L.at_ _ hk, _, _, rfl, rfl, _, rfl, ite2 (fun c => ?_) (fun c => ?_)⟩
      · refine ⟨_, rfl, r, _, 0, _, rfl, rfl, e.tup hT, atI_nat (j := 0) rfl, _, hd, few ?_, e.put nd, ?_⟩
        · rw [List.length_map]
          exact Nat.le_trans (List.length_filter_le _ _) (by rw [List.length_take]; omega)
        · rw [upd_same, tk]
          unfold overs
          rw [List.filter_append, List.map_append, List.filter_cons, if_pos c]
          rfl
      · refine ⟨e, ?_⟩
        rw [hd, tk]
        unfold overs
        rw [List.filter_append, List.filter_cons, if_neg c]
        simp
    · rintro H1 ⟨e, hd⟩
      rw [List.length_map, hl, List.take_length] at hd
      have hd' : H1 d = some (.lst (((overs rows).map (·.1)).map V.str)) := by rw [hd, List.map_map]; rfl
      refine ⟨_, keys_LIMITS, rfl, L.kk, for_kks (fun i σ H' => (∃ y, σ = [some (.ref a), some (.ref d), y, none]) ∧ H' = H1 ∧ ∀ k ∈ keys_LIMITS.take i, ((overs rows).map (·.1)).contains k = false) ⟨⟨none, rfl⟩, rfl, by simp⟩ ?_ ?_⟩
      · rintro i k σ H' hk ⟨⟨y, rfl⟩, rfl, hno⟩
        refine ⟨_, rfl, _, rfl, d, _, rfl, .inl (SqL.of hd'), rfl, flat_strs _, _, rfl, ?_⟩
        have ek : (if false = true then !inV (.str k) (((overs rows).map (·.1)).map V.str) else inV (.str k) (((overs rows).map (·.1)).map V.str)) = ((overs rows).map (·.1)).contains k := inV_strs _ _
        rw [ek]
        cases c : ((overs rows).map (·.1)).contains k with
        | true =>
          refine ⟨_, rfl, fun d2 nd2 => hE k d2 _ ?_ (e.free nd2) (e.trans (Same.new nd2)) upd_same⟩
          have hi : i < keys_LIMITS.length := (List.getElem?_eq_some_iff.mp hk).1
          refine List.find?_eq_some_iff_getElem.mpr ⟨c, i, hi, (List.getElem?_eq_some_iff.mp hk).2, fun j hj => ?_⟩
          rw [hno _ (List.mem_take_iff_getElem.mpr ⟨j, by omega, rfl⟩)]
          rfl
        | false =>
          refine ⟨⟨_, rfl⟩, rfl, fun k' hk' => ?_⟩
          rw [List.take_add_one, hk] at hk'
          rcases List.mem_append.mp hk' with h | h
          · exact hno k' h
          · rw [show k' = k by simpa using h]
            exact c
      · rintro σ H' ⟨_, rfl, hno⟩
        refine hQ ?_ _ e
        rw [List.take_length] at hno
        exact List.find?_eq_none.mpr fun k hk => by rw [hno k hk]; exact Bool.false_ne_true
def spWithin (K : PySem.W.Frag) : Sp := fun vs H Q E => ∃ (z : Str) (n b : Int), vs = [.str z, .int n, .int b] ∧ (b < n → ∀ d, H d = none → E (.ref (He.ga K "TooMany")) (some d) (upd H d (.xd [("what", .str z)]))) ∧ (n ≤ b → Q .non H)
theorem ok_within (T : Txt K mg) (X_TooMany : XCl P w K mg base "TooMany" "what") (D : Dn K mg "check_within" s_check_within) : CalX P w K mg base 3 "check_within" (spWithin K) := by
  refine D.calX sc_check_within (fun _ _ _ _ _ _ us hl => match us, hl with | [_, _, _], _ => rfl) (fun vs H Q E h => ?_) (fun f cdv A outer s H E hr tkX poX => ⟨_, (pss_one (ps_if (pt_cmpR op_gt (pv 1) (pv 2) (nomark _)) (pss_one (ps_rx X_TooMany rfl tkX hr (by decide) (by rfl) (pv 0))) pss_nil)), fun vs Q h => ?_⟩)
  · obtain ⟨z, n, b, rfl, _⟩ := h
    rfl
  · obtain ⟨z, n, b, rfl, hE, hQ⟩ := h
    exact ⟨_, rfl, _, rfl, _, _, rfl, rfl, _, rfl, ite2 (fun c => ⟨_, rfl, fun d nd => hE (of_decide_eq_true c) d nd⟩) fun c => hQ (by simpa using c)⟩
end
end K24
namespace K24
open PySem PySem.Spec PyProof.Rows L2 Own
section
variable {P : Program} {w : World} {K : PySem.W.Frag} {mg : Str → Option Value} {base : Heap}
/-! ### lengths of codes -/
theorem over1 (m : Int) : firstOver [("code", m)] = if 12 < m then some "code" else none := by
  have hl : limit "code" = 12 := by decide +kernel
  unfold firstOver overs
  by_cases c : 12 < m
  · rw [if_pos c, List.filter_cons, if_pos (by rw [hl]; exact decide_eq_true c)]
    show keys_LIMITS.find? (fun k => (["code"] : List Str).contains k) = some "code"
    decide +kernel
  · rw [if_neg c, List.filter_cons, if_neg (by rw [hl]; simpa using c)]
    show keys_LIMITS.find? (fun k => ([] : List Str).contains k) = none
    decide +kernel
/-- an error of the class x says z; it is new -/
def Says1 (K : PySem.W.Frag) (x z : Str) (H : Hp) (E : XK) : Prop := ∀ d H', H d = none → Same H H' → H' d = some (.xd [("what", .str z)]) → E (.ref (He.ga K x)) (some d) H'
theorem Says1.up {x z : Str} {H H' : Hp} {E : XK} (e : Same H H') (h : Says1 K x z H E) : Says1 K x z H' E := fun d H2 n e2 q => h d H2 (e.free n) (e.trans e2) q
def spCheckCode (K : PySem.W.Frag) : Sp := fun vs H Q E => ∃ m d : Int, vs = [.int m, .int d] ∧ (12 < m ∨ 8 < d → Says1 K "TooMany" "code" H E) ∧ (m ≤ 12 → d ≤ 8 → ∀ H', Same H H' → Q .non H')
theorem code_key : ("code" : Str) ∈ keys_LIMITS := by decide +kernel
theorem ok_check_code (T : Txt K mg) (c_FARTHEST : ∃ t, mg "FARTHEST" = some (.int 8 t)) (D : Dn K mg "check_code" s_check_code) (C_check_sizes : CalX P w K mg base 3 "check_sizes" (spSizes K)) (C_check_within : CalX P w K mg base 3 "check_within" (spWithin K)) : CalX P w K mg base 4 "check_code" (spCheckCode K) := by
  obtain ⟨t8, c_FARTHEST⟩ := c_FARTHEST
  refine D.calX sc_check_code (fun _ _ _ _ _ _ us hl => match us, hl with | [_, _], _ => rfl) (fun vs H Q E h => ?_) (fun f cdv A outer s H E hr tkX poX => ⟨_, (pss_cons (ps_expr (pe_cx C_check_sizes hr (by decide) (by rfl) tkX (pa_cons (pe_lst (pa_cons (pe_tup (pa_cons pe_str (pa_cons (pv 0) pa_nil))) pa_nil)) pa_nil)))
    (pss_one (ps_expr (pe_cx C_check_within hr (by decide) (by rfl) tkX (pa_cons pe_str (pa_cons (pv 1) (pa_cons (pe_glob (v := .int 8) (by rfl) c_FARTHEST ⟨_, rfl⟩) pa_nil))))))), fun vs Q h => ?_⟩)
  · obtain ⟨m, d, rfl, _⟩ := h
    rfl
  · obtain ⟨m, d, rfl, hE, hQ⟩ := h
    refine ⟨_, rfl, (by show 2 ≤ sizeLine; decide), fun t nt => ⟨(by show 1 ≤ sizeLine; decide), fun l nl => ?_⟩⟩
    have s2 := (Same.new (o := .tup [.str "code", .int m]) nt).trans (Same.new (o := .lst [.ref t]) nl)
    refine ⟨l, [t], [("code", m)], rfl, SqL.of upd_same, rfl, by simp, ?_, ?_, ?_⟩
    · intro i r q h1 h2
      match i, h1, h2 with
      | 0, h1, h2 =>
        cases h1
        cases h2
        refine ⟨SqT.of ?_, code_key⟩
        rw [upd_ne (ne_of_none upd_same nl), upd_same]
    · intro z d2 H' hz nd e hx
      rw [over1] at hz
      by_cases c : 12 < m
      · rw [if_pos c] at hz
        cases hz
        exact hE (.inl c) d2 H' (s2.free nd) (s2.trans e) hx
      · rw [if_neg c] at hz
        cases hz
    · intro hz H' e
      rw [over1] at hz
      have c : ¬ 12 < m := fun c => by rw [if_pos c] at hz; cases hz
      refine ⟨_, rfl, "code", d, 8, rfl, fun c8 d2 nd => hE (.inr c8) d2 _ ((s2.trans e).free nd) ((s2.trans e).trans (Same.new nd)) upd_same, fun c8 => hQ (by omega) c8 _ (s2.trans e)⟩
def sw (m : Int) : Int := if m ≤ 0 then 0 else if m ≤ 1 then 2 else if m ≤ 4 then 3 else if m ≤ 11 then 4 else 5
def spSumWords : Sp := fun vs H Q _ => ∃ m : Int, vs = [.int m] ∧ m ≤ 26 ∧ Q (.int (sw m)) H
theorem sw_at {m : Int} {p : Nat} (hp : p ≤ 5) (hm : m ≤ 26) (h1 : ∀ j : Nat, j < p → (2 ^ j : Int) - j - 1 < m) (h2 : ¬ (2 ^ p : Int) - p - 1 < m) : (p : Int) = sw m := by
  have hj := fun j h => h1 j h
  unfold sw
  match p, hp with
  | 0, _ => rw [if_pos (by simpa using h2)]; rfl
  | 1, _ =>
    have a := hj 0 (by omega)
    exact absurd h2 (by simp at a ⊢; omega)
  | 2, _ =>
    have a := hj 1 (by omega)
    simp at a h2
    rw [if_neg (by omega), if_pos (by omega)]; rfl
  | 3, _ =>
    have a := hj 2 (by omega)
    simp at a h2
    rw [if_neg (by omega), if_neg (by omega), if_pos (by omega)]; rfl
  | 4, _ =>
    have a := hj 3 (by omega)
    simp at a h2
    rw [if_neg (by omega), if_neg (by omega), if_neg (by omega), if_pos (by omega)]; rfl
  | 5, _ =>
    have a := hj 4 (by omega)
    simp at a h2
    rw [if_neg (by omega), if_neg (by omega), if_neg (by omega), if_neg (by omega)]; rfl
theorem sw_more {m : Int} {p : Nat} (hp : p ≤ 5) (hm : m ≤ 26) (h : (2 ^ p : Int) - p - 1 < m) : p < 5 := by
  rcases Nat.lt_or_ge p 5 with c | c
  · exact c
  · obtain rfl : p = 5 := by omega
    simp at h
    omega
theorem ok_sum_words (T : Txt K mg) (D : Dn K mg "sum_words" s_sum_words) : Cal P w K mg base 1 "sum_words" spSumWords := by
  refine D.cal sc_sum_words (fun _ _ _ _ _ _ us hl => match us, hl with | [_], _ => rfl) (fun vs H Q E h => ?_) (fun f cdv A outer s H E hr => ⟨_, (pss_cons (ps_set (i := 1) sc_sum_words.nd rfl (Or.inl rfl) pe_int)
    (pss_cons (ps_set (i := 2) sc_sum_words.nd rfl (Or.inl rfl) pe_int)
    (pss_cons (ps_while PassesOwn.never (pt_cmpR op_lt (pe_op op_sub (pe_op op_sub (pv 2) (pv 1)) pe_int) (pv 0) (nomark _))
    (pss_cons (ps_aug (i := 1) sc_sum_words.nd rfl (Or.inl rfl) pe_int ip_add)
    (pss_one (ps_set (i := 2) sc_sum_words.nd rfl (Or.inl rfl) (pe_op op_mul (pv 2) pe_int)))))
    (pss_one (ps_ret (pv 1)))))), fun vs Q h => ?_⟩)
  · obtain ⟨m, rfl, _⟩ := h
    rfl
  · obtain ⟨m, rfl, hm, q⟩ := h
    refine ⟨fun μ σ H' => ∃ p : Nat, σ = [some (.int m), some (.int p), some (.int (2 ^ p))] ∧ H' = H ∧ p ≤ 5 ∧ (∀ j : Nat, j < p → (2 ^ j : Int) - j - 1 < m) ∧ μ = 6 - p, ⟨6, 0, rfl, rfl, by omega, fun j h => by omega, rfl⟩, ?_⟩
    rintro μ σ H' ⟨p, rfl, rfl, hp, hj, rfl⟩
    refine ⟨_, rfl, _, rfl, _, _, rfl, rfl, _, _, rfl, rfl, _, rfl, _, _, rfl, rfl, _, rfl, ite2 (fun c => ?_) (fun c => ?_)⟩
    · have c := of_decide_eq_true c
      have p5 := sw_more hp hm c
      refine ⟨fun σ H1 => σ = [some (.int m), some (.int (p + 1 : Nat)), some (.int (2 ^ (p + 1)))] ∧ H1 = H', fun σ' H1 ⟨e1, e2⟩ => ⟨6 - (p + 1), by omega, p + 1, e1, e2, by omega, fun j hj' => ?_, rfl⟩, ?_⟩
      · rcases Nat.lt_or_ge j p with h | h
        · exact hj j h
        · obtain rfl : j = p := by omega
          exact c
      · refine ⟨_, rfl, _, _, rfl, rfl, _, rfl, _, _, rfl, rfl, .inr ⟨by decide, by decide⟩, ?_, rfl⟩
        rw [Int.pow_succ]
        rfl
    · refine ⟨_, rfl, ?_⟩
      rw [sw_at hp hm hj (fun h => c (decide_eq_true h))]
      exact q
/-- the least length of a code of m rows and distance d, where it is known -/
def codeLen (m d : Int) : Option Int :=
  if m = 1 then some d else if m = 2 then some (d + (d + 1) / 2) else if m = 3 then some (d + (d + 1) / 2 + (d + 3) / 4)
  else if d = 1 then some m else if d = 2 then some (m + 1) else if d = 3 then some (m + sw m) else if d = 4 then some (m + sw m + 1) else none
def optV : Option Int → V
  | some i => .int i
  | none => .non
def spCodeLength : Sp := fun vs H Q _ => ∃ m d : Int, vs = [.int m, .int d] ∧ m ≤ 26 ∧ Q (optV (codeLen m d)) H
theorem eqI {i j : Int} : (V.int i = V.int j) ↔ i = j := ⟨fun h => by injection h, fun h => by rw [h]⟩
theorem ok_code_length (T : Txt K mg) (D : Dn K mg "code_length" s_code_length) (C_sum_words : Cal P w K mg base 1 "sum_words" spSumWords) : Cal P w K mg base 2 "code_length" spCodeLength := by
  refine D.cal sc_code_length (fun _ _ _ _ _ _ us hl => match us, hl with | [_, _], _ => rfl) (fun vs H Q E h => ?_) (fun f cdv A outer s H E hr => ⟨_, (pss_cons (ps_if (pt_cmpR op_eq (pv 0) pe_int (nomark _)) (pss_one (ps_ret (pv 1))) pss_nil)
    (pss_cons (ps_if (pt_cmpR op_eq (pv 0) pe_int (nomark _)) (pss_one (ps_ret (pe_op op_add (pv 1) (pe_op op_fdiv (pe_op op_add (pv 1) pe_int) pe_int)))) pss_nil)
    (pss_cons (ps_if (pt_cmpR op_eq (pv 0) pe_int (nomark _)) (pss_one (ps_ret (pe_op op_add (pe_op op_add (pv 1) (pe_op op_fdiv (pe_op op_add (pv 1) pe_int) pe_int)) (pe_op op_fdiv (pe_op op_add (pv 1) pe_int) pe_int)))) pss_nil)
    (pss_cons (ps_if (pt_cmpR op_eq (pv 1) pe_int (nomark _)) (pss_one (ps_ret (pv 0))) pss_nil)
    (pss_cons (ps_if (pt_cmpR op_eq (pv 1) pe_int (nomark _)) (pss_one (ps_ret (pe_op op_add (pv 0) pe_int))) pss_nil)
    (pss_cons (ps_if (pt_cmpR op_eq (pv 1) pe_int (nomark _)) (pss_one (ps_ret (pe_op op_add (pv 0) (pe_cc C_sum_words hr (by decide) (by rfl) (pa_cons (pv 0) pa_nil))))) pss_nil)
    (pss_cons (ps_if (pt_cmpR op_eq (pv 1) pe_int (nomark _)) (pss_one (ps_ret (pe_op op_add (pe_op op_add (pv 0) (pe_cc C_sum_words hr (by decide) (by rfl) (pa_cons (pv 0) pa_nil))) pe_int))) pss_nil)
    (pss_one (ps_ret pe_non))))))))), fun vs Q h => ?_⟩)
  · obtain ⟨m, d, rfl, _⟩ := h
    rfl
  · obtain ⟨m, d, rfl, hm, q⟩ := h
    unfold codeLen at q
    refine ⟨_, rfl, rfl, _, rfl, ite2 (fun c => ?_) (fun c => ?_)⟩
    · rw [if_pos (eqI.mp (of_decide_eq_true c))] at q
      exact ⟨_, rfl, q⟩
    rw [if_neg (fun h => c (decide_eq_true (eqI.mpr h)))] at q
    refine ⟨_, rfl, rfl, _, rfl, ite2 (fun c => ?_) (fun c => ?_)⟩
    · rw [if_pos (eqI.mp (of_decide_eq_true c))] at q
      exact ⟨_, rfl, _, rfl, _, _, rfl, rfl, _, _, rfl, rfl, ⟨by decide, by decide⟩, _, _, rfl, rfl, q⟩
    rw [if_neg (fun h => c (decide_eq_true (eqI.mpr h)))] at q
    refine ⟨_, rfl, rfl, _, rfl, ite2 (fun c => ?_) (fun c => ?_)⟩
    · rw [if_pos (eqI.mp (of_decide_eq_true c))] at q
      exact ⟨_, rfl, _, rfl, _, _, rfl, rfl, _, _, rfl, rfl, ⟨by decide, by decide⟩, _, _, rfl, rfl, _, rfl, _, _, rfl, rfl, _, _, rfl, rfl, ⟨by decide, by decide⟩, _, _, rfl, rfl, q⟩
    rw [if_neg (fun h => c (decide_eq_true (eqI.mpr h)))] at q
    refine ⟨_, rfl, rfl, _, rfl, ite2 (fun c => ?_) (fun c => ?_)⟩
    · rw [if_pos (eqI.mp (of_decide_eq_true c))] at q
      exact ⟨_, rfl, q⟩
    rw [if_neg (fun h => c (decide_eq_true (eqI.mpr h)))] at q
    refine ⟨_, rfl, rfl, _, rfl, ite2 (fun c => ?_) (fun c => ?_)⟩
    · rw [if_pos (eqI.mp (of_decide_eq_true c))] at q
      exact ⟨_, rfl, _, _, rfl, rfl, q⟩
    rw [if_neg (fun h => c (decide_eq_true (eqI.mpr h)))] at q
    refine ⟨_, rfl, rfl, _, rfl, ite2 (fun c => ?_) (fun c => ?_)⟩
    · rw [if_pos (eqI.mp (of_decide_eq_true c))] at q
      exact ⟨_, rfl, _, rfl, m, rfl, hm, _, _, rfl, rfl, q⟩
    rw [if_neg (fun h => c (decide_eq_true (eqI.mpr h)))] at q
    refine ⟨_, rfl, rfl, _, rfl, ite2 (fun c => ?_) (fun c => ?_)⟩
    · rw [if_pos (eqI.mp (of_decide_eq_true c))] at q
      exact ⟨_, rfl, _, rfl, m, rfl, hm, _, _, rfl, rfl, _, _, rfl, rfl, q⟩
    rw [if_neg (fun h => c (decide_eq_true (eqI.mpr h)))] at q
    exact q
/-- what the law's own reckoning gives: 0 where none is known -/
def codeDue (m d : Int) : Int := (codeLen m d).getD 0
def spCodeDue : Sp := fun vs H Q _ => ∃ m d : Int, vs = [.int m, .int d] ∧ 1 ≤ m ∧ m ≤ 26 ∧ 1 ≤ d ∧ ∀ H', Same H H' → Q (.int (codeDue m d)) H'
theorem ok_code_due (T : Txt K mg) (D : Dn K mg "_law_code_due" s_law_code_due) : Cal P w K mg base 1 "_law_code_due" spCodeDue := by
  refine D.cal sc_law_code_due (fun _ _ _ _ _ _ us hl => match us, hl with | [_, _], _ => rfl) (fun vs H Q E h => ?_) (fun f cdv A outer s H E hr => ⟨_, (pss_cons (ps_if (pt_cmpR op_le (pv 0) pe_int (nomark _)) (pss_one (ps_ret (pe_ix ix_list (pe_lst (pa_cons pe_int (pa_cons (pv 1) (pa_cons (pe_op op_add (pv 1) (pe_op op_fdiv (pe_op op_add (pv 1) pe_int) pe_int)) (pa_cons (pe_op op_add (pe_op op_add (pv 1) (pe_op op_fdiv (pe_op op_add (pv 1) pe_int) pe_int)) (pe_op op_fdiv (pe_op op_add (pv 1) pe_int) pe_int)) pa_nil))))) (pv 0) (fun _ _ => rfl)))) pss_nil)
    (pss_cons (ps_if (pt_cmpR op_gt (pv 1) pe_int (nomark _)) (pss_one (ps_ret pe_int)) pss_nil)
    (pss_cons (ps_set (i := 2) sc_law_code_due.nd rfl (Or.inl rfl) pe_int)
    (pss_cons (ps_while PassesOwn.never (pt_cmpR op_lt (pe_op op_sub (pe_op op_sub (pe_op op_shl pe_int (pv 2)) (pv 2)) pe_int) (pv 0) (nomark _))
    (pss_one (ps_aug (i := 2) sc_law_code_due.nd rfl (Or.inl rfl) pe_int ip_add)))
    (pss_one (ps_ret (pe_op op_add (pv 0) (pe_ix ix_list (pe_lst (pa_cons pe_int (pa_cons pe_int (pa_cons pe_int (pa_cons (pv 2) (pa_cons (pe_op op_add (pv 2) pe_int) pa_nil)))))) (pv 1) (fun _ _ => rfl))))))))), fun vs Q h => ?_⟩)
  · obtain ⟨m, d, rfl, _⟩ := h
    rfl
  · obtain ⟨m, d, rfl, m1, hm, d1, q⟩ := h
    refine ⟨_, rfl, _, _, rfl, rfl, _, rfl, ite2 (fun c => ?_) (fun c => ?_)⟩
    · have c := of_decide_eq_true c
      refine ⟨_, rfl, _, rfl, _, rfl, _, _, rfl, rfl, _, _, rfl, rfl, ⟨by decide, by decide⟩, _, _, rfl, rfl, _, rfl, _, rfl, _, _, rfl, rfl, _, _, rfl, rfl, ⟨by decide, by decide⟩, _, _, rfl, rfl, _, rfl, _, _, rfl, rfl, _, _, rfl, rfl, ⟨by decide, by decide⟩, _, _, rfl, rfl, ?_⟩
      refine ⟨(by show 4 ≤ sizeLine; decide), fun l nl => ⟨_, rfl, l, _, m, .int (codeDue m d), rfl, rfl, SqL.of upd_same, ?_, q _ (Same.new nl)⟩⟩
      rcases (by omega : m = 1 ∨ m = 2 ∨ m = 3) with rfl | rfl | rfl <;> rfl
    have c : 3 < m := by simpa using c
    refine ⟨_, rfl, _, _, rfl, rfl, _, rfl, ite2 (fun c4 => ?_) (fun c4 => ?_)⟩
    · have c4 : 4 < d := of_decide_eq_true c4
      have e : codeDue m d = 0 := by
        unfold codeDue codeLen
        rw [if_neg (by omega), if_neg (by omega), if_neg (by omega), if_neg (by omega), if_neg (by omega), if_neg (by omega), if_neg (by omega)]
        rfl
      rw [e] at q
      exact q _ (Same.refl H)
    have c4 : d ≤ 4 := by simpa using c4
    refine ⟨fun μ σ H' => ∃ p : Nat, σ = [some (.int m), some (.int d), some (.int p)] ∧ H' = H ∧ 2 ≤ p ∧ p ≤ 5 ∧ (∀ j : Nat, j < p → (2 ^ j : Int) - j - 1 < m) ∧ μ = 6 - p, ⟨4, 2, rfl, rfl, by omega, by omega, fun j h => ?_, rfl⟩, ?_⟩
    · match j, h with
      | 0, _ => simp; omega
      | 1, _ => simp; omega
    rintro μ σ H' ⟨p, rfl, rfl, hp2, hp, hj, rfl⟩
    have ep : (1 : Int) * 2 ^ ((p : Int).toNat) = 2 ^ p := by rw [Int.one_mul, Int.toNat_natCast]
    refine ⟨_, rfl, _, _, rfl, rfl, ⟨by omega, by omega, by decide⟩, _, rfl, _, _, rfl, rfl, _, _, rfl, rfl, _, rfl, _, _, rfl, rfl, _, rfl, ?_⟩
    rw [ep]
    refine ite2 (fun c5 => ?_) (fun c5 => ?_)
    · have c5 := of_decide_eq_true c5
      have p5 := sw_more hp hm c5
      refine ⟨fun σ H1 => σ = [some (.int m), some (.int d), some (.int (p + 1 : Nat))] ∧ H1 = H', fun σ' H1 ⟨e1, e2⟩ => ⟨6 - (p + 1), by omega, p + 1, e1, e2, by omega, by omega, fun j hj' => ?_, rfl⟩, ?_⟩
      · rcases Nat.lt_or_ge j p with h | h
        · exact hj j h
        · obtain rfl : j = p := by omega
          exact c5
      · exact ⟨_, rfl, _, _, rfl, rfl, rfl, rfl⟩
    · have es := sw_at hp hm hj (fun h => c5 (decide_eq_true h))
      have e : codeDue m d = m + (if d = 1 then 0 else if d = 2 then 1 else if d = 3 then sw m else sw m + 1) := by
        unfold codeDue codeLen
        rw [if_neg (by omega), if_neg (by omega), if_neg (by omega)]
        rcases (by omega : d = 1 ∨ d = 2 ∨ d = 3 ∨ d = 4) with rfl | rfl | rfl | rfl
        · simp
        · simp
        · simp
        · simp [Int.add_assoc]
      rw [e, ← es] at q
      refine ⟨_, rfl, _, rfl, _, rfl, _, _, rfl, rfl, (by show 5 ≤ sizeLine; decide), fun l nl => ⟨_, rfl, l, _, d, .int (if d = 1 then 0 else if d = 2 then 1 else if d = 3 then (p : Int) else (p : Int) + 1), rfl, rfl, SqL.of upd_same, ?_, _, _, rfl, rfl, q _ (Same.new nl)⟩⟩
      rcases (by omega : d = 1 ∨ d = 2 ∨ d = 3 ∨ d = 4) with rfl | rfl | rfl | rfl <;> rfl
end
end K24
namespace K24
open PySem PySem.Spec PyProof.Rows L2 Own

section
variable {P : Program} {w : World} {K : PySem.W.Frag} {mg : Str → Option Value} {base : Heap}
/-! ### looks and turns -/
theorem ix_tupK {X : Cx} {K : PySem.W.Frag} (h : X.K = K) : IxR X (rIxT K) := h ▸ ix_tup
def looksLen (m d fogs : Int) : Int := if 0 < fogs then d * (m + 1) else if d % 2 = 0 then d / 2 * (m + 2) else (d + 1) / 2 * (m + 2) - 1
def Small (i : Int) : Prop := 0 ≤ i ∧ i ≤ 1000
theorem Small.m {i j : Int} (h : Small i) : CMul i j := .inl ⟨by have := h.1; omega, by have := h.2; omega⟩
def spLooks : Sp := fun vs H Q _ => ∃ m d fogs : Int, vs = [.int m, .int d, .int fogs] ∧ Small d ∧ Q (.int (looksLen m d fogs)) H
theorem ok_looks (T : Txt K mg) (D : Dn K mg "looks_length" s_looks_length) : Cal P w K mg base 1 "looks_length" spLooks := by
  refine D.cal sc_looks_length (fun _ _ _ _ _ _ us hl => match us, hl with | [_, _, _], _ => rfl) (fun vs H Q E h => ?_) (fun f cdv A outer s H E hr => ⟨_, (pss_cons (ps_if (pt_cmpR op_gt (pv 2) pe_int (nomark _)) (pss_one (ps_ret (pe_op op_mul (pv 1) (pe_op op_add (pv 0) pe_int)))) pss_nil)
    (pss_cons (ps_if (pt_cmpR op_eq (pe_op op_mod (pv 1) pe_int) pe_int (nomark _)) (pss_one (ps_ret (pe_op op_mul (pe_op op_fdiv (pv 1) pe_int) (pe_op op_add (pv 0) pe_int)))) pss_nil)
    (pss_one (ps_ret (pe_op op_sub (pe_op op_mul (pe_op op_fdiv (pe_op op_add (pv 1) pe_int) pe_int) (pe_op op_add (pv 0) pe_int)) pe_int))))), fun vs Q h => ?_⟩)
  · obtain ⟨m, d, fogs, rfl, _⟩ := h
    rfl
  · obtain ⟨m, d, fogs, rfl, hd, q⟩ := h
    have d0 := hd.1
    have d1 := hd.2
    unfold looksLen at q
    refine ⟨_, rfl, _, _, rfl, rfl, _, rfl, ite2 (fun c => ?_) (fun c => ?_)⟩
    · rw [if_pos (of_decide_eq_true c)] at q
      exact ⟨_, rfl, _, rfl, _, _, rfl, rfl, _, _, rfl, rfl, hd.m, q⟩
    rw [if_neg (fun h => c (decide_eq_true h))] at q
    refine ⟨_, rfl, _, _, rfl, rfl, (by decide : (0 : Int) < 2), rfl, _, rfl, ite2 (fun c => ?_) (fun c => ?_)⟩
    · rw [if_pos (eqI.mp (of_decide_eq_true c))] at q
      exact ⟨_, rfl, _, _, rfl, rfl, ⟨by decide, by decide⟩, _, rfl, _, _, rfl, rfl, _, _, rfl, rfl, Small.m ⟨by omega, by omega⟩, q⟩
    rw [if_neg (fun h => c (decide_eq_true (eqI.mpr h)))] at q
    exact ⟨_, rfl, _, _, rfl, rfl, _, _, rfl, rfl, ⟨by decide, by decide⟩, _, rfl, _, _, rfl, rfl, _, _, rfl, rfl, Small.m ⟨by omega, by omega⟩, _, _, rfl, rfl, q⟩
theorem ok_looks_due (T : Txt K mg) (D : Dn K mg "_law_looks_due" s_law_looks_due) : Cal P w K mg base 1 "_law_looks_due" spLooks := by
  refine D.cal sc_law_looks_due (fun _ _ _ _ _ _ us hl => match us, hl with | [_, _, _], _ => rfl) (fun vs H Q E h => ?_) (fun f cdv A outer s H E hr => ⟨_, (pss_cons (ps_if (pt_cmpR op_gt (pv 2) pe_int (nomark _)) (pss_one (ps_ret (pe_op op_mul (pv 1) (pe_op op_add (pv 0) pe_int)))) pss_nil)
    (pss_one (ps_ret (pe_op op_sub (pe_op op_mul (pe_op op_fdiv (pe_op op_add (pv 1) pe_int) pe_int) (pe_op op_add (pv 0) pe_int)) (pe_op op_mod (pe_callTy call_int1 (by rfl) T.z_int (by decide +kernel) (pa_cons (pv 1) pa_nil)) pe_int))))), fun vs Q h => ?_⟩)
  · obtain ⟨m, d, fogs, rfl, _⟩ := h
    rfl
  · obtain ⟨m, d, fogs, rfl, hd, q⟩ := h
    have d0 := hd.1
    have d1 := hd.2
    unfold looksLen at q
    refine ⟨_, rfl, _, _, rfl, rfl, _, rfl, ite2 (fun c => ?_) (fun c => ?_)⟩
    · rw [if_pos (of_decide_eq_true c)] at q
      exact ⟨_, rfl, _, rfl, _, _, rfl, rfl, _, _, rfl, rfl, hd.m, q⟩
    rw [if_neg (fun h => c (decide_eq_true h))] at q
    refine ⟨_, rfl, _, _, rfl, rfl, _, _, rfl, rfl, ⟨by decide, by decide⟩, _, rfl, _, _, rfl, rfl, _, _, rfl, rfl, Small.m ⟨by omega, by omega⟩, _, rfl, .inl ⟨_, rfl, _, _, rfl, rfl, (by decide : (0 : Int) < 2), _, _, rfl, rfl, ?_⟩⟩
    show Q (V.int ((d + 1) / 2 * (m + 2) - d % 2)) H
    by_cases h : d % 2 = 0
    · rw [if_pos h] at q
      rw [show (d + 1) / 2 = d / 2 by omega, h, Int.sub_zero]
      exact q
    · rw [if_neg h] at q
      rw [show d % 2 = 1 by omega]
      exact q
def looksSaid (m d fogs : Int) : Str × V := if 8 < d then ("TooMany", .str "code") else ("gave", .int (looksLen m d fogs))
def turnSaid (m f g fogs : Int) : Str × V := if 8 < f + 2 * g + 1 then ("TooMany", .str "code") else ("gave", .int (looksLen m (g + 1) fogs + f + g))
def lengthSaid (m f g : Int) : Str × V := if 12 < m ∨ 8 < f + 2 * g + 1 then ("TooMany", .str "code") else match codeLen m (g + 1) with
  | some n => ("gave", .int (n + f + g))
  | none => ("NotTold", .str "code")
inductive Ask : Str → List Int → Str × V → Prop
  | looks {m d fogs : Int} : Small m → Small d → Ask "looks" [m, d, fogs] (looksSaid m d fogs)
  | length {m f g : Int} : 1 ≤ m → Small f → Small g → Ask "length" [m, f, g] (lengthSaid m f g)
  | turn {m f g fogs : Int} : Small m → Small f → Small g → Ask "turn" [m, f, g, fogs] (turnSaid m f g fogs)
def spLeastLooks (K : PySem.W.Frag) : Sp := fun vs H Q E => ∃ m d fogs : Int, vs = [.int m, .int d, .int fogs] ∧ Small d ∧ (8 < d → Says1 K "TooMany" "code" H E) ∧ (d ≤ 8 → ∀ H', Same H H' → Q (.int (looksLen m d fogs)) H')
theorem ok_least_looks (T : Txt K mg) (c_FARTHEST : ∃ t, mg "FARTHEST" = some (.int 8 t)) (D : Dn K mg "least_looks" s_least_looks) (C_check_within : CalX P w K mg base 3 "check_within" (spWithin K)) (C_looks_length : Cal P w K mg base 1 "looks_length" spLooks) : CalX P w K mg base 4 "least_looks" (spLeastLooks K) := by
  obtain ⟨t8, c_FARTHEST⟩ := c_FARTHEST
  refine D.calX sc_least_looks (fun _ _ _ _ _ _ us hl => match us, hl with | [_, _, _], _ => rfl) (fun vs H Q E h => ?_) (fun f cdv A outer s H E hr tkX poX => ⟨_, (pss_cons (ps_expr (pe_cx C_check_within hr (by decide) (by rfl) tkX (pa_cons pe_str (pa_cons (pv 1) (pa_cons (pe_glob (v := .int 8) (by rfl) c_FARTHEST ⟨_, rfl⟩) pa_nil)))))
    (pss_one (ps_ret (pe_cc C_looks_length hr (by decide) (by rfl) (pa_cons (pv 0) (pa_cons (pv 1) (pa_cons (pv 2) pa_nil))))))), fun vs Q h => ?_⟩)
  · obtain ⟨m, d, fogs, rfl, _⟩ := h
    rfl
  · obtain ⟨m, d, fogs, rfl, hd, hE, hQ⟩ := h
    exact ⟨_, rfl, "code", d, 8, rfl, fun c8 d2 nd => hE c8 d2 _ nd (Same.new nd) upd_same, fun c8 => ⟨_, rfl, _, rfl, _, rfl, m, d, fogs, rfl, hd, hQ c8 H (Same.refl H)⟩⟩
def spTurnLooks (K : PySem.W.Frag) : Sp := fun vs H Q E => ∃ m f g fogs : Int, vs = [.int m, .int f, .int g, .int fogs] ∧ Small f ∧ Small g ∧ (8 < f + 2 * g + 1 → Says1 K "TooMany" "code" H E) ∧ (f + 2 * g + 1 ≤ 8 → ∀ H', Same H H' → Q (.int (looksLen m (g + 1) fogs + f + g)) H')
theorem ok_turn_looks (T : Txt K mg) (c_FARTHEST : ∃ t, mg "FARTHEST" = some (.int 8 t)) (D : Dn K mg "turn_looks" s_turn_looks) (C_check_within : CalX P w K mg base 3 "check_within" (spWithin K)) (C_looks_length : Cal P w K mg base 1 "looks_length" spLooks) : CalX P w K mg base 4 "turn_looks" (spTurnLooks K) := by
  obtain ⟨t8, c_FARTHEST⟩ := c_FARTHEST
  refine D.calX sc_turn_looks (fun _ _ _ _ _ _ us hl => match us, hl with | [_, _, _, _], _ => rfl) (fun vs H Q E h => ?_) (fun f cdv A outer s H E hr tkX poX => ⟨_, (pss_cons (ps_expr (pe_cx C_check_within hr (by decide) (by rfl) tkX (pa_cons pe_str (pa_cons (pe_op op_add (pe_op op_add (pv 1) (pe_op op_mul pe_int (pv 2))) pe_int) (pa_cons (pe_glob (v := .int 8) (by rfl) c_FARTHEST ⟨_, rfl⟩) pa_nil)))))
    (pss_one (ps_ret (pe_op op_add (pe_op op_add (pe_cc C_looks_length hr (by decide) (by rfl) (pa_cons (pv 0) (pa_cons (pe_op op_add (pv 2) pe_int) (pa_cons (pv 3) pa_nil)))) (pv 1)) (pv 2))))), fun vs Q h => ?_⟩)
  · obtain ⟨m, f, g, fogs, rfl, _⟩ := h
    rfl
  · obtain ⟨m, f, g, fogs, rfl, hf, hg, hE, hQ⟩ := h
    have f0 := hf.1
    have g0 := hg.1
    refine ⟨_, rfl, _, rfl, _, _, rfl, rfl, .inl ⟨by decide, by decide⟩, _, _, rfl, rfl, _, _, rfl, rfl, "code", f + 2 * g + 1, 8, rfl, fun c8 d2 nd => hE c8 d2 _ nd (Same.new nd) upd_same, fun c8 => ?_⟩
    exact ⟨_, rfl, _, rfl, _, _, rfl, rfl, _, rfl, m, g + 1, fogs, rfl, ⟨by omega, by omega⟩, _, rfl, _, _, rfl, rfl, _, rfl, _, _, rfl, rfl, hQ c8 H (Same.refl H)⟩
def spTurnLength (K : PySem.W.Frag) : Sp := fun vs H Q E => ∃ m f g : Int, vs = [.int m, .int f, .int g] ∧ Small f ∧ Small g ∧ (12 < m ∨ 8 < f + 2 * g + 1 → Says1 K "TooMany" "code" H E) ∧ (m ≤ 12 → f + 2 * g + 1 ≤ 8 → codeLen m (g + 1) = none → Says1 K "NotTold" "code" H E) ∧
  (m ≤ 12 → f + 2 * g + 1 ≤ 8 → ∀ n, codeLen m (g + 1) = some n → ∀ H', Same H H' → Q (.int (n + f + g)) H')
theorem ok_turn_length (T : Txt K mg) (X_NotTold : XCl P w K mg base "NotTold" "what") (D : Dn K mg "turn_length" s_turn_length) (C_check_code : CalX P w K mg base 4 "check_code" (spCheckCode K)) (C_code_length : Cal P w K mg base 2 "code_length" spCodeLength) : CalX P w K mg base 5 "turn_length" (spTurnLength K) := by
  refine D.calX sc_turn_length (fun _ _ _ _ _ _ us hl => match us, hl with | [_, _, _], _ => rfl) (fun vs H Q E h => ?_) (fun f cdv A outer s H E hr tkX poX => ⟨_, (pss_cons (ps_expr (pe_cx C_check_code hr (by decide) (by rfl) tkX (pa_cons (pv 0) (pa_cons (pe_op op_add (pe_op op_add (pv 1) (pe_op op_mul pe_int (pv 2))) pe_int) pa_nil))))
    (pss_cons (ps_set (i := 3) sc_turn_length.nd rfl (Or.inl rfl) (pe_cc C_code_length hr (by decide) (by rfl) (pa_cons (pv 0) (pa_cons (pe_op op_add (pv 2) pe_int) pa_nil))))
    (pss_cons (ps_if (pt_cmpR op_isN (pv 3) pe_non (nomark _)) (pss_one (ps_rx X_NotTold rfl tkX hr (by decide) (by rfl) pe_str)) pss_nil)
    (pss_one (ps_ret (pe_op op_add (pe_op op_add (pv 3) (pv 1)) (pv 2))))))), fun vs Q h => ?_⟩)
  · obtain ⟨m, f, g, rfl, _⟩ := h
    rfl
  · obtain ⟨m, f, g, rfl, hf, hg, h1, h2, h3⟩ := h
    refine ⟨_, rfl, _, rfl, _, rfl, _, _, rfl, rfl, .inl ⟨by decide, by decide⟩, _, _, rfl, rfl, _, _, rfl, rfl, m, f + 2 * g + 1, rfl, h1, fun a b H1 e => ?_⟩
    refine ⟨_, rfl, _, rfl, _, _, rfl, rfl, m, g + 1, rfl, by omega, ?_⟩
    cases c : codeLen m (g + 1) with
    | none =>
      refine ⟨_, rfl, rfl, _, rfl, if_yes rfl ?_⟩
      exact fun dd nd => h2 a b c dd _ (e.free nd) (e.trans (Same.new nd)) upd_same
    | some n =>
      refine ⟨_, rfl, rfl, _, rfl, if_no (by simp [optV]) ?_⟩
      exact ⟨_, rfl, _, rfl, _, _, rfl, rfl, _, rfl, _, _, rfl, rfl, h3 a b n c H1 e⟩
structure Exm (K : PySem.W.Frag) : Prop where
  tt : PySem.W.exmOne K (.ref (He.ga K "TooMany")) (.ref (He.ga K "TooMany")) = some true
  nt : PySem.W.exmOne K (.ref (He.ga K "NotTold")) (.ref (He.ga K "TooMany")) = some false
  nn : PySem.W.exmOne K (.ref (He.ga K "NotTold")) (.ref (He.ga K "NotTold")) = some true
def spSaid (K : PySem.W.Frag) : Sp := fun vs H Q _ => ∃ (k : Str) (t : Addr) (ns : List Int) (r : Str × V), vs = [.str k, .ref t] ∧ SqT K H t (ns.map V.int) ∧ Ask k ns r ∧ ∀ p H', Same H H' → H' p = some (.tup [.str r.1, r.2]) → Q (.ref p) H'
theorem strne {x y : Str} (h : x ≠ y) : ¬ (V.str x = V.str y) := fun e => h (by injection e)
theorem ok_said (T : Txt K mg) (M : Exm K) (X_TooMany : XCl P w K mg base "TooMany" "what") (X_NotTold : XCl P w K mg base "NotTold" "what") (D : Dn K mg "_law_said" s_law_said)
    (C_least_looks : CalX P w K mg base 4 "least_looks" (spLeastLooks K)) (C_turn_length : CalX P w K mg base 5 "turn_length" (spTurnLength K)) (C_turn_looks : CalX P w K mg base 4 "turn_looks" (spTurnLooks K)) : Cal P w K mg base 6 "_law_said" (spSaid K) := by
  refine D.cal sc_law_said (fun _ _ _ _ _ _ us hl => match us, hl with | [_, _], _ => rfl) (fun vs H Q E h => ?_) (fun f cdv A outer s H E hr => ⟨_, (pss_cons (ps_try_asL rfl rfl sc_law_said.nd takes0 (fun W pn xe tkX poX => (pss_one (ps_if (pt_cmpR op_eq (pv 0) pe_str (nomark _)) (pss_one (ps_set (i := 3) sc_law_said.nd rfl (Or.inl rfl) (pe_cx C_least_looks hr (by decide) (by rfl) tkX (pa_cons (pe_ix (ix_tupK (K := K) rfl) (pv 1) pe_int (fun _ _ => rfl)) (pa_cons (pe_ix (ix_tupK (K := K) rfl) (pv 1) pe_int (fun _ _ => rfl)) (pa_cons (pe_ix (ix_tupK (K := K) rfl) (pv 1) pe_int (fun _ _ => rfl)) pa_nil)))))) (pss_one (ps_if (pt_cmpR op_eq (pv 0) pe_str (nomark _)) (pss_one (ps_set (i := 3) sc_law_said.nd rfl (Or.inl rfl) (pe_cx C_turn_length hr (by decide) (by rfl) tkX (pa_cons (pe_ix (ix_tupK (K := K) rfl) (pv 1) pe_int (fun _ _ => rfl)) (pa_cons (pe_ix (ix_tupK (K := K) rfl) (pv 1) pe_int (fun _ _ => rfl)) (pa_cons (pe_ix (ix_tupK (K := K) rfl) (pv 1) pe_int (fun _ _ => rfl)) pa_nil)))))) (pss_one (ps_set (i := 3) sc_law_said.nd rfl (Or.inl rfl) (pe_cx C_turn_looks hr (by decide) (by rfl) tkX (pa_cons (pe_ix (ix_tupK (K := K) rfl) (pv 1) pe_int (fun _ _ => rfl)) (pa_cons (pe_ix (ix_tupK (K := K) rfl) (pv 1) pe_int (fun _ _ => rfl)) (pa_cons (pe_ix (ix_tupK (K := K) rfl) (pv 1) pe_int (fun _ _ => rfl)) (pa_cons (pe_ix (ix_tupK (K := K) rfl) (pv 1) pe_int (fun _ _ => rfl)) pa_nil))))))))))))
    (.cons (i := 2) ⟨rfl, by decide, .inl X_TooMany.g⟩ rfl rfl (fun a oe cls d pn hz hf => (pss_one (ps_ret (pe_tup (pa_cons pe_str (pa_cons (pe_xf X_TooMany.xf X_TooMany.no hz hf (pv 2)) pa_nil)))))) (.cons (i := 2) ⟨rfl, by decide, .inl X_NotTold.g⟩ rfl rfl (fun a oe cls d pn hz hf => (pss_one (ps_ret (pe_tup (pa_cons pe_str (pa_cons (pe_xf X_NotTold.xf X_NotTold.no hz hf (pv 2)) pa_nil)))))) .nil)))
    (pss_one (ps_ret (pe_tup (pa_cons pe_str (pa_cons (pv 3) pa_nil)))))), fun vs Q h => ?_⟩)
  · obtain ⟨k, t, ns, r, rfl, _⟩ := h
    rfl
  · obtain ⟨k, t, ns, r, rfl, ht, ha, q⟩ := h
    have z2 : 2 ≤ sizeLine := by decide
    cases ha with
    | @looks m d fogs hm hd =>
      refine ⟨_, rfl, rfl, _, rfl, if_yes rfl ?_⟩
      refine ⟨_, rfl, t, _, 0, .int m, rfl, rfl, ht, atI_nat (j := 0) rfl, _, rfl, t, _, 1, .int d, rfl, rfl, ht, atI_nat (j := 1) rfl, _, rfl, t, _, 2, .int fogs, rfl, rfl, ht, atI_nat (j := 2) rfl, m, d, fogs, rfl, hd, fun c dd H1 nd e hx => ?_, fun c H1 e => ?_⟩
      · refine ⟨true, M.tt, fun _ x nx => ?_, fun z => by cases z⟩
        refine ⟨_, rfl, rfl, rfl, dd, _, _, rfl, hx, rfl, z2, fun p np => ?_⟩
        refine q p _ (e.trans (Same.new np)) ?_
        unfold looksSaid
        rw [if_pos c, upd_same]
      · refine ⟨_, rfl, z2, fun p np => ?_⟩
        refine q p _ (e.trans (Same.new np)) ?_
        unfold looksSaid
        rw [if_neg (by omega), upd_same]
    | @length m f g hm hf hg =>
      refine ⟨_, rfl, rfl, _, rfl, if_no (strne (by decide)) ⟨_, rfl, rfl, _, rfl, if_yes rfl ?_⟩⟩
      refine ⟨_, rfl, t, _, 0, .int m, rfl, rfl, ht, atI_nat (j := 0) rfl, _, rfl, t, _, 1, .int f, rfl, rfl, ht, atI_nat (j := 1) rfl, _, rfl, t, _, 2, .int g, rfl, rfl, ht, atI_nat (j := 2) rfl, m, f, g, rfl, hf, hg, fun c dd H1 nd e hx => ?_, fun a b c dd H1 nd e hx => ?_, fun a b n c H1 e => ?_⟩
      · refine ⟨true, M.tt, fun _ x nx => ?_, fun z => by cases z⟩
        refine ⟨_, rfl, rfl, rfl, dd, _, _, rfl, hx, rfl, z2, fun p np => ?_⟩
        refine q p _ (e.trans (Same.new np)) ?_
        unfold lengthSaid
        rw [if_pos c, upd_same]
      · refine ⟨false, M.nt, (fun z => by cases z), fun _ => ⟨true, M.nn, fun _ x nx => ?_, fun z => by cases z⟩⟩
        refine ⟨_, rfl, rfl, rfl, dd, _, _, rfl, hx, rfl, z2, fun p np => ?_⟩
        refine q p _ (e.trans (Same.new np)) ?_
        unfold lengthSaid
        rw [if_neg (by omega), c, upd_same]
      · refine ⟨_, rfl, z2, fun p np => ?_⟩
        refine q p _ (e.trans (Same.new np)) ?_
        unfold lengthSaid
        rw [if_neg (by omega), c, upd_same]
    | @turn m f g fogs hm hf hg =>
      refine ⟨_, rfl, rfl, _, rfl, if_no (strne (by decide)) ⟨_, rfl, rfl, _, rfl, if_no (strne (by decide)) ?_⟩⟩
      refine ⟨_, rfl, t, _, 0, .int m, rfl, rfl, ht, atI_nat (j := 0) rfl, _, rfl, t, _, 1, .int f, rfl, rfl, ht, atI_nat (j := 1) rfl, _, rfl, t, _, 2, .int g, rfl, rfl, ht, atI_nat (j := 2) rfl, _, rfl, t, _, 3, .int fogs, rfl, rfl, ht, atI_nat (j := 3) rfl, m, f, g, fogs, rfl, hf, hg, fun c dd H1 nd e hx => ?_, fun c H1 e => ?_⟩
      · refine ⟨true, M.tt, fun _ x nx => ?_, fun z => by cases z⟩
        refine ⟨_, rfl, rfl, rfl, dd, _, _, rfl, hx, rfl, z2, fun p np => ?_⟩
        refine q p _ (e.trans (Same.new np)) ?_
        unfold turnSaid
        rw [if_pos c, upd_same]
      · refine ⟨_, rfl, z2, fun p np => ?_⟩
        refine q p _ (e.trans (Same.new np)) ?_
        unfold turnSaid
        rw [if_neg (by omega), upd_same]
def spLooksSaid : Sp := fun vs H Q _ => ∃ m d fogs : Int, vs = [.int m, .int d, .int fogs] ∧ Small d ∧ ∀ p H', Same H H' → H' p = some (.tup [.str (looksSaid m d fogs).1, (looksSaid m d fogs).2]) → Q (.ref p) H'
theorem ok_looks_said (T : Txt K mg) (D : Dn K mg "_law_looks_said" s_law_looks_said) (C_law_looks_due : Cal P w K mg base 1 "_law_looks_due" spLooks) : Cal P w K mg base 2 "_law_looks_said" spLooksSaid := by
  refine D.cal sc_law_looks_said (fun _ _ _ _ _ _ us hl => match us, hl with | [_, _, _], _ => rfl) (fun vs H Q E h => ?_) (fun f cdv A outer s H E hr => ⟨_, (pss_cons (ps_if (pt_cmpR op_gt (pv 1) pe_int (nomark _)) (pss_one (ps_ret (pe_tup (pa_cons pe_str (pa_cons pe_str pa_nil))))) pss_nil)
    (pss_one (ps_ret (pe_tup (pa_cons pe_str (pa_cons (pe_cc C_law_looks_due hr (by decide) (by rfl) (pa_cons (pv 0) (pa_cons (pv 1) (pa_cons (pv 2) pa_nil)))) pa_nil)))))), fun vs Q h => ?_⟩)
  · obtain ⟨m, d, fogs, rfl, _⟩ := h
    rfl
  · obtain ⟨m, d, fogs, rfl, hd, q⟩ := h
    have z2 : 2 ≤ sizeLine := by decide
    refine ⟨_, rfl, _, _, rfl, rfl, _, rfl, ite2 (fun c => ⟨z2, fun p np => ?_⟩) fun c => ⟨_, rfl, _, rfl, _, rfl, m, d, fogs, rfl, hd, z2, fun p np => ?_⟩⟩
    · refine q p _ (Same.new np) ?_
      unfold looksSaid
      rw [if_pos (of_decide_eq_true c), upd_same]
    · refine q p _ (Same.new np) ?_
      unfold looksSaid
      rw [if_neg (fun h => c (decide_eq_true h)), upd_same]
theorem codeLen_pos {m d n : Int} (hm : 1 ≤ m) (hd : 1 ≤ d) (h : codeLen m d = some n) : n ≠ 0 := by
  have hs : 0 ≤ sw m := by
    unfold sw
    split
    · omega
    split
    · omega
    split
    · omega
    split <;> omega
  unfold codeLen at h
  split at h
  · cases h; omega
  split at h
  · cases h; omega
  split at h
  · cases h; omega
  split at h
  · cases h; omega
  split at h
  · cases h; omega
  split at h
  · cases h; omega
  split at h
  · cases h; omega
  · cases h
def spTurnDue : Sp := fun vs H Q _ => ∃ m f g : Int, vs = [.int m, .int f, .int g] ∧ 1 ≤ m ∧ Small f ∧ Small g ∧ ∀ p H', Same H H' → H' p = some (.tup [.str (lengthSaid m f g).1, (lengthSaid m f g).2]) → Q (.ref p) H'
theorem ok_turn_due (T : Txt K mg) (D : Dn K mg "_law_turn_due" s_law_turn_due) (C_law_code_due : Cal P w K mg base 1 "_law_code_due" spCodeDue) : Cal P w K mg base 2 "_law_turn_due" spTurnDue := by
  refine D.cal sc_law_turn_due (fun _ _ _ _ _ _ us hl => match us, hl with | [_, _, _], _ => rfl) (fun vs H Q E h => ?_) (fun f cdv A outer s H E hr => ⟨_, (pss_cons (ps_if (PW.pt (pw_or (pt_cmpR op_gt (pv 0) pe_int (nomark _)) (pw_or1 (pt_cmpR op_gt (pe_op op_add (pv 1) (pe_op op_mul pe_int (pv 2))) pe_int (nomark _))))) (pss_one (ps_ret (pe_tup (pa_cons pe_str (pa_cons pe_str pa_nil))))) pss_nil)
    (pss_cons (ps_if (pt_cmpR op_eq (pe_cc C_law_code_due hr (by decide) (by rfl) (pa_cons (pv 0) (pa_cons (pe_op op_add (pv 2) pe_int) pa_nil))) pe_int (nomark _)) (pss_one (ps_ret (pe_tup (pa_cons pe_str (pa_cons pe_str pa_nil))))) pss_nil)
    (pss_one (ps_ret (pe_tup (pa_cons pe_str (pa_cons (pe_op op_add (pe_op op_add (pe_cc C_law_code_due hr (by decide) (by rfl) (pa_cons (pv 0) (pa_cons (pe_op op_add (pv 2) pe_int) pa_nil))) (pv 1)) (pv 2)) pa_nil))))))), fun vs Q h => ?_⟩)
  · obtain ⟨m, f, g, rfl, _⟩ := h
    rfl
  · obtain ⟨m, f, g, rfl, m1, hf, hg, q⟩ := h
    have z2 : 2 ≤ sizeLine := by decide
    have f0 := hf.1
    have g0 := hg.1
    have many : (12 < m ∨ 8 < f + 2 * g + 1) → ∀ p, H p = none → Q (.ref p) (upd H p (.tup [.str "TooMany", .str "code"])) := fun c p np => q p _ (Same.new np) (by unfold lengthSaid; rw [if_pos c, upd_same])
    refine ⟨_, rfl, _, _, rfl, rfl, _, rfl, ite2 (fun c => ⟨z2, many (.inl (of_decide_eq_true c))⟩) fun c1 => ⟨_, rfl, _, rfl, _, _, rfl, rfl, .inl ⟨by decide, by decide⟩, _, _, rfl, rfl, _, _, rfl, rfl, _, rfl, ite2 (fun c => ⟨z2, many (.inr (by have := of_decide_eq_true c; omega))⟩) fun c2 => ?_⟩⟩
    have c1 : m ≤ 12 := by simpa using c1
    have c2 : f + 2 * g ≤ 7 := by simpa using c2
    refine ⟨_, rfl, _, rfl, _, _, rfl, rfl, m, g + 1, rfl, m1, by omega, by omega, fun H1 e => ⟨rfl, _, rfl, ite2 (fun c => ⟨z2, fun p np => ?_⟩) fun c => ?_⟩⟩
    · have c := eqI.mp (of_decide_eq_true c)
      have hn : codeLen m (g + 1) = none := by
        cases hc : codeLen m (g + 1) with
        | none => rfl
        | some n =>
          unfold codeDue at c
          rw [hc] at c
          exact absurd c (codeLen_pos m1 (by omega) hc)
      refine q p _ (e.trans (Same.new np)) ?_
      unfold lengthSaid
      rw [if_neg (by omega), hn, upd_same]
    · have c : codeDue m (g + 1) ≠ 0 := fun h => c (decide_eq_true (eqI.mpr h))
      obtain ⟨n, hn⟩ : ∃ n, codeLen m (g + 1) = some n := by
        cases hc : codeLen m (g + 1) with
        | none => unfold codeDue at c; rw [hc] at c; exact absurd rfl c
        | some n => exact ⟨n, rfl⟩
      refine ⟨_, rfl, _, rfl, _, _, rfl, rfl, m, g + 1, rfl, m1, by omega, by omega, fun H2 e2 => ⟨_, rfl, _, _, rfl, rfl, _, rfl, _, _, rfl, rfl, z2, fun p np => ?_⟩⟩
      refine q p _ ((e.trans e2).trans (Same.new np)) ?_
      unfold lengthSaid codeDue
      rw [if_neg (by omega), hn, upd_same]
      rfl
end
end K24
namespace K24
open PySem PySem.Spec PyProof.Rows L2 Own

/-! ### the mathematics of the search: all rows of looks -/
def loR (r : List Int) : Int := r.getLast?.getD 0
def okR (d : Int) (r : List Int) (x : Int) : Bool := decide (r.length ≠ 1) || decide (r.getD 0 0 + x ≥ d)
def extTo (d : Int) (r : List Int) (b : Nat) : List (List Int) := ((List.range b).filter fun (j : Nat) => okR d r (loR r + (j : Int))).map fun (j : Nat) => r ++ [loR r + (j : Int)]
def extS (d : Int) (r : List Int) : List (List Int) := extTo d r (d + 1 - loR r).toNat
def sumRows (d : Int) : Nat → List (List Int)
  | 0 => [[]]
  | i + 1 => (sumRows d i).flatMap (extS d)
def lessS (b : Int) (r : List Int) : Int := if r.sum < b then r.sum else b
def leastSum (many : Nat) (d : Int) : Int := (sumRows d many).foldl lessS (d * many)
def sumOk (many d : Nat) : Bool := decide (leastSum many d = looksLen ((many : Int) - 2) d 0) && (List.range (many + 1)).all fun i => decide ((sumRows d i).length ≤ 10000) && (sumRows d i).all fun r => decide ((d : Int) + 1 - loR r ≤ 9) && decide (0 ≤ loR r ∧ loR r ≤ 1000) && decide (r.length ≤ 5)
theorem sumOk3 : ∀ d, d < 9 → 1 ≤ d → sumOk 3 d = true := by decide +kernel
theorem sumOk4 : ∀ d, d < 9 → 1 ≤ d → sumOk 4 d = true := by decide +kernel
theorem sumOk5 : ∀ d, d < 9 → 1 ≤ d → sumOk 5 d = true := by decide +kernel
theorem extTo_succ (d : Int) (r : List Int) (b : Nat) : extTo d r (b + 1) = if okR d r (loR r + (b : Int)) = true then extTo d r b ++ [r ++ [loR r + (b : Int)]] else extTo d r b := by
  unfold extTo
  rw [List.range_succ, List.filter_append]
  by_cases c : okR d r (loR r + (b : Int)) = true
  · rw [if_pos c]
    simp [List.filter_cons, c]
  · rw [if_neg c]
    simp [List.filter_cons, c]
section
variable {P : Program} {w : World} {K : PySem.W.Frag} {mg : Str → Option Value} {base : Heap}
theorem dp_ints {H : Hp} : ∀ ns : List Int, DpAll K H (ns.map V.int) (ns.map PyData.int)
  | [] => .nil
  | n :: ns => .cons (.int n) (dp_ints ns)
theorem dp_row {H : Hp} {a : Addr} {ns : List Int} (h : H a = some (.lst (ns.map V.int))) : Dp K H (.ref a) (.list (ns.map PyData.int)) := .lst (SqL.of h) (dp_ints ns)
theorem eqv_nil (ns : List Int) : PyData.eqv (.list (ns.map PyData.int)) (.list (([] : List Int).map PyData.int)) = decide (ns = []) := by
  cases ns with
  | nil => simp [PyData.eqv, PyData.eqvAll]
  | cons n ns => simp [PyData.eqv, PyData.eqvAll]
theorem lo_at {r : List Int} (h : r ≠ []) : atI (r.map V.int) (-1) = some (.int (loR r)) := by
  obtain ⟨z, e⟩ : ∃ z, r = r.dropLast ++ [z] := ⟨r.getLast h, (List.dropLast_concat_getLast h).symm⟩
  unfold loR
  rw [e, List.map_append, List.getLast?_append]
  exact atI_last _ _
/-- a row of looks -/
def RowL (lg : Addr) (r : List Int) (v : V) (H : Hp) : Prop := ∃ t : Addr, v = .ref t ∧ t ≠ lg ∧ H t = some (.lst (r.map V.int))
theorem RowL.up {lg : Addr} {r : List Int} {v : V} {H H' : Hp} (e : But lg H H') (h : RowL lg r v H) : RowL lg r v H' := by
  obtain ⟨t, rfl, n, h⟩ := h
  exact ⟨t, rfl, n, e _ _ n h⟩
theorem RowL.lg {lg lg' : Addr} {r : List Int} {v : V} {H : Hp} (n : H lg' = none) (h : RowL lg r v H) : RowL lg' r v H := by
  obtain ⟨t, rfl, _, h⟩ := h
  exact ⟨t, rfl, ne_of_none h n, h⟩
theorem rel_imp {α : Type} {R R' : α → V → Hp → Prop} {ms : List α} {vs : List V} {H H' : Hp} (h : Rel2 R ms vs H) (u : ∀ m v, R m v H → R' m v H') : Rel2 R' ms vs H' := ⟨h.1, fun i m v a b => u m v (h.2 i m v a b)⟩
def spLeastSum : Sp := fun vs H Q _ => ∃ many d : Nat, vs = [.int many, .int d] ∧ many ≤ 5 ∧ d ≤ 8 ∧ sumOk many d = true ∧ ∀ H', Same H H' → Q (.int (looksLen ((many : Int) - 2) d 0)) H'
theorem ok_least_sum (T : Txt K mg) (D : Dn K mg "_law_least_sum" s_law_least_sum) : Cal P w K mg base 1 "_law_least_sum" spLeastSum := by
  refine D.cal sc_law_least_sum (fun _ _ _ _ _ _ us hl => match us, hl with | [_, _], _ => rfl) (fun vs H Q E h => ?_) (fun f cdv A outer s H E hr => ⟨_, (pss_cons (ps_set (i := 2) sc_law_least_sum.nd rfl (Or.inl rfl) (pe_op op_mul (pv 1) (pv 0)))
    (pss_cons (ps_set (i := 3) sc_law_least_sum.nd rfl (Or.inl rfl) (pe_lst (pa_cons (pe_lst pa_nil) pa_nil)))
    (pss_cons (ps_for PassesOwn.never rfl (pi_range1 rfl T.z_range (pa_cons (pv 0) pa_nil)) (pg_name (i := 4) sc_law_least_sum.nd rfl (Or.inl rfl))
    (pss_cons (ps_set (i := 6) sc_law_least_sum.nd rfl (Or.inl rfl) (pe_lst pa_nil))
    (pss_cons (ps_for PassesOwn.never rfl (pi_list (pv 3)) (pg_name (i := 5) sc_law_least_sum.nd rfl (Or.inl rfl))
    (pss_one (ps_for PassesOwn.never rfl (pi_range2 rfl T.z_range (pa_cons (pe_w (pe_ifExp (pt_cmpR (op_neD hr.units) (pv 5) (pe_lst pa_nil) (nomark _)) (pe_ix ix_list (pv 5) (pe_un un_neg pe_int) (fun _ _ => rfl)) pe_int)) (pa_cons (pe_op op_add (pv 1) pe_int) pa_nil))) (pg_name (i := 7) sc_law_least_sum.nd rfl (Or.inl rfl))
    (pss_one (ps_if (pt_w (PW.pt (pw_or (pt_cmpR op_ne (pe_callB call_len_seq (by rfl) T.z_len (by decide +kernel) (pa_cons (pv 5) pa_nil)) pe_int (nomark _)) (pw_or1 (pt_cmpR op_ge (pe_op op_add (pe_ix ix_list (pv 5) pe_int (fun _ _ => rfl)) (pv 7)) (pv 1) (nomark _)))))) (pss_one (ps_expr (pe_bm PySem.F.plainAttrs_list PySem.F.slot_list_append PySem.F.type_list_append mt_append (pv 6) (pa_cons (pe_op op_cat (pv 5) (pe_lst (pa_cons (pv 7) pa_nil))) pa_nil)))) pss_nil)))))
    (pss_one (ps_set (i := 3) sc_law_least_sum.nd rfl (Or.inl rfl) (pv 6))))))
    (pss_cons (ps_for PassesOwn.never rfl (pi_list (pv 3)) (pg_name (i := 5) sc_law_least_sum.nd rfl (Or.inl rfl))
    (pss_one (ps_set (i := 2) sc_law_least_sum.nd rfl (Or.inl rfl) (pe_callB (call_min2 rfl) (by rfl) T.z_min (by decide +kernel) (pa_cons (pv 2) (pa_cons (pe_callB (cr_sum rfl) (by rfl) T.z_sum (by decide +kernel) (pa_cons (pv 5) pa_nil)) pa_nil))))))
    (pss_one (ps_ret (pv 2))))))), fun vs Q h => ?_⟩)
  · obtain ⟨many, d, rfl, _⟩ := h
    rfl
  · obtain ⟨many, d, rfl, hm, hd, hs, q⟩ := h
    unfold sumOk at hs
    simp only [Bool.and_eq_true, decide_eq_true_eq, List.all_eq_true, List.mem_range] at hs
    obtain ⟨hbest, hrows⟩ := hs
    refine ⟨_, rfl, _, rfl, _, _, rfl, rfl, .inl ⟨by omega, by omega⟩, ?_⟩
    refine ⟨Nat.zero_le _, fun t nt => ⟨(by show 1 ≤ sizeLine; decide), fun p np => ?_⟩⟩
    have e1 := (Same.new (o := .lst []) nt).trans (Same.new (o := .lst [.ref t]) np)
    have hp := upd_same (H := upd H t (.lst [])) (a := p) (o := .lst [.ref t])
    have rt : RowL p [] (.ref t) (upd (upd H t (.lst [])) p (.lst [.ref t])) := ⟨t, rfl, ne_of_none upd_same np, Same.new np _ _ upd_same⟩
    generalize upd (upd H t (.lst [])) p (.lst [.ref t]) = H1 at e1 hp rt
    refine ⟨_, rfl, (many : Int), rfl, by omega, by omega, for_range (lo := 0) (n := many) (fun i σ H' => ∃ (p : Addr) (vs : List V) (y4 y5 y6 y7 : Option V), σ = [some (.int many), some (.int d), some (.int (d * many)), some (.ref p), y4, y5, y6, y7] ∧ Same H1 H' ∧ H' p = some (.lst vs) ∧ Rel2 (RowL p) (sumRows d i) vs H')
      ⟨p, [.ref t], none, none, none, none, rfl, Same.refl _, hp, .one rt⟩ ?_ ?_⟩
    · rintro i σ H' hi ⟨p, vs, y4, y5, y6, y7, rfl, e, hp, hv⟩
      have rok := (hrows i (by omega)).2
      have rlen := (hrows i (by omega)).1
      refine ⟨Nat.zero_le _, fun lg nlg => ?_⟩
      have hv1 : Rel2 (RowL lg) (sumRows d i) vs (upd H' lg (.lst [])) := rel_imp hv fun q v h => (h.lg nlg).up (.of (Same.new nlg))
      have hp1 := Same.new (o := .lst []) nlg _ _ hp
      have s1 : Same H1 (upd H' lg (.lst [])) := e.trans (Same.new nlg)
      have hl1 : upd H' lg (.lst []) lg = some (.lst []) := upd_same
      have nlg1 : H1 lg = none := e.free nlg
      have npl : p ≠ lg := ne_of_none hp nlg
      generalize upd H' lg (.lst []) = G at hv1 hp1 s1 hl1
      refine ⟨_, rfl, p, rfl, ⟨_, SqL.of hp1⟩, for_list (K := K) (a := p) (xs := vs) (fun j σ H2 => ∃ (us : List V) (y4 y5 y7 : Option V), σ = [some (.int many), some (.int d), some (.int (d * many)), some (.ref p), y4, y5, some (.ref lg), y7] ∧ But lg G H2 ∧ H2 lg = some (.lst us) ∧ us.length ≤ 9 * j ∧ Rel2 (RowL lg) (((sumRows d i).take j).flatMap (extS d)) us H2)
        ⟨[], _, _, _, rfl, But.refl _ _, hl1, Nat.le_refl _, .nil⟩ (fun j σ H2 _ ⟨_, _, _, _, _, e2, _⟩ => SqL.of (e2 _ _ npl hp1)) ?_ ?_⟩
      · rintro j v σ H2 hj ⟨us, y4, y5, y7, rfl, e2, hl2, hul, hu⟩
        obtain ⟨r, hq, t, rfl, nt, ht2⟩ := (rel_imp hv1 fun q v h => h.up e2).get hj
        have hjl : j < (sumRows d i).length := (List.getElem?_eq_some_iff.mp hq).1
        obtain ⟨⟨r9, r0, lo8⟩, r5⟩ := rok r (List.mem_of_getElem? hq)
        have etake : ((sumRows d i).take (j + 1)).flatMap (extS d) = ((sumRows d i).take j).flatMap (extS d) ++ extTo d r ((d : Int) + 1 - loR r).toNat := by
          rw [List.take_add_one, hq, Option.toList_some, List.flatMap_append, List.flatMap_singleton]
          rfl
        -- range(lo, d + 1)
        refine ⟨fun v H' => v = .int (loR r) ∧ Same H2 H', ?_, ?_⟩
        · refine ⟨_, rfl, Nat.zero_le _, fun z nz => ⟨.list (r.map PyData.int), .list (([] : List Int).map PyData.int), dp_row (Same.new nz _ _ ht2), dp_row upd_same, PySem.W.shaped_ints _, PySem.W.shaped_ints _, _, rfl, ?_⟩⟩
          rw [eqv_nil]
          by_cases c : r = []
          · rw [decide_eq_true c]
            subst c
            exact ⟨rfl, Same.new nz⟩
          · rw [decide_eq_false c]
            exact ⟨_, rfl, _, rfl, t, _, -1, _, rfl, rfl, SqL.of (Same.new nz _ _ ht2), lo_at c, rfl, Same.new nz⟩
        rintro v H3 ⟨rfl, e3⟩
        refine ⟨_, rfl, _, _, rfl, rfl, loR r, (d : Int) + 1, rfl, ?_, ?_⟩
        · omega
        refine for_range (lo := loR r) (n := ((d : Int) + 1 - loR r).toNat) (fun b σ H4 => ∃ (us : List V) (y4 y7 : Option V), σ = [some (.int many), some (.int d), some (.int (d * many)), some (.ref p), y4, some (.ref t), some (.ref lg), y7] ∧ But lg G H4 ∧ H4 t = some (.lst (r.map V.int)) ∧ H4 lg = some (.lst us) ∧ us.length ≤ 9 * j + b ∧ Rel2 (RowL lg) (((sumRows d i).take j).flatMap (extS d) ++ extTo d r b) us H4)
          ⟨us, _, _, rfl, e2.trans (.of e3), e3 _ _ ht2, e3 _ _ hl2, by omega, by rw [show extTo d r 0 = [] from rfl, List.append_nil]; exact rel_imp hu fun q v h => h.up (.of e3)⟩ ?_ ?_
        · rintro b σ H4 hb ⟨us, y4, y7, rfl, e4, ht4, hl4, hul4, hu4⟩
          have hbig : us.length ≤ 90009 := by omega
          rw [extTo_succ]
          refine ⟨fun bb H' => bb = okR d r (loR r + (b : Int)) ∧ H' = H4, ?_, ?_⟩
          · refine ⟨_, rfl, t, _, rfl, .inl (SqL.of ht4), rfl, _, rfl, ?_⟩
            rw [List.length_map]
            by_cases c : r.length = 1
            · rw [decide_eq_true (show V.int (r.length : Int) = V.int 1 by rw [c]; rfl)]
              obtain ⟨x, rfl⟩ := List.length_eq_one_iff.mp c
              exact ⟨_, rfl, t, _, 0, .int x, rfl, rfl, SqL.of ht4, atI_nat (j := 0) rfl, _, rfl, _, _, rfl, rfl, _, rfl, _, _, rfl, rfl, _, rfl, rfl, rfl⟩
            · rw [decide_eq_false (show ¬ V.int (r.length : Int) = V.int 1 by intro h; injection h; omega)]
              refine ⟨?_, rfl⟩
              unfold okR
              rw [decide_eq_true c]
              rfl
          · rintro bb H5 ⟨rfl, rfl⟩
            refine ite2 (fun c => ?_) (fun c => ?_)
            · rw [if_pos c]
              refine ⟨_, rfl, .inl ⟨rfl, _, SqL.of hl4⟩, _, rfl, _, rfl, (by show 1 ≤ sizeLine; decide), fun z nz => ⟨t, z, _, _, rfl, rfl, Same.new nz _ _ ht4, upd_same, ?_, fun l nl => ⟨lg, us, .ref l, rfl, rfl, Same.new nl _ _ (Same.new nz _ _ hl4), few (by omega), ?_⟩⟩⟩
              · rw [List.length_map]
                exact Nat.le_trans (show _ ≤ 6 by show r.length + 1 ≤ 6; omega) (by decide)
              · have s5 := (Same.new (o := .lst [.int (loR r + (b : Int))]) nz).trans (Same.new (o := .lst (r.map V.int ++ [.int (loR r + (b : Int))])) nl)
                have hll : l ≠ lg := (ne_of_none (Same.new nz _ _ hl4) nl).symm
                refine ⟨us ++ [.ref l], _, _, rfl, e4.trans ((But.of s5).upd), ?_, upd_same, ?_, ?_⟩
                · rw [upd_ne nt]
                  exact s5 _ _ ht4
                · rw [List.length_append, List.length_singleton]
                  omega
                · rw [← List.append_assoc]
                  refine (hu4.up fun q v h => h.up ((But.of s5).upd)).snoc ⟨l, rfl, hll, ?_⟩
                  rw [upd_ne hll, upd_same, List.map_append]
                  rfl
            · rw [if_neg c]
              exact ⟨us, _, _, rfl, e4, ht4, hl4, by omega, hu4⟩
        · rintro σ H4 ⟨us, y4, y7, rfl, e4, ht4, hl4, hul4, hu4⟩
          exact ⟨us, _, _, _, rfl, e4, hl4, by omega, by rw [etake]; exact hu4⟩
      · rintro σ H2 ⟨us, y4, y5, y7, rfl, e2, hl2, hul, hu⟩
        rw [hv.1, List.take_length] at hu
        refine ⟨_, rfl, lg, us, _, _, _, _, rfl, fun b o h => ?_, hl2, hu⟩
        exact e2 b o (ne_of_none h nlg1) (s1 b o h)
    · rintro σ H' ⟨p, vs, y4, y5, y6, y7, rfl, e, hp, hv⟩
      refine ⟨_, rfl, p, rfl, ⟨_, SqL.of hp⟩, for_list (K := K) (a := p) (xs := vs) (fun j σ H2 => ∃ (y4 y5 y6 y7 : Option V), σ = [some (.int many), some (.int d), some (.int (((sumRows d many).take j).foldl lessS (d * many))), some (.ref p), y4, y5, y6, y7] ∧ H2 = H')
        ⟨_, _, _, _, rfl, rfl⟩ (fun j σ H2 _ ⟨_, _, _, _, _, e2⟩ => by rw [e2]; exact SqL.of hp) ?_ ?_⟩
      · rintro j v σ H2 hj ⟨y4, y5, y6, y7, rfl, rfl⟩
        obtain ⟨r, hq, t, rfl, nt, ht2⟩ := hv.get hj
        refine ⟨_, rfl, _, rfl, t, r, rfl, SqL.of ht2, _, _, rfl, ?_⟩
        have es : ((sumRows d many).take (j + 1)).foldl lessS (d * many) = lessS (((sumRows d many).take j).foldl lessS (d * many)) r := by
          rw [List.take_add_one, hq, Option.toList_some, List.foldl_append]
          rfl
        exact ⟨y4, some (.ref t), y6, y7, by rw [es]; rfl, rfl⟩
      · rintro σ H2 ⟨y4, y5, y6, y7, rfl, rfl⟩
        rw [hv.1, List.take_length]
        refine ⟨_, rfl, ?_⟩
        have := q _ (e1.trans e)
        rw [← hbest] at this
        exact this
end
end K24
namespace K24
open PySem PySem.Spec PyProof.Rows L2 Own
/-! ### what a law's own walk uses -/
/-- a draw, what stands elsewhere is as it was -/
def spDrawB : Sp := fun vs H Q _ => ∃ (a : Addr) (x y z n : Int), vs = [.ref a, .int n] ∧ H a = some (.lst [.int x, .int y, .int z]) ∧ 0 < n ∧ n < 1073741824 ∧
  ∀ (r x' y' z' : Int) (H' : Hp), 0 ≤ r → r < n → But a H H' → H' a = some (.lst [.int x', .int y', .int z']) → Q (.int r) H'
theorem drawB_of (vs : List V) (H : Hp) (Q : VK) (E : XK) (h : spDrawB vs H Q E) : spDraw vs H Q E := by
  obtain ⟨a, x, y, z, n, rfl, hA, n0, n1, q⟩ := h
  exact ⟨a, x, y, z, n, rfl, hA, n0, n1, fun r x' y' z' r0 r1 => q r x' y' z' _ r0 r1 (But.upd (But.refl a H)) upd_same⟩
theorem tup_same {H H' : Hp} (e : Same H H') : ∀ r xs, H r = some (.tup xs) → H' r = some (.tup xs) := fun r xs h => e r _ h
theorem tup_but {a : Addr} {l : List V} {H H' : Hp} (ha : H a = some (.lst l)) (e : But a H H') : ∀ r xs, H r = some (.tup xs) → H' r = some (.tup xs) := fun r xs h => e r _ (ne_of h ha (by intro z; cases z)) h
theorem tup_upd {a : Addr} {l l' : List V} {H : Hp} (ha : H a = some (.lst l)) : ∀ r xs, H r = some (.tup xs) → upd H a (.lst l') r = some (.tup xs) := tup_but ha (But.upd (But.refl a H))
theorem alike_pair {K : PySem.W.Frag} {H : Hp} {n : Nat} {a b : Addr} {z : Str} {v : V} (ha : H a = some (.tup [.str z, v])) (hb : H b = some (.tup [.str z, v])) (hv : Alike K H n v v) : Alike K H (n + 1) (.ref a) (.ref b) :=
  .tup (SqT.of ha) (SqT.of hb) rfl (by show 2 ≤ 1000000; decide) fun i x y hx hy => by
    match i with
    | 0 => cases hx; cases hy; exact .str _
    | 1 => cases hx; cases hy; exact hv
    | i + 2 => simp at hx
theorem mem_cut {xs : List V} {lo hi : Option Int} {v : V} (h : v ∈ cutV xs lo hi) : v ∈ xs := by
  unfold cutV at h
  exact List.mem_of_mem_drop (List.mem_of_mem_take h)

section
variable {P : Program} {w : World} {K : PySem.W.Frag} {mg : Str → Option Value} {base : Heap}
theorem alike_looks {H : Hp} {n : Nat} (m d f : Int) : Alike K H n (looksSaid m d f).2 (looksSaid m d f).2 := by
  unfold looksSaid
  split
  · exact .str _
  · exact .int _
theorem alike_turn {H : Hp} {n : Nat} (m f g o : Int) : Alike K H n (turnSaid m f g o).2 (turnSaid m f g o).2 := by
  unfold turnSaid
  split
  · exact .str _
  · exact .int _
theorem alike_length {H : Hp} {n : Nat} (m f g : Int) : Alike K H n (lengthSaid m f g).2 (lengthSaid m f g).2 := by
  unfold lengthSaid
  split
  · exact .str _
  · split
    · exact .int _
    · exact .str _
/-- (m, f, g) as the law draws them -/
def Trip (v : V) (H : Hp) : Prop := ∃ (r : Addr) (m f g : Int), v = .ref r ∧ H r = some (.tup [.int m, .int f, .int g]) ∧ 1 ≤ m ∧ Small f ∧ Small g
def Trips (vs : List V) (H : Hp) : Prop := ∀ v ∈ vs, Trip v H
theorem Trip.up {v : V} {H H' : Hp} (e : ∀ r xs, H r = some (.tup xs) → H' r = some (.tup xs)) (h : Trip v H) : Trip v H' := by
  obtain ⟨r, m, f, g, rfl, h1, h2⟩ := h
  exact ⟨r, m, f, g, rfl, e _ _ h1, h2⟩
theorem Trips.up {vs : List V} {H H' : Hp} (e : ∀ r xs, H r = some (.tup xs) → H' r = some (.tup xs)) (h : Trips vs H) : Trips vs H' := fun v hv => (h v hv).up e
theorem Trips.app {vs ws : List V} {H : Hp} (h : Trips vs H) (k : Trips ws H) : Trips (vs ++ ws) H := fun v hv => (List.mem_append.mp hv).elim (h v) (k v)
def spLaw (K : PySem.W.Frag) : Sp := fun vs H Q _ => ∃ (a : Addr) (ns : List Int), vs = [.ref a] ∧ SqL K H a (ns.map V.int) ∧ ns.length ≤ 63 ∧ ∀ H', Q (.bl true) H'
theorem ok_law (T : Txt K mg) {fd : FuncData} (F : FunD K "law" "law" (defArgs s_law) (defBody s_law) (defScope s_law) [] [] (He.ga K "law") fd)
    (C_law_purse : Cal P w K mg base 1 "_law_purse" (spPurse K)) (C_law_draw : Cal P w K mg base 1 "_law_draw" spDrawB) (C_law_mix : Cal P w K mg base 2 "_law_mix" (spMix K)) (C_law_matches : Cal P w K mg base 2 "_law_matches" (spMatches K 1))
    (C_law_said : Cal P w K mg base 6 "_law_said" (spSaid K)) (C_law_looks_said : Cal P w K mg base 2 "_law_looks_said" spLooksSaid) (C_law_turn_due : Cal P w K mg base 2 "_law_turn_due" spTurnDue) (C_law_looks_due : Cal P w K mg base 1 "_law_looks_due" spLooks) (C_law_least_sum : Cal P w K mg base 1 "_law_least_sum" spLeastSum) :
    FnOk P w K mg base CX0 7 (He.ga K "law") fd ["script"] (spLaw K) := by
  refine F.ok sc_law (fun vs H Q E h => ?_) (fun cdv A outer s H vs Q E hr h => ⟨_, PSs.nox (pss_cons (ps_set (i := 1) sc_law.nd rfl (Or.inr rfl) (pe_cc C_law_purse hr (by decide) (by rfl) (pa_cons (pv 0) (pa_cons pe_int pa_nil))))
    (pss_cons (ps_for PassesOwn.never rfl (pi_list (pe_cc C_law_mix hr (by decide) (by rfl) (pa_cons (pv 1) (pa_cons (pe_lst (pa_cons pe_int (pa_cons pe_int pa_nil))) pa_nil)))) (pg_name (i := 2) sc_law.nd rfl (Or.inl rfl))
    (pss_cons (ps_set (i := 3) sc_law.nd rfl (Or.inl rfl) (pe_op op_add pe_int (pe_cc C_law_draw hr (by decide) (by rfl) (pa_cons (pv 1) (pa_cons pe_int pa_nil)))))
    (pss_cons (ps_for PassesOwn.never rfl (pi_list (pe_cc C_law_mix hr (by decide) (by rfl) (pa_cons (pv 1) (pa_cons (pe_listRg rfl (by rfl) T.z_list (prg_2 (by rfl) T.z_range pe_int pe_int)) pa_nil)))) (pg_name (i := 4) sc_law.nd rfl (Or.inl rfl))
    (pss_one (ps_if (pt_not (pt_val (pe_cc C_law_matches hr (by decide) (by rfl) (pa_cons (pe_cc C_law_said hr (by decide) (by rfl) (pa_cons pe_str (pa_cons (pe_tup (pa_cons (pv 3) (pa_cons (pv 4) (pa_cons (pv 2) pa_nil)))) pa_nil))) (pa_cons (pe_cc C_law_looks_said hr (by decide) (by rfl) (pa_cons (pv 3) (pa_cons (pv 4) (pa_cons (pv 2) pa_nil)))) pa_nil))))) (pss_one (ps_ret pe_bl)) pss_nil)))
    (pss_one (ps_for PassesOwn.never rfl (pi_range1 rfl T.z_range (pa_cons pe_int pa_nil)) (pg_name (i := 8) sc_law.nd rfl (Or.inl rfl))
    (pss_cons (ps_set (i := 3) sc_law.nd rfl (Or.inl rfl) (pe_op op_add pe_int (pe_cc C_law_draw hr (by decide) (by rfl) (pa_cons (pv 1) (pa_cons pe_int pa_nil)))))
    (pss_cons (ps_set (i := 6) sc_law.nd rfl (Or.inr rfl) (pe_cc C_law_draw hr (by decide) (by rfl) (pa_cons (pv 1) (pa_cons pe_int pa_nil))))
    (pss_cons (ps_set (i := 7) sc_law.nd rfl (Or.inl rfl) (pe_cc C_law_draw hr (by decide) (by rfl) (pa_cons (pv 1) (pa_cons pe_int pa_nil))))
    (pss_cons (ps_set (i := 9) sc_law.nd rfl (Or.inl rfl) (pe_tup (pa_cons pe_str (pa_cons pe_str pa_nil))))
    (pss_cons (ps_w (ps_if (pt_cmpR op_lt (pe_op op_add (pv 6) (pe_op op_mul pe_int (pv 7))) pe_int (nomark _)) (pss_one (ps_set (i := 9) sc_law.nd rfl (Or.inl rfl) (pe_tup (pa_cons pe_str (pa_cons (pe_op op_add (pe_op op_add (pe_cc C_law_looks_due hr (by decide) (by rfl) (pa_cons (pv 3) (pa_cons (pe_op op_add (pv 7) pe_int) (pa_cons (pv 2) pa_nil)))) (pv 6)) (pv 7)) pa_nil))))) pss_nil))
    (pss_one (ps_if (pt_not (pt_val (pe_cc C_law_matches hr (by decide) (by rfl) (pa_cons (pe_cc C_law_said hr (by decide) (by rfl) (pa_cons pe_str (pa_cons (pe_tup (pa_cons (pv 3) (pa_cons (pv 6) (pa_cons (pv 7) (pa_cons (pv 2) pa_nil))))) pa_nil))) (pa_cons (pv 9) pa_nil))))) (pss_one (ps_ret pe_bl)) pss_nil))))))))))))
    (pss_cons (ps_set (i := 3) sc_law.nd rfl (Or.inl rfl) (pe_op op_add pe_int (pe_cc C_law_draw hr (by decide) (by rfl) (pa_cons (pv 1) (pa_cons pe_int pa_nil)))))
    (pss_cons (ps_set (i := 4) sc_law.nd rfl (Or.inl rfl) (pe_op op_add pe_int (pe_cc C_law_draw hr (by decide) (by rfl) (pa_cons (pv 1) (pa_cons pe_int pa_nil)))))
    (pss_cons (ps_if (pt_not (pt_val (pe_cc C_law_matches hr (by decide) (by rfl) (pa_cons (pe_cc C_law_said hr (by decide) (by rfl) (pa_cons pe_str (pa_cons (pe_tup (pa_cons (pv 3) (pa_cons (pv 4) (pa_cons pe_int pa_nil)))) pa_nil))) (pa_cons (pe_tup (pa_cons pe_str (pa_cons (pe_cc C_law_least_sum hr (by decide) (by rfl) (pa_cons (pe_op op_add (pv 3) pe_int) (pa_cons (pv 4) pa_nil))) pa_nil))) pa_nil))))) (pss_one (ps_ret pe_bl)) pss_nil)
    (pss_cons (ps_set (i := 5) sc_law.nd rfl (Or.inl rfl) (pe_lst pa_nil))
    (pss_cons (ps_for PassesOwn.never rfl (pi_range1 rfl T.z_range (pa_cons pe_int pa_nil)) (pg_name (i := 6) sc_law.nd rfl (Or.inr rfl))
    (pss_one (ps_set (i := 5) sc_law.nd rfl (Or.inl rfl) (pe_op op_cat (pv 5) (pe_lc (own := [("g", 7)]) rfl sc_law.nd (pi_range1 rfl T.z_range (pa_cons pe_int pa_nil)) (blkOk_by (N := ["script", "purse", "fogs", "m", "d", "triples", "f", "g", "turn", "due"]) (sc := defScope s_law) (by decide +kernel)) (fun _ _ _ _ _ => pg_k (pg_name (i := 7) sc_law.nd rfl (Or.inl rfl)) (by first | rfl | (dsimp only [Cx.blk, Cx.nox, Cx.wish, cxOf] <;> rfl))) (fun _ _ _ _ _ => pts_k pts_nil (by first | rfl | (dsimp only [Cx.blk, Cx.nox, Cx.wish, cxOf] <;> rfl))) (fun _ _ _ _ _ => pe_k (pe_tup (pa_cons (pe_op op_add pe_int (pe_cc C_law_draw hr (by decide) (by rfl) (pa_cons (pv 1) (pa_cons pe_int pa_nil)))) (pa_cons (pv 6) (pa_cons (pv 7) pa_nil)))) (by first | rfl | (dsimp only [Cx.blk, Cx.nox, Cx.wish, cxOf] <;> rfl))))))))
    (pss_cons (ps_for PassesOwn.never rfl (pi_list (pe_op op_cat (pe_cc C_law_mix hr (by decide) (by rfl) (pa_cons (pv 1) (pa_cons (pv 5) pa_nil))) (pe_lst (pa_cons (pe_tup (pa_cons pe_int (pa_cons pe_int (pa_cons pe_int pa_nil)))) (pa_cons (pe_tup (pa_cons pe_int (pa_cons pe_int (pa_cons pe_int pa_nil)))) (pa_cons (pe_tup (pa_cons pe_int (pa_cons pe_int (pa_cons pe_int pa_nil)))) (pa_cons (pe_tup (pa_cons pe_int (pa_cons pe_int (pa_cons pe_int pa_nil)))) (pa_cons (pe_tup (pa_cons pe_int (pa_cons pe_int (pa_cons pe_int pa_nil)))) (pa_cons (pe_tup (pa_cons pe_int (pa_cons pe_int (pa_cons pe_int pa_nil)))) pa_nil))))))))) (pg_tup rfl (pgs_cons (pg_name (i := 3) sc_law.nd rfl (Or.inl rfl)) (pgs_cons (pg_name (i := 6) sc_law.nd rfl (Or.inr rfl)) (pgs_cons (pg_name (i := 7) sc_law.nd rfl (Or.inl rfl)) pgs_nil))))
    (pss_one (ps_if (pt_not (pt_val (pe_cc C_law_matches hr (by decide) (by rfl) (pa_cons (pe_cc C_law_said hr (by decide) (by rfl) (pa_cons pe_str (pa_cons (pe_tup (pa_cons (pv 3) (pa_cons (pv 6) (pa_cons (pv 7) pa_nil)))) pa_nil))) (pa_cons (pe_cc C_law_turn_due hr (by decide) (by rfl) (pa_cons (pv 3) (pa_cons (pv 6) (pa_cons (pv 7) pa_nil)))) pa_nil))))) (pss_one (ps_ret pe_bl)) pss_nil)))
    (pss_one (ps_ret pe_bl)))))))))), ?_⟩)
  · obtain ⟨a, ns, rfl, _⟩ := h
    rfl
  · obtain ⟨a, ns, rfl, hS, hl, q⟩ := h
    have z2 : 2 ≤ sizeLine := by decide
    have z3 : 3 ≤ sizeLine := by decide
    have z4 : 4 ≤ sizeLine := by decide
    refine ⟨_, rfl, a, ns, 0, rfl, hS, by decide, by decide, hl, fun x y z pu H1 npu e1 hpu => ?_⟩
    -- for fogs in _law_mix(purse, [0, 1])
    refine ⟨_, rfl, z2, fun t nt => ⟨pu, t, x, y, z, [.int 0, .int 1], rfl, Same.new nt _ _ hpu, SqL.of upd_same, by decide, fun ys pl x y z H2 hperm npl hpl hpu2 e2 => ?_⟩⟩
    have npu2 : pl ≠ pu := (ne_of_none (Same.new nt _ _ hpu) npl).symm
    have hys : ∀ v ∈ ys, v = .int 0 ∨ v = .int 1 := fun v hv => by
      have := hperm.mem_iff.mp hv
      simpa using this
    clear hperm e2 npl nt
    refine ⟨pl, rfl, ⟨_, SqL.of hpl⟩, for_list (K := K) (a := pl) (xs := ys) (fun i σ H' => ∃ (y2 y3 y4 y6 y7 y8 y9 : Option V) (x y z : Int), σ = [some (.ref a), some (.ref pu), y2, y3, y4, none, y6, y7, y8, y9] ∧ H' pl = some (.lst ys) ∧ H' pu = some (.lst [.int x, .int y, .int z]))
      ⟨_, _, _, _, _, _, _, _, _, _, rfl, hpl, hpu2⟩ (fun i σ H' _ ⟨_, _, _, _, _, _, _, _, _, _, _, h, _⟩ => SqL.of h) ?_ ?_⟩
    · rintro i v σ H' hv ⟨y2, y3, y4, y6, y7, y8, y9, x, y, z, rfl, hpl, hpu⟩
      obtain ⟨fg, rfl, fg0⟩ : ∃ fg : Int, v = .int fg ∧ (fg = 0 ∨ fg = 1) := by
        rcases hys v (List.mem_of_getElem? hv) with rfl | rfl
        · exact ⟨_, rfl, .inl rfl⟩
        · exact ⟨_, rfl, .inr rfl⟩
      refine ⟨_, rfl, pu, x, y, z, 60, rfl, hpu, by decide, by decide, fun m x y z H3 m0 m1 e3 hpu3 => ⟨_, _, rfl, rfl, ?_⟩⟩
      have hpl3 := e3 _ _ npu2 hpl
      clear hpl hpu e3
      -- for d in _law_mix(purse, list(range(1, 10)))
      refine ⟨_, rfl, 1, 10, rfl, rfl, RgOk.of_le (by decide) (by decide) (by decide) (by decide), fun t nt => ⟨pu, t, x, y, z, rgV 1 10, rfl, Same.new nt _ _ hpu3, SqL.of upd_same, by decide, fun zs pd x y z H4 hperm npd hpd hpu4 e4 => ?_⟩⟩
      have npd2 : pd ≠ pu := (ne_of_none (Same.new nt _ _ hpu3) npd).symm
      have hpl4 := e4 _ _ npu2 (Same.new nt _ _ hpl3)
      have hzs : ∀ v ∈ zs, ∃ d : Int, v = .int d ∧ Small d := fun v hv => by
        have := hperm.mem_iff.mp hv
        unfold rgV at this
        obtain ⟨j, hj, rfl⟩ := List.mem_map.mp this
        have hj := List.mem_range.mp hj
        exact ⟨_, rfl, by omega, by have : (10 - 1 : Int).toNat = 9 := by decide
                                    omega⟩
      clear hperm npd nt hpl3 hpu3 e4
      refine ⟨pd, rfl, ⟨_, SqL.of hpd⟩, for_list (K := K) (a := pd) (xs := zs) (fun i σ H' => ∃ (y4 : Option V), σ = [some (.ref a), some (.ref pu), some (.int fg), some (.int (1 + m)), y4, none, y6, y7, y8, y9] ∧ Same H4 H')
        ⟨_, rfl, Same.refl _⟩ (fun i σ H' _ ⟨_, _, e⟩ => SqL.of (e _ _ hpd)) ?_ ?_⟩
      · rintro j v σ H5 hv ⟨y4, rfl, e5⟩
        obtain ⟨d, rfl, hd⟩ := hzs v (List.mem_of_getElem? hv)
        refine ⟨_, rfl, _, rfl, _, rfl, z3, fun t nt => ⟨"looks", t, [1 + m, d, fg], _, rfl, SqT.of upd_same, .looks ⟨by omega, by omega⟩ hd, fun x1 H6 e6 h6 => ?_⟩⟩
        refine ⟨_, rfl, _, rfl, _, rfl, 1 + m, d, fg, rfl, hd, fun x2 H7 e7 h7 => ⟨.ref x1, .ref x2, rfl, alike_pair (e7 _ _ h6) h7 (alike_looks _ _ _), fun H8 e8 => ⟨true, rfl, ?_⟩⟩⟩
        exact iteF ⟨_, rfl, (((e5.trans (Same.new nt)).trans e6).trans e7).trans e8⟩
      rintro σ H5 ⟨y4, rfl, e5⟩
      have hpl5 := e5 _ _ hpl4
      have hpu5 := e5 _ _ hpu4
      clear hpl4 hpu4 e5 hpd
      -- for turn in range(4)
      refine ⟨4, rfl, by decide, by decide, for_range (lo := 0) (n := 4) (fun i σ H' => ∃ (y3 y6 y7 y8 y9 : Option V) (x y z : Int), σ = [some (.ref a), some (.ref pu), some (.int fg), y3, y4, none, y6, y7, y8, y9] ∧ H' pl = some (.lst ys) ∧ H' pu = some (.lst [.int x, .int y, .int z]))
        ⟨_, _, _, _, _, _, _, _, rfl, hpl5, hpu5⟩ ?_ ?_⟩
      · rintro j σ H6 hj ⟨y3, y6, y7, y8, y9, x, y, z, rfl, hpl, hpu⟩
        refine ⟨_, rfl, pu, x, y, z, 60, rfl, hpu, by decide, by decide, fun m x y z H7 m0 m1 e7 hpu7 => ⟨_, _, rfl, rfl, ?_⟩⟩
        refine ⟨_, rfl, pu, x, y, z, 9, rfl, hpu7, by decide, by decide, fun f x y z H8 f0 f1 e8 hpu8 => ?_⟩
        refine ⟨_, rfl, pu, x, y, z, 5, rfl, hpu8, by decide, by decide, fun g x y z H9 g0 g1 e9 hpu9 => ?_⟩
        have hpl9 := e9 _ _ npu2 (e8 _ _ npu2 (e7 _ _ npu2 hpl))
        clear e7 e8 e9 hpu7 hpu8 hpl hpu
        refine ⟨z2, fun p np => ?_⟩
        have hp := upd_same (H := H9) (a := p) (o := .tup [.str "TooMany", .str "code"])
        have hpl10 := Same.new (o := .tup [.str "TooMany", .str "code"]) np _ _ hpl9
        have hpu10 := Same.new (o := .tup [.str "TooMany", .str "code"]) np _ _ hpu9
        generalize upd H9 p (.tup [.str "TooMany", .str "code"]) = H10 at hp hpl10 hpu10
        clear hpl9 hpu9 np
        refine ⟨fun σ H' => ∃ r : Addr, σ = [some (.ref a), some (.ref pu), some (.int fg), some (.int (1 + m)), y4, none, some (.int f), some (.int g), some (.int (0 + (j : Int))), some (.ref r)] ∧ Same H10 H' ∧ H' r = some (.tup [.str (turnSaid (1 + m) f g fg).1, (turnSaid (1 + m) f g fg).2]), ?_, ?_⟩
        · refine ⟨_, rfl, _, rfl, _, _, rfl, rfl, .inl ⟨by decide, by decide⟩, _, _, rfl, rfl, _, _, rfl, rfl, _, rfl, ite2 (fun c => ?_) (fun c => ?_)⟩
          · have c := of_decide_eq_true c
            refine ⟨_, rfl, _, rfl, _, _, rfl, rfl, _, rfl, 1 + m, g + 1, fg, rfl, ⟨by omega, by omega⟩, _, rfl, _, _, rfl, rfl, _, rfl, _, _, rfl, rfl, z2, fun r nr => ⟨r, rfl, Same.new nr, ?_⟩⟩
            unfold turnSaid
            rw [if_neg (by omega), upd_same]
          · have c : ¬ f + 2 * g < 8 := fun h => c (decide_eq_true h)
            refine ⟨p, rfl, Same.refl _, ?_⟩
            unfold turnSaid
            rw [if_pos (by omega), hp]
        · rintro σ H11 ⟨r, rfl, e11, hr11⟩
          refine ⟨_, rfl, _, rfl, _, rfl, _, rfl, z4, fun t nt => ⟨"turn", t, [1 + m, f, g, fg], _, rfl, SqT.of upd_same, .turn ⟨by omega, by omega⟩ ⟨by omega, by omega⟩ ⟨by omega, by omega⟩, fun x1 H12 e12 h12 => ?_⟩⟩
          refine ⟨_, rfl, .ref x1, .ref r, rfl, alike_pair h12 (e12 _ _ (Same.new nt _ _ hr11)) (alike_turn _ _ _ _), fun H13 e13 => ⟨true, rfl, ?_⟩⟩
          have e := ((e11.trans (Same.new nt)).trans e12).trans e13
          exact iteF ⟨_, _, _, _, _, _, _, _, rfl, e _ _ hpl10, e _ _ hpu10⟩
      · rintro σ H6 ⟨y3, y6, y7, y8, y9, x, y, z, rfl, hpl, hpu⟩
        exact ⟨_, _, _, _, _, _, _, _, _, _, rfl, hpl, hpu⟩
    rintro σ H' ⟨y2, y3, y4, y6, y7, y8, y9, x, y, z, rfl, -, hpu⟩
    -- the search
    refine ⟨_, rfl, pu, x, y, z, 3, rfl, hpu, by decide, by decide, fun m x y z H3 m0 m1 e3 hpu3 => ⟨_, _, rfl, rfl, ?_⟩⟩
    refine ⟨_, rfl, pu, x, y, z, 8, rfl, hpu3, by decide, by decide, fun d x y z H4 d0 d1 e4 hpu4 => ⟨_, _, rfl, rfl, ?_⟩⟩
    clear e3 e4 hpu hpu3
    refine ⟨_, rfl, _, rfl, z3, fun t nt => ⟨"looks", t, [1 + m, 1 + d, 0], _, rfl, SqT.of upd_same, .looks ⟨by omega, by omega⟩ ⟨by omega, by omega⟩, fun x1 H5 e5 h5 => ?_⟩⟩
    obtain ⟨mN, em⟩ : ∃ mN : Nat, (1 + m + 2 : Int) = mN := ⟨(1 + m + 2).toNat, by omega⟩
    obtain ⟨dN, ed⟩ : ∃ dN : Nat, (1 + d : Int) = dN := ⟨(1 + d).toNat, by omega⟩
    have so : sumOk mN dN = true := by
      rcases (by omega : mN = 3 ∨ mN = 4 ∨ mN = 5) with rfl | rfl | rfl
      · exact sumOk3 dN (by omega) (by omega)
      · exact sumOk4 dN (by omega) (by omega)
      · exact sumOk5 dN (by omega) (by omega)
    have eg : looksSaid (1 + m) (1 + d) 0 = (("gave" : Str), V.int (looksLen ((mN : Int) - 2) dN 0)) := by
      unfold looksSaid
      rw [if_neg (by omega), ed, show (mN : Int) - 2 = 1 + m by omega]
    rw [eg] at h5
    refine ⟨_, rfl, _, _, rfl, rfl, _, rfl, mN, dN, (by show [V.int (1 + m + 2), V.int (1 + d)] = _; rw [em, ed]), by omega, by omega, so, fun H6 e6 => ⟨z2, fun x2 nx2 => ⟨.ref x1, .ref x2, rfl, alike_pair (Same.new nx2 _ _ (e6 _ _ h5)) upd_same (.int _), fun H7 e7 => ⟨true, rfl, ?_⟩⟩⟩⟩
    refine iteF ?_
    have hpu7 := ((((Same.new nt).trans e5).trans e6).trans (Same.new nx2)).trans e7 _ _ hpu4
    clear h5 eg so e5 e6 e7 nx2 nt hpu4
    -- triples
    refine ⟨Nat.zero_le _, fun l0 nl0 => ?_⟩
    have hpu8 := Same.new (o := .lst []) nl0 _ _ hpu7
    have hl0 : upd H7 l0 (.lst []) l0 = some (.lst []) := upd_same
    have nl0u : l0 ≠ pu := (ne_of_none hpu7 nl0).symm
    generalize upd H7 l0 (.lst []) = H8 at hpu8 hl0
    clear hpu7 nl0
    refine ⟨9, rfl, by decide, by decide, for_range (lo := 0) (n := 9) (fun i σ H' => ∃ (p : Addr) (vs : List V) (y6 : Option V) (x y z : Int), σ = [some (.ref a), some (.ref pu), y2, some (.int (1 + m)), some (.int (1 + d)), some (.ref p), y6, y7, y8, y9] ∧ p ≠ pu ∧ H' p = some (.lst vs) ∧ H' pu = some (.lst [.int x, .int y, .int z]) ∧ vs.length = 5 * i ∧ Trips vs H')
      ⟨l0, [], _, _, _, _, rfl, nl0u, hl0, hpu8, rfl, fun v hv => by cases hv⟩ ?_ ?_⟩
    · rintro i σ H' hi ⟨p, vs, y6, x, y, z, rfl, hne, hp, hpu, hlen, hvs⟩
      refine ⟨_, rfl, 5, rfl, by decide, by decide, fun D nD => ?_⟩
      have nDp : p ≠ D := ne_of_none hp nD
      have nDu : pu ≠ D := ne_of_none hpu nD
      have sD := Same.new (o := .lst []) nD
      refine lc_range (lo := 0) (n := 5) (fun k H' => ∃ (acc : List V) (x y z : Int), H' D = some (.lst acc) ∧ H' pu = some (.lst [.int x, .int y, .int z]) ∧ H' p = some (.lst vs) ∧ acc.length = k ∧ Trips acc H' ∧ Trips vs H')
        ⟨[], x, y, z, upd_same, sD _ _ hpu, sD _ _ hp, rfl, (fun v hv => by cases hv), hvs.up (tup_same sD)⟩ ?_ ?_
      · rintro k H2 hk ⟨acc, x, y, z, hD, hpu, hp, hlen2, hacc, hvs⟩
        refine ⟨rfl, _, rfl, pu, x, y, z, 14, rfl, hpu, by decide, by decide, fun r x y z H3 r0 r1 e3 hpu3 => ⟨_, _, rfl, rfl, _, rfl, _, rfl, z3, fun t nt => ?_⟩⟩
        have s3 := Same.new (o := .tup [.int (1 + r), .int (0 + (i : Int)), .int (0 + (k : Int))]) nt
        have hD3 := e3 _ _ nDu.symm hD
        have hD4 := s3 _ _ hD3
        refine ⟨acc, hD4, few (by omega), acc ++ [.ref t], x, y, z, upd_same, ?_, ?_, by rw [List.length_append, hlen2]; rfl, ?_, ?_⟩
        · rw [upd_ne nDu]
          exact s3 _ _ hpu3
        · rw [upd_ne nDp]
          exact s3 _ _ (e3 _ _ hne hp)
        · refine Trips.app (hacc.up ?_) fun v hv => ?_
          · exact fun a xs h => tup_upd hD4 _ _ (tup_same s3 _ _ (tup_but hpu e3 _ _ h))
          · rw [List.mem_singleton.mp hv]
            exact ⟨t, _, _, _, rfl, tup_upd hD4 _ _ upd_same, by omega, ⟨by omega, by omega⟩, ⟨by omega, by omega⟩⟩
        · exact hvs.up fun a xs h => tup_upd hD4 _ _ (tup_same s3 _ _ (tup_but hpu e3 _ _ h))
      · rintro H2 ⟨acc, x, y, z, hD, hpu, hp, hlen2, hacc, hvs⟩
        refine ⟨p, D, vs, acc, rfl, rfl, hp, hD, ?_, fun l nl => ⟨l, vs ++ acc, _, x, y, z, rfl, (ne_of_none hpu nl).symm, upd_same, Same.new nl _ _ hpu, ?_, ?_⟩⟩
        · exact Nat.le_trans (show _ ≤ 60 by rw [hlen, hlen2]; omega) (by decide)
        · rw [List.length_append, hlen, hlen2]
          omega
        · exact Trips.app (hvs.up (tup_same (Same.new nl))) (hacc.up (tup_same (Same.new nl)))
    rintro σ H' ⟨p, vs, y6, x, y, z, rfl, hne, hp, hpu, hlen, hvs⟩
    refine ⟨_, rfl, _, rfl, pu, p, x, y, z, vs, rfl, hpu, SqL.of hp, by omega, fun ws p2 x y z H4 hperm np2 hp2 hpu4 e4 => ?_⟩
    have hws : Trips ws H4 := fun v hv => (hvs v (hperm.mem_iff.mp hv)).up (tup_but hpu e4)
    have wlen : ws.length ≤ 45 := by rw [hperm.length_eq, hlen]; omega
    clear hvs hperm hp e4 hpu hpu4
    refine ⟨z3, fun u1 n1 => ⟨z3, fun u2 n2 => ⟨z3, fun u3 n3 => ⟨z3, fun u4 n4 => ⟨z3, fun u5 n5 => ⟨z3, fun u6 n6 => ⟨(by show 6 ≤ sizeLine; decide), fun l6 nl6 => ?_⟩⟩⟩⟩⟩⟩⟩
    have s1 := Same.new (o := .tup [.int 12, .int 1, .int 3]) n1
    have s2 := Same.new (o := .tup [.int 12, .int 0, .int 3]) n2
    have s3 := Same.new (o := .tup [.int 3, .int 1, .int 3]) n3
    have s4 := Same.new (o := .tup [.int 4, .int 2, .int 2]) n4
    have s5 := Same.new (o := .tup [.int 13, .int 0, .int 0]) n5
    have s6 := Same.new (o := .tup [.int 1, .int 0, .int 3]) n6
    have s7 := Same.new (o := .lst [.ref u1, .ref u2, .ref u3, .ref u4, .ref u5, .ref u6]) nl6
    have q1 := s7 _ _ (s6 _ _ (s5 _ _ (s4 _ _ (s3 _ _ (s2 _ _ (upd_same (H := H4) (a := u1) (o := .tup [.int 12, .int 1, .int 3])))))))
    have q2 := s7 _ _ (s6 _ _ (s5 _ _ (s4 _ _ (s3 _ _ (upd_same (a := u2) (o := .tup [.int 12, .int 0, .int 3]))))))
    have q3 := s7 _ _ (s6 _ _ (s5 _ _ (s4 _ _ (upd_same (a := u3) (o := .tup [.int 3, .int 1, .int 3])))))
    have q4 := s7 _ _ (s6 _ _ (s5 _ _ (upd_same (a := u4) (o := .tup [.int 4, .int 2, .int 2]))))
    have q5 := s7 _ _ (s6 _ _ (upd_same (a := u5) (o := .tup [.int 13, .int 0, .int 0])))
    have q6 := s7 _ _ (upd_same (a := u6) (o := .tup [.int 1, .int 0, .int 3]))
    have q7 := upd_same (H := upd (upd (upd (upd (upd (upd H4 u1 (.tup [.int 12, .int 1, .int 3])) u2 (.tup [.int 12, .int 0, .int 3])) u3 (.tup [.int 3, .int 1, .int 3])) u4 (.tup [.int 4, .int 2, .int 2])) u5 (.tup [.int 13, .int 0, .int 0])) u6 (.tup [.int 1, .int 0, .int 3])) (a := l6) (o := .lst [.ref u1, .ref u2, .ref u3, .ref u4, .ref u5, .ref u6])
    have sa := (((((s1.trans s2).trans s3).trans s4).trans s5).trans s6).trans s7
    generalize upd (upd (upd (upd (upd (upd (upd H4 u1 (.tup [.int 12, .int 1, .int 3])) u2 (.tup [.int 12, .int 0, .int 3])) u3 (.tup [.int 3, .int 1, .int 3])) u4 (.tup [.int 4, .int 2, .int 2])) u5 (.tup [.int 13, .int 0, .int 0])) u6 (.tup [.int 1, .int 0, .int 3])) l6 (.lst [.ref u1, .ref u2, .ref u3, .ref u4, .ref u5, .ref u6]) = G5 at q1 q2 q3 q4 q5 q6 q7 sa
    clear s1 s2 s3 s4 s5 s6 s7 n1 n2 n3 n4 n5 n6 nl6
    have sm : ∀ {i : Int}, 0 ≤ i → i ≤ 1000 → Small i := fun h k => ⟨h, k⟩
    have six : Trips [.ref u1, .ref u2, .ref u3, .ref u4, .ref u5, .ref u6] G5 := fun v hv => by
      simp only [List.mem_cons, List.not_mem_nil, or_false] at hv
      rcases hv with rfl | rfl | rfl | rfl | rfl | rfl
      · exact ⟨_, _, _, _, rfl, q1, by decide, sm (by decide) (by decide), sm (by decide) (by decide)⟩
      · exact ⟨_, _, _, _, rfl, q2, by decide, sm (by decide) (by decide), sm (by decide) (by decide)⟩
      · exact ⟨_, _, _, _, rfl, q3, by decide, sm (by decide) (by decide), sm (by decide) (by decide)⟩
      · exact ⟨_, _, _, _, rfl, q4, by decide, sm (by decide) (by decide), sm (by decide) (by decide)⟩
      · exact ⟨_, _, _, _, rfl, q5, by decide, sm (by decide) (by decide), sm (by decide) (by decide)⟩
      · exact ⟨_, _, _, _, rfl, q6, by decide, sm (by decide) (by decide), sm (by decide) (by decide)⟩
    refine ⟨p2, l6, ws, _, rfl, rfl, sa _ _ hp2, q7, Nat.le_trans (show _ ≤ 60 by show ws.length + 6 ≤ 60; omega) (by decide), fun b nb => ?_⟩
    have all := ((hws.up (tup_same sa)).app six).up (tup_same (Same.new (o := .lst (ws ++ [.ref u1, .ref u2, .ref u3, .ref u4, .ref u5, .ref u6])) nb))
    have hb := upd_same (H := G5) (a := b) (o := .lst (ws ++ [.ref u1, .ref u2, .ref u3, .ref u4, .ref u5, .ref u6]))
    generalize upd G5 b (.lst (ws ++ [.ref u1, .ref u2, .ref u3, .ref u4, .ref u5, .ref u6])) = G6 at all hb
    generalize ws ++ [V.ref u1, .ref u2, .ref u3, .ref u4, .ref u5, .ref u6] = LS at all hb
    clear sa q1 q2 q3 q4 q5 q6 q7 six hws hp2 nb
    refine ⟨b, rfl, ⟨_, SqL.of hb⟩, for_list (K := K) (a := b) (xs := LS) (fun i σ H' => ∃ (y3 y6 y7 : Option V), σ = [some (.ref a), some (.ref pu), y2, y3, some (.int (1 + d)), some (.ref p), y6, y7, y8, y9] ∧ Same G6 H') ⟨_, _, _, rfl, Same.refl _⟩ (fun i σ H' _ ⟨_, _, _, _, e⟩ => SqL.of (e _ _ hb)) ?_ ?_⟩
    · rintro i v σ H5 hv ⟨y3, y6, y7, rfl, e⟩
      obtain ⟨r, m, f, g, rfl, hr, hm, hf, hg⟩ := (all v (List.mem_of_getElem? hv)).up (tup_same e)
      refine ⟨r, _, rfl, SqT.of hr, rfl, .int m, [.int f, .int g], rfl, .int f, [.int g], rfl, .int g, [], rfl, rfl, ?_⟩
      refine ⟨_, rfl, _, rfl, _, rfl, z3, fun t nt => ⟨"length", t, [m, f, g], _, rfl, SqT.of upd_same, .length hm hf hg, fun x1 H6 e6 h6 => ?_⟩⟩
      refine ⟨_, rfl, _, rfl, _, rfl, m, f, g, rfl, hm, hf, hg, fun x2 H7 e7 h7 => ⟨.ref x1, .ref x2, rfl, alike_pair (e7 _ _ h6) h7 (alike_length _ _ _), fun H8 e8 => ⟨true, rfl, ?_⟩⟩⟩
      exact iteF ⟨_, _, _, rfl, (((e.trans (Same.new nt)).trans e6).trans e7).trans e8⟩
    rintro σ H5 ⟨y3, y6, y7, rfl, e⟩
    exact q H5
end
end K24
namespace K24
open PySem PySem.Spec PyProof.Rows L2 Own
theorem ex_at {K : PySem.W.Frag} (h : ex K = true) (i : Nat) {b : Bool} (e : (exl K)[i]? = some b := by rfl) : b = true := List.all_eq_true.mp h b (List.mem_of_getElem? e)
theorem wired {P : Program} {w : World} {K : PySem.W.Frag} {h : Heap} {mg : Str → Option Value} {f : Addr} (c : Says fa fn ts ex w K h mg) (hfa : mg ("law" : Str) = some (.ref f)) :
    ∃ fd : FuncData, (∀ (s : Shared) (v : Value), BindsTo s fd ⟨[v], []⟩ [("script", v)]) ∧ ∀ base : Heap, FnOk P w K mg base CX0 7 f fd ["script"] (spLaw K) := by
  obtain ⟨fd, F⟩ := c.t.d.def_ 21 (d := dd21) rfl
  have e := hfa.symm.trans (c.glo 19)
  cases e
  have b := FunD.bindsA (ps := ["script"]) F fun _ _ _ _ _ _ us hl => match us, hl with | [_], _ => rfl
  refine ⟨fd, fun s v => b s [v] rfl, fun base => ?_⟩
  have T : Txt K mg := { z_len := c.free 20, z_abs := c.free 21, z_sum := c.free 22, z_isinstance := c.free 23, z_int := c.free 24, z_str := c.free 25, z_bool := c.free 26, z_list := c.free 27, z_tuple := c.free 28, z_min := c.free 29, z_range := c.free 30 }
  have B := baseB_ok (ex_at c.own 0)
  have L : Lim K w mg := lim_of c (c.glo 31) (ex_at c.own 11)
  have X_TooMany : XCl P w K mg base "TooMany" "what" := xc_TooMany (c.glo 32) B (c.glo 33) (oexB_ok (ex_at c.own 1)) (xfB_ok (ex_at c.own 2)) (He.noat_ok (x := "TooMany") (f := "what") (c.t.d.fact 37 rfl)) (He.meth_ok (x := "TooMany") (m := "__init__") (c.t.d.fact 36 rfl)) (c.t.d.def_ 0 (d := dd0) rfl)
  have X_NotTold : XCl P w K mg base "NotTold" "what" := xc_NotTold (c.glo 32) B (c.glo 34) (oexB_ok (ex_at c.own 3)) (xfB_ok (ex_at c.own 4)) (He.noat_ok (x := "NotTold") (f := "what") (c.t.d.fact 39 rfl)) (He.meth_ok (x := "NotTold") (m := "__init__") (c.t.d.fact 38 rfl)) (c.t.d.def_ 1 (d := dd1) rfl)
  have c_FARTHEST := c.int (x := "FARTHEST") (z := 8) 35
  have D_check_sizes : Dn K mg "check_sizes" s_check_sizes := c.dn 0 2
  have D_check_within : Dn K mg "check_within" s_check_within := c.dn 1 3
  have D_check_code : Dn K mg "check_code" s_check_code := c.dn 2 4
  have D_sum_words : Dn K mg "sum_words" s_sum_words := c.dn 3 5
  have D_code_length : Dn K mg "code_length" s_code_length := c.dn 4 6
  have D_looks_length : Dn K mg "looks_length" s_looks_length := c.dn 5 7
  have D_least_looks : Dn K mg "least_looks" s_least_looks := c.dn 6 8
  have D_turn_length : Dn K mg "turn_length" s_turn_length := c.dn 7 9
  have D_turn_looks : Dn K mg "turn_looks" s_turn_looks := c.dn 8 10
  have D_law_code_due : Dn K mg "_law_code_due" s_law_code_due := c.dn 9 11
  have D_law_looks_due : Dn K mg "_law_looks_due" s_law_looks_due := c.dn 10 12
  have D_law_mix : Dn K mg "_law_mix" s_law_mix := c.dn 11 13
  have D_law_matches : Dn K mg "_law_matches" s_law_matches := c.dn 12 14
  have D_law_purse : Dn K mg "_law_purse" s_law_purse := c.dn 13 15
  have D_law_draw : Dn K mg "_law_draw" s_law_draw := c.dn 14 16
  have D_law_said : Dn K mg "_law_said" s_law_said := c.dn 15 17
  have D_law_least_sum : Dn K mg "_law_least_sum" s_law_least_sum := c.dn 16 18
  have D_law_looks_said : Dn K mg "_law_looks_said" s_law_looks_said := c.dn 17 19
  have D_law_turn_due : Dn K mg "_law_turn_due" s_law_turn_due := c.dn 18 20
  have M : Exm K := ⟨(of_decide_eq_true (ex_at c.own 5)), (of_decide_eq_true (ex_at c.own 8)), (of_decide_eq_true (ex_at c.own 9))⟩
  have C_draw : Cal P w K mg base 1 _ spDraw := ok_draw T D_law_draw
  have C_purse : Cal P w K mg base 1 _ (spPurse K) := ok_purse T D_law_purse
  have C_mix := ok_mix T D_law_mix C_draw
  have C_sizes := ok_sizes (P := P) (base := base) T L X_TooMany D_check_sizes
  have C_within := ok_within T X_TooMany D_check_within
  have C_check := ok_check_code T c_FARTHEST D_check_code C_sizes C_within
  have C_words : Cal P w K mg base 1 _ spSumWords := ok_sum_words T D_sum_words
  have C_length := ok_code_length T D_code_length C_words
  have C_codedue : Cal P w K mg base 1 _ spCodeDue := ok_code_due T D_law_code_due
  have C_looks : Cal P w K mg base 1 _ spLooks := ok_looks T D_looks_length
  have C_looksdue : Cal P w K mg base 1 _ spLooks := ok_looks_due T D_law_looks_due
  have C_least := ok_least_looks T c_FARTHEST D_least_looks C_within C_looks
  have C_tlooks := ok_turn_looks T c_FARTHEST D_turn_looks C_within C_looks
  have C_tlength := ok_turn_length T X_NotTold D_turn_length C_check C_length
  have C_said := ok_said T M X_TooMany X_NotTold D_law_said C_least C_tlength C_tlooks
  have C_sum : Cal P w K mg base 1 _ spLeastSum := ok_least_sum T D_law_least_sum
  exact ok_law T F C_purse (C_draw.imp drawB_of) C_mix (ok_matches T D_law_matches 1) C_said (ok_looks_said T D_law_looks_said C_looksdue) (ok_turn_due T D_law_turn_due C_codedue) C_looksdue C_sum
end K24
open PySem PySem.W PySem.Calls PyProof.Rows
theorem PySem.Challenge.cw_oneunseen_k24_fewest_looks_by_all_rows_holds : PySem.Challenge.rw_oneunseen_k24_fewest_looks_by_all_rows.Holds := by
  w_on; o_law
  refine HandSHeadRun.head_any (r := OpenLaw.row PySem.Challenge.rw_oneunseen_k24_fewest_looks_by_all_rows) (q := view (OpenLaw.row PySem.Challenge.rw_oneunseen_k24_fewest_looks_by_all_rows).prog [28]) (H := K24.hk) (ob := K24.ob) (M := 6000) (loose := K24.loose) (d := HandSHeadRun.topDef (OpenLaw.row PySem.Challenge.rw_oneunseen_k24_fewest_looks_by_all_rows).prog 28) (kwd := []) K24.ob_eq
    (by kernel_rfl) (fun s => by kernel_rfl) K24.run (by kernel_rfl) (by kernel_rfl) (by kernel_rfl) (by rfl) (by first | assumption | decide +kernel) (by decide +kernel) ⟨rfl, rfl, rfl, rfl, rfl, by decide +kernel⟩ ?hw ?hc
  case hw => w_witness2
  case hc =>
    refine L2.walk_ofE (l := PySem.Challenge.rw_oneunseen_k24_fewest_looks_by_all_rows) (n := 63) (k := 7) (x := "script") (CX := L2.CX0) rfl (by decide) (by kernel_rfl) ⟨rfl, by decide, by decide⟩ ?F (fun _ _ _ _ z => z)
    intro w mg fa h Y G hmg0
    obtain ⟨K, KX, c⟩ := Y
    have hmg : mg ("law" : PySem.Str) = some (.ref fa) := by
      have e : (HandSHeadRun.topDef (OpenLaw.row PySem.Challenge.rw_oneunseen_k24_fewest_looks_by_all_rows).prog 28).name = ("law" : PySem.Str) := by kernel_rfl
      rw [← e]
      exact hmg0
    obtain ⟨fd, hb, hF⟩ := K24.wired (P := (PySem.Challenge.rw_oneunseen_k24_fewest_looks_by_all_rows).prog) (w := w) ⟨KX, G, c⟩ hmg
    exact ⟨K, fd, K24.spLaw K, KX, hb, fun H a ns hl _ hS => ⟨a, ns, rfl, hS, hl, fun _ => rfl⟩, fun base _ _ => hF base⟩
namespace K24
end K24
