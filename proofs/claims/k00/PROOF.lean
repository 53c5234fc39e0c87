import PyProof.Rows.All
import PySem.Challenge.RW_dimkeeper_k00_errors_keep_their_fields
import Wide.All
import OpenK.AllK
import Wide.FinOn
import PyProof.EqAt
import PyProof.EqKinds
import PyProof.TupleCall
import PyProof.ReprRoads
import PyProof.Draws
import PyProof.EnumMake
import PyProof.EnumFor
import HandS.ForMost
import HandS.Wide
import HandS.IsInst
import HandS.Walk
import HandS.Star
import HandS.Exc
import KE.KExcIs
import HandS.ExcOwn
import HandS.ExcInit
import HandS.ExcField
import HandS.ExcIs
import HandS.WordsExc
import HandS.ExcValue
import HandS.RaiseMore
import HandS.Ends
import HandS.Head0
import HandS.Head1
import HandS.Head2
import HandS.HeadEnd
import HandS.HeadHook1
import HandS.Codes
set_option Elab.async false
set_option linter.all false
set_option maxRecDepth 100000
set_option maxHeartbeats 4000000
/-! Rules that the layer lacks: repr of data, enumerate of a text, defs that are called where no repr is under way. -/
namespace MyL
open PySem PySem.Spec PyProof.Rows L2

/-- an invariant, closed to the stepper -/
@[irreducible] def Iv (p : Prop) : Prop := p
theorem Iv.mk {p : Prop} (h : p) : Iv p := by unfold Iv; exact h
theorem Iv.out {p : Prop} (h : Iv p) : p := by unfold Iv at h; exact h
/-! ### repr of data without dicts -/
def rRepr (K : PySem.W.Frag) : List V → Hp → VK → Prop := fun xs H Q => ∃ (a : Addr) (d : PyData), xs = [.ref a] ∧ Dp K H (.ref a) d ∧ d.showable = true ∧ d.hasDict = false ∧ d.depth ≤ 60 ∧ d.shown.length ≤ sizeLine ∧ Q (.str d.shown) H
theorem call_repr_data {X : Cx} (hg : X.A.guards = some []) (hu : X.A.units + 64 < cLine) : CallR X (.builtin "repr") (rRepr X.K) := by
  intro pins s σ H xs us Q I r h
  obtain ⟨a, d, rfl, hd, hs, hn, hz, hl, q⟩ := h
  obtain ⟨u, rfl, ru⟩ := vals1 r
  obtain rfl : u = Value.ref a := ru
  obtain ⟨as, rd⟩ := Dp.reads I d _ (.ref a) hd rfl
  refine repr_of_reads' rd hs (PyData.noDict_hsm hn) hg (by omega) (fun b o e => e) (fun h' u tk hk => ?_) hl
  exact ⟨.str d.shown, H, I.kept (t' := tk) hk, ⟨u, rfl⟩, q⟩

/-! ### enumerate over a text -/
def Ites (x : Str) : It :=
  ⟨fun i _ => i < x.cps.size, fun i H v H' => ∃ T c, v = .ref T ∧ H T = none ∧ H' = upd H T (.tup [.int (i : Nat), .str ⟨#[c]⟩]) ∧ x.cps[i]? = some c, fun i _ => i = x.cps.size⟩
theorem turn_enum_str {P : Program} {w : World} {K : PySem.W.Frag} {elts : List Expr} {kk : Nat} {tpos : Pos} (x : Str) (t : Tok) (ty : String) (hty : ty = "str_ascii_iterator" ∨ ty = "str_iterator") (e it : Addr) :
    Turn P w K (.Tuple elts kk tpos) (Ites x) [e, it] e (fun i h => (∃ old, IsEnum h e it ((i : Nat) : Int) old) ∧ h.IsStrIter it ty x t i ∧ e ≠ it) where
  mem := by simp
  obj := by
    rintro i h ⟨⟨old, he⟩, ⟨o, ho, _, hd⟩, _⟩ b hb
    rcases (show b = e ∨ b = it by simpa using hb) with rfl | rfl
    · exact ⟨_, he, fun v z => nomatch z⟩
    · exact ⟨o, ho, fun v z => by rw [hd] at z; cases z⟩
  keep := by
    rintro i h h' ⟨⟨old, he⟩, ⟨o, ho, hr⟩, hne⟩ k
    exact ⟨⟨old, k e (by simp) _ he⟩, ⟨o, k it (by simp) o ho, hr⟩, hne⟩
  item := by
    intro X hP hw hK hc i pins s σ H E I hf st hg
    subst hP hw hK
    obtain ⟨⟨old, he⟩, hit, hne⟩ := st
    have lt1 : e < s.heap.objs.size := Heap.lt_size he
    have lt2 : it < s.heap.objs.size := by
      obtain ⟨_, z, _⟩ := id hit
      exact Heap.lt_size z
    have D : Draws X.prog X.w X.A.in1 it [it] x.cps.size (fun i v => ∃ c u, x.cps[i]? = some c ∧ v = .str ⟨#[c]⟩ u) (fun i h => h.IsStrIter it ty x t i) := by
      rcases hty with rfl | rfl
      · exact Draws.strAscii (A := X.A.in1) (I.ok.hd hc) it x t
      · exact Draws.strWide (A := X.A.in1) (I.ok.hd hc) it x t
    refine wpAny_pyNext_enum_itemD D he hit hg hne (by simpa using hne) fun v h' tk hv ho hit' hT hsz hk => ?_
    obtain ⟨c, u, hcx, rfl⟩ := hv
    refine ⟨_, rfl, wpAny_letOwnedTupleGo_enum (s := { s with heap := h', toks := tk + 1 }) ho fun h2 he2 sb => ?_⟩
    have hT2 := (sb.2 _ (Nat.ne_of_gt lt1)).trans hT
    have nw : ObjOk X.prog X.w (upd H s.heap.objs.size (.tup [.int (i : Nat), .str ⟨#[c]⟩])) h2 s.heap.objs.size (.tup [.int (i : Nat), .str ⟨#[c]⟩]) :=
      ⟨by show 2 ≤ sizeLine; decide, [.int i tk, .str ⟨#[c]⟩ u], .cons ⟨_, rfl⟩ (.cons ⟨_, rfl⟩ .nil), ⟨_, hT2, rfl, _, rfl⟩⟩
    have J : Inv X pins σ (upd H s.heap.objs.size (.tup [.int (i : Nat), .str ⟨#[c]⟩])) { s with heap := h2, toks := tk + 1 } := by
      refine I.turnedNew (t' := tk + 1) (ch := [e, it]) (fun b ob hb q => ?_) hf (Nat.le_refl _) nw
      have b1 : b ≠ e := fun z => hb (by simp [z])
      have b2 : b ≠ it := fun z => hb (by simp [z])
      exact (sb.2 b b1).trans (hk b ob b1 b2 q)
    refine ⟨.ref s.heap.objs.size, _, J, rfl, ⟨_, c, rfl, I.hok.fresh (Nat.le_refl _), rfl, hcx⟩, ⟨⟨.str ⟨#[c]⟩ u, ?_⟩, ?_, hne⟩, fun b hb => ?_⟩
    · have e1 : ((i + 1 : Nat) : Int) = (i : Int) + 1 := by omega
      rw [e1]
      exact he2
    · obtain ⟨o, ho2, hr⟩ := hit'
      exact ⟨o, (sb.2 it (Ne.symm hne)).trans ho2, hr⟩
    · have lb : b < s.heap.objs.size := by
        rcases (show b = e ∨ b = it by simpa using hb) with rfl | rfl
        · exact lt1
        · exact lt2
      rw [upd_ne (Nat.ne_of_lt lb)]
      exact (hf b hb).1
  done := by
    intro X hP hw hK hc i pins s σ H E I hf st hg
    subst hP hw hK
    obtain ⟨⟨old, he⟩, hit, hne⟩ := st
    obtain ⟨f0, f1, f2, f3, f4, f5⟩ := hf it (by simp)
    have D : Draws X.prog X.w X.A.in1 it [it] x.cps.size (fun i v => ∃ c u, x.cps[i]? = some c ∧ v = .str ⟨#[c]⟩ u) (fun i h => h.IsStrIter it ty x t i) := by
      rcases hty with rfl | rfl
      · exact Draws.strAscii (A := X.A.in1) (I.ok.hd hc) it x t
      · exact Draws.strWide (A := X.A.in1) (I.ok.hd hc) it x t
    have ei : i = x.cps.size := hg
    subst ei
    exact wpAny_pyNext_enum_endD D he hit fun h' eb => ⟨rfl, I.turned (t' := s.toks) (fun b o hb q => eb b o hb q) f0 f1 f3 f4 f5⟩
  self := fun A i s Q E st h => let ⟨⟨_, he⟩, _⟩ := st; wpAny_pyIter_enum he h

def iEnumS (ta : TA) : TI := fun σ H R => ta σ H fun vs H1 => ∃ x : Str, vs = [.str x] ∧ R (Ites x) H1
theorem pi_enum_str {X : Cx} {e : Expr} {ta : TA} {p pos tpos : Pos} {elts : List Expr} {kk : Nat} (hg : Gl X "enumerate") (hm : X.mg "enumerate" = none) (ha : PA X [e] ta) (hs : starEach [e] X.env = [(false, eval e X.env)] := by rfl) :
    PI X (.Tuple elts kk tpos) (.Call (.Name "enumerate" p) [e] [] pos) (iEnumS ta) := by
  refine ⟨fun pins s σ H R I h => ?_⟩
  refine Call_ (ld_blt I hg hm boot_enumerate (PyProof.Rows.callWith_type1 ?_ hs rfl))
  refine thn (ha.run pos pins s σ H _ I h) fun us s1 ⟨vs, H1, I1, r1, x, ex, q⟩ => ?_
  subst ex
  obtain ⟨u, rfl, ru⟩ := vals1 r1
  obtain ⟨t, rfl⟩ := ru
  refine call_enumerate_str fun h' he hit hsz hk => wpAny_pyIter_enum he ?_
  have hty : strIterType x = "str_ascii_iterator" ∨ strIterType x = "str_iterator" := by
    unfold strIterType
    split
    · exact .inl rfl
    · exact .inr rfl
  refine ⟨s1.heap.objs.size + 1, [s1.heap.objs.size + 1, s1.heap.objs.size], _, _, H1, rfl, I1.kept (t' := s1.toks) hk, turn_enum_str x t _ hty (s1.heap.objs.size + 1) s1.heap.objs.size, ⟨⟨.none, he⟩, hit, Nat.succ_ne_self _⟩, fun b hb => ?_, q⟩
  have hle : s1.heap.objs.size ≤ b := by
    rcases (show b = s1.heap.objs.size + 1 ∨ b = s1.heap.objs.size by simpa using hb) with z | z
    · rw [z]; exact Nat.le_add_right _ _
    · rw [z]; exact Nat.le_refl _
  exact I1.fpOk hle (I1.hok.fresh hle)
theorem walk_enum_str {x : Str} : Walk (Ites x) x.cps.size (fun _ => True) (YPair (fun i => some (.int (i : Nat))) (fun i => (x.cps[i]?).map fun c => .str ⟨#[c]⟩)) := by
  refine ⟨fun _ _ hi _ => hi, fun _ _ => rfl, fun i H v H' _ _ y => ?_⟩
  obtain ⟨T, c, h1, h2, h3, h4⟩ := y
  exact ⟨T, .int (i : Nat), .str ⟨#[c]⟩, h1, h2, h3, rfl, (by show (x.cps[i]?).map _ = _; rw [h4] <;> rfl)⟩

/-! ### defs that want to know that no repr is under way -/
def FnG (P : Program) (w : World) (K : PySem.W.Frag) (mg : Str → Option Value) (base : Heap) (CX : CXT) (k : Nat) (f : Addr) (sp : Sp) : Prop :=
  ∀ (A : Around) (outer : List Env) (s : Shared) (H : Hp) (us : List Value) (vs : List V) (Q : VK) (E : XK), Room k A → A.guards = some [] → Env0 P w K mg base A outer s H → Vals vs us → sp vs H Q E →
    codeAny (model P w) A (.call (.ref f) ⟨us, []⟩) (CR CX outer P w H s Q E) s
section
variable {P : Program} {w : World} {K : PySem.W.Frag} {mg : Str → Option Value} {base : Heap} {CX : CXT} {k : Nat} {f : Addr} {sp : Sp}
theorem FnG.mono {j : Nat} (F : FnG P w K mg base CX j f sp) (h : j ≤ k) : FnG P w K mg base CX k f sp := fun A outer s H us vs Q E hr hg => F A outer s H us vs Q E (hr.mono h) hg
/-- a def of the text, by its body -/
theorem Fun_okG {x qual : Str} {st : Stmt} {fd : FuncData} {N ps : List Str} (F : Fun K x qual st f fd) (S : FnScope N ps (defScope st)) (len : ∀ vs H Q E, sp vs H Q E → vs.length = ps.length)
    (hb : ∀ (kV doc pm : Value) (an : Option Addr) (cdv ct : Value) (us : List Value), us.length = ps.length → bindArgs (PySem.W.fnOf x qual (defArgs st) (defBody st) (defScope st) .none kV doc pm an cdv ct) ⟨us, []⟩ = pure (ps.zip us))
    (hbody : ∀ (cdv : Value) (A : Around) (outer : List Env) (s : Shared) (H : Hp) (vs : List V) (Q : VK) (E : XK), Room k (A.deeper (envOfC qual (defScope st) s.heap.objs.size f cdv)) → A.guards = some [] → sp vs H Q E →
      ∃ t, PSs (cxOf CX P w K mg base N qual (defScope st) f cdv A outer s H E) (defBody st) t ∧ t { nx := fun _ H' => Q .non H', rt := Q } (start N vs) H) : FnG P w K mg base CX (k + 1) f sp := by
  obtain ⟨oc, od, kV, doc, pm, an, cdv, ct, osl, rfl, lk, hcd⟩ := F.ex
  intro A outer s H us vs Q E hr hg e0 r hsp
  have hl := len _ _ _ _ hsp
  have hul : us.length = ps.length := by rw [← r.length]; exact hl
  refine StX.run_bnd lk hcd S hr e0 (G := fun xs H2 => xs = vs ∧ H2 = H) (fun A' Ex Q' h => ?_) fun s2 H2 xs ⟨e1, e2⟩ hr' => ?_
  · rw [hb kV doc pm an cdv ct us hul]
    exact wpAny_pure (h s H vs us e0 Un.refl rfl (fun e s' z => z) r hl ⟨rfl, rfl⟩)
  · subst e1 e2
    exact hbody cdv A outer s2 _ _ Q E hr' hg hsp
end
section
variable {P : Program} {w : World} {K : PySem.W.Frag} {mg : Str → Option Value} {base : Heap} {CX : CXT} {k : Nat} {f : Addr} {sp : Sp}
/-- .. for a def that no exception leaves -/
theorem Fun_okN {x qual : Str} {st : Stmt} {fd : FuncData} {N ps : List Str} (F : Fun K x qual st f fd) (S : FnScope N ps (defScope st)) (len : ∀ vs H Q E, sp vs H Q E → vs.length = ps.length)
    (hb : ∀ (kV doc pm : Value) (an : Option Addr) (cdv ct : Value) (us : List Value), us.length = ps.length → bindArgs (PySem.W.fnOf x qual (defArgs st) (defBody st) (defScope st) .none kV doc pm an cdv ct) ⟨us, []⟩ = pure (ps.zip us))
    (hbody : ∀ (cdv : Value) (A : Around) (outer : List Env) (s : Shared) (H : Hp) (vs : List V) (Q : VK) (E : XK), Room k (A.deeper (envOfC qual (defScope st) s.heap.objs.size f cdv)) → A.guards = some [] → sp vs H Q E →
      ∃ t, PSs (cxOf CX P w K mg base N qual (defScope st) f cdv A outer s H E).nox (defBody st) t ∧ t { nx := fun _ H' => Q .non H', rt := Q } (start N vs) H) : FnG P w K mg base CX (k + 1) f sp := by
  refine Fun_okG F S len hb fun cdv A outer s H vs Q E hr hg h => ?_
  obtain ⟨t, ht, hq⟩ := hbody cdv A outer s H vs Q E hr hg h
  exact ⟨t, ht.nox, hq⟩
end
section
variable {X : Cx} {CX : CXT} {k : Nat} {f : Addr} {sp : Sp} {E : XK} {x : Str} {p pos : Pos} {e : Expr} {es : List Expr} {t : TA}
def tCallG (sp : Sp) (E : XK) (t : TA) : TE := fun σ H Q => t σ H fun vs H1 => Iv (sp vs H1 Q E)
theorem pe_callGd (F : FnG X.prog X.w X.K X.mg X.base CX k f sp) (hr : Room k X.A) (hgd : X.A.guards = some []) (hg : Gl X x) (hm : X.mg x = some (.ref f)) (hk : PySem.W.keepIn X.K (.ref f) = true) (hx : Passes CX X E) (ha : PA X (e :: es) t)
    (hdb : (x == ("__debug__" : Str)) = false := by decide) (he : starEach (e :: es) X.env = (false, eval e X.env) :: starEach es X.env := by rfl) (hpl : (backTo pos (starEach es X.env)).any (·.1) = false := by rfl) :
    PE X (.Call (.Name x p) (e :: es) [] pos) (tCallG sp E t) := by
  refine ⟨fun pins s σ H Q I h => ?_⟩
  refine wpAny_Call_Name_kw (ld_glob I hg hm ?_ hdb)
  refine PySem.W.callWith_K (h₀ := X.base) I.ok.mod.kin hk ?_ he hpl
  refine thn (ha.run pos pins s σ H _ I h) fun us s1 ⟨vs, H1, I1, r, q⟩ => ⟨I1.kIn, ?_⟩
  refine wpAny_call (codeAny_mono (F X.A X.stack s1 H1 us vs Q E hr hgd I1.env0 r q.out) fun r' s' hq => ?_)
  cases r' with
  | error er => exact hx pins σ H1 s1 er s' I1 hq
  | ok fl =>
    cases fl with
    | ret u => exact I1.after hq
    | next => exact False.elim hq
    | brk => exact False.elim hq
    | cont => exact False.elim hq
end

/-! ### heaps, what draws -/
/-- all but what stands at w is as it was -/
def Kp (w : Addr) (H H' : Hp) : Prop := ∀ b o, b ≠ w → H b = some o → H' b = some o
theorem Kp.refl (w : Addr) (H : Hp) : Kp w H H := fun _ _ _ h => h
theorem Kp.trans {w : Addr} {H H1 H2 : Hp} (a : Kp w H H1) (b : Kp w H1 H2) : Kp w H H2 := fun c o n h => b c o n (a c o n h)
theorem Kp.put {w : Addr} {H H' : Hp} {o : HO} (a : Kp w H H') : Kp w H (upd H' w o) := fun b u n h => by rw [upd_ne n]; exact a b u n h
theorem Kp.get {w : Addr} {H H' : Hp} {b : Addr} {o : HO} (a : Kp w H H') (n : b ≠ w) (h : H b = some o) : H' b = some o := a b o n h
theorem Kp.new {w : Addr} {H H' : Hp} {p : Addr} {o : HO} (a : Kp w H H') (n : H' p = none) : Kp w H (upd H' p o) := fun b u nb h => by
  have e := a b u nb h
  rw [upd_ne (ne_of_none e n)]
  exact e
theorem Kp.of_same {w : Addr} {H H' : Hp} (a : Same H H') : Kp w H H' := fun b o _ h => a b o h
theorem Kp.free {w : Addr} {H H' : Hp} {p : Addr} (a : Kp w H H') (hw : ∃ o, H' w = some o) (n : H' p = none) : H p = none := by
  cases e : H p with
  | none => rfl
  | some o =>
    have np : p ≠ w := fun z => by
      obtain ⟨u, hu⟩ := hw
      rw [z, hu] at n
      cases n
    rw [a p o np e] at n
    cases n
theorem Same.get {H H' : Hp} {b : Addr} {o : HO} (a : Same H H') (h : H b = some o) : H' b = some o := a b o h
theorem Same.new {H H' : Hp} {p : Addr} {o : HO} (a : Same H H') (n : H' p = none) : Same H (upd H' p o) := fun b u h => by
  have e := a b u h
  rw [upd_ne (ne_of_none e n)]
  exact e
/-- an own new object is written -/
theorem Same.put {H H' : Hp} {p : Addr} {o : HO} (a : Same H H') (n : H p = none) : Same H (upd H' p o) := fun b u h => by
  rw [upd_ne (ne_of_none h n)]
  exact a b u h
theorem Kp.put2 {w : Addr} {H H' : Hp} {p : Addr} {o : HO} (a : Kp w H H') (n : H p = none) : Kp w H (upd H' p o) := fun b u nb h => by
  rw [upd_ne (ne_of_none h n)]
  exact a b u nb h
/-- what draws: where it stands, where its cells stand, the cells -/
structure Wl where
  (w c : Addr) (cs : List Int)
/-- .. the cells, how many were begun (at most n), the rest -/
def WellAt (H : Hp) (W : Wl) (n : Nat) : Prop := ∃ (b r : Int), H W.w = some (.lst [.ref W.c, .int b, .int r]) ∧ H W.c = some (.lst (W.cs.map V.int)) ∧ W.c ≠ W.w ∧ W.cs.length ≤ 63 ∧ 0 ≤ b ∧ b ≤ n
theorem WellAt.mono {H : Hp} {W : Wl} {n m : Nat} (h : WellAt H W n) (l : n ≤ m) : WellAt H W m := by
  obtain ⟨b, r, h1, h2, h3, h4, h5, h6⟩ := h
  exact ⟨b, r, h1, h2, h3, h4, h5, by omega⟩
theorem WellAt.same {H H' : Hp} {W : Wl} {n : Nat} (h : WellAt H W n) (k : Same H H') : WellAt H' W n := by
  obtain ⟨b, r, h1, h2, h3⟩ := h
  exact ⟨b, r, k _ _ h1, k _ _ h2, h3⟩
theorem WellAt.at {H : Hp} {W : Wl} {n : Nat} (h : WellAt H W n) : ∃ o, H W.w = some o := by
  obtain ⟨b, r, h1, _⟩ := h
  exact ⟨_, h1⟩
theorem WellAt.ne {H : Hp} {W : Wl} {n : Nat} (h : WellAt H W n) {p : Addr} (hp : H p = none) : p ≠ W.w ∧ p ≠ W.c := by
  obtain ⟨b, r, h1, h2, _⟩ := h
  exact ⟨Ne.symm (ne_of_none h1 hp), Ne.symm (ne_of_none h2 hp)⟩
theorem WellAt.put {H : Hp} {W : Wl} {n : Nat} (h : WellAt H W n) {p : Addr} {o : HO} (hp : p ≠ W.w ∧ p ≠ W.c) : WellAt (upd H p o) W n := by
  obtain ⟨b, r, h1, h2, h3⟩ := h
  exact ⟨b, r, by rw [upd_ne (Ne.symm hp.1)]; exact h1, by rw [upd_ne (Ne.symm hp.2)]; exact h2, h3⟩
theorem WellAt.new {H : Hp} {W : Wl} {n : Nat} (h : WellAt H W n) {p : Addr} {o : HO} (hp : H p = none) : WellAt (upd H p o) W n := h.put (h.ne hp)
def spDip : Sp := fun vs H Q _ => ∃ (W : Wl) (many : Int) (n : Nat), vs = [.ref W.w, .int many] ∧ WellAt H W n ∧ n < 1000000 ∧ 0 < many ∧ many.natAbs < 2 ^ 300 ∧
  ∀ H' r, 0 ≤ r → r < many → WellAt H' W (n + 1) → Kp W.w H H' → Q (.int r) H'
theorem pow_lt {a b : Int} (h0 : 0 ≤ a) (h : a < b) (hb : b ≤ 2 ^ 64) : a.natAbs < 2 ^ 64 := by omega
/-- the numbers that the draw reckons with stay small -/
theorem draw_one {x b c1 c2 : Int} (hx0 : 0 ≤ x) (hx : x < 2147483543) (hb0 : 0 ≤ b) (hb : b < 1000000) (h1 : 0 ≤ c1) (h1' : c1 < 1000000) (h2 : 0 ≤ c2) (h2' : c2 < 1000000) : (x + c1 * b + c2).natAbs < 2 ^ 64 := by
  have h3 : 0 ≤ c1 * b := Int.mul_nonneg h1 hb0
  have h4 : c1 * b ≤ 1000000 * 1000000 := Int.mul_le_mul (by omega) (by omega) hb0 (by decide)
  omega
theorem draw_two {x b c1 c2 : Int} (hx0 : 0 ≤ x) (hx : x < 2147483647) (hb0 : 0 ≤ b) (hb : b < 1000000) (h1 : 0 ≤ c1) (h1' : c1 < 1000000) (h2 : 0 ≤ c2) (h2' : c2 < 1000000) : (x * (2 * b + 1301) + c1 * b * b + c2).natAbs < 2 ^ 64 := by
  have h3 : 0 ≤ x * (2 * b + 1301) := Int.mul_nonneg hx0 (by omega)
  have h4 : x * (2 * b + 1301) ≤ 2147483647 * 2001301 := Int.mul_le_mul (by omega) (by omega) (by omega) (by decide)
  have h5 : 0 ≤ c1 * b := Int.mul_nonneg h1 hb0
  have h6 : c1 * b ≤ 1000000 * 1000000 := Int.mul_le_mul (by omega) (by omega) hb0 (by decide)
  have h7 : 0 ≤ c1 * b * b := Int.mul_nonneg h5 hb0
  have h8 : c1 * b * b ≤ 1000000000000 * 1000000 := Int.mul_le_mul (by omega) (by omega) hb0 (by decide)
  omega

theorem ne_new {H : Hp} {a b : Addr} {o : HO} (n : H b = none) (h : H a = some o) : a ≠ b := ne_of_none h n
theorem upd_new {H : Hp} {a b : Addr} {o u : HO} (n : H b = none) (h : H a = some o) : upd H b u a = some o := by
  rw [upd_ne (ne_of_none h n)]
  exact h
theorem ne_new' {H : Hp} {a b : Addr} {o : HO} (n : H b = none) (h : H a = some o) : b ≠ a := Ne.symm (ne_of_none h n)
/-! ### data of flat items -/
/-- a flat value's datum -/
def flatD : V → Option PyData
  | .non => some .none
  | .bl b => some (.bool b)
  | .int i => some (.int i)
  | .str x => some (.str x)
  | _ => none
theorem dp_flat {K : PySem.W.Frag} {H : Hp} : ∀ {v : V} {d : PyData}, flatD v = some d → Dp K H v d
  | .non, _, h => by cases h; exact .non
  | .bl b, _, h => by cases h; exact .bl b
  | .int i, _, h => by cases h; exact .int i
  | .str x, _, h => by cases h; exact .str x
  | .byt _, _, h => by cases h
  | .flt _, _, h => by cases h
  | .ref _, _, h => by cases h
  | .ty _, _, h => by cases h
theorem dpAll_ints {K : PySem.W.Frag} {H : Hp} : ∀ ns : List Int, DpAll K H (ns.map V.int) (ns.map PyData.int)
  | [] => .nil
  | n :: ns => .cons (.int n) (dpAll_ints ns)
theorem dpAll_strs {K : PySem.W.Frag} {H : Hp} : ∀ zs : List Str, DpAll K H (zs.map V.str) (zs.map PyData.str)
  | [] => .nil
  | z :: zs => .cons (.str z) (dpAll_strs zs)
theorem canLay_ints : ∀ ns : List Int, PyData.canLayAll0 (ns.map PyData.int) = true
  | [] => rfl
  | n :: ns => by
    simp only [List.map_cons, PyData.canLayAll0, PyData.canLay0, canLay_ints ns, Bool.and_self]
theorem canLay_strs : ∀ zs : List Str, (∀ z ∈ zs, PyData.strOk z = true) → PyData.canLayAll0 (zs.map PyData.str) = true
  | [], _ => rfl
  | z :: zs, h => by
    simp only [List.map_cons, PyData.canLayAll0, PyData.canLay0, canLay_strs zs (fun y hy => h y (List.mem_cons_of_mem _ hy)), h z List.mem_cons_self, Bool.and_self]
theorem depth_ints : ∀ ns : List Int, PyData.depthAll (ns.map PyData.int) = 0
  | [] => rfl
  | n :: ns => by
    simp only [List.map_cons, PyData.depthAll, PyData.depth, depth_ints ns]
    rfl
theorem depth_strs : ∀ zs : List Str, PyData.depthAll (zs.map PyData.str) = 0
  | [] => rfl
  | z :: zs => by
    simp only [List.map_cons, PyData.depthAll, PyData.depth, depth_strs zs]
    rfl
theorem shaped_ints (ns : List Int) : SeqAt.shaped (.list (ns.map PyData.int)) = true := by
  unfold SeqAt.shaped
  simp only [PyData.canLay0, canLay_ints, PyData.depth, depth_ints]
  rfl
theorem shaped_strs (zs : List Str) (h : ∀ z ∈ zs, PyData.strOk z = true) : SeqAt.shaped (.list (zs.map PyData.str)) = true := by
  unfold SeqAt.shaped
  simp only [PyData.canLay0, canLay_strs zs h, PyData.depth, depth_strs]
  rfl
theorem eqv_nil : ∀ ds : List PyData, PyData.eqv (.list ds) (.list []) = ds.isEmpty
  | [] => rfl
  | _ :: _ => rfl
theorem shaped_nil : SeqAt.shaped (.list []) = true := by decide +kernel
theorem at_mod_ints {cs : List Int} (b : Int) (h : 0 < cs.length) : ∃ (j : Nat) (x : Int), j < cs.length ∧ atI (cs.map V.int) (b % ((cs.map V.int).length : Int)) = some (.int x) := by
  have hl : (0 : Int) < ((cs.map V.int).length : Int) := by rw [List.length_map]; omega
  have h0 := Int.emod_nonneg b (show ((cs.map V.int).length : Int) ≠ 0 by omega)
  have h1 := Int.emod_lt_of_pos b hl
  obtain ⟨j, hj⟩ : ∃ j : Nat, b % ((cs.map V.int).length : Int) = j := ⟨(b % ((cs.map V.int).length : Int)).toNat, by omega⟩
  have hj2 : j < cs.length := by rw [hj, List.length_map] at h1; omega
  refine ⟨j, cs[j], hj2, ?_⟩
  rw [hj]
  exact atI_nat (by rw [List.getElem?_map, List.getElem?_eq_getElem hj2] <;> rfl)
/-! ### isinstance of built-in kinds -/
theorem kit_NoneType_int {K : PySem.W.Frag} : PySem.W.kitOne K (.type "NoneType") (.type "int") = some false := kit_ty (by decide +kernel)
theorem kit_NoneType_bool {K : PySem.W.Frag} : PySem.W.kitOne K (.type "NoneType") (.type "bool") = some false := kit_ty (by decide +kernel)
theorem kit_NoneType_str {K : PySem.W.Frag} : PySem.W.kitOne K (.type "NoneType") (.type "str") = some false := kit_ty (by decide +kernel)
theorem kit_NoneType_list {K : PySem.W.Frag} : PySem.W.kitOne K (.type "NoneType") (.type "list") = some false := kit_ty (by decide +kernel)
theorem kit_NoneType_tuple {K : PySem.W.Frag} : PySem.W.kitOne K (.type "NoneType") (.type "tuple") = some false := kit_ty (by decide +kernel)
theorem kit_NoneType_dict {K : PySem.W.Frag} : PySem.W.kitOne K (.type "NoneType") (.type "dict") = some false := kit_ty (by decide +kernel)
theorem kit_bool_int {K : PySem.W.Frag} : PySem.W.kitOne K (.type "bool") (.type "int") = some true := kit_ty (by decide +kernel)
theorem kit_bool_bool {K : PySem.W.Frag} : PySem.W.kitOne K (.type "bool") (.type "bool") = some true := kit_ty (by decide +kernel)
theorem kit_bool_str {K : PySem.W.Frag} : PySem.W.kitOne K (.type "bool") (.type "str") = some false := kit_ty (by decide +kernel)
theorem kit_bool_list {K : PySem.W.Frag} : PySem.W.kitOne K (.type "bool") (.type "list") = some false := kit_ty (by decide +kernel)
theorem kit_bool_tuple {K : PySem.W.Frag} : PySem.W.kitOne K (.type "bool") (.type "tuple") = some false := kit_ty (by decide +kernel)
theorem kit_bool_dict {K : PySem.W.Frag} : PySem.W.kitOne K (.type "bool") (.type "dict") = some false := kit_ty (by decide +kernel)
theorem kit_int_int {K : PySem.W.Frag} : PySem.W.kitOne K (.type "int") (.type "int") = some true := kit_ty (by decide +kernel)
theorem kit_int_bool {K : PySem.W.Frag} : PySem.W.kitOne K (.type "int") (.type "bool") = some false := kit_ty (by decide +kernel)
theorem kit_int_str {K : PySem.W.Frag} : PySem.W.kitOne K (.type "int") (.type "str") = some false := kit_ty (by decide +kernel)
theorem kit_int_list {K : PySem.W.Frag} : PySem.W.kitOne K (.type "int") (.type "list") = some false := kit_ty (by decide +kernel)
theorem kit_int_tuple {K : PySem.W.Frag} : PySem.W.kitOne K (.type "int") (.type "tuple") = some false := kit_ty (by decide +kernel)
theorem kit_int_dict {K : PySem.W.Frag} : PySem.W.kitOne K (.type "int") (.type "dict") = some false := kit_ty (by decide +kernel)
theorem kit_str_int {K : PySem.W.Frag} : PySem.W.kitOne K (.type "str") (.type "int") = some false := kit_ty (by decide +kernel)
theorem kit_str_bool {K : PySem.W.Frag} : PySem.W.kitOne K (.type "str") (.type "bool") = some false := kit_ty (by decide +kernel)
theorem kit_str_str {K : PySem.W.Frag} : PySem.W.kitOne K (.type "str") (.type "str") = some true := kit_ty (by decide +kernel)
theorem kit_str_list {K : PySem.W.Frag} : PySem.W.kitOne K (.type "str") (.type "list") = some false := kit_ty (by decide +kernel)
theorem kit_str_tuple {K : PySem.W.Frag} : PySem.W.kitOne K (.type "str") (.type "tuple") = some false := kit_ty (by decide +kernel)
theorem kit_str_dict {K : PySem.W.Frag} : PySem.W.kitOne K (.type "str") (.type "dict") = some false := kit_ty (by decide +kernel)
theorem kit_list_int {K : PySem.W.Frag} : PySem.W.kitOne K (.type "list") (.type "int") = some false := kit_ty (by decide +kernel)
theorem kit_list_bool {K : PySem.W.Frag} : PySem.W.kitOne K (.type "list") (.type "bool") = some false := kit_ty (by decide +kernel)
theorem kit_list_str {K : PySem.W.Frag} : PySem.W.kitOne K (.type "list") (.type "str") = some false := kit_ty (by decide +kernel)
theorem kit_list_list {K : PySem.W.Frag} : PySem.W.kitOne K (.type "list") (.type "list") = some true := kit_ty (by decide +kernel)
theorem kit_list_tuple {K : PySem.W.Frag} : PySem.W.kitOne K (.type "list") (.type "tuple") = some false := kit_ty (by decide +kernel)
theorem kit_list_dict {K : PySem.W.Frag} : PySem.W.kitOne K (.type "list") (.type "dict") = some false := kit_ty (by decide +kernel)
theorem kit_tuple_int {K : PySem.W.Frag} : PySem.W.kitOne K (.type "tuple") (.type "int") = some false := kit_ty (by decide +kernel)
theorem kit_tuple_bool {K : PySem.W.Frag} : PySem.W.kitOne K (.type "tuple") (.type "bool") = some false := kit_ty (by decide +kernel)
theorem kit_tuple_str {K : PySem.W.Frag} : PySem.W.kitOne K (.type "tuple") (.type "str") = some false := kit_ty (by decide +kernel)
theorem kit_tuple_list {K : PySem.W.Frag} : PySem.W.kitOne K (.type "tuple") (.type "list") = some false := kit_ty (by decide +kernel)
theorem kit_tuple_tuple {K : PySem.W.Frag} : PySem.W.kitOne K (.type "tuple") (.type "tuple") = some true := kit_ty (by decide +kernel)
theorem kit_tuple_dict {K : PySem.W.Frag} : PySem.W.kitOne K (.type "tuple") (.type "dict") = some false := kit_ty (by decide +kernel)
theorem kit_dict_int {K : PySem.W.Frag} : PySem.W.kitOne K (.type "dict") (.type "int") = some false := kit_ty (by decide +kernel)
theorem kit_dict_bool {K : PySem.W.Frag} : PySem.W.kitOne K (.type "dict") (.type "bool") = some false := kit_ty (by decide +kernel)
theorem kit_dict_str {K : PySem.W.Frag} : PySem.W.kitOne K (.type "dict") (.type "str") = some false := kit_ty (by decide +kernel)
theorem kit_dict_list {K : PySem.W.Frag} : PySem.W.kitOne K (.type "dict") (.type "list") = some false := kit_ty (by decide +kernel)
theorem kit_dict_tuple {K : PySem.W.Frag} : PySem.W.kitOne K (.type "dict") (.type "tuple") = some false := kit_ty (by decide +kernel)
theorem kit_dict_dict {K : PySem.W.Frag} : PySem.W.kitOne K (.type "dict") (.type "dict") = some true := kit_ty (by decide +kernel)
/-- a value's kind, by the abstract heap -/
theorem tyx_str {K : PySem.W.Frag} {H : Hp} {z : Str} : TyX K H (.str z) (.type "str") := .base (.str z)
theorem tyx_int {K : PySem.W.Frag} {H : Hp} {i : Int} : TyX K H (.int i) (.type "int") := .base (.int i)
theorem tyx_bl {K : PySem.W.Frag} {H : Hp} {b : Bool} : TyX K H (.bl b) (.type "bool") := .base (.bl b)
theorem tyx_non {K : PySem.W.Frag} {H : Hp} : TyX K H .non (.type "NoneType") := .base .non
theorem tyx_lst {K : PySem.W.Frag} {H : Hp} {a : Addr} {xs : List V} (h : H a = some (.lst xs)) : TyX K H (.ref a) (.type "list") := .base (.lst h)
theorem tyx_tup {K : PySem.W.Frag} {H : Hp} {a : Addr} {xs : List V} (h : H a = some (.tup xs)) : TyX K H (.ref a) (.type "tuple") := .base (.tup h)
theorem tyx_dK {K : PySem.W.Frag} {H : Hp} {a : Addr} {xs : List (Key × V)} (h : H a = some (.dK xs)) : TyX K H (.ref a) (.type "dict") := .base (.dK h)
/-- a draw from a row or a text -/
def spPick : Sp := fun vs H Q _ => ∃ (W : Wl) (x : V) (n : Nat), vs = [.ref W.w, x] ∧ WellAt H W n ∧ n < 1000000 ∧
  ((∃ (p : Addr) (xs : List V), x = .ref p ∧ p ≠ W.w ∧ H p = some (.lst xs) ∧ 0 < xs.length ∧ xs.length ≤ 1000 ∧ ∀ H' v, v ∈ xs → WellAt H' W (n + 1) → Kp W.w H H' → Q v H') ∨
   (∃ z : Str, x = .str z ∧ 0 < z.length ∧ z.length ≤ 1000 ∧ ∀ H' c, c ∈ z.cps.toList → WellAt H' W (n + 1) → Kp W.w H H' → Q (.str ⟨#[c]⟩) H'))
theorem natAbs_small {i : Int} {n : Nat} (h0 : 0 ≤ i) (h : i ≤ n) (hn : n ≤ 2 ^ 200) : i.natAbs < 2 ^ 300 := by
  have e : i.natAbs ≤ n := by omega
  exact Nat.lt_of_le_of_lt (Nat.le_trans e hn) (Nat.pow_lt_pow_right (by decide) (by decide))
theorem atI_of {α : Type} {xs : List α} {i : Int} (h0 : 0 ≤ i) (h : i < xs.length) : ∃ v, atI xs i = some v ∧ v ∈ xs := by
  obtain ⟨j, rfl⟩ : ∃ j : Nat, i = j := ⟨i.toNat, by omega⟩
  have hj : j < xs.length := by omega
  exact ⟨xs[j], atI_nat (List.getElem?_eq_getElem hj), List.getElem_mem hj⟩
theorem line_le {n : Nat} (h : n ≤ 16777216) : n ≤ sizeLine := by rw [sizeLine_eq]; exact h
theorem line_lt {n : Nat} (h : n < 16777216) : n < sizeLine := by rw [sizeLine_eq]; exact h
theorem if_t {c A B : Prop} [Decidable c] (h : c) (a : A) : if c then A else B := by rw [if_pos h]; exact a
theorem if_f {c A B : Prop} [Decidable c] (h : ¬ c) (b : B) : if c then A else B := by rw [if_neg h]; exact b
/-- two ways of an answer k -/
theorem if_2 {k : Bool} {A B : Prop} (h1 : k = true → A) (h2 : k = false → B) : if k = true then A else B := by
  cases k with
  | true => exact if_t rfl (h1 rfl)
  | false => exact if_f Bool.false_ne_true (h2 rfl)

/-! ### texts -/
open TL in
theorem cutS_mem {z : Str} {lo hi : Option Int} {c : Nat} (h : c ∈ tl (cutS z lo hi)) : c ∈ tl z := by
  have h' : c ∈ (z.cps.toList.drop (HT.sIx z.length 0 lo)).take (HT.sIx z.length z.length hi - HT.sIx z.length 0 lo) := h
  exact List.mem_of_mem_drop (List.mem_of_mem_take h')
open TL in
theorem joinL_mem {S : List Nat} {c : Nat} : ∀ {ps : List (List Nat)}, c ∈ joinL S ps → c ∈ S ∨ ∃ p ∈ ps, c ∈ p
  | [], h => absurd h List.not_mem_nil
  | [p], h => .inr ⟨p, List.mem_singleton.mpr rfl, h⟩
  | p :: q :: r, h => by
    have h' : c ∈ p ++ (S ++ joinL S (q :: r)) := h
    rcases List.mem_append.mp h' with h1 | h1
    · exact .inr ⟨p, List.mem_cons_self, h1⟩
    · rcases List.mem_append.mp h1 with h2 | h2
      · exact .inl h2
      · rcases joinL_mem h2 with h3 | ⟨p', hp, h3⟩
        · exact .inl h3
        · exact .inr ⟨p', List.mem_cons_of_mem _ hp, h3⟩
open TL in
theorem joinL_len {S : List Nat} {m : Nat} : ∀ {ps : List (List Nat)}, (∀ p ∈ ps, p.length ≤ m) → (joinL S ps).length ≤ ps.length * (m + S.length)
  | [], _ => Nat.zero_le _
  | [p], h => by
    have := h p (List.mem_singleton.mpr rfl)
    show p.length ≤ 1 * (m + S.length)
    omega
  | p :: q :: r, h => by
    have h1 := h p List.mem_cons_self
    have h2 := joinL_len (S := S) (ps := q :: r) fun z hz => h z (List.mem_cons_of_mem _ hz)
    show (p ++ (S ++ joinL S (q :: r))).length ≤ (r.length + 1 + 1) * (m + S.length)
    rw [List.length_append, List.length_append, Nat.succ_mul]
    have h3 : (q :: r).length * (m + S.length) = (r.length + 1) * (m + S.length) := rfl
    omega
open TL in
theorem join_mem {y : Str} {ys : List Str} {c : Nat} (h : c ∈ tl (Txt.join y ys)) : c ∈ tl y ∨ ∃ p ∈ ys, c ∈ tl p := by
  rw [join_eq, tl_join] at h
  rcases joinL_mem h with h | ⟨p, hp, h⟩
  · exact .inl h
  · obtain ⟨z, hz, rfl⟩ := List.mem_map.mp hp
    exact .inr ⟨z, hz, h⟩
open TL in
theorem join_len {y : Str} {ys : List Str} {m : Nat} (h : ∀ p ∈ ys, p.length ≤ m) : (Txt.join y ys).length ≤ ys.length * (m + y.length) := by
  rw [len_tl, join_eq, tl_join, len_tl y]
  have := joinL_len (S := tl y) (ps := ys.map tl) (m := m) fun p hp => by
    obtain ⟨z, hz, rfl⟩ := List.mem_map.mp hp
    rw [← len_tl]
    exact h z hz
  rw [List.length_map] at this
  exact this
theorem sum_len {ys : List Str} {m : Nat} (h : ∀ p ∈ ys, p.length ≤ m) : (ys.map (·.length)).sum ≤ ys.length * m := by
  induction ys with
  | nil => exact Nat.zero_le _
  | cons p ys ih =>
    rw [List.map_cons, List.sum_cons, List.length_cons, Nat.succ_mul]
    have h1 := h p List.mem_cons_self
    have h2 := ih fun z hz => h z (List.mem_cons_of_mem _ hz)
    omega
open TL in
theorem spl_mem : ∀ (l acc : List Nat), ∀ p ∈ spl [46] 0 acc l, p.length ≤ acc.length + l.length ∧ ∀ c ∈ p, c ∈ acc ∨ c ∈ l
  | [], acc, p, h => by
    rw [spl_nil] at h
    rw [List.mem_singleton.mp h]
    exact ⟨Nat.le_add_right _ _, fun c hc => .inl hc⟩
  | d :: l, acc, p, h => by
    by_cases e : d = 46
    · subst e
      rw [show spl [46] 0 acc (46 :: l) = acc :: spl [46] 0 [] l from spl_hit (by rfl)] at h
      rcases List.mem_cons.mp h with h | h
      · rw [h]
        exact ⟨Nat.le_add_right _ _, fun c hc => .inl hc⟩
      · obtain ⟨h1, h2⟩ := spl_mem l [] p h
        refine ⟨by simp only [List.length_nil, List.length_cons] at h1 ⊢; omega, fun c hc => ?_⟩
        rcases h2 c hc with h3 | h3
        · exact absurd h3 List.not_mem_nil
        · exact .inr (List.mem_cons_of_mem _ h3)
    · rw [spl_miss (pre_of_head [] l e)] at h
      obtain ⟨h1, h2⟩ := spl_mem l (acc ++ [d]) p h
      refine ⟨by simp only [List.length_append, List.length_cons, List.length_nil] at h1 ⊢; omega, fun c hc => ?_⟩
      rcases h2 c hc with h3 | h3
      · rcases List.mem_append.mp h3 with h4 | h4
        · exact .inl h4
        · rw [List.mem_singleton.mp h4]
          exact .inr List.mem_cons_self
      · exact .inr (List.mem_cons_of_mem _ h3)
open TL in
theorem split_dot_mem {z y : Str} (ey : y = Str.ofString ".") : ∀ p ∈ Txt.split z y, p.length ≤ z.length ∧ ∀ c ∈ tl p, c ∈ tl z := by
  intro p hp
  subst ey
  have e := split_spl z (Str.ofString ".") (by decide +kernel) (kind_ok (by decide +kernel))
  have e1 : tl (Str.ofString ".") = [46] := by decide +kernel
  rw [e1] at e
  have h : tl p ∈ spl [46] 0 [] (tl z) := by rw [← e]; exact List.mem_map_of_mem hp
  obtain ⟨h1, h2⟩ := spl_mem _ _ _ h
  refine ⟨by rw [len_tl, len_tl]; simpa using h1, fun c hc => ?_⟩
  rcases h2 c hc with h3 | h3
  · exact absurd h3 List.not_mem_nil
  · exact h3
theorem cutV_ints (ns : List Int) (lo hi : Option Int) : ∃ cs : List Int, cutV (ns.map V.int) lo hi = cs.map V.int ∧ cs.length ≤ ns.length := by
  refine ⟨(ns.drop (HT.sIx (ns.map V.int).length 0 lo)).take (HT.sIx (ns.map V.int).length (ns.map V.int).length hi - HT.sIx (ns.map V.int).length 0 lo), ?_, ?_⟩
  · unfold cutV
    rw [List.map_take, List.map_drop]
  · rw [List.length_take, List.length_drop]
    omega
section
variable {X : Cx} {CX : CXT} {k : Nat} {f : Addr} {sp : Sp} {E : XK} {x : Str} {p pos : Pos}
theorem pe_callGd0 (F : FnG X.prog X.w X.K X.mg X.base CX k f sp) (hr : Room k X.A) (hgd : X.A.guards = some []) (hg : Gl X x) (hm : X.mg x = some (.ref f)) (hk : PySem.W.keepIn X.K (.ref f) = true) (hx : Passes CX X E)
    (hdb : (x == ("__debug__" : Str)) = false := by decide) : PE X (.Call (.Name x p) [] [] pos) (tCallG sp E tNil) := by
  refine ⟨fun pins s σ H Q I h => ?_⟩
  refine wpAny_Call_Name_kw (ld_glob I hg hm ?_ hdb)
  refine PySem.W.callWith_K0 I.kIn hk (wpAny_call (codeAny_mono (F X.A X.stack s H [] [] Q E hr hgd I.env0 .nil (show Iv (sp [] H Q E) from h).out) fun r' s' hq => ?_))
  cases r' with
  | error er => exact hx pins σ H s er s' I hq
  | ok fl =>
    cases fl with
    | ret u => exact I.after hq
    | next => exact False.elim hq
    | brk => exact False.elim hq
    | cont => exact False.elim hq
end

/-- a and b: both ways meet in R -/
theorem and_two {c : Bool} {tb : TE} {σ : L2.St} {H : Hp} {Q : VK} (R : V → Hp → Prop) (fin : ∀ v H', R v H' → Q v H') (h1 : c = true → (∀ v H', R v H' → Q v H') → tb σ H Q) (h2 : c = false → R (.bl false) H) : if c = true then tb σ H Q else Q (.bl false) H := by
  cases c with
  | true => exact if_t rfl (h1 rfl fin)
  | false => exact if_f Bool.false_ne_true (fin _ _ (h2 rfl))
theorem strOk_of {z : Str} (h : ∀ c ∈ z.cps.toList, c < 128) : PyData.strOk z = true := by
  unfold PyData.strOk
  rw [Array.all_eq_true]
  intro i hi
  have := h z.cps[i] (by rw [Array.mem_toList_iff]; exact Array.getElem_mem hi)
  exact decide_eq_true (by omega)
theorem map_at {α : Type} {f : α → V} {xs : List α} {i : Nat} {v : V} (h : (xs.map f)[i]? = some v) : ∃ x, xs[i]? = some x ∧ v = f x := by
  rw [List.getElem?_map] at h
  cases e : xs[i]? with
  | none => rw [e] at h; cases h
  | some s => rw [e] at h; exact ⟨s, rfl, (Option.some.inj h).symm⟩
theorem take_one {α : Type} {xs : List α} {i : Nat} {x : α} (h : xs[i]? = some x) : xs.take (i + 1) = xs.take i ++ [x] := by
  rw [List.take_add_one, h]
  rfl
end MyL

/-! Own errors with fields: made, raised, caught; a def with a star parameter. -/
namespace MyL
open PySem PySem.Spec PyProof.Rows L2

/-- an own error's class: what the top has written of it -/
structure ErrC (K : PySem.W.Frag) (C : Addr) : Prop where
  o : OexC K C
  x : XfC K C
  e : ExcC K C
/-- two fields -/
structure ErrC2 (K : PySem.W.Frag) (C : Addr) (f g : Str) : Prop extends ErrC K C where
  f1 : PySem.W.findIn K (.ref C) f = some none
  f2 : PySem.W.findIn K (.ref C) g = some none
/-- def __init__(self, x, y): self.f = x; self.g = y -/
def spInit2 (C : Addr) (f g : Str) : Sp := fun vs H Q _ => ∃ (a : Addr) (x y : V), vs = [.ref a, x, y] ∧ H a = some (exo a C none) ∧
  ∀ d, H d = none → d ≠ a → Q .non (upd (upd (upd H d (exd d [(f, x)])) a (exo a C (some d))) d (exd d [(g, y), (f, x)]))
/-- a reading of arguments, weakened -/
def tMon (ta : TA) : TA := fun σ H R => ∃ R' : List V → Hp → Prop, ta σ H R' ∧ ∀ vs H1, R' vs H1 → R vs H1
theorem pa_mon {X : Cx} {es : List Expr} {ta : TA} (h : PA X es ta) : PA X es (tMon ta) := by
  refine ⟨fun pos pins s σ H Q I q => ?_⟩
  obtain ⟨R', q1, q2⟩ := q
  exact thn (h.run pos pins s σ H R' I q1) fun us s1 ⟨vs, H1, I1, r, z⟩ => ⟨vs, H1, I1, r, q2 vs H1 z⟩
/-- C(x, y) -/
def tMk2 (C : Addr) (f g : Str) (ta : TA) : L2.St → Hp → XK → Prop := fun σ H Q => ta σ H fun vs H1 => ∃ x y : V, vs = [x, y] ∧ ∀ d, H1 d = none → Q (.ref C) (some d) (upd H1 d (.xd [(g, y), (f, x)]))
theorem mk2_heap {H : Hp} {a d : Addr} {o1 o2 o3 o4 u : HO} (ha : H a = none) (hd : H d = none) (ne : d ≠ a) : upd (del (upd (upd (upd (upd H a o1) d o2) a o3) d o4) a) d u = upd H d u := by
  funext b
  by_cases hbd : b = d
  · rw [hbd, upd_same, upd_same]
  · rw [upd_ne hbd, upd_ne hbd]
    by_cases hba : b = a
    · rw [hba, del_same, ha]
    · rw [del_ne hba, upd_ne hbd, upd_ne hba, upd_ne hbd, upd_ne hba]
section
variable {X : Cx} {e : Expr} {es : List Expr} {ta : TA} {p pos : Pos}
theorem pmk_2 {CX : CXT} {x : Str} {C fI : Addr} {k : Nat} {fd : FuncData} {ps : List Str} {f g : Str} (T : OexC X.K C) (iC : PySem.W.findIn X.K (.ref C) "__init__" = some (some (.ref fI))) (tI : PySem.W.typeIn X.K (.ref fI) = some (.type "function"))
    (F1 : FnOk X.prog X.w X.K X.mg X.base CX k fI fd ps (spInit2 C f g)) (hr : Room (k + 1) X.A) (hb : Binds X.K fd ps []) (hx : Passes CX X (fun _ _ _ => False)) (hg : Gl X x) (hm : X.mg x = some (.ref C)) (ha : PA X (e :: es) ta)
    (hdb : (x == ("__debug__" : Str)) = false := by decide) (he : starEach (e :: es) X.env = (false, eval e X.env) :: starEach es X.env := by rfl) (hpl : (backTo pos (starEach es X.env)).any (·.1) = false := by rfl) :
    PMk X (.Call (.Name x p) (e :: es) [] pos) (tMk2 C f g ta) := by
  intro pins s σ H Q I h
  refine pmk_oex (sp := spInit2 C f g) (ds := []) (dvs := []) T iC tI F1 hr hb .nil hx hg hm (pa_mon ha) hdb he hpl pins s σ H Q I ?_
  refine ⟨_, h, ?_⟩
  rintro vs H1 ⟨v1, v2, rfl, q⟩
  refine ⟨(by show 2 ≤ 1000; decide), fun a ha1 => ⟨a, v1, v2, rfl, upd_same, fun d hd hne => ⟨rfl, d, _, (upd_ne (Ne.symm hne)).trans upd_same, upd_same, ?_, ?_⟩⟩⟩
  · rw [upd_ne hne] at hd
    exact hd
  · rw [upd_ne hne] at hd
    rw [mk2_heap ha1 hd hne]
    exact q d hd
end
/-- the two stores -/
theorem init2_ok {P : Program} {w : World} {K : PySem.W.Frag} {mg : Str → Option Value} {base : Heap} {C fI : Addr} {fd : FuncData} {q n1 n2 f g : Str} {st : Stmt} (T : ErrC2 K C f g)
    (F : Fun K "__init__" q st fI fd) (S : FnScope ["self", n1, n2] ["self", n1, n2] (defScope st))
    (hb : ∀ (cdv : Value) (A : Around) (outer : List Env) (s : Shared) (H : Hp) (E : XK), PSs (cxOf CX0 P w K mg base ["self", n1, n2] q (defScope st) fI cdv A outer s H E).nox (defBody st) (tSeq (tOst K f (tVar 0) (tVar 1)) (tOst K g (tVar 0) (tVar 2)))) :
    FnOk P w K mg base CX0 1 fI fd ["self", n1, n2] (spInit2 C f g) := by
  refine F.ok S (fun vs H Q E h => ?_) (fun cdv A outer s H vs Q E hr h => ⟨_, hb cdv A outer s H E, ?_⟩)
  · obtain ⟨_, _, _, rfl, _⟩ := h
    rfl
  · obtain ⟨a, v1, v2, rfl, ha, q⟩ := h
    refine ⟨_, rfl, _, rfl, a, C, rfl, T.o, T.f1, .inl ⟨ha, fun d hd hne => ⟨_, rfl, _, rfl, a, C, rfl, T.o, T.f2, .inr ⟨d, _, upd_same, (upd_ne hne).trans upd_same, by show 1 ≤ 900; decide, q d hd hne⟩⟩⟩⟩

/-! ### a def f(*v) -/
section
variable {P : Program} {w : World} {K : PySem.W.Frag} {mg : Str → Option Value} {base : Heap} {CX : CXT} {k : Nat} {f : Addr} {sp : Sp}
theorem Fun_starG {x qual pv : Str} {st : Stmt} {fd : FuncData} {N : List Str} (F : Fun K x qual st f fd) (S : FnScope N [pv] (defScope st)) (hCX : StX.CXUp CX)
    (hb : ∀ (kV doc pm : Value) (an : Option Addr) (cdv ct : Value) (us : List Value), bindArgs (PySem.W.fnOf x qual (defArgs st) (defBody st) (defScope st) .none kV doc pm an cdv ct) ⟨us, []⟩ = (newTuple us >>= fun t => pure [(pv, t)]))
    (hbody : ∀ (cdv : Value) (A : Around) (outer : List Env) (s : Shared) (H : Hp) (vs : List V) (Q : VK) (E : XK), Room k (A.deeper (envOfC qual (defScope st) s.heap.objs.size f cdv)) → A.guards = some [] → sp vs H Q E →
      ∃ t, PSs (cxOf CX P w K mg base N qual (defScope st) f cdv A outer s H E) (defBody st) t ∧ t { nx := fun _ H' => Q .non H', rt := Q } (start N vs) H) :
    FnG P w K mg base CX (k + 1) f (fun vs H Q E => vs.length ≤ sizeLine ∧ ∀ p, H p = none → sp [.ref p] (upd H p (.tup vs)) Q E) := by
  obtain ⟨oc, od, kV, doc, pm, an, cdv, ct, osl, rfl, lk, hcd⟩ := F.ex
  intro A outer s H us vs Q E hr hg e0 r hsp
  obtain ⟨hz, hq⟩ := hsp
  have hn : H s.heap.objs.size = none := e0.hok.fresh (Nat.le_refl _)
  have hl : us.length ≤ sizeLine := by rw [← r.length]; exact hz
  refine StX.run_bnd lk hcd S hr e0 (G := fun xs H2 => ∃ p, H p = none ∧ xs = [V.ref p] ∧ H2 = upd H p (.tup vs)) (fun A' Ex Q' h => ?_) fun s2 H2 xs ⟨p, hp, ex, eH⟩ hr' => ?_
  · rw [hb kV doc pm an cdv ct us]
    refine wpAny_bind (wpAny_newTuple (wpAny_pure ?_) hl)
    have new : ObjOk P w (upd H s.heap.objs.size (.tup vs)) (s.heap.push ({ cls := .type "tuple", data := .seq us.toArray } : Obj)) s.heap.objs.size (.tup vs) := ⟨hz, us, r, ⟨_, Heap.get?_push_size _ rfl, rfl, _, rfl⟩⟩
    have un := StX.un_laid (fs := frs outer) (s := s) (o := ({ cls := .type "tuple", data := .seq us.toArray } : Obj)) (u := .tup vs) hn
    exact h _ _ [V.ref s.heap.objs.size] [Value.ref s.heap.objs.size] (StX.env0_laid e0 new) un rfl (fun e s' => hCX outer s H _ _ E e s' un (fun b o q => Heap.get?_push_of_some _ q) rfl) (.cons rfl .nil) rfl ⟨_, hn, rfl, rfl⟩
  · subst ex eH
    exact hbody cdv A outer s2 _ _ Q E hr' hg (hq p hp)
end

/-! ### a def called in a try -/
section
variable {X : Cx} {CX : CXT} {k : Nat} {f : Addr} {sp : Sp} {E : L2.St → XK} {x : Str} {p pos : Pos} {e : Expr} {es : List Expr} {t : TA}
def tCallGS (sp : Sp) (E : L2.St → XK) (t : TA) : TE := fun σ H Q => t σ H fun vs H1 => Iv (sp vs H1 Q (E σ))
theorem pe_callGS (F : FnG X.prog X.w X.K X.mg X.base CX k f sp) (hr : Room k X.A) (hgd : X.A.guards = some []) (hg : Gl X x) (hm : X.mg x = some (.ref f)) (hk : PySem.W.keepIn X.K (.ref f) = true) (hx : ∀ σ, PassesAt CX X σ (E σ)) (ha : PA X (e :: es) t)
    (hdb : (x == ("__debug__" : Str)) = false := by decide) (he : starEach (e :: es) X.env = (false, eval e X.env) :: starEach es X.env := by rfl) (hpl : (backTo pos (starEach es X.env)).any (·.1) = false := by rfl) :
    PE X (.Call (.Name x p) (e :: es) [] pos) (tCallGS sp E t) := by
  refine ⟨fun pins s σ H Q I h => ?_⟩
  refine wpAny_Call_Name_kw (ld_glob I hg hm ?_ hdb)
  refine PySem.W.callWith_K (h₀ := X.base) I.ok.mod.kin hk ?_ he hpl
  refine thn (ha.run pos pins s σ H _ I h) fun us s1 ⟨vs, H1, I1, r, q⟩ => ⟨I1.kIn, ?_⟩
  refine wpAny_call (codeAny_mono (F X.A X.stack s1 H1 us vs Q (E σ) hr hgd I1.env0 r q.out) fun r' s' hq => ?_)
  cases r' with
  | error er => exact hx σ pins H1 s1 er s' I1 hq
  | ok fl =>
    cases fl with
    | ret u => exact I1.after hq
    | next => exact False.elim hq
    | brk => exact False.elim hq
    | cont => exact False.elim hq
theorem pss_eq {body : List Stmt} {t u : TS} (h : PSs X body t) (e : t = u) : PSs X body u := e ▸ h
end

/-! ### isinstance of a caught error that has fields -/
def rIsED (K : PySem.W.Frag) (D a : Addr) (cls : Value) (d : Option Addr) : List V → Hp → VK → Prop := fun xs H Q => ∃ (c : V) (cv : Value) (b : Bool) (dd : Addr) (fs : List (Str × V)), xs = [.ref a, c] ∧ cls = .ref D ∧ ClsV c cv ∧ PySem.W.kitOne K (.ref D) cv = some b ∧ d = some dd ∧ H dd = some (.xd fs) ∧ Q (.bl b) H
theorem call_isED {X : Cx} {a D : Addr} {oe : Obj} {cls : Value} {d : Option Addr} {pn : List (Addr × Obj)} (C : ExcC X.K D) (hz : Zc cls d oe) (hf : ∃ vs, oe.data = .fields vs) : CallR (X.suite a ((a, oe) :: pn)) (.builtin "isinstance") (rIsED X.K D a cls d) := by
  intro pins s σ H xs us Q I r h
  obtain ⟨c, cv, b, dd, fs, rfl, rfl, hcv, e, rfl, hd, q⟩ := h
  cases r with
  | cons rx rr =>
    cases rr with
    | cons rt rr =>
      cases rr
      cases rx
      have ec := hcv.eq rt
      subst ec
      obtain ⟨hget, _⟩ := I.pin (a, oe) (List.mem_append.mpr (.inl List.mem_cons_self))
      obtain ⟨vs, hv⟩ := hf
      have hx : ObjOk X.prog X.w H s.heap dd (.xd fs) := I.hok dd _ hd
      obtain ⟨mA, hns, _⟩ := hx
      obtain ⟨od, ho, _⟩ := lookIn_ns hns
      have J : PySem.W.InstAt s.heap a oe D (some od) := ⟨hget, hz.1, by unfold PySem.W.notCls; rw [hv] <;> rfl, by rw [hz.2]; exact ho⟩
      obtain ⟨cd, hc, _⟩ := PySem.W.any_some C.hd
      exact PySem.W.kia_one (PySem.W.kitx_exc (by rw [hc] <;> rfl) C.hg C.hk C.hs C.ha C.hn C.ht C.hm) I.kIn J e (fun z => nomatch z) fun tk => ⟨.bl b, H, I.kept (t' := tk) fun _ _ z => z, rfl, q⟩
/-- an error's class in an except clause -/
theorem exm_of {K : PySem.W.Frag} {C : Addr} {cls : Value} {b : Bool} (E : ErrC K C) (h : PySem.W.subIn K cls (.ref C) = some b) : PySem.W.exmOne K cls (.ref C) = some b := PySem.W.exm_ref E.o.exC E.e.hd E.o.tyC h
theorem kit_own {K : PySem.W.Frag} {D : Addr} {t : Value} (E : ErrC K D) (h : PySem.W.subIn K t (.ref D) = some true) : PySem.W.kitOne K t (.ref D) = some true := by
  unfold PySem.W.kitOne
  by_cases e : (t == Value.ref D) = true
  · rw [if_pos e]
  · rw [if_neg e]
    obtain ⟨cd, hc, _⟩ := PySem.W.any_some E.e.hd
    have e2 : ((PySem.W.clsIn K D).isSome && PySem.W.typeIn K (.ref D) == some (.type "type")) = true := by rw [hc, E.o.tyC] <;> rfl
    show (if ((PySem.W.clsIn K D).isSome && PySem.W.typeIn K (.ref D) == some (.type "type")) = true then PySem.W.subIn K t (.ref D) else none) = some true
    rw [if_pos e2]
    exact h
end MyL

/-! Own errors as values: made by place and by name, their fields, isinstance. -/
namespace MyX
open PySem PySem.Spec PySem.Calls PyProof.Rows PySem.HandSPX
section
variable {prog : Program} {w : World} {A : Around} {E : Value → Shared → Prop} {R : Result → Shared → Prop} {h : Heap} {g : Array GenState} {d : Drawn} {t : Nat} {os : OsState}
variable {nm q : Str} {C N : Addr} {bs bm bmB : List Value} {hdct : Bool} {sn : List Str} {sub : List Value} {ab : Bool} {col : Option Bool} {dd : Option Addr} {k0 k1 k2 k3 k5 : Option Value} {B newId initId : String}
/-- the class's maker is asked, keywords or not -/
theorem kw_check {M : Model} (F : ExcBaseFacts B newId initId bmB) (hT : ∀ X : String, bm.contains (.type X) = bmB.contains (.type X)) {us : List Value} {kw : List (Str × Value)} {Q : Unit → Shared → Prop}
    (hC : h.get? C = some (excClassObj nm q C N bs bm hdct sn sub ab col dd k0 k1 k2 k3 k5 newId)) (hq : Q () ⟨h, g, d, t, os⟩) :
    wpAny M A (checkBuiltinCall newId ⟨.ref C :: us, kw⟩) Q E ⟨h, g, d, t, os⟩ := by
  have inB : (Value.ref C :: bm).contains (.type B) = true := by
    rw [List.contains_cons, hT, F.hasB, Bool.or_true]
  have z := F.noStar
  simp only [checkBuiltinCall, F.newKind, F.newSplit, F.newRow]
  repeat (first
    | refine wpAny_loadPart_at hC ?_
    | (refine wpAny_isSubtype_exc hC ?_
       rw [inB])
    | refine wpAny_staticBase_exc hC ?_
    | refine wpAny_madeBy_exc hC ?_
    | simp only [bne_self_eq_false, Bool.false_eq_true, if_false]
    | wp_step)
  exact hq
theorem kw_new (F : ExcBaseFacts B newId initId bmB) (hT : ∀ X : String, bm.contains (.type X) = bmB.contains (.type X)) {us : List Value} {kw : List (Str × Value)}
    (hC : h.get? C = some (excClassObj nm q C N bs bm hdct sn sub ab col dd k0 k1 k2 k3 k5 newId)) (hl : us.length ≤ sizeLine)
    (hq : R (.ok (.ret (.ref (h.objs.size + 1)))) ⟨(h.push { cls := .type "tuple", data := .seq us.toArray }).push { cls := .ref C, data := .fields #[.ref h.objs.size, .none, .none, .none, .bool false, .none] }, g, d, t, os⟩) :
    codeAny (model prog w) A (.builtin newId ⟨.ref C :: us, kw⟩) R ⟨h, g, d, t, os⟩ := by
  have z := F.ends
  have inB : (Value.ref C :: bm).contains (.type B) = true := by
    rw [List.contains_cons, hT, F.hasB, Bool.or_true]
  have noA : (Value.ref C :: bm).contains (.type "AttributeError") = false := by
    rw [List.contains_cons, hT, F.noAttr]
    rfl
  have noN : (Value.ref C :: bm).contains (.type "NameError") = false := by
    rw [List.contains_cons, hT, F.noName]
    rfl
  refine codeAny_builtinAt F.entry ?_
  unfold Builtin.«BaseException.__new__»
  refine PySem.wpAt_bind ?_
  show PySem.wpAt _ _ _ (stack >>= _) _ _ _
  refine PySem.wpAt_bind (PySem.wpAt_stack fun p below => PySem.wpAt_of_wpAny ?_)
  wp_walk
  refine PySem.wpAt_of_wpAny ?_
  rw [F.owner]
  repeat (first
    | with_reducible refine wpAny_madeHere_exc F.canon hC ?_
    | with_reducible refine wpAny_loadPart_at hC ?_
    | (with_reducible refine wpAny_isSubtype_exc hC ?_
       first
         | rw [inB]
         | rw [noA]
         | rw [noN])
    | wp_step)
  show R _ _
  rw [Heap.size_push]
  exact hq
theorem kw_type (F : ExcBaseFacts B newId initId bmB) (hT : ∀ X : String, bm.contains (.type X) = bmB.contains (.type X)) {us : List Value} {kw : List (Str × Value)} {fI : Addr} {Q : Fin → Shared → Prop}
    (hC : h.get? C = some (excClassObj nm q C N bs bm hdct sn sub ab col dd k0 k1 k2 k3 k5 newId))
    (hi : W.Looks (model prog w) h (typeLookup (.ref C) "__init__") (some (.ref fI))) (hb : ∀ self, W.Looks (model prog w) h (bindSpecial (.ref fI) self) (.ref fI, [self])) (hl : us.length ≤ sizeLine)
    (hq : codeAny (model prog w) A (.call (.ref fI) ⟨.ref (h.objs.size + 1) :: us, kw⟩)
      (fun r s' => match r with | .ok (.ret v) => v = .none ∧ Q (.done (.ret (.ref (h.objs.size + 1)))) s' | .ok _ => False | .error e => E e s')
      ⟨(h.push (W.kdv_tup us)).push (excO C h.objs.size), g, d, t, os⟩) :
    wpAny (model prog w) A (Builtin.«type.__call__» ⟨.ref C :: us, kw⟩) Q E ⟨h, g, d, t, os⟩ := by
  repeat (first
    | with_reducible refine wpAny_loadPart_at hC ?_
    | with_reducible refine wpAny_madeBy_exc hC ?_
    | wp_step)
  refine codeAny_call_builtin_code (Code.quiet_builtin _ F.quiet) (kw_check F hT hC ?_)
  refine kw_new F hT hC hl ?_
  show wpAny _ _ _ _ _ _
  have up : ∀ b o, h.get? b = some o → ((h.push (W.kdv_tup us)).push (excO C h.objs.size)).get? b = some o := fun b o e =>
    Heap.get?_push_of_some _ (Heap.get?_push_of_some _ e)
  have hC1 := up _ _ hC
  have at1 : ((h.push (W.kdv_tup us)).push (excO C h.objs.size)).get? (h.objs.size + 1) = some (excO C h.objs.size) := by
    heap_get
  have own : (Value.ref C :: bm).contains (.ref C) = true := by
    simp
  have i1 := hi.keeps up
  have b1 := (hb (.ref (h.objs.size + 1))).keeps up
  unfold isInstance
  repeat (first
    | with_reducible refine wpAny_loadPart_at at1 ?_
    | (with_reducible refine wpAny_isSubtype_exc hC1 ?_
       rw [own])
    | wp_step)
  show wpAny _ _ (typeLookup (.ref C) _) _ _ _
  refine i1.at ?_
  refine wpAny_holding (wpAny_bind (b1.at ?_))
  refine wpAny_bind (wpAny_call (codeAny_mono hq fun r s' z => ?_))
  rcases r with e | (v | _ | _ | _)
  all_goals first
    | exact z
    | exact z.elim
    | skip
  obtain ⟨rfl, z⟩ := z
  first
    | exact wpAny_pure (wpAny_pure z)
    | (wp_walk
       exact z)
theorem kw_call (F : ExcBaseFacts B newId initId bmB) (hT : ∀ X : String, bm.contains (.type X) = bmB.contains (.type X)) {us : List Value} {kw : List (Str × Value)} {fI : Addr}
    (hC : h.get? C = some (excClassObj nm q C N bs bm hdct sn sub ab col dd k0 k1 k2 k3 k5 newId))
    (hi : W.Looks (model prog w) h (typeLookup (.ref C) "__init__") (some (.ref fI))) (hb : ∀ self, W.Looks (model prog w) h (bindSpecial (.ref fI) self) (.ref fI, [self])) (hl : us.length ≤ sizeLine)
    (hq : codeAny (model prog w) (A.under (.builtin "type.__call__" ⟨.ref C :: us, kw⟩)) (.call (.ref fI) ⟨.ref (h.objs.size + 1) :: us, kw⟩) (W.InitBack (h.objs.size + 1) R)
      ⟨(h.push (W.kdv_tup us)).push (excO C h.objs.size), g, d, t, os⟩) :
    codeAny (model prog w) A (.call (.ref C) ⟨us, kw⟩) R ⟨h, g, d, t, os⟩ := by
  have f1 := tc_lookup
  have f2 := tc_bind (.ref C)
  have ty : (⟨h, g, d, t, os⟩ : Shared).TypeIs (.ref C) "type" := ⟨_, hC, rfl⟩
  have f3 := tc_sub
  refine codeAny_of_tree ?_
  show wpAny _ _ (callAny (.ref C) _) _ _ _
  repeat (any_goals (first
    | assumption
    | with_reducible refine wpAny_loadPart_at hC ?_
    | wp_step))
  refine ⟨rfl, ?_⟩
  refine codeAny_call_builtin_at (Code.quiet_builtin _ (by decide +kernel)) entry_typeCall ?_
  have chk : ∀ {Q : Unit → Shared → Prop} {E : Value → Shared → Prop} {A : Around}, Q () ⟨h, g, d, t, os⟩ → wpAny (model prog w) A (checkBuiltinCall "type.__call__" ⟨.ref C :: us, kw⟩) Q E ⟨h, g, d, t, os⟩ := by
    intro Q E A hq
    simp only [checkBuiltinCall, tc_kind, tc_split]
    repeat (any_goals (first
      | assumption
      | with_reducible refine wpAny_loadPart_at hC ?_
      | with_reducible refine wpAny_onRaise ?_
      | with_reducible refine wpAny_map ?_
      | wp_step))
  refine chk (kw_type F hT hC hi hb hl ?_)
  refine codeAny_mono hq fun r s' z => ?_
  rcases r with e | (v | _ | _ | _) <;> exact z
end
end MyX
namespace MyL
open PySem PySem.Spec PyProof.Rows L2
/-- at x: an own error of the class at C, its fields fs -/
def ErAt (H : Hp) (x C : Addr) (fs : List (Str × V)) : Prop := (fs = [] ∧ H x = some (exo x C none)) ∨ ∃ d, H x = some (exo x C (some d)) ∧ H d = some (exd d fs)
theorem ErAt.same {H H' : Hp} {x C : Addr} {fs : List (Str × V)} (h : ErAt H x C fs) (S : Same H H') : ErAt H' x C fs := by
  rcases h with ⟨e, h⟩ | ⟨d, h1, h2⟩
  · exact .inl ⟨e, S _ _ h⟩
  · exact .inr ⟨d, S _ _ h1, S _ _ h2⟩
/-- one field -/
structure ErrC1 (K : PySem.W.Frag) (C : Addr) (f : Str) : Prop extends ErrC K C where
  f1 : PySem.W.findIn K (.ref C) f = some none
def spInit1 (C : Addr) (f : Str) : Sp := fun vs H Q _ => ∃ (a : Addr) (x : V), vs = [.ref a, x] ∧ H a = some (exo a C none) ∧
  ∀ d, H d = none → d ≠ a → Q .non (upd (upd H d (exd d [(f, x)])) a (exo a C (some d)))
/-- an __init__ of one field, n its parameter's name, as it may be called -/
def Init1 (P : Program) (w : World) (K : PySem.W.Frag) (mg : Str → Option Value) (base : Heap) (C fI : Addr) (f : Str) : Prop :=
  PySem.W.findIn K (.ref C) "__init__" = some (some (.ref fI)) ∧ PySem.W.typeIn K (.ref fI) = some (.type "function") ∧
  ∃ fd, FnOk P w K mg base CX0 1 fI fd ["self", f] (spInit1 C f) ∧ (∀ (s : Shared) (e u : Value), BindsTo s fd ⟨[e, u], []⟩ (([("self" : Str), f] : List Str).zip [e, u])) ∧ (∀ (s : Shared) (e u : Value), BindsTo s fd ⟨[e], [(f, u)]⟩ (([("self" : Str), f] : List Str).zip [e, u]))
def Init2 (P : Program) (w : World) (K : PySem.W.Frag) (mg : Str → Option Value) (base : Heap) (C fI : Addr) (f g : Str) : Prop :=
  PySem.W.findIn K (.ref C) "__init__" = some (some (.ref fI)) ∧ PySem.W.typeIn K (.ref fI) = some (.type "function") ∧
  ∃ fd, FnOk P w K mg base CX0 1 fI fd ["self", f, g] (spInit2 C f g) ∧ (∀ (s : Shared) (e u v : Value), BindsTo s fd ⟨[e, u, v], []⟩ (([("self" : Str), f, g] : List Str).zip [e, u, v])) ∧ (∀ (s : Shared) (e u v : Value), BindsTo s fd ⟨[e], [(g, v), (f, u)]⟩ (([("self" : Str), f, g] : List Str).zip [e, u, v]))
theorem init1_ok {P : Program} {w : World} {K : PySem.W.Frag} {mg : Str → Option Value} {base : Heap} {C fI : Addr} {fd : FuncData} {q f : Str} {st : Stmt} (T : ErrC1 K C f)
    (F : Fun K "__init__" q st fI fd) (S : FnScope ["self", f] ["self", f] (defScope st))
    (hb : ∀ (cdv : Value) (A : Around) (outer : List Env) (s : Shared) (H : Hp) (E : XK), PSs (cxOf CX0 P w K mg base ["self", f] q (defScope st) fI cdv A outer s H E).nox (defBody st) (tOst K f (tVar 0) (tVar 1))) :
    FnOk P w K mg base CX0 1 fI fd ["self", f] (spInit1 C f) := by
  refine F.ok S (fun vs H Q E h => ?_) (fun cdv A outer s H vs Q E hr h => ⟨_, hb cdv A outer s H E, ?_⟩)
  · obtain ⟨_, _, rfl, _⟩ := h
    rfl
  · obtain ⟨a, v1, rfl, ha, q⟩ := h
    exact ⟨_, rfl, _, rfl, a, C, rfl, T.o, T.f1, .inl ⟨ha, fun d hd hne => q d hd hne⟩⟩
section
variable {X : Cx} {x : Str} {C fI : Addr} {f g : Str} {e : Expr} {es : List Expr} {kws : List Keyword} {ta : TA} {p pos : Pos}
theorem run_mkX {k : Nat} {fd : FuncData} {ps : List Str} {sp : Sp} {pins : List (Addr × Obj)} {σ : L2.St} {H : Hp} {s : Shared} {Q : VK} {us ws' : List Value} {kw : List (Str × Value)} {vs' : List V} (T : OexC X.K C)
    (iC : PySem.W.findIn X.K (.ref C) "__init__" = some (some (.ref fI))) (tI : PySem.W.typeIn X.K (.ref fI) = some (.type "function")) (F1 : FnOk X.prog X.w X.K X.mg X.base CX0 k fI fd ps sp) (hr : Room (k + 1) X.A) (I : Inv X pins σ H s)
    (hb : ∀ (s : Shared) (e : Value), BindsTo s fd ⟨e :: us, kw⟩ (ps.zip (e :: ws'))) (r : Vals vs' ws') (hl : us.length ≤ sizeLine)
    (h : ∀ a, H a = none → sp (.ref a :: vs') (upd H a (exo a C none)) (fun v H2 => v = .non ∧ Q (.ref a) H2) (fun _ _ _ => False)) : wpAny (model X.prog X.w) X.A (call (.ref C) us kw) (EP X pins σ Q) X.xe s := by
  obtain ⟨nm, q, N, bs, bm, sn, sub, ab, col, dd, k0, k1, k2, k3, k5, hC, hbm⟩ := T.cls
  obtain ⟨hp, gg, dr, tk, os⟩ := s
  have hsz : hp.objs.size ≤ hp.objs.size + 1 := Nat.le_succ _
  have hq := h (hp.objs.size + 1) (I.hok.fresh hsz)
  have up : ∀ b o, hp.get? b = some o → ((hp.push (PySem.W.kdv_tup us)).push (PySem.HandSPX.excO C hp.objs.size)).get? b = some o := fun b o z =>
    Heap.get?_push_of_some _ (Heap.get?_push_of_some _ z)
  have at1 : ((hp.push (PySem.W.kdv_tup us)).push (PySem.HandSPX.excO C hp.objs.size)).get? (hp.objs.size + 1) = some (PySem.HandSPX.excO C hp.objs.size) := by
    heap_get
  have I2 : Inv X pins σ (upd H (hp.objs.size + 1) (exo (hp.objs.size + 1) C none)) ⟨(hp.push (PySem.W.kdv_tup us)).push (PySem.HandSPX.excO C hp.objs.size), gg, dr, tk, os⟩ :=
    I.laid (t' := tk) (a := hp.objs.size + 1) (o := exo (hp.objs.size + 1) C none) up hsz (exo_ok at1)
  have r2 : Vals (V.ref (hp.objs.size + 1) :: vs') (Value.ref (hp.objs.size + 1) :: ws') := .cons rfl r
  refine wpAny_call (MyX.kw_call F.excBase_ValueError (fun Y => PySem.HandSPX.refsVE_contains Y bm hbm) (I.kIn _ _ hC) (PySem.W.looks_findIn I.kIn iC) (fun self => PySem.W.bind_fn I.kIn self tI) hl
    (codeAny_mono (F1.run _ X.stack _ _ ⟨Value.ref (hp.objs.size + 1) :: us, kw⟩ (Value.ref (hp.objs.size + 1) :: ws') _ _ (fun _ _ _ => False) (hr.make C us kw) (I2.env0.make C us kw) (hb _ _) r2 hq) fun r' s' hq' => ?_))
  cases r' with
  | error er => exact hq'.elim
  | ok fl =>
    cases fl with
    | ret u =>
      obtain ⟨v, H', I3, rv, ev, q3⟩ := I2.after hq'
      subst ev
      exact ⟨rv, ⟨V.ref (hp.objs.size + 1), H', I3, rfl, q3⟩⟩
    | next => exact hq'.elim
    | brk => exact hq'.elim
    | cont => exact hq'.elim
/-- an error made of one value, of two -/
def tX1 (C : Addr) (f : Str) (ta : TA) : TE := fun σ H Q => ta σ H fun vs H1 => ∃ v : V, vs = [v] ∧ ∀ H' x, Same H1 H' → H1 x = none → ErAt H' x C [(f, v)] → Q (.ref x) H'
def tX2 (C : Addr) (f g : Str) (ta : TA) : TE := fun σ H Q => ta σ H fun vs H1 => ∃ v u : V, vs = [v, u] ∧ ∀ H' x, Same H1 H' → H1 x = none → ErAt H' x C [(g, u), (f, v)] → Q (.ref x) H'
def tX2r (C : Addr) (f g : Str) (ta : TA) : TE := fun σ H Q => ta σ H fun vs H1 => ∃ v u : V, vs = [u, v] ∧ ∀ H' x, Same H1 H' → H1 x = none → ErAt H' x C [(g, u), (f, v)] → Q (.ref x) H'
theorem sp1_of {H : Hp} {Q : VK} {v : V} (q : ∀ H' x, Same H H' → H x = none → ErAt H' x C [(f, v)] → Q (.ref x) H') (a : Addr) (ha : H a = none) : spInit1 C f [.ref a, v] (upd H a (exo a C none)) (fun w H2 => w = .non ∧ Q (.ref a) H2) (fun _ _ _ => False) := by
  refine ⟨a, v, rfl, upd_same, fun d hd hne => ⟨rfl, q _ a ?_ ha (.inr ⟨d, upd_same, (upd_ne hne).trans upd_same⟩)⟩⟩
  have hd0 : H d = none := by rw [upd_ne hne] at hd; exact hd
  exact Same.put (Same.put (Same.put (Same.refl H) ha) hd0) ha
theorem sp2_of {H : Hp} {Q : VK} {v u : V} (q : ∀ H' x, Same H H' → H x = none → ErAt H' x C [(g, u), (f, v)] → Q (.ref x) H') (a : Addr) (ha : H a = none) : spInit2 C f g [.ref a, v, u] (upd H a (exo a C none)) (fun w H2 => w = .non ∧ Q (.ref a) H2) (fun _ _ _ => False) := by
  refine ⟨a, v, u, rfl, upd_same, fun d hd hne => ⟨rfl, q _ a ?_ ha (.inr ⟨d, (upd_ne (Ne.symm hne)).trans upd_same, upd_same⟩)⟩⟩
  have hd0 : H d = none := by rw [upd_ne hne] at hd; exact hd
  exact Same.put (Same.put (Same.put (Same.put (Same.refl H) ha) hd0) ha) hd0
theorem pe_x1 (T : OexC X.K C) (J : Init1 X.prog X.w X.K X.mg X.base C fI f) (hr : Room 2 X.A) (hg : Gl X x) (hm : X.mg x = some (.ref C)) (ha : PA X [e] ta)
    (hdb : (x == ("__debug__" : Str)) = false := by decide) (he : starEach [e] X.env = (false, eval e X.env) :: starEach [] X.env := by rfl) (hpl : (backTo pos (starEach [] X.env)).any (·.1) = false := by rfl) :
    PE X (.Call (.Name x p) [e] [] pos) (tX1 C f ta) := by
  obtain ⟨iC, tI, fd, F1, b1, _⟩ := J
  refine ⟨fun pins s σ H Q I h => ?_⟩
  refine wpAny_Call_Name_kw (ld_glob I hg hm ?_ hdb)
  refine PySem.W.callWith_K (h₀ := X.base) I.ok.mod.kin T.kC (thn (ha.run pos pins s σ H _ I h) fun us s1 ⟨vs, H1, I1, r1, v, ev, q1⟩ => ⟨I1.kIn, ?_⟩) he hpl
  subst ev
  cases r1 with
  | cons rv rn =>
    cases rn
    exact run_mkX T iC tI F1 hr I1 (fun s e => b1 s e _) (.cons rv .nil) (by show 1 ≤ sizeLine; rw [sizeLine_eq]; decide) (fun a n => sp1_of q1 a n)
theorem pe_x2 {e2 : Expr} (T : OexC X.K C) (J : Init2 X.prog X.w X.K X.mg X.base C fI f g) (hr : Room 2 X.A) (hg : Gl X x) (hm : X.mg x = some (.ref C)) (ha : PA X [e, e2] ta)
    (hdb : (x == ("__debug__" : Str)) = false := by decide) (he : starEach [e, e2] X.env = (false, eval e X.env) :: starEach [e2] X.env := by rfl) (hpl : (backTo pos (starEach [e2] X.env)).any (·.1) = false := by rfl) :
    PE X (.Call (.Name x p) [e, e2] [] pos) (tX2 C f g ta) := by
  obtain ⟨iC, tI, fd, F1, b1, _⟩ := J
  refine ⟨fun pins s σ H Q I h => ?_⟩
  refine wpAny_Call_Name_kw (ld_glob I hg hm ?_ hdb)
  refine PySem.W.callWith_K (h₀ := X.base) I.ok.mod.kin T.kC (thn (ha.run pos pins s σ H _ I h) fun us s1 ⟨vs, H1, I1, r1, v, u, ev, q1⟩ => ⟨I1.kIn, ?_⟩) he hpl
  subst ev
  cases r1 with
  | cons rv rn =>
    cases rn with
    | cons ru rn =>
      cases rn
      exact run_mkX T iC tI F1 hr I1 (fun s e => b1 s e _ _) (.cons rv (.cons ru .nil)) (by show 2 ≤ sizeLine; rw [sizeLine_eq]; decide) (fun a n => sp2_of q1 a n)
theorem pe_x1k (T : OexC X.K C) (J : Init1 X.prog X.w X.K X.mg X.base C fI f) (hr : Room 2 X.A) (hg : Gl X x) (hm : X.mg x = some (.ref C)) (hkw : PK X kws ta)
    (hall : (backToKw pos (keywordEach kws X.env)).all (·.1.isSome) = true := by rfl) (hks : (backToKw pos (keywordEach kws X.env)).filterMap (·.1) = [f] := by rfl) (hdb : (x == ("__debug__" : Str)) = false := by decide)
    (hpl : ((backTo pos (starEach [] X.env)).any (·.1) || (backToKw pos (keywordEach kws X.env)).any (·.1.isNone)) = false := by rfl) :
    PE X (.Call (.Name x p) [] kws pos) (tX1 C f ta) := by
  obtain ⟨iC, tI, fd, F1, _, b2⟩ := J
  refine ⟨fun pins s σ H Q I h => ?_⟩
  refine wpAny_Call_Name_kw (ld_glob I hg hm ?_ hdb)
  refine PySem.W.callWith_KW0 (h₀ := X.base) I.ok.mod.kin T.kC hall ?_ hpl
  refine thn (hkw.run pos pins s σ H _ I h) fun ws s1 ⟨vs, H1, I1, r1, v, ev, q1⟩ => ⟨I1.kIn, ?_⟩
  subst ev
  rw [hks]
  cases r1 with
  | cons rv rn =>
    cases rn
    exact run_mkX T iC tI F1 hr I1 (fun s e => b2 s e _) (.cons rv .nil) (Nat.zero_le _) (fun a n => sp1_of q1 a n)
theorem pe_x2k (T : OexC X.K C) (J : Init2 X.prog X.w X.K X.mg X.base C fI f g) (hr : Room 2 X.A) (hg : Gl X x) (hm : X.mg x = some (.ref C)) (hkw : PK X kws ta)
    (hall : (backToKw pos (keywordEach kws X.env)).all (·.1.isSome) = true := by rfl) (hks : (backToKw pos (keywordEach kws X.env)).filterMap (·.1) = [g, f] := by rfl) (hdb : (x == ("__debug__" : Str)) = false := by decide)
    (hpl : ((backTo pos (starEach [] X.env)).any (·.1) || (backToKw pos (keywordEach kws X.env)).any (·.1.isNone)) = false := by rfl) :
    PE X (.Call (.Name x p) [] kws pos) (tX2r C f g ta) := by
  obtain ⟨iC, tI, fd, F1, _, b2⟩ := J
  refine ⟨fun pins s σ H Q I h => ?_⟩
  refine wpAny_Call_Name_kw (ld_glob I hg hm ?_ hdb)
  refine PySem.W.callWith_KW0 (h₀ := X.base) I.ok.mod.kin T.kC hall ?_ hpl
  refine thn (hkw.run pos pins s σ H _ I h) fun ws s1 ⟨vs, H1, I1, r1, v, u, ev, q1⟩ => ⟨I1.kIn, ?_⟩
  subst ev
  rw [hks]
  cases r1 with
  | cons ru rn =>
    cases rn with
    | cons rv rn =>
      cases rn
      exact run_mkX T iC tI F1 hr I1 (fun s e => b2 s e _ _) (.cons rv (.cons ru .nil)) (Nat.zero_le _) (fun a n => sp2_of q1 a n)
end
end MyL

/-! repr of any nested data, dicts among it; fields and kinds of errors that are held as values. -/
namespace MyL
open PySem PySem.Spec PyProof.Rows L2
def keyD : Key → PyData
  | .inl i => .int i
  | .inr x => .str x
mutual
/-- the value reads as the data -/
inductive DpX (H : Hp) : V → PyData → Prop
  | non : DpX H .non .none
  | bl (b : Bool) : DpX H (.bl b) (.bool b)
  | int (i : Int) : DpX H (.int i) (.int i)
  | str (z : Str) : DpX H (.str z) (.str z)
  | lst {a : Addr} {xs : List V} {ds : List PyData} : H a = some (.lst xs) → a ≠ sysModules → DpXs H xs ds → DpX H (.ref a) (.list ds)
  | tup {a : Addr} {xs : List V} {ds : List PyData} : H a = some (.tup xs) → DpXs H xs ds → DpX H (.ref a) (.tuple ds)
  | dct {a : Addr} {kvs : List (Key × V)} {ds : List (PyData × PyData)} : H a = some (.dK kvs) → DpXp H kvs ds → DpX H (.ref a) (.dict ds)
inductive DpXs (H : Hp) : List V → List PyData → Prop
  | nil : DpXs H [] []
  | cons {v : V} {vs : List V} {d : PyData} {ds : List PyData} : DpX H v d → DpXs H vs ds → DpXs H (v :: vs) (d :: ds)
inductive DpXp (H : Hp) : List (Key × V) → List (PyData × PyData) → Prop
  | nil : DpXp H [] []
  | cons {k : Key} {v : V} {vs : List (Key × V)} {d : PyData} {ds : List (PyData × PyData)} : DpX H v d → DpXp H vs ds → DpXp H ((k, v) :: vs) ((keyD k, d) :: ds)
end
section
variable {H H' : Hp}
mutual
theorem DpX.same (S : Same H H') : ∀ {v : V} {d : PyData}, DpX H v d → DpX H' v d
  | _, _, .non => .non
  | _, _, .bl b => .bl b
  | _, _, .int i => .int i
  | _, _, .str z => .str z
  | _, _, .lst h n q => .lst (S _ _ h) n (DpXs.same S q)
  | _, _, .tup h q => .tup (S _ _ h) (DpXs.same S q)
  | _, _, .dct h q => .dct (S _ _ h) (DpXp.same S q)
theorem DpXs.same (S : Same H H') : ∀ {v : List V} {d : List PyData}, DpXs H v d → DpXs H' v d
  | _, _, .nil => .nil
  | _, _, .cons h q => .cons (DpX.same S h) (DpXs.same S q)
theorem DpXp.same (S : Same H H') : ∀ {v : List (Key × V)} {d : List (PyData × PyData)}, DpXp H v d → DpXp H' v d
  | _, _, .nil => .nil
  | _, _, .cons h q => .cons (DpX.same S h) (DpXp.same S q)
end
end
section
variable {P : Program} {w : World} {H : Hp} {h : Heap}
theorem key_reads {k : Key} {u : Value} (e : keyIs k u = true) : Reads h u (keyD k) [] := by
  rcases keyIs_shape e with ⟨i, t, rfl, rfl⟩ | ⟨z, t, rfl, rfl⟩
  · exact Reads.int i t
  · exact Reads.str z t
mutual
theorem DpX.reads (hok : HOk P w H h) : ∀ {v : V} {d : PyData} {u : Value}, DpX H v d → RelV v u → ∃ as, Reads h u d as ∧ sysModules ∉ as
  | _, _, _, .non, r => by
    cases r
    exact ⟨_, Reads.none, List.not_mem_nil⟩
  | _, _, _, .bl b, r => by
    cases r
    exact ⟨_, Reads.bool b, List.not_mem_nil⟩
  | _, _, _, .int i, r => by
    obtain ⟨t, rfl⟩ := r
    exact ⟨_, Reads.int i t, List.not_mem_nil⟩
  | _, _, _, .str z, r => by
    obtain ⟨t, rfl⟩ := r
    exact ⟨_, Reads.str z t, List.not_mem_nil⟩
  | _, _, _, .lst (a := a) ha n q, r => by
    cases r
    obtain ⟨_, its, m, rv, e⟩ := hok a _ ha
    obtain ⟨as, hr, hn⟩ := DpXs.reads hok q rv
    exact ⟨_, Reads.list e rfl rfl hr, fun z => (List.mem_cons.mp z).elim (fun y => n y.symm) hn⟩
  | _, _, _, .tup (a := a) ha q, r => by
    cases r
    obtain ⟨_, its, rv, o, e, c, m, hd⟩ := hok a _ ha
    obtain ⟨as, hr, hn⟩ := DpXs.reads hok q rv
    exact ⟨_, Reads.tuple e c hd hr, hn⟩
  | _, _, _, .dct (a := a) ha q, r => by
    cases r
    obtain ⟨_, hne, vs, kv, o, es, ep, e, hx, hd, _, prs, _⟩ := hok a _ ha
    obtain ⟨as, bs, h1, h2, n1, n2⟩ := DpXp.reads hok q kv prs
    refine ⟨_, Reads.dict e hx.1 hd h1 h2, fun z => ?_⟩
    rcases List.mem_cons.mp z with y | y
    · rw [← y] at hne
      simp at hne
    · exact (List.mem_append.mp y).elim n1 n2
theorem DpXs.reads (hok : HOk P w H h) : ∀ {v : List V} {d : List PyData} {u : List Value}, DpXs H v d → Vals v u → ∃ as, ReadsAll h u d as ∧ sysModules ∉ as
  | _, _, _, .nil, r => by
    cases r
    exact ⟨_, ReadsAll.nil, List.not_mem_nil⟩
  | _, _, _, .cons p q, r => by
    cases r with
    | cons r1 r2 =>
      obtain ⟨as, h1, n1⟩ := DpX.reads hok p r1
      obtain ⟨bs, h2, n2⟩ := DpXs.reads hok q r2
      exact ⟨_, ReadsAll.cons h1 h2, fun z => (List.mem_append.mp z).elim n1 n2⟩
theorem DpXp.reads (hok : HOk P w H h) : ∀ {v : List (Key × V)} {d : List (PyData × PyData)} {us : List (Key × Value)} {es : List DictEntry}, DpXp H v d → KV v us → Pairs (mixKind P w) es us →
    ∃ as bs, ReadsAll h (es.map (·.key)) (d.map (·.1)) as ∧ ReadsAll h (es.map (·.val)) (d.map (·.2)) bs ∧ sysModules ∉ as ∧ sysModules ∉ bs
  | _, _, _, _, .nil, kv, prs => by
    cases kv
    cases prs
    exact ⟨[], [], ReadsAll.nil, ReadsAll.nil, List.not_mem_nil, List.not_mem_nil⟩
  | _, _, _, _, .cons p q, kv, prs => by
    cases kv with
    | cons r1 r2 =>
      cases prs with
      | cons k1 v1 prs =>
        obtain ⟨e1, e2⟩ := r1
        obtain ⟨as, h1, n1⟩ := DpX.reads hok p e2
        obtain ⟨cs, bs, h2, h3, n2, n3⟩ := DpXp.reads hok q r2 prs
        dsimp only at e1 h1
        rw [← e1] at k1
        rw [← v1] at h1
        exact ⟨_, _, ReadsAll.cons (key_reads k1) h2, ReadsAll.cons h1 h3, fun z => (List.mem_append.mp z).elim List.not_mem_nil n2, fun z => (List.mem_append.mp z).elim n1 n3⟩
end
end
/-- repr of a value that reads as data -/
def rReprX (K : PySem.W.Frag) : List V → Hp → VK → Prop := fun xs H Q => ∃ (v : V) (d : PyData), xs = [v] ∧ DpX H v d ∧ d.showable = true ∧ d.depth ≤ 60 ∧ d.shown.length ≤ sizeLine ∧ Q (.str d.shown) H
theorem call_reprX {X : Cx} (hg : X.A.guards = some []) (hu : X.A.units + 64 < cLine) : CallR X (.builtin "repr") (rReprX X.K) := by
  intro pins s σ H xs us Q I r h
  obtain ⟨v, d, rfl, hd, hs, hz, hl, q⟩ := h
  obtain ⟨u, rfl, ru⟩ := vals1 r
  obtain ⟨as, rd, hn⟩ := DpX.reads I.hok hd ru
  cases rd with
  | none =>
    simp only [PyData.shown] at q
    exact PySem.P.repr_of_none ⟨.str _, H, I.tok _, ⟨_, rfl⟩, q⟩
  | bool b =>
    simp only [PyData.shown] at q
    exact PySem.P.repr_of_bool ⟨.str _, H, I.tok _, ⟨_, rfl⟩, q⟩
  | int i t =>
    simp only [PyData.shown] at q
    exact PySem.P.repr_of_int (by simpa [PyData.showable] using hs) ⟨.str _, H, I.tok _, ⟨_, rfl⟩, q⟩
  | str x t =>
    simp only [PyData.shown] at q hl
    exact PySem.P.repr_of_str ⟨.str _, H, I.tok _, ⟨_, rfl⟩, q⟩ hl
  | list h1 h2 h3 h4 => exact repr_of_reads' (Reads.list h1 h2 h3 h4) hs (fun _ => hn) hg (by omega) (fun b o e => e) (fun h' u tk hk => ⟨.str _, H, I.kept (t' := tk) hk, ⟨_, rfl⟩, q⟩) hl
  | tuple h1 h2 h3 h4 => exact repr_of_reads' (Reads.tuple h1 h2 h3 h4) hs (fun _ => hn) hg (by omega) (fun b o e => e) (fun h' u tk hk => ⟨.str _, H, I.kept (t' := tk) hk, ⟨_, rfl⟩, q⟩) hl
  | dict h1 h2 h3 h4 h5 => exact repr_of_reads' (Reads.dict h1 h2 h3 h4 h5) hs (fun _ => hn) hg (by omega) (fun b o e => e) (fun h' u tk hk => ⟨.str _, H, I.kept (t' := tk) hk, ⟨_, rfl⟩, q⟩) hl
/-- a list display: the new address is not the module table's -/
def tLstX (t : TA) : TE := fun σ H Q => t σ H fun xs H1 => xs.length ≤ sizeLine ∧ ∀ p, H1 p = none → p ≠ sysModules → Q (.ref p) (upd H1 p (.lst xs))
theorem pe_lstX {X : Cx} {es : List Expr} {t : TA} {pos : Pos} (h : PA X es t) : PE X (.List es pos) (tLstX t) := by
  refine ⟨fun pins s σ H Q I hq => ?_⟩
  refine wpAny_List_spliced (thn (h.run pos pins s σ H _ I hq) fun us s1 ⟨xs, H1, I1, r, z, q⟩ => ⟨by rw [← r.length]; exact z, ?_⟩)
  have fresh : H1 s1.heap.objs.size = none := I1.hok.fresh (Nat.le_refl _)
  have big : s1.heap.objs.size ≠ sysModules := Nat.ne_of_gt (StX.env0_big I1.env0)
  have new : ObjOk X.prog X.w (upd H1 s1.heap.objs.size (.lst xs)) (s1.heap.push { cls := .type "list", data := .seq us.toArray 0 }) s1.heap.objs.size (.lst xs) := ⟨z, us, 0, r, Heap.get?_push_size _ rfl⟩
  exact ⟨.ref s1.heap.objs.size, _, I1.laid (t' := s1.toks) (fun b u e => Heap.get?_push_of_some _ e) (Nat.le_refl _) new, rfl, q _ fresh big⟩

/-! ### errors as values: fields, kinds -/
def tXo (K : PySem.W.Frag) (f : Str) (te : TE) : TE := fun σ H Q => te σ H fun v H1 => ∃ (x C : Addr) (fs : List (Str × V)) (y : V), v = .ref x ∧ ErAt H1 x C fs ∧ XfC K C ∧ PySem.W.findIn K (.ref C) f = some none ∧ fs.lookup f = some y ∧ Q y H1
theorem pe_xo {X : Cx} {e : Expr} {te : TE} {pos : Pos} {n : Str} (he : PE X e te) (hb : attributeBase e n X.env (eval e X.env) = eval e X.env := by rfl) : PE X (.Attribute e n pos) (tXo X.K n te) := by
  refine ⟨fun pins s σ H Q I h => ?_⟩
  refine attr_of hb (thn (he.run pins s σ H _ I h) fun u s1 hh => ?_)
  obtain ⟨v, H1, I1, rx, x, C, fs, y, rfl, hE, T, hno, l, q⟩ := hh
  obtain rfl : u = Value.ref x := rx
  rcases hE with ⟨rfl, _⟩ | ⟨d, h1, h2⟩
  · cases l
  · obtain ⟨t1, ho⟩ := exo_at I1.hok h1
    obtain ⟨mA, hns, hr⟩ := exd_at I1.hok h2
    obtain ⟨od, hod, hl⟩ := lookIn_ns hns
    obtain ⟨uv, hu, ru⟩ := RelO.some_of (v := y) (o := mA n) (by rw [← l]; exact hr n)
    have J : PySem.W.InstAt s1.heap x ({ cls := .ref C, dict := some d, data := .fields #[.ref t1, .none, .none, .none, .bool false, .none] } : Obj) C (some od) := ⟨ho, rfl, rfl, hod⟩
    exact HandSPX.exc_get I1.kIn J T.ga T.gg T.exC (PySem.W.findObj_own T.hdC hno rfl (by rw [hl, hu])) (handed_of ru) ⟨y, H1, I1.tok _, ru, q⟩
/-- isinstance of an error that is held as a value -/
def rIsX (K : PySem.W.Frag) : List V → Hp → VK → Prop := fun xs H Q => ∃ (x C : Addr) (fs : List (Str × V)) (c : V) (cv : Value) (b : Bool), xs = [.ref x, c] ∧ ErAt H x C fs ∧ ExcC K C ∧ ClsV c cv ∧ PySem.W.kitOne K (.ref C) cv = some b ∧ Q (.bl b) H
theorem call_isX {X : Cx} : CallR X (.builtin "isinstance") (rIsX X.K) := by
  intro pins s σ H xs us Q I r h
  obtain ⟨x, C, fs, c, cv, b, rfl, hE, T, hcv, e, q⟩ := h
  cases r with
  | cons rx rr =>
    cases rr with
    | cons rt rr =>
      cases rr
      cases rx
      have ec := hcv.eq rt
      subst ec
      obtain ⟨cd, hc, _⟩ := PySem.W.any_some T.hd
      have J : ∃ (ox : Obj) (od : Option Obj), PySem.W.InstAt s.heap x ox C od := by
        rcases hE with ⟨_, h1⟩ | ⟨d, h1, h2⟩
        · obtain ⟨t1, ho⟩ := exo_at I.hok h1
          exact ⟨_, none, ho, rfl, rfl, trivial⟩
        · obtain ⟨t1, ho⟩ := exo_at I.hok h1
          obtain ⟨mA, hns, _⟩ := exd_at I.hok h2
          obtain ⟨od, hod, _⟩ := lookIn_ns hns
          exact ⟨_, some od, ho, rfl, rfl, hod⟩
      obtain ⟨ox, od, J⟩ := J
      exact PySem.W.kia_one (PySem.W.kitx_exc (by rw [hc] <;> rfl) T.hg T.hk T.hs T.ha T.hn T.ht T.hm) I.kIn J e (fun z => nomatch z) fun tk => ⟨.bl b, H, I.kept (t' := tk) fun _ _ z => z, rfl, q⟩
/-- C(), no __init__ of its own -/
theorem pe_x0 {X : Cx} {C : Addr} {x : Str} {p pos : Pos} (q : PySem.W.excIn X.K C [.type "ValueError", .type "Exception", .type "BaseException", .type "object"] "ValueError.__new__" = true) (gC : X.mg x = some (.ref C)) (kC : PySem.W.keepIn X.K (.ref C) = true) (hg : Gl X x)
    (hdb : (x == ("__debug__" : Str)) = false := by decide) :
    PE X (.Call (.Name x p) [] [] pos) (fun _ H Q => ∀ H' x, Same H H' → H x = none → ErAt H' x C [] → Q (.ref x) H') := by
  refine ⟨fun pins s σ H Q I h => ?_⟩
  refine wpAny_Call_Name_kw (ld_glob I hg gC ?_ hdb)
  refine PySem.W.callWith_K0 I.kIn kC ?_
  show wpAny _ _ (call (.ref C) []) _ _ _
  obtain ⟨bm, N, nm, qn, bs, hdct, sn, sub, ab, col, dd, k0, k1, k2, k3, k5, mN, hC, hN, hni, T⟩ := exc_obj I.kIn q
  refine wpAny_call_exc_subT F.excBase_ValueError T hC hN hni (fun h' a hm => ?_) (Nat.zero_le _)
  have hn : H a = none := I.hok.gone hm.new
  obtain ⟨t, ht, _, _⟩ := hm.there
  exact ⟨.ref a, upd H a (exo a C none), I.laidN hm.keeps hm.new hn (exo_ok ht), rfl, h _ a (Same.new (Same.refl H) hn) hn (.inl ⟨rfl, upd_same⟩)⟩
/-- a class's chain -/
def MroAt (K : PySem.W.Frag) (C : Addr) (l : List Value) : Prop := l ≠ [] ∧ ∃ cd, PySem.W.clsIn K C = some cd ∧ cd.mro = l
/-- what a class's chain tells -/
theorem kit_mro {K : PySem.W.Frag} {C : Addr} {cd : ClassData} {l : List Value} (hc : PySem.W.clsIn K C = some cd) (e : cd.mro = l) (hl : l ≠ []) (t : Value) : PySem.W.subIn K (.ref C) t = some (l.contains t) := by
  subst e
  show ((PySem.W.clsIn K C).bind fun cd => if cd.mro.isEmpty then none else some (cd.mro.contains t)) = _
  rw [hc, Option.bind_some, if_neg (by simpa using hl)]
theorem MroAt.sub {K : PySem.W.Frag} {C : Addr} {l : List Value} (M : MroAt K C l) (t : Value) : PySem.W.subIn K (.ref C) t = some (l.contains t) := by
  obtain ⟨h, cd, hc, e⟩ := M
  exact kit_mro hc e h t
theorem MroAt.own {K : PySem.W.Frag} {C D : Addr} {l : List Value} (M : MroAt K C (.ref C :: l)) (E : ErrC K D) : PySem.W.kitOne K (.ref C) (.ref D) = some ((Value.ref C :: l).contains (.ref D)) := by
  have h := M.sub (.ref D)
  cases b : (Value.ref C :: l).contains (.ref D) with
  | true =>
    rw [b] at h
    exact kit_own E h
  | false =>
    rw [b] at h
    have ne : (Value.ref C == Value.ref D) = false := by
      rw [List.contains_cons] at b
      have b1 := (Bool.or_eq_false_iff.mp b).1
      rw [Bool.eq_false_iff] at b1 ⊢
      exact fun z => b1 (by rw [beq_iff_eq] at z ⊢; exact z.symm)
    unfold PySem.W.kitOne
    rw [if_neg (by rw [ne]; exact Bool.false_ne_true)]
    obtain ⟨cd, hc, _⟩ := PySem.W.any_some E.e.hd
    have e2 : ((PySem.W.clsIn K D).isSome && PySem.W.typeIn K (.ref D) == some (.type "type")) = true := by rw [hc, E.o.tyC] <;> rfl
    show (if ((PySem.W.clsIn K D).isSome && PySem.W.typeIn K (.ref D) == some (.type "type")) = true then PySem.W.subIn K (.ref C) (.ref D) else none) = some false
    rw [if_pos e2]
    exact h
theorem MroAt.ty {K : PySem.W.Frag} {C : Addr} {l : List Value} {N : String} (M : MroAt K C l) (hm : PySem.W.kitMeta N = true) : PySem.W.kitOne K (.ref C) (.type N) = some (l.contains (.type N)) := by
  have ne : (Value.ref C == Value.type N) = false := by
    rw [Bool.eq_false_iff]
    exact fun z => nomatch (beq_iff_eq.mp z)
  unfold PySem.W.kitOne
  rw [if_neg (by rw [ne]; exact Bool.false_ne_true)]
  show (if PySem.W.kitMeta N = true then PySem.W.subIn K (.ref C) (.type N) else none) = _
  rw [if_pos hm]
  exact M.sub _
/-- isinstance(e, D), D an own class; a built-in one -/
def rIsXD (K : PySem.W.Frag) (D : Addr) : List V → Hp → VK → Prop := fun xs H Q => ∃ (x C : Addr) (fs : List (Str × V)) (l : List Value), xs = [.ref x, .ref D] ∧ ErAt H x C fs ∧ ExcC K C ∧ MroAt K C (.ref C :: l) ∧ Q (.bl ((Value.ref C :: l).contains (.ref D))) H
theorem call_isXD {X : Cx} {D : Addr} (E : ErrC X.K D) : CallR X (.builtin "isinstance") (rIsXD X.K D) := by
  intro pins s σ H xs us Q I r h
  obtain ⟨x, C, fs, l, rfl, hE, T, M, q⟩ := h
  exact call_isX pins s σ H _ us Q I r ⟨x, C, fs, _, _, _, rfl, hE, T, ClsV.own D, M.own E, q⟩
def rIsXT (K : PySem.W.Frag) (N : String) : List V → Hp → VK → Prop := fun xs H Q => ∃ (x C : Addr) (fs : List (Str × V)) (l : List Value), xs = [.ref x, .ty N] ∧ ErAt H x C fs ∧ ExcC K C ∧ MroAt K C l ∧ Q (.bl (l.contains (.type N))) H
theorem call_isXT {X : Cx} {N : String} (hm : PySem.W.kitMeta N = true) : CallR X (.builtin "isinstance") (rIsXT X.K N) := by
  intro pins s σ H xs us Q I r h
  obtain ⟨x, C, fs, l, rfl, hE, T, M, q⟩ := h
  exact call_isX pins s σ H _ us Q I r ⟨x, C, fs, _, _, _, rfl, hE, T, ClsV.ty N, M.ty hm, q⟩
theorem cls_of {K : PySem.W.Frag} {nm q : Str} {C N : Addr} {bs bm : List Value} {hdct : Bool} {sn : List Str} {sub : List Value} {ab : Bool} {col : Option Bool} {dd : Option Addr} {k0 k1 k2 k3 k5 : Option Value} {newId : String}
    (hC : K.lookup C = some (excClassObj nm q C N bs bm hdct sn sub ab col dd k0 k1 k2 k3 k5 newId)) :
    PySem.W.clsIn K C = some { name := nm, bases := bs, mro := .ref C :: bm, ns := N, qualname := q, hasDict := hdct, slotNames := sn, subclasses := sub, abstract := ab, collection := col, hasDel := false } := by
  unfold PySem.W.clsIn
  rw [hC] <;> rfl
end MyL

namespace MyL
open PySem PySem.Spec PyProof.Rows L2
/-! ### the end of a law whose def is called where no repr is under way -/
section
variable {P : Program} {w : World} {K : PySem.W.Frag} {mg mb : Str → Option Value} {CX : CXT} {k : Nat} {fa a : Addr} {sp : Sp} {s1 : Shared} {vs : List Value} {ns : List Int}
/-- what the abstract heap at the law's entry must be -/
structure EntryH (P : Program) (w : World) (K : PySem.W.Frag) (s1 : Shared) (a : Addr) (H : Hp) : Prop where
  only : Only H
  ok : HOk P w H s1.heap
  at_ : ∀ b, H b ≠ none → b = a
  off : H a ≠ none → K.lookup a = none
theorem entry_run {H : Hp} (EH : EntryH P w K s1 a H) (KX : K.In s1.heap) (hns : s1.heap.Ns mainGlobals mg) (hb : s1.heap.Ns builtinsNs mb) (hbb : ∀ x : Str, x ≠ "__name__" → mb x = bootBuiltins x) (hlim : s1.heap.NoLimit) (hg : s1.gens = #[])
    (ha : s1.heap.get? a = some { cls := .type "list", data := .seq vs.toArray }) (hr : Room k callerA)
    (F : ∀ base : Heap, K.In base → base.Ns mainGlobals mg → FnG P w K mg base CX k fa sp)
    (hsp : sp [.ref a] H (fun v _ => v = .bl true) fun _ _ _ => False) (hCX : ∀ e s', CX [] H s1 (fun _ _ _ => False) e s' → False) :
    codeAny (model P w) callerA (.call (.ref fa) ⟨[.ref a], []⟩) (fun r s' => r = .ok (.ret (.bool true)) ∧ OldK s1.heap s'.heap ∧ s'.os = s1.os ∧ AllBare s'.gens) s1 := by
  have untr : ∀ {b : Addr} {o : Obj}, s1.heap.get? b = some o → o ≠ { cls := .type "list", data := .seq vs.toArray } → H b = none := by
    intro b o e d
    cases q : H b with
    | none => rfl
    | some u =>
      have z : b = a := EH.at_ b (by rw [q]; exact fun z => nomatch z)
      rw [z, ha] at e
      exact absurd (Option.some.inj e).symm d
  have hid : ∀ {b : Addr} {m : Str → Option Value}, s1.heap.Ns b m → (hidT s1.heap H).Ns b m := by
    rintro b m ⟨o, es, ep, e, d, r⟩
    refine ⟨o, es, ep, hidT_get e (untr e fun z => ?_), d, r⟩
    rw [z] at d
    exact nomatch d
  have KB : K.In (hidT s1.heap H) := by
    intro b o e
    refine hidT_get (KX b o e) ?_
    cases q : H b with
    | none => rfl
    | some u =>
      have z : b = a := EH.at_ b (by rw [q]; exact fun z => nomatch z)
      subst z
      rw [EH.off (by rw [q]; exact fun z => nomatch z)] at e
      exact nomatch e
  obtain ⟨mc, l1, l2⟩ := hlim
  have M : Mod K mg (hidT s1.heap H) := { kin := KB, glob := hid hns, blt := ⟨mb, hid hb, hbb⟩, nolimit := ⟨mc, hid l1, l2⟩ }
  have E0 : Env0 P w K mg (hidT s1.heap H) callerA [] s1 H :=
    { frames := rfl, mod := M, bs := fun b o e => of_hidT e, bsz := Nat.le_of_eq (hidT_size _ _), funs := trivial, frf := (fun b z => nomatch z), hok := EH.ok, bare := .of_eq hg }
  refine codeAny_mono (F _ KB (hid hns) callerA [] s1 H [.ref a] [.ref a] _ _ hr rfl E0 (.cons rfl .nil) hsp) fun r s' h => ?_
  match r, h with
  | .error e, h => exact (hCX e s' h).elim
  | .ok .next, h => exact h.elim
  | .ok .brk, h => exact h.elim
  | .ok .cont, h => exact h.elim
  | .ok (.ret u), h =>
    obtain ⟨v, H2, hos, hbare, un, hok2, ru, rfl⟩ := h
    obtain rfl : u = Value.bool true := ru
    refine ⟨rfl, OldK.of_keep fun b o e => ?_, hos, hbare⟩
    rcases EH.only b with z | ⟨ob, xs, z⟩
    · exact un.keep b o e z (fun q => nomatch q) (fun q => nomatch q)
    · have e1 := (EH.ok b _ z).1
      have e2 := (hok2 b _ (un.frzs b ob _ z)).1
      rw [e] at e1
      rw [e2, Option.some.inj e1]
theorem entry_at (KX : K.In s1.heap) (ha : s1.heap.get? a = some { cls := .type "list", data := .seq vs.toArray }) (hi : IntsAre vs ns) (hl : ns.length ≤ sizeLine) : ∃ H, EntryH P w K s1 a H ∧ SqL K H a (ns.map V.int) := by
  have rv := vals_ints hi
  cases hk : K.lookup a with
  | some o =>
    have e := KX a o hk
    rw [ha] at e
    obtain rfl := Option.some.inj e
    refine ⟨fun _ => none, ⟨fun _ => .inl rfl, (fun b u z => nomatch z), fun b z => absurd rfl z, fun z => absurd rfl z⟩, .inr ⟨_, vs.toArray, _, hk, rfl, rfl, rfl, ?_, by simpa using rv⟩⟩
    rw [List.size_toArray, hi.length]
    exact hl
  | none =>
    refine ⟨fun b => if b = a then some (.frz { cls := .type "list", data := .seq vs.toArray } (.lst (ns.map V.int))) else none, ⟨fun b => ?_, fun b u z => ?_, fun b z => ?_, fun _ => hk⟩, .inl (.inr ⟨_, if_pos rfl⟩)⟩
    · by_cases c : b = a
      · exact .inr ⟨_, _, if_pos c⟩
      · exact .inl (if_neg c)
    · by_cases c : b = a
      · subst c
        rw [if_pos rfl] at z
        obtain rfl := Option.some.inj z
        exact ⟨ha, (by rw [List.length_map]; exact hl), vs, _, rv, ha⟩
      · rw [if_neg c] at z
        exact nomatch z
    · by_cases c : b = a
      · exact c
      · exact absurd (if_neg c) z
end
theorem walk_ofG {l : PySem.W.OpenLaw} {n k : Nat} {q : Program} {loose : List Str} {XP : (Str → Option Value) → Heap → Prop} {YP : World → Heap → Prop} {d : DefRec} {K : Params → PySem.W.Frag} {CX : World → CXT} {sp : World → Sp}
    (hn : l.most = some n) (hn2 : n ≤ sizeLine) (hdf : d.params.defaults = []) (hr : Room k callerA) (hY : ∀ (w : World) (h : Heap), YP w h → (K w.params).In h)
    (F : ∀ (w : World) (mg : Str → Option Value) (fa : Addr) (h : Heap), (K w.params).In h → h.Ns mainGlobals mg → mg d.name = some (.ref fa) →
      ∀ base : Heap, (K w.params).In base → base.Ns mainGlobals mg → FnG l.prog w (K w.params) mg base (CX w) k fa (sp w))
    (hsp : ∀ (w : World) (H : Hp) (a : Addr) (ns : List Int), ns.length ≤ n → Only H → SqL (K w.params) H a (ns.map V.int) → sp w [.ref a] H (fun v _ => v = .bl true) fun _ _ _ => False)
    (hCX : ∀ (w : World) (H : Hp) (s : Shared) (e : Value) (s' : Shared), CX w [] H s (fun _ _ _ => False) e s' → False) :
    PySem.W.WalkO q loose XP YP l.row.toRowW d [] (fun f vs => PySem.call f vs) := by
  refine Att.attach_call hn hdf fun w s₀ s₁ mg mb fa o pm cd doc a vs ns G Y ho hd hcd hmg hobj hints hlen hg => ?_
  have KX := hY w _ Y
  obtain ⟨H, EH, hS⟩ := entry_at (P := l.prog) (w := w) KX hobj hints (Nat.le_trans hlen hn2)
  exact entry_run EH KX G.T.g G.T.b G.T.builtins G.T.nolimit hg hobj hr (fun base h1 h2 => F w mg fa _ KX G.T.g hmg base h1 h2) (hsp w H a ns hlen EH.only hS) fun e s' => hCX w H s₁ e s'
end MyL

/-! A law's head by one run: what the top has written is read by a check. -/
namespace MyH
open PySem PySem.Spec PyProof.Rows L2 MyL He
/-- a check of the written part -/
abbrev Chk := PySem.W.Frag → Bool
def obsM (chk : List Chk) (fn : List FnD) (K : PySem.W.Frag) : Al := ((chk.all fun f => f K) && fn.all fun d => (Fa.code d.at_ d.qual).ok K && PySem.W.keepIn K (.ref (fAd K d.at_)), fn.map fun d => fnObs K d.at_)
def SaysM (chk : List Chk) (fn : List FnD) (K : PySem.W.Frag) : Prop := obsM chk fn K = valE fn
def obsMG (n : Nat) (chk : List Chk) (fn : List FnD) (g : Addr → Option Obj) : Al := obsM chk fn (frG g (asG g n))
def hookM (n : Nat) (chk : List Chk) (fn : List FnD) : PySem.W.Hook where
  α := Al
  obs := fun s => obsMG n chk fn s.heap.get?
  val := fun _ => valE fn
  says := fun _ h => ∃ K : PySem.W.Frag, K.In h ∧ SaysM chk fn K
  of := fun _ _ e => ⟨_, frG_in, e⟩
  keeps := fun _ _ _ ⟨K, hK, c⟩ k => ⟨K, PySem.W.Frag.In.keeps hK k, c⟩
theorem obsMG_eq {n : Nat} {chk : List Chk} {fn : List FnD} {g : Addr → Option Obj} {s : Shared} (h : ∀ a, g a = s.heap.get? a) : obsMG n chk fn g = (hookM n chk fn).obs s := by
  have e : g = s.heap.get? := funext h
  rw [e] <;> rfl
section
variable {chk : List Chk} {fn : List FnD} {K : PySem.W.Frag}
theorem SaysM.fact (c : SaysM chk fn K) (i : Nat) {f : Chk} (h : chk[i]? = some f := by rfl) : f K = true := by
  have c1 := (ba (show ((chk.all fun f => f K) && fn.all fun d => (Fa.code d.at_ d.qual).ok K && PySem.W.keepIn K (.ref (fAd K d.at_))) = true from congrArg (fun z : Al => z.1) c)).1
  exact List.all_eq_true.mp c1 f (List.mem_of_getElem? h)
theorem SaysM.def_ (c : SaysM chk fn K) (i : Nat) {x q : Str} {st : Stmt} {p : Str × Option Str} (h : fn[i]? = some ⟨p, x, q, defArgs st, defBody st, defScope st⟩ := by rfl) : ∃ fd, Fun K x q st (fAd K p) fd := by
  have c2 := (ba (show ((chk.all fun f => f K) && fn.all fun d => (Fa.code d.at_ d.qual).ok K && PySem.W.keepIn K (.ref (fAd K d.at_))) = true from congrArg (fun z : Al => z.1) c)).2
  have e : fn.map (fun d => fnObs K d.at_) = fn.map FnD.val := congrArg (fun z : Al => z.2) c
  have e2 : (fn.map fun d => fnObs K d.at_)[i]? = (fn.map FnD.val)[i]? := by rw [e]
  rw [List.getElem?_map, List.getElem?_map, h] at e2
  obtain ⟨k1, k2⟩ := ba (List.all_eq_true.mp c2 _ (List.mem_of_getElem? h))
  obtain ⟨oc, od, osl, kV, doc, pm, an, cdv, ct, lk, hc⟩ := fn_ok (Option.some.inj e2) k1
  exact ⟨_, fun_mk (st := st) lk hc k2⟩
end
/-! ### own errors -/
def xclsB (K : PySem.W.Frag) (C : Addr) (bm : List Value) : Bool := match K.lookup C with
  | some ⟨.type "type", _, .cls cd, sl⟩ => decide (cd.mro = .ref C :: bm) && (cd.hasDict && (!cd.hasDel && (match sl.toList with
    | [_, _, _, _, some (.builtin n), _] => decide (n = "ValueError.__new__")
    | _ => false)))
  | _ => false
theorem xclsB_ok {K : PySem.W.Frag} {C : Addr} {bm : List Value} (h : xclsB K C bm = true) :
    ∃ nm q N bs sn sub ab col dd k0 k1 k2 k3 k5, K.lookup C = some (excClassObj nm q C N bs bm true sn sub ab col dd k0 k1 k2 k3 k5 "ValueError.__new__") := by
  unfold xclsB at h
  split at h
  · rename_i dd cd sl ho
    obtain ⟨h1, h⟩ := ba h
    obtain ⟨h2, h⟩ := ba h
    obtain ⟨h3, h4⟩ := ba h
    split at h4
    · rename_i k0 k1 k2 k3 n k5 hl
      have en := of_decide_eq_true h4
      subst en
      have e1 := of_decide_eq_true h1
      obtain ⟨nm, bs, mro, ns, q, hd, sn, sb, ab, col, del⟩ := cd
      dsimp only at e1 h2 h3
      subst e1 h2
      have e3 : del = false := by cases del <;> first | rfl | cases h3
      subst e3
      obtain ⟨l⟩ := sl
      have hl' : l = [k0, k1, k2, k3, some (.builtin "ValueError.__new__"), k5] := hl
      subst hl'
      exact ⟨nm, q, ns, bs, sn, sb, ab, col, dd, k0, k1, k2, k3, k5, ho⟩
    · cases h4
  · cases h
def errB (K : PySem.W.Frag) (C : Addr) (bm : List Value) : Bool := xclsB K C bm && (PySem.HandSPX.refsVE bm && (eqO (PySem.W.findIn K (.ref C) "__setattr__") (some (some (.builtin "object.__setattr__"))) && (PySem.W.keepIn K (.ref C) && (decide (PySem.W.typeIn K (.ref C) = some (.type "type")) &&
  (xfB K C && (eqO (PySem.W.findIn K (.ref C) "__class__") (some (some (.builtin "object.__class__"))) && (eqO (PySem.W.specialIn K (.builtin "object.__class__") "__get__") (some (some (.builtin "getset_descriptor.__get__"))) &&
  (decide (PySem.W.takesIn K (.builtin "object.__class__") = some true) && decide (PySem.W.mroIn K C (.type "object") = some true)))))))))
theorem errB_ok {K : PySem.W.Frag} {C : Addr} {bm : List Value} (h : errB K C bm = true) : ErrC K C ∧ MroAt K C (.ref C :: bm) := by
  obtain ⟨h1, h⟩ := ba h
  obtain ⟨h2, h⟩ := ba h
  obtain ⟨h3, h⟩ := ba h
  obtain ⟨h4, h⟩ := ba h
  obtain ⟨h5, h⟩ := ba h
  obtain ⟨h6, h⟩ := ba h
  obtain ⟨h7, h⟩ := ba h
  obtain ⟨h8, h⟩ := ba h
  obtain ⟨h9, h10⟩ := ba h
  obtain ⟨nm, q, N, bs, sn, sub, ab, col, dd, k0, k1, k2, k3, k5, lk⟩ := xclsB_ok h1
  have xf := xfB_ok h6
  exact ⟨⟨⟨⟨nm, q, N, bs, _, sn, sub, ab, col, dd, k0, k1, k2, k3, k5, lk, h2⟩, eqO_ok h3, xf.exC, of_decide_eq_true h5, h4⟩, xf, ⟨xf.ga, xf.gg, xf.exC, xf.hdC, eqO_ok h7, eqO_ok h8, of_decide_eq_true h9, of_decide_eq_true h10⟩⟩,
    List.cons_ne_nil _ _, _, cls_of lk, rfl⟩
/-- the classes above -/
def upV (K : PySem.W.Frag) (up : List Str) : List Value := up.map (fun x => .ref (ga K x)) ++ veBase
def ndB (K : PySem.W.Frag) (xs : List Str) : Bool := decide (xs.map (ga K)).Nodup
def fnoB (K : PySem.W.Frag) (x f : Str) : Bool := eqO (PySem.W.findIn K (.ref (ga K x)) f) (some none)
def fatB (K : PySem.W.Frag) (x f : Str) (y : Str) : Bool := eqO (PySem.W.findIn K (.ref (ga K x)) f) (some (some (.ref (ma K (ga K y) f))))
def tyfB (K : PySem.W.Frag) (x f : Str) : Bool := decide (PySem.W.typeIn K (.ref (ma K (ga K x) f)) = some (.type "function"))
def xinB (K : PySem.W.Frag) (x : Str) : Bool := PySem.W.excIn K (ga K x) veBase "ValueError.__new__"
def subB (K : PySem.W.Frag) (x y : Str) : Bool := decide (PySem.W.subIn K (.ref (ga K x)) (.ref (ga K y)) = some true)
/-! ### the end -/
theorem walk_ofGE {l : PySem.W.OpenLaw} {n k : Nat} {q : Program} {loose : List Str} {XP : (Str → Option Value) → Heap → Prop} {YP : World → Heap → Prop} {d : DefRec} {CX : World → CXT}
    (hn : l.most = some n) (hn2 : n ≤ sizeLine) (hdf : d.params.defaults = []) (hr : Room k callerA)
    (F : ∀ (w : World) (mg : Str → Option Value) (fa : Addr) (h : Heap), YP w h → h.Ns mainGlobals mg → mg d.name = some (.ref fa) →
      ∃ (K : PySem.W.Frag) (sp : Sp), K.In h ∧ (∀ (H : Hp) (a : Addr) (ns : List Int), ns.length ≤ n → Only H → SqL K H a (ns.map V.int) → sp [.ref a] H (fun v _ => v = .bl true) fun _ _ _ => False) ∧
        ∀ base : Heap, K.In base → base.Ns mainGlobals mg → FnG l.prog w K mg base (CX w) k fa sp)
    (hCX : ∀ (w : World) (H : Hp) (s : Shared) (e : Value) (s' : Shared), CX w [] H s (fun _ _ _ => False) e s' → False) :
    PySem.W.WalkO q loose XP YP l.row.toRowW d [] (fun f vs => PySem.call f vs) := by
  refine Att.attach_call hn hdf fun w s₀ s₁ mg mb fa o pm cd doc a vs ns G Y ho hd hcd hmg hobj hints hlen hg => ?_
  obtain ⟨K, sp, KX, hsp, hF⟩ := F w mg fa _ Y G.T.g hmg
  obtain ⟨H, EH, hS⟩ := entry_at (P := l.prog) (w := w) KX hobj hints (Nat.le_trans hlen hn2)
  exact entry_run EH KX G.T.g G.T.b G.T.builtins G.T.nolimit hg hobj hr hF (hsp H a ns hlen EH.only hS) fun e s' => hCX w H s₁ e s'
end MyH

namespace K00
open PySem PySem.Spec PyProof.Rows L2 MyL
def top (i : Nat) : Stmt := PySem.Challenge.pw_dimkeeper_k00_errors_keep_their_fields.main.body.getD i (.Pass ⟨0, 0, 0, 0⟩)
abbrev s_l_spring : Stmt := top 44
theorem sc_l_spring : FnScope ["_law_script", "_law_cell"] ["_law_script"] (defScope s_l_spring) := ⟨rfl, rfl, rfl, by decide +kernel, rfl, by decide +kernel, by decide +kernel⟩
abbrev s_l_cup : Stmt := top 45
theorem sc_l_cup : FnScope ["_law_spring_here", "_law_many", "_law_rest", "_law_turn", "_law_cell", "_law_mixed"] ["_law_spring_here", "_law_many"] (defScope s_l_cup) := ⟨rfl, rfl, rfl, by decide +kernel, rfl, by decide +kernel, by decide +kernel⟩
abbrev s_l_one_of : Stmt := top 46
theorem sc_l_one_of : FnScope ["_law_spring_here", "_law_some"] ["_law_spring_here", "_law_some"] (defScope s_l_one_of) := ⟨rfl, rfl, rfl, by decide +kernel, rfl, by decide +kernel, by decide +kernel⟩
abbrev s_l_parts : Stmt := top 47
theorem sc_l_parts : FnScope ["_law_part", "_law_made"] ["_law_part"] (defScope s_l_parts) := ⟨rfl, rfl, rfl, by decide +kernel, rfl, by decide +kernel, by decide +kernel⟩
abbrev s_l_parts_turned : Stmt := top 48
theorem sc_l_parts_turned : FnScope ["_law_part", "_law_made"] ["_law_part"] (defScope s_l_parts_turned) := ⟨rfl, rfl, rfl, by decide +kernel, rfl, by decide +kernel, by decide +kernel⟩
abbrev s_l_others : Stmt := top 49
theorem sc_l_others : FnScope ["_law_one", "_law_two", "_law_made"] ["_law_one", "_law_two"] (defScope s_l_others) := ⟨rfl, rfl, rfl, by decide +kernel, rfl, by decide +kernel, by decide +kernel⟩
abbrev s_l_others_named : Stmt := top 50
theorem sc_l_others_named : FnScope ["_law_one", "_law_two", "_law_made"] ["_law_one", "_law_two"] (defScope s_l_others_named) := ⟨rfl, rfl, rfl, by decide +kernel, rfl, by decide +kernel, by decide +kernel⟩
abbrev s_l_fields : Stmt := top 51
theorem sc_l_fields : FnScope ["_law_error", "_law_place"] ["_law_error", "_law_place"] (defScope s_l_fields) := ⟨rfl, rfl, rfl, by decide +kernel, rfl, by decide +kernel, by decide +kernel⟩
abbrev s_l_kin : Stmt := top 52
theorem sc_l_kin : FnScope ["_law_error", "_law_kin_here"] ["_law_error"] (defScope s_l_kin) := ⟨rfl, rfl, rfl, by decide +kernel, rfl, by decide +kernel, by decide +kernel⟩
abbrev s_l_stands_right : Stmt := top 53
theorem sc_l_stands_right : FnScope ["_law_error", "_law_place", "_law_at"] ["_law_error", "_law_place"] (defScope s_l_stands_right) := ⟨rfl, rfl, rfl, by decide +kernel, rfl, by decide +kernel, by decide +kernel⟩
abbrev s_l_all_right : Stmt := top 54
theorem sc_l_all_right : FnScope ["_law_one", "_law_two", "_law_made", "_law_place", "_law_error", "_law_due"] ["_law_one", "_law_two", "_law_made"] (defScope s_l_all_right) := ⟨rfl, rfl, rfl, by decide +kernel, rfl, by decide +kernel, by decide +kernel⟩
abbrev s_law : Stmt := top 55
theorem sc_law : FnScope ["_law_script", "_law_spring_here", "_law_number", "_law_plain", "_law_one", "_law_two", "_law_error"] ["_law_script"] (defScope s_law) := ⟨rfl, rfl, rfl, by decide +kernel, rfl, by decide +kernel, by decide +kernel⟩
abbrev s_Missing_init : Stmt := inClass (top 23) 0
theorem sc_Missing_init : FnScope ["self", "name"] ["self", "name"] (defScope s_Missing_init) := ⟨rfl, rfl, rfl, by decide +kernel, rfl, by decide +kernel, by decide +kernel⟩
abbrev s_BadWorld_init : Stmt := inClass (top 2) 0
theorem sc_BadWorld_init : FnScope ["self", "part"] ["self", "part"] (defScope s_BadWorld_init) := ⟨rfl, rfl, rfl, by decide +kernel, rfl, by decide +kernel, by decide +kernel⟩
abbrev s_BadBlur_init : Stmt := inClass (top 3) 0
theorem sc_BadBlur_init : FnScope ["self", "part"] ["self", "part"] (defScope s_BadBlur_init) := ⟨rfl, rfl, rfl, by decide +kernel, rfl, by decide +kernel, by decide +kernel⟩
abbrev s_BadWatch_init : Stmt := inClass (top 4) 0
theorem sc_BadWatch_init : FnScope ["self", "part"] ["self", "part"] (defScope s_BadWatch_init) := ⟨rfl, rfl, rfl, by decide +kernel, rfl, by decide +kernel, by decide +kernel⟩
abbrev s_BadTask_init : Stmt := inClass (top 5) 0
theorem sc_BadTask_init : FnScope ["self", "part"] ["self", "part"] (defScope s_BadTask_init) := ⟨rfl, rfl, rfl, by decide +kernel, rfl, by decide +kernel, by decide +kernel⟩
abbrev s_BadStanding_init : Stmt := inClass (top 6) 0
theorem sc_BadStanding_init : FnScope ["self", "part"] ["self", "part"] (defScope s_BadStanding_init) := ⟨rfl, rfl, rfl, by decide +kernel, rfl, by decide +kernel, by decide +kernel⟩
abbrev s_BadTable_init : Stmt := inClass (top 7) 0
theorem sc_BadTable_init : FnScope ["self", "part"] ["self", "part"] (defScope s_BadTable_init) := ⟨rfl, rfl, rfl, by decide +kernel, rfl, by decide +kernel, by decide +kernel⟩
abbrev s_BadPlay_init : Stmt := inClass (top 8) 0
theorem sc_BadPlay_init : FnScope ["self", "part"] ["self", "part"] (defScope s_BadPlay_init) := ⟨rfl, rfl, rfl, by decide +kernel, rfl, by decide +kernel, by decide +kernel⟩
abbrev s_BadView_init : Stmt := inClass (top 9) 0
theorem sc_BadView_init : FnScope ["self", "part"] ["self", "part"] (defScope s_BadView_init) := ⟨rfl, rfl, rfl, by decide +kernel, rfl, by decide +kernel, by decide +kernel⟩
abbrev s_BadLog_init : Stmt := inClass (top 10) 0
theorem sc_BadLog_init : FnScope ["self", "part"] ["self", "part"] (defScope s_BadLog_init) := ⟨rfl, rfl, rfl, by decide +kernel, rfl, by decide +kernel, by decide +kernel⟩
abbrev s_BadTree_init : Stmt := inClass (top 11) 0
theorem sc_BadTree_init : FnScope ["self", "part"] ["self", "part"] (defScope s_BadTree_init) := ⟨rfl, rfl, rfl, by decide +kernel, rfl, by decide +kernel, by decide +kernel⟩
abbrev s_BadRow_init : Stmt := inClass (top 12) 0
theorem sc_BadRow_init : FnScope ["self", "part"] ["self", "part"] (defScope s_BadRow_init) := ⟨rfl, rfl, rfl, by decide +kernel, rfl, by decide +kernel, by decide +kernel⟩
abbrev s_BadGroups_init : Stmt := inClass (top 13) 0
theorem sc_BadGroups_init : FnScope ["self", "part"] ["self", "part"] (defScope s_BadGroups_init) := ⟨rfl, rfl, rfl, by decide +kernel, rfl, by decide +kernel, by decide +kernel⟩
abbrev s_BadWait_init : Stmt := inClass (top 14) 0
theorem sc_BadWait_init : FnScope ["self", "part"] ["self", "part"] (defScope s_BadWait_init) := ⟨rfl, rfl, rfl, by decide +kernel, rfl, by decide +kernel, by decide +kernel⟩
abbrev s_BadSmudges_init : Stmt := inClass (top 15) 0
theorem sc_BadSmudges_init : FnScope ["self", "part"] ["self", "part"] (defScope s_BadSmudges_init) := ⟨rfl, rfl, rfl, by decide +kernel, rfl, by decide +kernel, by decide +kernel⟩
abbrev s_BadRoster_init : Stmt := inClass (top 16) 0
theorem sc_BadRoster_init : FnScope ["self", "part"] ["self", "part"] (defScope s_BadRoster_init) := ⟨rfl, rfl, rfl, by decide +kernel, rfl, by decide +kernel, by decide +kernel⟩
abbrev s_BadFog_init : Stmt := inClass (top 17) 0
theorem sc_BadFog_init : FnScope ["self", "part"] ["self", "part"] (defScope s_BadFog_init) := ⟨rfl, rfl, rfl, by decide +kernel, rfl, by decide +kernel, by decide +kernel⟩
abbrev s_BadFront_init : Stmt := inClass (top 18) 0
theorem sc_BadFront_init : FnScope ["self", "part"] ["self", "part"] (defScope s_BadFront_init) := ⟨rfl, rfl, rfl, by decide +kernel, rfl, by decide +kernel, by decide +kernel⟩
abbrev s_BadHall_init : Stmt := inClass (top 19) 0
theorem sc_BadHall_init : FnScope ["self", "part"] ["self", "part"] (defScope s_BadHall_init) := ⟨rfl, rfl, rfl, by decide +kernel, rfl, by decide +kernel, by decide +kernel⟩
abbrev s_BadStory_init : Stmt := inClass (top 20) 0
theorem sc_BadStory_init : FnScope ["self", "part"] ["self", "part"] (defScope s_BadStory_init) := ⟨rfl, rfl, rfl, by decide +kernel, rfl, by decide +kernel, by decide +kernel⟩
abbrev s_BadNumbers_init : Stmt := inClass (top 21) 0
theorem sc_BadNumbers_init : FnScope ["self", "part"] ["self", "part"] (defScope s_BadNumbers_init) := ⟨rfl, rfl, rfl, by decide +kernel, rfl, by decide +kernel, by decide +kernel⟩
abbrev s_BadPaper_init : Stmt := inClass (top 22) 0
theorem sc_BadPaper_init : FnScope ["self", "part"] ["self", "part"] (defScope s_BadPaper_init) := ⟨rfl, rfl, rfl, by decide +kernel, rfl, by decide +kernel, by decide +kernel⟩
abbrev s_Twice_init : Stmt := inClass (top 33) 0
theorem sc_Twice_init : FnScope ["self", "name"] ["self", "name"] (defScope s_Twice_init) := ⟨rfl, rfl, rfl, by decide +kernel, rfl, by decide +kernel, by decide +kernel⟩
abbrev s_NoTable_init : Stmt := inClass (top 31) 0
theorem sc_NoTable_init : FnScope ["self", "number"] ["self", "number"] (defScope s_NoTable_init) := ⟨rfl, rfl, rfl, by decide +kernel, rfl, by decide +kernel, by decide +kernel⟩
abbrev s_NotKept_init : Stmt := inClass (top 32) 0
theorem sc_NotKept_init : FnScope ["self", "why"] ["self", "why"] (defScope s_NotKept_init) := ⟨rfl, rfl, rfl, by decide +kernel, rfl, by decide +kernel, by decide +kernel⟩
abbrev s_Unlike_init : Stmt := inClass (top 34) 0
theorem sc_Unlike_init : FnScope ["self", "what"] ["self", "what"] (defScope s_Unlike_init) := ⟨rfl, rfl, rfl, by decide +kernel, rfl, by decide +kernel, by decide +kernel⟩
abbrev s_NotNow_init : Stmt := inClass (top 36) 0
theorem sc_NotNow_init : FnScope ["self", "what"] ["self", "what"] (defScope s_NotNow_init) := ⟨rfl, rfl, rfl, by decide +kernel, rfl, by decide +kernel, by decide +kernel⟩
abbrev s_NoWay_init : Stmt := inClass (top 37) 0
theorem sc_NoWay_init : FnScope ["self", "sight"] ["self", "sight"] (defScope s_NoWay_init) := ⟨rfl, rfl, rfl, by decide +kernel, rfl, by decide +kernel, by decide +kernel⟩
abbrev s_NoEntry_init : Stmt := inClass (top 30) 0
theorem sc_NoEntry_init : FnScope ["self", "page", "sight"] ["self", "page", "sight"] (defScope s_NoEntry_init) := ⟨rfl, rfl, rfl, by decide +kernel, rfl, by decide +kernel, by decide +kernel⟩
abbrev s_Breaks_init : Stmt := inClass (top 35) 0
theorem sc_Breaks_init : FnScope ["self", "state", "place"] ["self", "state", "place"] (defScope s_Breaks_init) := ⟨rfl, rfl, rfl, by decide +kernel, rfl, by decide +kernel, by decide +kernel⟩
abbrev s_TooMany_init : Stmt := inClass (top 40) 0
theorem sc_TooMany_init : FnScope ["self", "what", "most"] ["self", "what", "most"] (defScope s_TooMany_init) := ⟨rfl, rfl, rfl, by decide +kernel, rfl, by decide +kernel, by decide +kernel⟩
abbrev s_BadText_init : Stmt := inClass (top 41) 0
theorem sc_BadText_init : FnScope ["self", "line", "word"] ["self", "line", "word"] (defScope s_BadText_init) := ⟨rfl, rfl, rfl, by decide +kernel, rfl, by decide +kernel, by decide +kernel⟩
abbrev s_BadLine_init : Stmt := inClass (top 42) 0
theorem sc_BadLine_init : FnScope ["self", "line", "error"] ["self", "line", "error"] (defScope s_BadLine_init) := ⟨rfl, rfl, rfl, by decide +kernel, rfl, by decide +kernel, by decide +kernel⟩
structure Adr where
  (l_spring l_cup l_one_of l_parts l_parts_turned l_others l_others_named l_fields l_kin l_stands_right l_all_right law c_DimError c_Missing c_BadWorld c_BadBlur c_BadWatch c_BadTask c_BadStanding c_BadTable c_BadPlay c_BadView c_BadLog c_BadTree c_BadRow c_BadGroups c_BadWait c_BadSmudges c_BadRoster c_BadFog c_BadFront c_BadHall c_BadStory c_BadNumbers c_BadPaper c_NoState c_NoLabel c_NoDeed c_NoSight c_NoWatchState c_NoName c_Twice c_NoTable c_NotKept c_Unlike c_NotNow c_NoWay c_NoEntry c_Breaks c_TooMany c_BadText c_BadLine c_Ended c_Nothing i_Missing i_BadWorld i_BadBlur i_BadWatch i_BadTask i_BadStanding i_BadTable i_BadPlay i_BadView i_BadLog i_BadTree i_BadRow i_BadGroups i_BadWait i_BadSmudges i_BadRoster i_BadFog i_BadFront i_BadHall i_BadStory i_BadNumbers i_BadPaper i_Twice i_NoTable i_NotKept i_Unlike i_NotNow i_NoWay i_NoEntry i_Breaks i_TooMany i_BadText i_BadLine : Addr)
structure Txt (K : PySem.W.Frag) (mg : Str → Option Value) (A : Adr) : Prop where
  m_l_spring : mg "_law_spring" = some (.ref A.l_spring)
  k_l_spring : PySem.W.keepIn K (.ref A.l_spring) = true
  F_l_spring : ∃ fd, Fun K "_law_spring" "_law_spring" s_l_spring A.l_spring fd
  m_l_cup : mg "_law_cup" = some (.ref A.l_cup)
  k_l_cup : PySem.W.keepIn K (.ref A.l_cup) = true
  F_l_cup : ∃ fd, Fun K "_law_cup" "_law_cup" s_l_cup A.l_cup fd
  m_l_one_of : mg "_law_one_of" = some (.ref A.l_one_of)
  k_l_one_of : PySem.W.keepIn K (.ref A.l_one_of) = true
  F_l_one_of : ∃ fd, Fun K "_law_one_of" "_law_one_of" s_l_one_of A.l_one_of fd
  m_l_parts : mg "_law_parts" = some (.ref A.l_parts)
  k_l_parts : PySem.W.keepIn K (.ref A.l_parts) = true
  F_l_parts : ∃ fd, Fun K "_law_parts" "_law_parts" s_l_parts A.l_parts fd
  m_l_parts_turned : mg "_law_parts_turned" = some (.ref A.l_parts_turned)
  k_l_parts_turned : PySem.W.keepIn K (.ref A.l_parts_turned) = true
  F_l_parts_turned : ∃ fd, Fun K "_law_parts_turned" "_law_parts_turned" s_l_parts_turned A.l_parts_turned fd
  m_l_others : mg "_law_others" = some (.ref A.l_others)
  k_l_others : PySem.W.keepIn K (.ref A.l_others) = true
  F_l_others : ∃ fd, Fun K "_law_others" "_law_others" s_l_others A.l_others fd
  m_l_others_named : mg "_law_others_named" = some (.ref A.l_others_named)
  k_l_others_named : PySem.W.keepIn K (.ref A.l_others_named) = true
  F_l_others_named : ∃ fd, Fun K "_law_others_named" "_law_others_named" s_l_others_named A.l_others_named fd
  m_l_fields : mg "_law_fields" = some (.ref A.l_fields)
  k_l_fields : PySem.W.keepIn K (.ref A.l_fields) = true
  F_l_fields : ∃ fd, Fun K "_law_fields" "_law_fields" s_l_fields A.l_fields fd
  m_l_kin : mg "_law_kin" = some (.ref A.l_kin)
  k_l_kin : PySem.W.keepIn K (.ref A.l_kin) = true
  F_l_kin : ∃ fd, Fun K "_law_kin" "_law_kin" s_l_kin A.l_kin fd
  m_l_stands_right : mg "_law_stands_right" = some (.ref A.l_stands_right)
  k_l_stands_right : PySem.W.keepIn K (.ref A.l_stands_right) = true
  F_l_stands_right : ∃ fd, Fun K "_law_stands_right" "_law_stands_right" s_l_stands_right A.l_stands_right fd
  m_l_all_right : mg "_law_all_right" = some (.ref A.l_all_right)
  k_l_all_right : PySem.W.keepIn K (.ref A.l_all_right) = true
  F_l_all_right : ∃ fd, Fun K "_law_all_right" "_law_all_right" s_l_all_right A.l_all_right fd
  m_law : mg "law" = some (.ref A.law)
  k_law : PySem.W.keepIn K (.ref A.law) = true
  F_law : ∃ fd, Fun K "law" "law" s_law A.law fd
  m_DimError : mg "DimError" = some (.ref A.c_DimError)
  E_DimError : ErrC K A.c_DimError 
  M_DimError : MroAt K A.c_DimError [.ref A.c_DimError, .type "ValueError", .type "Exception", .type "BaseException", .type "object"]
  m_Missing : mg "Missing" = some (.ref A.c_Missing)
  E_Missing : ErrC1 K A.c_Missing "name"
  iC_Missing : PySem.W.findIn K (.ref A.c_Missing) "__init__" = some (some (.ref A.i_Missing))
  tI_Missing : PySem.W.typeIn K (.ref A.i_Missing) = some (.type "function")
  FI_Missing : ∃ fd, Fun K "__init__" "Missing.__init__" s_Missing_init A.i_Missing fd
  M_Missing : MroAt K A.c_Missing [.ref A.c_Missing, .ref A.c_DimError, .type "ValueError", .type "Exception", .type "BaseException", .type "object"]
  m_BadWorld : mg "BadWorld" = some (.ref A.c_BadWorld)
  E_BadWorld : ErrC1 K A.c_BadWorld "part"
  iC_BadWorld : PySem.W.findIn K (.ref A.c_BadWorld) "__init__" = some (some (.ref A.i_BadWorld))
  tI_BadWorld : PySem.W.typeIn K (.ref A.i_BadWorld) = some (.type "function")
  FI_BadWorld : ∃ fd, Fun K "__init__" "BadWorld.__init__" s_BadWorld_init A.i_BadWorld fd
  M_BadWorld : MroAt K A.c_BadWorld [.ref A.c_BadWorld, .ref A.c_DimError, .type "ValueError", .type "Exception", .type "BaseException", .type "object"]
  m_BadBlur : mg "BadBlur" = some (.ref A.c_BadBlur)
  E_BadBlur : ErrC1 K A.c_BadBlur "part"
  iC_BadBlur : PySem.W.findIn K (.ref A.c_BadBlur) "__init__" = some (some (.ref A.i_BadBlur))
  tI_BadBlur : PySem.W.typeIn K (.ref A.i_BadBlur) = some (.type "function")
  FI_BadBlur : ∃ fd, Fun K "__init__" "BadBlur.__init__" s_BadBlur_init A.i_BadBlur fd
  M_BadBlur : MroAt K A.c_BadBlur [.ref A.c_BadBlur, .ref A.c_DimError, .type "ValueError", .type "Exception", .type "BaseException", .type "object"]
  m_BadWatch : mg "BadWatch" = some (.ref A.c_BadWatch)
  E_BadWatch : ErrC1 K A.c_BadWatch "part"
  iC_BadWatch : PySem.W.findIn K (.ref A.c_BadWatch) "__init__" = some (some (.ref A.i_BadWatch))
  tI_BadWatch : PySem.W.typeIn K (.ref A.i_BadWatch) = some (.type "function")
  FI_BadWatch : ∃ fd, Fun K "__init__" "BadWatch.__init__" s_BadWatch_init A.i_BadWatch fd
  M_BadWatch : MroAt K A.c_BadWatch [.ref A.c_BadWatch, .ref A.c_DimError, .type "ValueError", .type "Exception", .type "BaseException", .type "object"]
  m_BadTask : mg "BadTask" = some (.ref A.c_BadTask)
  E_BadTask : ErrC1 K A.c_BadTask "part"
  iC_BadTask : PySem.W.findIn K (.ref A.c_BadTask) "__init__" = some (some (.ref A.i_BadTask))
  tI_BadTask : PySem.W.typeIn K (.ref A.i_BadTask) = some (.type "function")
  FI_BadTask : ∃ fd, Fun K "__init__" "BadTask.__init__" s_BadTask_init A.i_BadTask fd
  M_BadTask : MroAt K A.c_BadTask [.ref A.c_BadTask, .ref A.c_DimError, .type "ValueError", .type "Exception", .type "BaseException", .type "object"]
  m_BadStanding : mg "BadStanding" = some (.ref A.c_BadStanding)
  E_BadStanding : ErrC1 K A.c_BadStanding "part"
  iC_BadStanding : PySem.W.findIn K (.ref A.c_BadStanding) "__init__" = some (some (.ref A.i_BadStanding))
  tI_BadStanding : PySem.W.typeIn K (.ref A.i_BadStanding) = some (.type "function")
  FI_BadStanding : ∃ fd, Fun K "__init__" "BadStanding.__init__" s_BadStanding_init A.i_BadStanding fd
  M_BadStanding : MroAt K A.c_BadStanding [.ref A.c_BadStanding, .ref A.c_DimError, .type "ValueError", .type "Exception", .type "BaseException", .type "object"]
  m_BadTable : mg "BadTable" = some (.ref A.c_BadTable)
  E_BadTable : ErrC1 K A.c_BadTable "part"
  iC_BadTable : PySem.W.findIn K (.ref A.c_BadTable) "__init__" = some (some (.ref A.i_BadTable))
  tI_BadTable : PySem.W.typeIn K (.ref A.i_BadTable) = some (.type "function")
  FI_BadTable : ∃ fd, Fun K "__init__" "BadTable.__init__" s_BadTable_init A.i_BadTable fd
  M_BadTable : MroAt K A.c_BadTable [.ref A.c_BadTable, .ref A.c_DimError, .type "ValueError", .type "Exception", .type "BaseException", .type "object"]
  m_BadPlay : mg "BadPlay" = some (.ref A.c_BadPlay)
  E_BadPlay : ErrC1 K A.c_BadPlay "part"
  iC_BadPlay : PySem.W.findIn K (.ref A.c_BadPlay) "__init__" = some (some (.ref A.i_BadPlay))
  tI_BadPlay : PySem.W.typeIn K (.ref A.i_BadPlay) = some (.type "function")
  FI_BadPlay : ∃ fd, Fun K "__init__" "BadPlay.__init__" s_BadPlay_init A.i_BadPlay fd
  M_BadPlay : MroAt K A.c_BadPlay [.ref A.c_BadPlay, .ref A.c_DimError, .type "ValueError", .type "Exception", .type "BaseException", .type "object"]
  m_BadView : mg "BadView" = some (.ref A.c_BadView)
  E_BadView : ErrC1 K A.c_BadView "part"
  iC_BadView : PySem.W.findIn K (.ref A.c_BadView) "__init__" = some (some (.ref A.i_BadView))
  tI_BadView : PySem.W.typeIn K (.ref A.i_BadView) = some (.type "function")
  FI_BadView : ∃ fd, Fun K "__init__" "BadView.__init__" s_BadView_init A.i_BadView fd
  M_BadView : MroAt K A.c_BadView [.ref A.c_BadView, .ref A.c_DimError, .type "ValueError", .type "Exception", .type "BaseException", .type "object"]
  m_BadLog : mg "BadLog" = some (.ref A.c_BadLog)
  E_BadLog : ErrC1 K A.c_BadLog "part"
  iC_BadLog : PySem.W.findIn K (.ref A.c_BadLog) "__init__" = some (some (.ref A.i_BadLog))
  tI_BadLog : PySem.W.typeIn K (.ref A.i_BadLog) = some (.type "function")
  FI_BadLog : ∃ fd, Fun K "__init__" "BadLog.__init__" s_BadLog_init A.i_BadLog fd
  M_BadLog : MroAt K A.c_BadLog [.ref A.c_BadLog, .ref A.c_DimError, .type "ValueError", .type "Exception", .type "BaseException", .type "object"]
  m_BadTree : mg "BadTree" = some (.ref A.c_BadTree)
  E_BadTree : ErrC1 K A.c_BadTree "part"
  iC_BadTree : PySem.W.findIn K (.ref A.c_BadTree) "__init__" = some (some (.ref A.i_BadTree))
  tI_BadTree : PySem.W.typeIn K (.ref A.i_BadTree) = some (.type "function")
  FI_BadTree : ∃ fd, Fun K "__init__" "BadTree.__init__" s_BadTree_init A.i_BadTree fd
  M_BadTree : MroAt K A.c_BadTree [.ref A.c_BadTree, .ref A.c_DimError, .type "ValueError", .type "Exception", .type "BaseException", .type "object"]
  m_BadRow : mg "BadRow" = some (.ref A.c_BadRow)
  E_BadRow : ErrC1 K A.c_BadRow "part"
  iC_BadRow : PySem.W.findIn K (.ref A.c_BadRow) "__init__" = some (some (.ref A.i_BadRow))
  tI_BadRow : PySem.W.typeIn K (.ref A.i_BadRow) = some (.type "function")
  FI_BadRow : ∃ fd, Fun K "__init__" "BadRow.__init__" s_BadRow_init A.i_BadRow fd
  M_BadRow : MroAt K A.c_BadRow [.ref A.c_BadRow, .ref A.c_DimError, .type "ValueError", .type "Exception", .type "BaseException", .type "object"]
  m_BadGroups : mg "BadGroups" = some (.ref A.c_BadGroups)
  E_BadGroups : ErrC1 K A.c_BadGroups "part"
  iC_BadGroups : PySem.W.findIn K (.ref A.c_BadGroups) "__init__" = some (some (.ref A.i_BadGroups))
  tI_BadGroups : PySem.W.typeIn K (.ref A.i_BadGroups) = some (.type "function")
  FI_BadGroups : ∃ fd, Fun K "__init__" "BadGroups.__init__" s_BadGroups_init A.i_BadGroups fd
  M_BadGroups : MroAt K A.c_BadGroups [.ref A.c_BadGroups, .ref A.c_DimError, .type "ValueError", .type "Exception", .type "BaseException", .type "object"]
  m_BadWait : mg "BadWait" = some (.ref A.c_BadWait)
  E_BadWait : ErrC1 K A.c_BadWait "part"
  iC_BadWait : PySem.W.findIn K (.ref A.c_BadWait) "__init__" = some (some (.ref A.i_BadWait))
  tI_BadWait : PySem.W.typeIn K (.ref A.i_BadWait) = some (.type "function")
  FI_BadWait : ∃ fd, Fun K "__init__" "BadWait.__init__" s_BadWait_init A.i_BadWait fd
  M_BadWait : MroAt K A.c_BadWait [.ref A.c_BadWait, .ref A.c_DimError, .type "ValueError", .type "Exception", .type "BaseException", .type "object"]
  m_BadSmudges : mg "BadSmudges" = some (.ref A.c_BadSmudges)
  E_BadSmudges : ErrC1 K A.c_BadSmudges "part"
  iC_BadSmudges : PySem.W.findIn K (.ref A.c_BadSmudges) "__init__" = some (some (.ref A.i_BadSmudges))
  tI_BadSmudges : PySem.W.typeIn K (.ref A.i_BadSmudges) = some (.type "function")
  FI_BadSmudges : ∃ fd, Fun K "__init__" "BadSmudges.__init__" s_BadSmudges_init A.i_BadSmudges fd
  M_BadSmudges : MroAt K A.c_BadSmudges [.ref A.c_BadSmudges, .ref A.c_DimError, .type "ValueError", .type "Exception", .type "BaseException", .type "object"]
  m_BadRoster : mg "BadRoster" = some (.ref A.c_BadRoster)
  E_BadRoster : ErrC1 K A.c_BadRoster "part"
  iC_BadRoster : PySem.W.findIn K (.ref A.c_BadRoster) "__init__" = some (some (.ref A.i_BadRoster))
  tI_BadRoster : PySem.W.typeIn K (.ref A.i_BadRoster) = some (.type "function")
  FI_BadRoster : ∃ fd, Fun K "__init__" "BadRoster.__init__" s_BadRoster_init A.i_BadRoster fd
  M_BadRoster : MroAt K A.c_BadRoster [.ref A.c_BadRoster, .ref A.c_DimError, .type "ValueError", .type "Exception", .type "BaseException", .type "object"]
  m_BadFog : mg "BadFog" = some (.ref A.c_BadFog)
  E_BadFog : ErrC1 K A.c_BadFog "part"
  iC_BadFog : PySem.W.findIn K (.ref A.c_BadFog) "__init__" = some (some (.ref A.i_BadFog))
  tI_BadFog : PySem.W.typeIn K (.ref A.i_BadFog) = some (.type "function")
  FI_BadFog : ∃ fd, Fun K "__init__" "BadFog.__init__" s_BadFog_init A.i_BadFog fd
  M_BadFog : MroAt K A.c_BadFog [.ref A.c_BadFog, .ref A.c_DimError, .type "ValueError", .type "Exception", .type "BaseException", .type "object"]
  m_BadFront : mg "BadFront" = some (.ref A.c_BadFront)
  E_BadFront : ErrC1 K A.c_BadFront "part"
  iC_BadFront : PySem.W.findIn K (.ref A.c_BadFront) "__init__" = some (some (.ref A.i_BadFront))
  tI_BadFront : PySem.W.typeIn K (.ref A.i_BadFront) = some (.type "function")
  FI_BadFront : ∃ fd, Fun K "__init__" "BadFront.__init__" s_BadFront_init A.i_BadFront fd
  M_BadFront : MroAt K A.c_BadFront [.ref A.c_BadFront, .ref A.c_DimError, .type "ValueError", .type "Exception", .type "BaseException", .type "object"]
  m_BadHall : mg "BadHall" = some (.ref A.c_BadHall)
  E_BadHall : ErrC1 K A.c_BadHall "part"
  iC_BadHall : PySem.W.findIn K (.ref A.c_BadHall) "__init__" = some (some (.ref A.i_BadHall))
  tI_BadHall : PySem.W.typeIn K (.ref A.i_BadHall) = some (.type "function")
  FI_BadHall : ∃ fd, Fun K "__init__" "BadHall.__init__" s_BadHall_init A.i_BadHall fd
  M_BadHall : MroAt K A.c_BadHall [.ref A.c_BadHall, .ref A.c_DimError, .type "ValueError", .type "Exception", .type "BaseException", .type "object"]
  m_BadStory : mg "BadStory" = some (.ref A.c_BadStory)
  E_BadStory : ErrC1 K A.c_BadStory "part"
  iC_BadStory : PySem.W.findIn K (.ref A.c_BadStory) "__init__" = some (some (.ref A.i_BadStory))
  tI_BadStory : PySem.W.typeIn K (.ref A.i_BadStory) = some (.type "function")
  FI_BadStory : ∃ fd, Fun K "__init__" "BadStory.__init__" s_BadStory_init A.i_BadStory fd
  M_BadStory : MroAt K A.c_BadStory [.ref A.c_BadStory, .ref A.c_DimError, .type "ValueError", .type "Exception", .type "BaseException", .type "object"]
  m_BadNumbers : mg "BadNumbers" = some (.ref A.c_BadNumbers)
  E_BadNumbers : ErrC1 K A.c_BadNumbers "part"
  iC_BadNumbers : PySem.W.findIn K (.ref A.c_BadNumbers) "__init__" = some (some (.ref A.i_BadNumbers))
  tI_BadNumbers : PySem.W.typeIn K (.ref A.i_BadNumbers) = some (.type "function")
  FI_BadNumbers : ∃ fd, Fun K "__init__" "BadNumbers.__init__" s_BadNumbers_init A.i_BadNumbers fd
  M_BadNumbers : MroAt K A.c_BadNumbers [.ref A.c_BadNumbers, .ref A.c_DimError, .type "ValueError", .type "Exception", .type "BaseException", .type "object"]
  m_BadPaper : mg "BadPaper" = some (.ref A.c_BadPaper)
  E_BadPaper : ErrC1 K A.c_BadPaper "part"
  iC_BadPaper : PySem.W.findIn K (.ref A.c_BadPaper) "__init__" = some (some (.ref A.i_BadPaper))
  tI_BadPaper : PySem.W.typeIn K (.ref A.i_BadPaper) = some (.type "function")
  FI_BadPaper : ∃ fd, Fun K "__init__" "BadPaper.__init__" s_BadPaper_init A.i_BadPaper fd
  M_BadPaper : MroAt K A.c_BadPaper [.ref A.c_BadPaper, .ref A.c_DimError, .type "ValueError", .type "Exception", .type "BaseException", .type "object"]
  m_NoState : mg "NoState" = some (.ref A.c_NoState)
  E_NoState : ErrC1 K A.c_NoState "name"
  iC_NoState : PySem.W.findIn K (.ref A.c_NoState) "__init__" = some (some (.ref A.i_Missing))
  M_NoState : MroAt K A.c_NoState [.ref A.c_NoState, .ref A.c_Missing, .ref A.c_DimError, .type "ValueError", .type "Exception", .type "BaseException", .type "object"]
  m_NoLabel : mg "NoLabel" = some (.ref A.c_NoLabel)
  E_NoLabel : ErrC1 K A.c_NoLabel "name"
  iC_NoLabel : PySem.W.findIn K (.ref A.c_NoLabel) "__init__" = some (some (.ref A.i_Missing))
  M_NoLabel : MroAt K A.c_NoLabel [.ref A.c_NoLabel, .ref A.c_Missing, .ref A.c_DimError, .type "ValueError", .type "Exception", .type "BaseException", .type "object"]
  m_NoDeed : mg "NoDeed" = some (.ref A.c_NoDeed)
  E_NoDeed : ErrC1 K A.c_NoDeed "name"
  iC_NoDeed : PySem.W.findIn K (.ref A.c_NoDeed) "__init__" = some (some (.ref A.i_Missing))
  M_NoDeed : MroAt K A.c_NoDeed [.ref A.c_NoDeed, .ref A.c_Missing, .ref A.c_DimError, .type "ValueError", .type "Exception", .type "BaseException", .type "object"]
  m_NoSight : mg "NoSight" = some (.ref A.c_NoSight)
  E_NoSight : ErrC1 K A.c_NoSight "name"
  iC_NoSight : PySem.W.findIn K (.ref A.c_NoSight) "__init__" = some (some (.ref A.i_Missing))
  M_NoSight : MroAt K A.c_NoSight [.ref A.c_NoSight, .ref A.c_Missing, .ref A.c_DimError, .type "ValueError", .type "Exception", .type "BaseException", .type "object"]
  m_NoWatchState : mg "NoWatchState" = some (.ref A.c_NoWatchState)
  E_NoWatchState : ErrC1 K A.c_NoWatchState "name"
  iC_NoWatchState : PySem.W.findIn K (.ref A.c_NoWatchState) "__init__" = some (some (.ref A.i_Missing))
  M_NoWatchState : MroAt K A.c_NoWatchState [.ref A.c_NoWatchState, .ref A.c_Missing, .ref A.c_DimError, .type "ValueError", .type "Exception", .type "BaseException", .type "object"]
  m_NoName : mg "NoName" = some (.ref A.c_NoName)
  E_NoName : ErrC1 K A.c_NoName "name"
  iC_NoName : PySem.W.findIn K (.ref A.c_NoName) "__init__" = some (some (.ref A.i_Missing))
  M_NoName : MroAt K A.c_NoName [.ref A.c_NoName, .ref A.c_Missing, .ref A.c_DimError, .type "ValueError", .type "Exception", .type "BaseException", .type "object"]
  m_Twice : mg "Twice" = some (.ref A.c_Twice)
  E_Twice : ErrC1 K A.c_Twice "name"
  iC_Twice : PySem.W.findIn K (.ref A.c_Twice) "__init__" = some (some (.ref A.i_Twice))
  tI_Twice : PySem.W.typeIn K (.ref A.i_Twice) = some (.type "function")
  FI_Twice : ∃ fd, Fun K "__init__" "Twice.__init__" s_Twice_init A.i_Twice fd
  M_Twice : MroAt K A.c_Twice [.ref A.c_Twice, .ref A.c_DimError, .type "ValueError", .type "Exception", .type "BaseException", .type "object"]
  m_NoTable : mg "NoTable" = some (.ref A.c_NoTable)
  E_NoTable : ErrC1 K A.c_NoTable "number"
  iC_NoTable : PySem.W.findIn K (.ref A.c_NoTable) "__init__" = some (some (.ref A.i_NoTable))
  tI_NoTable : PySem.W.typeIn K (.ref A.i_NoTable) = some (.type "function")
  FI_NoTable : ∃ fd, Fun K "__init__" "NoTable.__init__" s_NoTable_init A.i_NoTable fd
  M_NoTable : MroAt K A.c_NoTable [.ref A.c_NoTable, .ref A.c_DimError, .type "ValueError", .type "Exception", .type "BaseException", .type "object"]
  m_NotKept : mg "NotKept" = some (.ref A.c_NotKept)
  E_NotKept : ErrC1 K A.c_NotKept "why"
  iC_NotKept : PySem.W.findIn K (.ref A.c_NotKept) "__init__" = some (some (.ref A.i_NotKept))
  tI_NotKept : PySem.W.typeIn K (.ref A.i_NotKept) = some (.type "function")
  FI_NotKept : ∃ fd, Fun K "__init__" "NotKept.__init__" s_NotKept_init A.i_NotKept fd
  M_NotKept : MroAt K A.c_NotKept [.ref A.c_NotKept, .ref A.c_DimError, .type "ValueError", .type "Exception", .type "BaseException", .type "object"]
  m_Unlike : mg "Unlike" = some (.ref A.c_Unlike)
  E_Unlike : ErrC1 K A.c_Unlike "what"
  iC_Unlike : PySem.W.findIn K (.ref A.c_Unlike) "__init__" = some (some (.ref A.i_Unlike))
  tI_Unlike : PySem.W.typeIn K (.ref A.i_Unlike) = some (.type "function")
  FI_Unlike : ∃ fd, Fun K "__init__" "Unlike.__init__" s_Unlike_init A.i_Unlike fd
  M_Unlike : MroAt K A.c_Unlike [.ref A.c_Unlike, .ref A.c_DimError, .type "ValueError", .type "Exception", .type "BaseException", .type "object"]
  m_NotNow : mg "NotNow" = some (.ref A.c_NotNow)
  E_NotNow : ErrC1 K A.c_NotNow "what"
  iC_NotNow : PySem.W.findIn K (.ref A.c_NotNow) "__init__" = some (some (.ref A.i_NotNow))
  tI_NotNow : PySem.W.typeIn K (.ref A.i_NotNow) = some (.type "function")
  FI_NotNow : ∃ fd, Fun K "__init__" "NotNow.__init__" s_NotNow_init A.i_NotNow fd
  M_NotNow : MroAt K A.c_NotNow [.ref A.c_NotNow, .ref A.c_DimError, .type "ValueError", .type "Exception", .type "BaseException", .type "object"]
  m_NoWay : mg "NoWay" = some (.ref A.c_NoWay)
  E_NoWay : ErrC1 K A.c_NoWay "sight"
  iC_NoWay : PySem.W.findIn K (.ref A.c_NoWay) "__init__" = some (some (.ref A.i_NoWay))
  tI_NoWay : PySem.W.typeIn K (.ref A.i_NoWay) = some (.type "function")
  FI_NoWay : ∃ fd, Fun K "__init__" "NoWay.__init__" s_NoWay_init A.i_NoWay fd
  M_NoWay : MroAt K A.c_NoWay [.ref A.c_NoWay, .ref A.c_DimError, .type "ValueError", .type "Exception", .type "BaseException", .type "object"]
  m_NoEntry : mg "NoEntry" = some (.ref A.c_NoEntry)
  E_NoEntry : ErrC2 K A.c_NoEntry "page" "sight"
  iC_NoEntry : PySem.W.findIn K (.ref A.c_NoEntry) "__init__" = some (some (.ref A.i_NoEntry))
  tI_NoEntry : PySem.W.typeIn K (.ref A.i_NoEntry) = some (.type "function")
  FI_NoEntry : ∃ fd, Fun K "__init__" "NoEntry.__init__" s_NoEntry_init A.i_NoEntry fd
  M_NoEntry : MroAt K A.c_NoEntry [.ref A.c_NoEntry, .ref A.c_DimError, .type "ValueError", .type "Exception", .type "BaseException", .type "object"]
  m_Breaks : mg "Breaks" = some (.ref A.c_Breaks)
  E_Breaks : ErrC2 K A.c_Breaks "state" "place"
  iC_Breaks : PySem.W.findIn K (.ref A.c_Breaks) "__init__" = some (some (.ref A.i_Breaks))
  tI_Breaks : PySem.W.typeIn K (.ref A.i_Breaks) = some (.type "function")
  FI_Breaks : ∃ fd, Fun K "__init__" "Breaks.__init__" s_Breaks_init A.i_Breaks fd
  M_Breaks : MroAt K A.c_Breaks [.ref A.c_Breaks, .ref A.c_DimError, .type "ValueError", .type "Exception", .type "BaseException", .type "object"]
  m_TooMany : mg "TooMany" = some (.ref A.c_TooMany)
  E_TooMany : ErrC2 K A.c_TooMany "what" "most"
  iC_TooMany : PySem.W.findIn K (.ref A.c_TooMany) "__init__" = some (some (.ref A.i_TooMany))
  tI_TooMany : PySem.W.typeIn K (.ref A.i_TooMany) = some (.type "function")
  FI_TooMany : ∃ fd, Fun K "__init__" "TooMany.__init__" s_TooMany_init A.i_TooMany fd
  M_TooMany : MroAt K A.c_TooMany [.ref A.c_TooMany, .ref A.c_DimError, .type "ValueError", .type "Exception", .type "BaseException", .type "object"]
  m_BadText : mg "BadText" = some (.ref A.c_BadText)
  E_BadText : ErrC2 K A.c_BadText "line" "word"
  iC_BadText : PySem.W.findIn K (.ref A.c_BadText) "__init__" = some (some (.ref A.i_BadText))
  tI_BadText : PySem.W.typeIn K (.ref A.i_BadText) = some (.type "function")
  FI_BadText : ∃ fd, Fun K "__init__" "BadText.__init__" s_BadText_init A.i_BadText fd
  M_BadText : MroAt K A.c_BadText [.ref A.c_BadText, .ref A.c_DimError, .type "ValueError", .type "Exception", .type "BaseException", .type "object"]
  m_BadLine : mg "BadLine" = some (.ref A.c_BadLine)
  E_BadLine : ErrC2 K A.c_BadLine "line" "error"
  iC_BadLine : PySem.W.findIn K (.ref A.c_BadLine) "__init__" = some (some (.ref A.i_BadLine))
  tI_BadLine : PySem.W.typeIn K (.ref A.i_BadLine) = some (.type "function")
  FI_BadLine : ∃ fd, Fun K "__init__" "BadLine.__init__" s_BadLine_init A.i_BadLine fd
  M_BadLine : MroAt K A.c_BadLine [.ref A.c_BadLine, .ref A.c_DimError, .type "ValueError", .type "Exception", .type "BaseException", .type "object"]
  m_Ended : mg "Ended" = some (.ref A.c_Ended)
  E_Ended : ErrC K A.c_Ended 
  X_Ended : PySem.W.excIn K A.c_Ended [.type "ValueError", .type "Exception", .type "BaseException", .type "object"] "ValueError.__new__" = true
  M_Ended : MroAt K A.c_Ended [.ref A.c_Ended, .ref A.c_DimError, .type "ValueError", .type "Exception", .type "BaseException", .type "object"]
  m_Nothing : mg "Nothing" = some (.ref A.c_Nothing)
  E_Nothing : ErrC K A.c_Nothing 
  X_Nothing : PySem.W.excIn K A.c_Nothing [.type "ValueError", .type "Exception", .type "BaseException", .type "object"] "ValueError.__new__" = true
  M_Nothing : MroAt K A.c_Nothing [.ref A.c_Nothing, .ref A.c_DimError, .type "ValueError", .type "Exception", .type "BaseException", .type "object"]
  nd : [A.c_DimError, A.c_Missing, A.c_BadWorld, A.c_BadBlur, A.c_BadWatch, A.c_BadTask, A.c_BadStanding, A.c_BadTable, A.c_BadPlay, A.c_BadView, A.c_BadLog, A.c_BadTree, A.c_BadRow, A.c_BadGroups, A.c_BadWait, A.c_BadSmudges, A.c_BadRoster, A.c_BadFog, A.c_BadFront, A.c_BadHall, A.c_BadStory, A.c_BadNumbers, A.c_BadPaper, A.c_NoState, A.c_NoLabel, A.c_NoDeed, A.c_NoSight, A.c_NoWatchState, A.c_NoName, A.c_Twice, A.c_NoTable, A.c_NotKept, A.c_Unlike, A.c_NotNow, A.c_NoWay, A.c_NoEntry, A.c_Breaks, A.c_TooMany, A.c_BadText, A.c_BadLine, A.c_Ended, A.c_Nothing].Nodup
  n_len : mg "len" = none
  n_int : mg "int" = none
  n_abs : mg "abs" = none
  n_isinstance : mg "isinstance" = none
  n_range : mg "range" = none
  n_enumerate : mg "enumerate" = none
  n_repr : mg "repr" = none
  n_ValueError : mg "ValueError" = none
  n_LookupError : mg "LookupError" = none
  n_TypeError : mg "TypeError" = none
  n_ArithmeticError : mg "ArithmeticError" = none
  n_RuntimeError : mg "RuntimeError" = none
  n_AttributeError : mg "AttributeError" = none
section
variable {P : Program} {w : World} {K : PySem.W.Frag} {mg : Str → Option Value} {base : Heap} {A : Adr}
theorem jn_Missing (T : Txt K mg A) : Init1 P w K mg base A.c_Missing A.i_Missing "name" := by
  obtain ⟨fd, F⟩ := T.FI_Missing
  have G : FnOk P w K mg base CX0 1 A.i_Missing fd ["self", "name"] (spInit1 A.c_Missing "name") := init1_ok T.E_Missing F sc_Missing_init fun cdv A' outer s H E => (pss_one (ps_ost (pv 0) (pv 1)))
  obtain ⟨oc, od, kV, doc, pm, an, cdv, ct, osl, rfl, lk, hcd⟩ := F.ex
  exact ⟨T.iC_Missing, T.tI_Missing, _, G, fun s e u => .of_eq rfl, fun s e u => .of_eq rfl⟩
theorem jn_BadWorld (T : Txt K mg A) : Init1 P w K mg base A.c_BadWorld A.i_BadWorld "part" := by
  obtain ⟨fd, F⟩ := T.FI_BadWorld
  have G : FnOk P w K mg base CX0 1 A.i_BadWorld fd ["self", "part"] (spInit1 A.c_BadWorld "part") := init1_ok T.E_BadWorld F sc_BadWorld_init fun cdv A' outer s H E => (pss_one (ps_ost (pv 0) (pv 1)))
  obtain ⟨oc, od, kV, doc, pm, an, cdv, ct, osl, rfl, lk, hcd⟩ := F.ex
  exact ⟨T.iC_BadWorld, T.tI_BadWorld, _, G, fun s e u => .of_eq rfl, fun s e u => .of_eq rfl⟩
theorem jn_BadBlur (T : Txt K mg A) : Init1 P w K mg base A.c_BadBlur A.i_BadBlur "part" := by
  obtain ⟨fd, F⟩ := T.FI_BadBlur
  have G : FnOk P w K mg base CX0 1 A.i_BadBlur fd ["self", "part"] (spInit1 A.c_BadBlur "part") := init1_ok T.E_BadBlur F sc_BadBlur_init fun cdv A' outer s H E => (pss_one (ps_ost (pv 0) (pv 1)))
  obtain ⟨oc, od, kV, doc, pm, an, cdv, ct, osl, rfl, lk, hcd⟩ := F.ex
  exact ⟨T.iC_BadBlur, T.tI_BadBlur, _, G, fun s e u => .of_eq rfl, fun s e u => .of_eq rfl⟩
theorem jn_BadWatch (T : Txt K mg A) : Init1 P w K mg base A.c_BadWatch A.i_BadWatch "part" := by
  obtain ⟨fd, F⟩ := T.FI_BadWatch
  have G : FnOk P w K mg base CX0 1 A.i_BadWatch fd ["self", "part"] (spInit1 A.c_BadWatch "part") := init1_ok T.E_BadWatch F sc_BadWatch_init fun cdv A' outer s H E => (pss_one (ps_ost (pv 0) (pv 1)))
  obtain ⟨oc, od, kV, doc, pm, an, cdv, ct, osl, rfl, lk, hcd⟩ := F.ex
  exact ⟨T.iC_BadWatch, T.tI_BadWatch, _, G, fun s e u => .of_eq rfl, fun s e u => .of_eq rfl⟩
theorem jn_BadTask (T : Txt K mg A) : Init1 P w K mg base A.c_BadTask A.i_BadTask "part" := by
  obtain ⟨fd, F⟩ := T.FI_BadTask
  have G : FnOk P w K mg base CX0 1 A.i_BadTask fd ["self", "part"] (spInit1 A.c_BadTask "part") := init1_ok T.E_BadTask F sc_BadTask_init fun cdv A' outer s H E => (pss_one (ps_ost (pv 0) (pv 1)))
  obtain ⟨oc, od, kV, doc, pm, an, cdv, ct, osl, rfl, lk, hcd⟩ := F.ex
  exact ⟨T.iC_BadTask, T.tI_BadTask, _, G, fun s e u => .of_eq rfl, fun s e u => .of_eq rfl⟩
theorem jn_BadStanding (T : Txt K mg A) : Init1 P w K mg base A.c_BadStanding A.i_BadStanding "part" := by
  obtain ⟨fd, F⟩ := T.FI_BadStanding
  have G : FnOk P w K mg base CX0 1 A.i_BadStanding fd ["self", "part"] (spInit1 A.c_BadStanding "part") := init1_ok T.E_BadStanding F sc_BadStanding_init fun cdv A' outer s H E => (pss_one (ps_ost (pv 0) (pv 1)))
  obtain ⟨oc, od, kV, doc, pm, an, cdv, ct, osl, rfl, lk, hcd⟩ := F.ex
  exact ⟨T.iC_BadStanding, T.tI_BadStanding, _, G, fun s e u => .of_eq rfl, fun s e u => .of_eq rfl⟩
theorem jn_BadTable (T : Txt K mg A) : Init1 P w K mg base A.c_BadTable A.i_BadTable "part" := by
  obtain ⟨fd, F⟩ := T.FI_BadTable
  have G : FnOk P w K mg base CX0 1 A.i_BadTable fd ["self", "part"] (spInit1 A.c_BadTable "part") := init1_ok T.E_BadTable F sc_BadTable_init fun cdv A' outer s H E => (pss_one (ps_ost (pv 0) (pv 1)))
  obtain ⟨oc, od, kV, doc, pm, an, cdv, ct, osl, rfl, lk, hcd⟩ := F.ex
  exact ⟨T.iC_BadTable, T.tI_BadTable, _, G, fun s e u => .of_eq rfl, fun s e u => .of_eq rfl⟩
theorem jn_BadPlay (T : Txt K mg A) : Init1 P w K mg base A.c_BadPlay A.i_BadPlay "part" := by
  obtain ⟨fd, F⟩ := T.FI_BadPlay
  have G : FnOk P w K mg base CX0 1 A.i_BadPlay fd ["self", "part"] (spInit1 A.c_BadPlay "part") := init1_ok T.E_BadPlay F sc_BadPlay_init fun cdv A' outer s H E => (pss_one (ps_ost (pv 0) (pv 1)))
  obtain ⟨oc, od, kV, doc, pm, an, cdv, ct, osl, rfl, lk, hcd⟩ := F.ex
  exact ⟨T.iC_BadPlay, T.tI_BadPlay, _, G, fun s e u => .of_eq rfl, fun s e u => .of_eq rfl⟩
theorem jn_BadView (T : Txt K mg A) : Init1 P w K mg base A.c_BadView A.i_BadView "part" := by
  obtain ⟨fd, F⟩ := T.FI_BadView
  have G : FnOk P w K mg base CX0 1 A.i_BadView fd ["self", "part"] (spInit1 A.c_BadView "part") := init1_ok T.E_BadView F sc_BadView_init fun cdv A' outer s H E => (pss_one (ps_ost (pv 0) (pv 1)))
  obtain ⟨oc, od, kV, doc, pm, an, cdv, ct, osl, rfl, lk, hcd⟩ := F.ex
  exact ⟨T.iC_BadView, T.tI_BadView, _, G, fun s e u => .of_eq rfl, fun s e u => .of_eq rfl⟩
theorem jn_BadLog (T : Txt K mg A) : Init1 P w K mg base A.c_BadLog A.i_BadLog "part" := by
  obtain ⟨fd, F⟩ := T.FI_BadLog
  have G : FnOk P w K mg base CX0 1 A.i_BadLog fd ["self", "part"] (spInit1 A.c_BadLog "part") := init1_ok T.E_BadLog F sc_BadLog_init fun cdv A' outer s H E => (pss_one (ps_ost (pv 0) (pv 1)))
  obtain ⟨oc, od, kV, doc, pm, an, cdv, ct, osl, rfl, lk, hcd⟩ := F.ex
  exact ⟨T.iC_BadLog, T.tI_BadLog, _, G, fun s e u => .of_eq rfl, fun s e u => .of_eq rfl⟩
theorem jn_BadTree (T : Txt K mg A) : Init1 P w K mg base A.c_BadTree A.i_BadTree "part" := by
  obtain ⟨fd, F⟩ := T.FI_BadTree
  have G : FnOk P w K mg base CX0 1 A.i_BadTree fd ["self", "part"] (spInit1 A.c_BadTree "part") := init1_ok T.E_BadTree F sc_BadTree_init fun cdv A' outer s H E => (pss_one (ps_ost (pv 0) (pv 1)))
  obtain ⟨oc, od, kV, doc, pm, an, cdv, ct, osl, rfl, lk, hcd⟩ := F.ex
  exact ⟨T.iC_BadTree, T.tI_BadTree, _, G, fun s e u => .of_eq rfl, fun s e u => .of_eq rfl⟩
theorem jn_BadRow (T : Txt K mg A) : Init1 P w K mg base A.c_BadRow A.i_BadRow "part" := by
  obtain ⟨fd, F⟩ := T.FI_BadRow
  have G : FnOk P w K mg base CX0 1 A.i_BadRow fd ["self", "part"] (spInit1 A.c_BadRow "part") := init1_ok T.E_BadRow F sc_BadRow_init fun cdv A' outer s H E => (pss_one (ps_ost (pv 0) (pv 1)))
  obtain ⟨oc, od, kV, doc, pm, an, cdv, ct, osl, rfl, lk, hcd⟩ := F.ex
  exact ⟨T.iC_BadRow, T.tI_BadRow, _, G, fun s e u => .of_eq rfl, fun s e u => .of_eq rfl⟩
theorem jn_BadGroups (T : Txt K mg A) : Init1 P w K mg base A.c_BadGroups A.i_BadGroups "part" := by
  obtain ⟨fd, F⟩ := T.FI_BadGroups
  have G : FnOk P w K mg base CX0 1 A.i_BadGroups fd ["self", "part"] (spInit1 A.c_BadGroups "part") := init1_ok T.E_BadGroups F sc_BadGroups_init fun cdv A' outer s H E => (pss_one (ps_ost (pv 0) (pv 1)))
  obtain ⟨oc, od, kV, doc, pm, an, cdv, ct, osl, rfl, lk, hcd⟩ := F.ex
  exact ⟨T.iC_BadGroups, T.tI_BadGroups, _, G, fun s e u => .of_eq rfl, fun s e u => .of_eq rfl⟩
theorem jn_BadWait (T : Txt K mg A) : Init1 P w K mg base A.c_BadWait A.i_BadWait "part" := by
  obtain ⟨fd, F⟩ := T.FI_BadWait
  have G : FnOk P w K mg base CX0 1 A.i_BadWait fd ["self", "part"] (spInit1 A.c_BadWait "part") := init1_ok T.E_BadWait F sc_BadWait_init fun cdv A' outer s H E => (pss_one (ps_ost (pv 0) (pv 1)))
  obtain ⟨oc, od, kV, doc, pm, an, cdv, ct, osl, rfl, lk, hcd⟩ := F.ex
  exact ⟨T.iC_BadWait, T.tI_BadWait, _, G, fun s e u => .of_eq rfl, fun s e u => .of_eq rfl⟩
theorem jn_BadSmudges (T : Txt K mg A) : Init1 P w K mg base A.c_BadSmudges A.i_BadSmudges "part" := by
  obtain ⟨fd, F⟩ := T.FI_BadSmudges
  have G : FnOk P w K mg base CX0 1 A.i_BadSmudges fd ["self", "part"] (spInit1 A.c_BadSmudges "part") := init1_ok T.E_BadSmudges F sc_BadSmudges_init fun cdv A' outer s H E => (pss_one (ps_ost (pv 0) (pv 1)))
  obtain ⟨oc, od, kV, doc, pm, an, cdv, ct, osl, rfl, lk, hcd⟩ := F.ex
  exact ⟨T.iC_BadSmudges, T.tI_BadSmudges, _, G, fun s e u => .of_eq rfl, fun s e u => .of_eq rfl⟩
theorem jn_BadRoster (T : Txt K mg A) : Init1 P w K mg base A.c_BadRoster A.i_BadRoster "part" := by
  obtain ⟨fd, F⟩ := T.FI_BadRoster
  have G : FnOk P w K mg base CX0 1 A.i_BadRoster fd ["self", "part"] (spInit1 A.c_BadRoster "part") := init1_ok T.E_BadRoster F sc_BadRoster_init fun cdv A' outer s H E => (pss_one (ps_ost (pv 0) (pv 1)))
  obtain ⟨oc, od, kV, doc, pm, an, cdv, ct, osl, rfl, lk, hcd⟩ := F.ex
  exact ⟨T.iC_BadRoster, T.tI_BadRoster, _, G, fun s e u => .of_eq rfl, fun s e u => .of_eq rfl⟩
theorem jn_BadFog (T : Txt K mg A) : Init1 P w K mg base A.c_BadFog A.i_BadFog "part" := by
  obtain ⟨fd, F⟩ := T.FI_BadFog
  have G : FnOk P w K mg base CX0 1 A.i_BadFog fd ["self", "part"] (spInit1 A.c_BadFog "part") := init1_ok T.E_BadFog F sc_BadFog_init fun cdv A' outer s H E => (pss_one (ps_ost (pv 0) (pv 1)))
  obtain ⟨oc, od, kV, doc, pm, an, cdv, ct, osl, rfl, lk, hcd⟩ := F.ex
  exact ⟨T.iC_BadFog, T.tI_BadFog, _, G, fun s e u => .of_eq rfl, fun s e u => .of_eq rfl⟩
theorem jn_BadFront (T : Txt K mg A) : Init1 P w K mg base A.c_BadFront A.i_BadFront "part" := by
  obtain ⟨fd, F⟩ := T.FI_BadFront
  have G : FnOk P w K mg base CX0 1 A.i_BadFront fd ["self", "part"] (spInit1 A.c_BadFront "part") := init1_ok T.E_BadFront F sc_BadFront_init fun cdv A' outer s H E => (pss_one (ps_ost (pv 0) (pv 1)))
  obtain ⟨oc, od, kV, doc, pm, an, cdv, ct, osl, rfl, lk, hcd⟩ := F.ex
  exact ⟨T.iC_BadFront, T.tI_BadFront, _, G, fun s e u => .of_eq rfl, fun s e u => .of_eq rfl⟩
theorem jn_BadHall (T : Txt K mg A) : Init1 P w K mg base A.c_BadHall A.i_BadHall "part" := by
  obtain ⟨fd, F⟩ := T.FI_BadHall
  have G : FnOk P w K mg base CX0 1 A.i_BadHall fd ["self", "part"] (spInit1 A.c_BadHall "part") := init1_ok T.E_BadHall F sc_BadHall_init fun cdv A' outer s H E => (pss_one (ps_ost (pv 0) (pv 1)))
  obtain ⟨oc, od, kV, doc, pm, an, cdv, ct, osl, rfl, lk, hcd⟩ := F.ex
  exact ⟨T.iC_BadHall, T.tI_BadHall, _, G, fun s e u => .of_eq rfl, fun s e u => .of_eq rfl⟩
theorem jn_BadStory (T : Txt K mg A) : Init1 P w K mg base A.c_BadStory A.i_BadStory "part" := by
  obtain ⟨fd, F⟩ := T.FI_BadStory
  have G : FnOk P w K mg base CX0 1 A.i_BadStory fd ["self", "part"] (spInit1 A.c_BadStory "part") := init1_ok T.E_BadStory F sc_BadStory_init fun cdv A' outer s H E => (pss_one (ps_ost (pv 0) (pv 1)))
  obtain ⟨oc, od, kV, doc, pm, an, cdv, ct, osl, rfl, lk, hcd⟩ := F.ex
  exact ⟨T.iC_BadStory, T.tI_BadStory, _, G, fun s e u => .of_eq rfl, fun s e u => .of_eq rfl⟩
theorem jn_BadNumbers (T : Txt K mg A) : Init1 P w K mg base A.c_BadNumbers A.i_BadNumbers "part" := by
  obtain ⟨fd, F⟩ := T.FI_BadNumbers
  have G : FnOk P w K mg base CX0 1 A.i_BadNumbers fd ["self", "part"] (spInit1 A.c_BadNumbers "part") := init1_ok T.E_BadNumbers F sc_BadNumbers_init fun cdv A' outer s H E => (pss_one (ps_ost (pv 0) (pv 1)))
  obtain ⟨oc, od, kV, doc, pm, an, cdv, ct, osl, rfl, lk, hcd⟩ := F.ex
  exact ⟨T.iC_BadNumbers, T.tI_BadNumbers, _, G, fun s e u => .of_eq rfl, fun s e u => .of_eq rfl⟩
theorem jn_BadPaper (T : Txt K mg A) : Init1 P w K mg base A.c_BadPaper A.i_BadPaper "part" := by
  obtain ⟨fd, F⟩ := T.FI_BadPaper
  have G : FnOk P w K mg base CX0 1 A.i_BadPaper fd ["self", "part"] (spInit1 A.c_BadPaper "part") := init1_ok T.E_BadPaper F sc_BadPaper_init fun cdv A' outer s H E => (pss_one (ps_ost (pv 0) (pv 1)))
  obtain ⟨oc, od, kV, doc, pm, an, cdv, ct, osl, rfl, lk, hcd⟩ := F.ex
  exact ⟨T.iC_BadPaper, T.tI_BadPaper, _, G, fun s e u => .of_eq rfl, fun s e u => .of_eq rfl⟩
theorem jn_NoState (T : Txt K mg A) : Init1 P w K mg base A.c_NoState A.i_Missing "name" := by
  obtain ⟨fd, F⟩ := T.FI_Missing
  have G : FnOk P w K mg base CX0 1 A.i_Missing fd ["self", "name"] (spInit1 A.c_NoState "name") := init1_ok T.E_NoState F sc_Missing_init fun cdv A' outer s H E => (pss_one (ps_ost (pv 0) (pv 1)))
  obtain ⟨oc, od, kV, doc, pm, an, cdv, ct, osl, rfl, lk, hcd⟩ := F.ex
  exact ⟨T.iC_NoState, T.tI_Missing, _, G, fun s e u => .of_eq rfl, fun s e u => .of_eq rfl⟩
theorem jn_NoLabel (T : Txt K mg A) : Init1 P w K mg base A.c_NoLabel A.i_Missing "name" := by
  obtain ⟨fd, F⟩ := T.FI_Missing
  have G : FnOk P w K mg base CX0 1 A.i_Missing fd ["self", "name"] (spInit1 A.c_NoLabel "name") := init1_ok T.E_NoLabel F sc_Missing_init fun cdv A' outer s H E => (pss_one (ps_ost (pv 0) (pv 1)))
  obtain ⟨oc, od, kV, doc, pm, an, cdv, ct, osl, rfl, lk, hcd⟩ := F.ex
  exact ⟨T.iC_NoLabel, T.tI_Missing, _, G, fun s e u => .of_eq rfl, fun s e u => .of_eq rfl⟩
theorem jn_NoDeed (T : Txt K mg A) : Init1 P w K mg base A.c_NoDeed A.i_Missing "name" := by
  obtain ⟨fd, F⟩ := T.FI_Missing
  have G : FnOk P w K mg base CX0 1 A.i_Missing fd ["self", "name"] (spInit1 A.c_NoDeed "name") := init1_ok T.E_NoDeed F sc_Missing_init fun cdv A' outer s H E => (pss_one (ps_ost (pv 0) (pv 1)))
  obtain ⟨oc, od, kV, doc, pm, an, cdv, ct, osl, rfl, lk, hcd⟩ := F.ex
  exact ⟨T.iC_NoDeed, T.tI_Missing, _, G, fun s e u => .of_eq rfl, fun s e u => .of_eq rfl⟩
theorem jn_NoSight (T : Txt K mg A) : Init1 P w K mg base A.c_NoSight A.i_Missing "name" := by
  obtain ⟨fd, F⟩ := T.FI_Missing
  have G : FnOk P w K mg base CX0 1 A.i_Missing fd ["self", "name"] (spInit1 A.c_NoSight "name") := init1_ok T.E_NoSight F sc_Missing_init fun cdv A' outer s H E => (pss_one (ps_ost (pv 0) (pv 1)))
  obtain ⟨oc, od, kV, doc, pm, an, cdv, ct, osl, rfl, lk, hcd⟩ := F.ex
  exact ⟨T.iC_NoSight, T.tI_Missing, _, G, fun s e u => .of_eq rfl, fun s e u => .of_eq rfl⟩
theorem jn_NoWatchState (T : Txt K mg A) : Init1 P w K mg base A.c_NoWatchState A.i_Missing "name" := by
  obtain ⟨fd, F⟩ := T.FI_Missing
  have G : FnOk P w K mg base CX0 1 A.i_Missing fd ["self", "name"] (spInit1 A.c_NoWatchState "name") := init1_ok T.E_NoWatchState F sc_Missing_init fun cdv A' outer s H E => (pss_one (ps_ost (pv 0) (pv 1)))
  obtain ⟨oc, od, kV, doc, pm, an, cdv, ct, osl, rfl, lk, hcd⟩ := F.ex
  exact ⟨T.iC_NoWatchState, T.tI_Missing, _, G, fun s e u => .of_eq rfl, fun s e u => .of_eq rfl⟩
theorem jn_NoName (T : Txt K mg A) : Init1 P w K mg base A.c_NoName A.i_Missing "name" := by
  obtain ⟨fd, F⟩ := T.FI_Missing
  have G : FnOk P w K mg base CX0 1 A.i_Missing fd ["self", "name"] (spInit1 A.c_NoName "name") := init1_ok T.E_NoName F sc_Missing_init fun cdv A' outer s H E => (pss_one (ps_ost (pv 0) (pv 1)))
  obtain ⟨oc, od, kV, doc, pm, an, cdv, ct, osl, rfl, lk, hcd⟩ := F.ex
  exact ⟨T.iC_NoName, T.tI_Missing, _, G, fun s e u => .of_eq rfl, fun s e u => .of_eq rfl⟩
theorem jn_Twice (T : Txt K mg A) : Init1 P w K mg base A.c_Twice A.i_Twice "name" := by
  obtain ⟨fd, F⟩ := T.FI_Twice
  have G : FnOk P w K mg base CX0 1 A.i_Twice fd ["self", "name"] (spInit1 A.c_Twice "name") := init1_ok T.E_Twice F sc_Twice_init fun cdv A' outer s H E => (pss_one (ps_ost (pv 0) (pv 1)))
  obtain ⟨oc, od, kV, doc, pm, an, cdv, ct, osl, rfl, lk, hcd⟩ := F.ex
  exact ⟨T.iC_Twice, T.tI_Twice, _, G, fun s e u => .of_eq rfl, fun s e u => .of_eq rfl⟩
theorem jn_NoTable (T : Txt K mg A) : Init1 P w K mg base A.c_NoTable A.i_NoTable "number" := by
  obtain ⟨fd, F⟩ := T.FI_NoTable
  have G : FnOk P w K mg base CX0 1 A.i_NoTable fd ["self", "number"] (spInit1 A.c_NoTable "number") := init1_ok T.E_NoTable F sc_NoTable_init fun cdv A' outer s H E => (pss_one (ps_ost (pv 0) (pv 1)))
  obtain ⟨oc, od, kV, doc, pm, an, cdv, ct, osl, rfl, lk, hcd⟩ := F.ex
  exact ⟨T.iC_NoTable, T.tI_NoTable, _, G, fun s e u => .of_eq rfl, fun s e u => .of_eq rfl⟩
theorem jn_NotKept (T : Txt K mg A) : Init1 P w K mg base A.c_NotKept A.i_NotKept "why" := by
  obtain ⟨fd, F⟩ := T.FI_NotKept
  have G : FnOk P w K mg base CX0 1 A.i_NotKept fd ["self", "why"] (spInit1 A.c_NotKept "why") := init1_ok T.E_NotKept F sc_NotKept_init fun cdv A' outer s H E => (pss_one (ps_ost (pv 0) (pv 1)))
  obtain ⟨oc, od, kV, doc, pm, an, cdv, ct, osl, rfl, lk, hcd⟩ := F.ex
  exact ⟨T.iC_NotKept, T.tI_NotKept, _, G, fun s e u => .of_eq rfl, fun s e u => .of_eq rfl⟩
theorem jn_Unlike (T : Txt K mg A) : Init1 P w K mg base A.c_Unlike A.i_Unlike "what" := by
  obtain ⟨fd, F⟩ := T.FI_Unlike
  have G : FnOk P w K mg base CX0 1 A.i_Unlike fd ["self", "what"] (spInit1 A.c_Unlike "what") := init1_ok T.E_Unlike F sc_Unlike_init fun cdv A' outer s H E => (pss_one (ps_ost (pv 0) (pv 1)))
  obtain ⟨oc, od, kV, doc, pm, an, cdv, ct, osl, rfl, lk, hcd⟩ := F.ex
  exact ⟨T.iC_Unlike, T.tI_Unlike, _, G, fun s e u => .of_eq rfl, fun s e u => .of_eq rfl⟩
theorem jn_NotNow (T : Txt K mg A) : Init1 P w K mg base A.c_NotNow A.i_NotNow "what" := by
  obtain ⟨fd, F⟩ := T.FI_NotNow
  have G : FnOk P w K mg base CX0 1 A.i_NotNow fd ["self", "what"] (spInit1 A.c_NotNow "what") := init1_ok T.E_NotNow F sc_NotNow_init fun cdv A' outer s H E => (pss_one (ps_ost (pv 0) (pv 1)))
  obtain ⟨oc, od, kV, doc, pm, an, cdv, ct, osl, rfl, lk, hcd⟩ := F.ex
  exact ⟨T.iC_NotNow, T.tI_NotNow, _, G, fun s e u => .of_eq rfl, fun s e u => .of_eq rfl⟩
theorem jn_NoWay (T : Txt K mg A) : Init1 P w K mg base A.c_NoWay A.i_NoWay "sight" := by
  obtain ⟨fd, F⟩ := T.FI_NoWay
  have G : FnOk P w K mg base CX0 1 A.i_NoWay fd ["self", "sight"] (spInit1 A.c_NoWay "sight") := init1_ok T.E_NoWay F sc_NoWay_init fun cdv A' outer s H E => (pss_one (ps_ost (pv 0) (pv 1)))
  obtain ⟨oc, od, kV, doc, pm, an, cdv, ct, osl, rfl, lk, hcd⟩ := F.ex
  exact ⟨T.iC_NoWay, T.tI_NoWay, _, G, fun s e u => .of_eq rfl, fun s e u => .of_eq rfl⟩
theorem jn_NoEntry (T : Txt K mg A) : Init2 P w K mg base A.c_NoEntry A.i_NoEntry "page" "sight" := by
  obtain ⟨fd, F⟩ := T.FI_NoEntry
  have G : FnOk P w K mg base CX0 1 A.i_NoEntry fd ["self", "page", "sight"] (spInit2 A.c_NoEntry "page" "sight") := init2_ok T.E_NoEntry F sc_NoEntry_init fun cdv A' outer s H E => (pss_cons (ps_ost (pv 0) (pv 1)) (pss_one (ps_ost (pv 0) (pv 2))))
  obtain ⟨oc, od, kV, doc, pm, an, cdv, ct, osl, rfl, lk, hcd⟩ := F.ex
  exact ⟨T.iC_NoEntry, T.tI_NoEntry, _, G, fun s e u v => .of_eq rfl, fun s e u v => .of_eq rfl⟩
theorem jn_Breaks (T : Txt K mg A) : Init2 P w K mg base A.c_Breaks A.i_Breaks "state" "place" := by
  obtain ⟨fd, F⟩ := T.FI_Breaks
  have G : FnOk P w K mg base CX0 1 A.i_Breaks fd ["self", "state", "place"] (spInit2 A.c_Breaks "state" "place") := init2_ok T.E_Breaks F sc_Breaks_init fun cdv A' outer s H E => (pss_cons (ps_ost (pv 0) (pv 1)) (pss_one (ps_ost (pv 0) (pv 2))))
  obtain ⟨oc, od, kV, doc, pm, an, cdv, ct, osl, rfl, lk, hcd⟩ := F.ex
  exact ⟨T.iC_Breaks, T.tI_Breaks, _, G, fun s e u v => .of_eq rfl, fun s e u v => .of_eq rfl⟩
theorem jn_TooMany (T : Txt K mg A) : Init2 P w K mg base A.c_TooMany A.i_TooMany "what" "most" := by
  obtain ⟨fd, F⟩ := T.FI_TooMany
  have G : FnOk P w K mg base CX0 1 A.i_TooMany fd ["self", "what", "most"] (spInit2 A.c_TooMany "what" "most") := init2_ok T.E_TooMany F sc_TooMany_init fun cdv A' outer s H E => (pss_cons (ps_ost (pv 0) (pv 1)) (pss_one (ps_ost (pv 0) (pv 2))))
  obtain ⟨oc, od, kV, doc, pm, an, cdv, ct, osl, rfl, lk, hcd⟩ := F.ex
  exact ⟨T.iC_TooMany, T.tI_TooMany, _, G, fun s e u v => .of_eq rfl, fun s e u v => .of_eq rfl⟩
theorem jn_BadText (T : Txt K mg A) : Init2 P w K mg base A.c_BadText A.i_BadText "line" "word" := by
  obtain ⟨fd, F⟩ := T.FI_BadText
  have G : FnOk P w K mg base CX0 1 A.i_BadText fd ["self", "line", "word"] (spInit2 A.c_BadText "line" "word") := init2_ok T.E_BadText F sc_BadText_init fun cdv A' outer s H E => (pss_cons (ps_ost (pv 0) (pv 1)) (pss_one (ps_ost (pv 0) (pv 2))))
  obtain ⟨oc, od, kV, doc, pm, an, cdv, ct, osl, rfl, lk, hcd⟩ := F.ex
  exact ⟨T.iC_BadText, T.tI_BadText, _, G, fun s e u v => .of_eq rfl, fun s e u v => .of_eq rfl⟩
theorem jn_BadLine (T : Txt K mg A) : Init2 P w K mg base A.c_BadLine A.i_BadLine "line" "error" := by
  obtain ⟨fd, F⟩ := T.FI_BadLine
  have G : FnOk P w K mg base CX0 1 A.i_BadLine fd ["self", "line", "error"] (spInit2 A.c_BadLine "line" "error") := init2_ok T.E_BadLine F sc_BadLine_init fun cdv A' outer s H E => (pss_cons (ps_ost (pv 0) (pv 1)) (pss_one (ps_ost (pv 0) (pv 2))))
  obtain ⟨oc, od, kV, doc, pm, an, cdv, ct, osl, rfl, lk, hcd⟩ := F.ex
  exact ⟨T.iC_BadLine, T.tI_BadLine, _, G, fun s e u v => .of_eq rfl, fun s e u v => .of_eq rfl⟩
end
end K00

namespace K00
open PySem PySem.Spec PyProof.Rows L2 MyL MyH He
def chk : List MyH.Chk := [fun K => (Fa.glo "_law_spring").ok K,
  fun K => (Fa.glo "_law_cup").ok K,
  fun K => (Fa.glo "_law_one_of").ok K,
  fun K => (Fa.glo "_law_parts").ok K,
  fun K => (Fa.glo "_law_parts_turned").ok K,
  fun K => (Fa.glo "_law_others").ok K,
  fun K => (Fa.glo "_law_others_named").ok K,
  fun K => (Fa.glo "_law_fields").ok K,
  fun K => (Fa.glo "_law_kin").ok K,
  fun K => (Fa.glo "_law_stands_right").ok K,
  fun K => (Fa.glo "_law_all_right").ok K,
  fun K => (Fa.glo "law").ok K,
  fun K => (Fa.glo "DimError").ok K,
  fun K => errB K (ga K "DimError") (upV K []),
  fun K => (Fa.glo "Missing").ok K,
  fun K => errB K (ga K "Missing") (upV K ["DimError"]),
  fun K => fnoB K "Missing" "name",
  fun K => fatB K "Missing" "__init__" "Missing",
  fun K => tyfB K "Missing" "__init__",
  fun K => (Fa.glo "BadWorld").ok K,
  fun K => errB K (ga K "BadWorld") (upV K ["DimError"]),
  fun K => fnoB K "BadWorld" "part",
  fun K => fatB K "BadWorld" "__init__" "BadWorld",
  fun K => tyfB K "BadWorld" "__init__",
  fun K => (Fa.glo "BadBlur").ok K,
  fun K => errB K (ga K "BadBlur") (upV K ["DimError"]),
  fun K => fnoB K "BadBlur" "part",
  fun K => fatB K "BadBlur" "__init__" "BadBlur",
  fun K => tyfB K "BadBlur" "__init__",
  fun K => (Fa.glo "BadWatch").ok K,
  fun K => errB K (ga K "BadWatch") (upV K ["DimError"]),
  fun K => fnoB K "BadWatch" "part",
  fun K => fatB K "BadWatch" "__init__" "BadWatch",
  fun K => tyfB K "BadWatch" "__init__",
  fun K => (Fa.glo "BadTask").ok K,
  fun K => errB K (ga K "BadTask") (upV K ["DimError"]),
  fun K => fnoB K "BadTask" "part",
  fun K => fatB K "BadTask" "__init__" "BadTask",
  fun K => tyfB K "BadTask" "__init__",
  fun K => (Fa.glo "BadStanding").ok K,
  fun K => errB K (ga K "BadStanding") (upV K ["DimError"]),
  fun K => fnoB K "BadStanding" "part",
  fun K => fatB K "BadStanding" "__init__" "BadStanding",
  fun K => tyfB K "BadStanding" "__init__",
  fun K => (Fa.glo "BadTable").ok K,
  fun K => errB K (ga K "BadTable") (upV K ["DimError"]),
  fun K => fnoB K "BadTable" "part",
  fun K => fatB K "BadTable" "__init__" "BadTable",
  fun K => tyfB K "BadTable" "__init__",
  fun K => (Fa.glo "BadPlay").ok K,
  fun K => errB K (ga K "BadPlay") (upV K ["DimError"]),
  fun K => fnoB K "BadPlay" "part",
  fun K => fatB K "BadPlay" "__init__" "BadPlay",
  fun K => tyfB K "BadPlay" "__init__",
  fun K => (Fa.glo "BadView").ok K,
  fun K => errB K (ga K "BadView") (upV K ["DimError"]),
  fun K => fnoB K "BadView" "part",
  fun K => fatB K "BadView" "__init__" "BadView",
  fun K => tyfB K "BadView" "__init__",
  fun K => (Fa.glo "BadLog").ok K,
  fun K => errB K (ga K "BadLog") (upV K ["DimError"]),
  fun K => fnoB K "BadLog" "part",
  fun K => fatB K "BadLog" "__init__" "BadLog",
  fun K => tyfB K "BadLog" "__init__",
  fun K => (Fa.glo "BadTree").ok K,
  fun K => errB K (ga K "BadTree") (upV K ["DimError"]),
  fun K => fnoB K "BadTree" "part",
  fun K => fatB K "BadTree" "__init__" "BadTree",
  fun K => tyfB K "BadTree" "__init__",
  fun K => (Fa.glo "BadRow").ok K,
  fun K => errB K (ga K "BadRow") (upV K ["DimError"]),
  fun K => fnoB K "BadRow" "part",
  fun K => fatB K "BadRow" "__init__" "BadRow",
  fun K => tyfB K "BadRow" "__init__",
  fun K => (Fa.glo "BadGroups").ok K,
  fun K => errB K (ga K "BadGroups") (upV K ["DimError"]),
  fun K => fnoB K "BadGroups" "part",
  fun K => fatB K "BadGroups" "__init__" "BadGroups",
  fun K => tyfB K "BadGroups" "__init__",
  fun K => (Fa.glo "BadWait").ok K,
  fun K => errB K (ga K "BadWait") (upV K ["DimError"]),
  fun K => fnoB K "BadWait" "part",
  fun K => fatB K "BadWait" "__init__" "BadWait",
  fun K => tyfB K "BadWait" "__init__",
  fun K => (Fa.glo "BadSmudges").ok K,
  fun K => errB K (ga K "BadSmudges") (upV K ["DimError"]),
  fun K => fnoB K "BadSmudges" "part",
  fun K => fatB K "BadSmudges" "__init__" "BadSmudges",
  fun K => tyfB K "BadSmudges" "__init__",
  fun K => (Fa.glo "BadRoster").ok K,
  fun K => errB K (ga K "BadRoster") (upV K ["DimError"]),
  fun K => fnoB K "BadRoster" "part",
  fun K => fatB K "BadRoster" "__init__" "BadRoster",
  fun K => tyfB K "BadRoster" "__init__",
  fun K => (Fa.glo "BadFog").ok K,
  fun K => errB K (ga K "BadFog") (upV K ["DimError"]),
  fun K => fnoB K "BadFog" "part",
  fun K => fatB K "BadFog" "__init__" "BadFog",
  fun K => tyfB K "BadFog" "__init__",
  fun K => (Fa.glo "BadFront").ok K,
  fun K => errB K (ga K "BadFront") (upV K ["DimError"]),
  fun K => fnoB K "BadFront" "part",
  fun K => fatB K "BadFront" "__init__" "BadFront",
  fun K => tyfB K "BadFront" "__init__",
  fun K => (Fa.glo "BadHall").ok K,
  fun K => errB K (ga K "BadHall") (upV K ["DimError"]),
  fun K => fnoB K "BadHall" "part",
  fun K => fatB K "BadHall" "__init__" "BadHall",
  fun K => tyfB K "BadHall" "__init__",
  fun K => (Fa.glo "BadStory").ok K,
  fun K => errB K (ga K "BadStory") (upV K ["DimError"]),
  fun K => fnoB K "BadStory" "part",
  fun K => fatB K "BadStory" "__init__" "BadStory",
  fun K => tyfB K "BadStory" "__init__",
  fun K => (Fa.glo "BadNumbers").ok K,
  fun K => errB K (ga K "BadNumbers") (upV K ["DimError"]),
  fun K => fnoB K "BadNumbers" "part",
  fun K => fatB K "BadNumbers" "__init__" "BadNumbers",
  fun K => tyfB K "BadNumbers" "__init__",
  fun K => (Fa.glo "BadPaper").ok K,
  fun K => errB K (ga K "BadPaper") (upV K ["DimError"]),
  fun K => fnoB K "BadPaper" "part",
  fun K => fatB K "BadPaper" "__init__" "BadPaper",
  fun K => tyfB K "BadPaper" "__init__",
  fun K => (Fa.glo "NoState").ok K,
  fun K => errB K (ga K "NoState") (upV K ["Missing", "DimError"]),
  fun K => fnoB K "NoState" "name",
  fun K => fatB K "NoState" "__init__" "Missing",
  fun K => (Fa.glo "NoLabel").ok K,
  fun K => errB K (ga K "NoLabel") (upV K ["Missing", "DimError"]),
  fun K => fnoB K "NoLabel" "name",
  fun K => fatB K "NoLabel" "__init__" "Missing",
  fun K => (Fa.glo "NoDeed").ok K,
  fun K => errB K (ga K "NoDeed") (upV K ["Missing", "DimError"]),
  fun K => fnoB K "NoDeed" "name",
  fun K => fatB K "NoDeed" "__init__" "Missing",
  fun K => (Fa.glo "NoSight").ok K,
  fun K => errB K (ga K "NoSight") (upV K ["Missing", "DimError"]),
  fun K => fnoB K "NoSight" "name",
  fun K => fatB K "NoSight" "__init__" "Missing",
  fun K => (Fa.glo "NoWatchState").ok K,
  fun K => errB K (ga K "NoWatchState") (upV K ["Missing", "DimError"]),
  fun K => fnoB K "NoWatchState" "name",
  fun K => fatB K "NoWatchState" "__init__" "Missing",
  fun K => (Fa.glo "NoName").ok K,
  fun K => errB K (ga K "NoName") (upV K ["Missing", "DimError"]),
  fun K => fnoB K "NoName" "name",
  fun K => fatB K "NoName" "__init__" "Missing",
  fun K => (Fa.glo "Twice").ok K,
  fun K => errB K (ga K "Twice") (upV K ["DimError"]),
  fun K => fnoB K "Twice" "name",
  fun K => fatB K "Twice" "__init__" "Twice",
  fun K => tyfB K "Twice" "__init__",
  fun K => (Fa.glo "NoTable").ok K,
  fun K => errB K (ga K "NoTable") (upV K ["DimError"]),
  fun K => fnoB K "NoTable" "number",
  fun K => fatB K "NoTable" "__init__" "NoTable",
  fun K => tyfB K "NoTable" "__init__",
  fun K => (Fa.glo "NotKept").ok K,
  fun K => errB K (ga K "NotKept") (upV K ["DimError"]),
  fun K => fnoB K "NotKept" "why",
  fun K => fatB K "NotKept" "__init__" "NotKept",
  fun K => tyfB K "NotKept" "__init__",
  fun K => (Fa.glo "Unlike").ok K,
  fun K => errB K (ga K "Unlike") (upV K ["DimError"]),
  fun K => fnoB K "Unlike" "what",
  fun K => fatB K "Unlike" "__init__" "Unlike",
  fun K => tyfB K "Unlike" "__init__",
  fun K => (Fa.glo "NotNow").ok K,
  fun K => errB K (ga K "NotNow") (upV K ["DimError"]),
  fun K => fnoB K "NotNow" "what",
  fun K => fatB K "NotNow" "__init__" "NotNow",
  fun K => tyfB K "NotNow" "__init__",
  fun K => (Fa.glo "NoWay").ok K,
  fun K => errB K (ga K "NoWay") (upV K ["DimError"]),
  fun K => fnoB K "NoWay" "sight",
  fun K => fatB K "NoWay" "__init__" "NoWay",
  fun K => tyfB K "NoWay" "__init__",
  fun K => (Fa.glo "NoEntry").ok K,
  fun K => errB K (ga K "NoEntry") (upV K ["DimError"]),
  fun K => fnoB K "NoEntry" "page",
  fun K => fnoB K "NoEntry" "sight",
  fun K => fatB K "NoEntry" "__init__" "NoEntry",
  fun K => tyfB K "NoEntry" "__init__",
  fun K => (Fa.glo "Breaks").ok K,
  fun K => errB K (ga K "Breaks") (upV K ["DimError"]),
  fun K => fnoB K "Breaks" "state",
  fun K => fnoB K "Breaks" "place",
  fun K => fatB K "Breaks" "__init__" "Breaks",
  fun K => tyfB K "Breaks" "__init__",
  fun K => (Fa.glo "TooMany").ok K,
  fun K => errB K (ga K "TooMany") (upV K ["DimError"]),
  fun K => fnoB K "TooMany" "what",
  fun K => fnoB K "TooMany" "most",
  fun K => fatB K "TooMany" "__init__" "TooMany",
  fun K => tyfB K "TooMany" "__init__",
  fun K => (Fa.glo "BadText").ok K,
  fun K => errB K (ga K "BadText") (upV K ["DimError"]),
  fun K => fnoB K "BadText" "line",
  fun K => fnoB K "BadText" "word",
  fun K => fatB K "BadText" "__init__" "BadText",
  fun K => tyfB K "BadText" "__init__",
  fun K => (Fa.glo "BadLine").ok K,
  fun K => errB K (ga K "BadLine") (upV K ["DimError"]),
  fun K => fnoB K "BadLine" "line",
  fun K => fnoB K "BadLine" "error",
  fun K => fatB K "BadLine" "__init__" "BadLine",
  fun K => tyfB K "BadLine" "__init__",
  fun K => (Fa.glo "Ended").ok K,
  fun K => errB K (ga K "Ended") (upV K ["DimError"]),
  fun K => xinB K "Ended",
  fun K => (Fa.glo "Nothing").ok K,
  fun K => errB K (ga K "Nothing") (upV K ["DimError"]),
  fun K => xinB K "Nothing",
  fun K => ndB K ((["DimError", "Missing", "BadWorld", "BadBlur", "BadWatch", "BadTask", "BadStanding", "BadTable", "BadPlay", "BadView", "BadLog", "BadTree", "BadRow", "BadGroups", "BadWait", "BadSmudges", "BadRoster", "BadFog", "BadFront", "BadHall"] : List PySem.Str) ++ (["BadStory", "BadNumbers", "BadPaper", "NoState", "NoLabel", "NoDeed", "NoSight", "NoWatchState", "NoName", "Twice", "NoTable", "NotKept", "Unlike", "NotNow", "NoWay", "NoEntry", "Breaks", "TooMany", "BadText", "BadLine"] : List PySem.Str) ++ (["Ended", "Nothing"] : List PySem.Str)),
  fun K => (Fa.free "len").ok K,
  fun K => (Fa.free "int").ok K,
  fun K => (Fa.free "abs").ok K,
  fun K => (Fa.free "isinstance").ok K,
  fun K => (Fa.free "range").ok K,
  fun K => (Fa.free "enumerate").ok K,
  fun K => (Fa.free "repr").ok K,
  fun K => (Fa.free "ValueError").ok K,
  fun K => (Fa.free "LookupError").ok K,
  fun K => (Fa.free "TypeError").ok K,
  fun K => (Fa.free "ArithmeticError").ok K,
  fun K => (Fa.free "RuntimeError").ok K,
  fun K => (Fa.free "AttributeError").ok K]
def fns : List He.FnD := [⟨("_law_spring", none), "_law_spring", "_law_spring", defArgs s_l_spring, defBody s_l_spring, defScope s_l_spring⟩,
  ⟨("_law_cup", none), "_law_cup", "_law_cup", defArgs s_l_cup, defBody s_l_cup, defScope s_l_cup⟩,
  ⟨("_law_one_of", none), "_law_one_of", "_law_one_of", defArgs s_l_one_of, defBody s_l_one_of, defScope s_l_one_of⟩,
  ⟨("_law_parts", none), "_law_parts", "_law_parts", defArgs s_l_parts, defBody s_l_parts, defScope s_l_parts⟩,
  ⟨("_law_parts_turned", none), "_law_parts_turned", "_law_parts_turned", defArgs s_l_parts_turned, defBody s_l_parts_turned, defScope s_l_parts_turned⟩,
  ⟨("_law_others", none), "_law_others", "_law_others", defArgs s_l_others, defBody s_l_others, defScope s_l_others⟩,
  ⟨("_law_others_named", none), "_law_others_named", "_law_others_named", defArgs s_l_others_named, defBody s_l_others_named, defScope s_l_others_named⟩,
  ⟨("_law_fields", none), "_law_fields", "_law_fields", defArgs s_l_fields, defBody s_l_fields, defScope s_l_fields⟩,
  ⟨("_law_kin", none), "_law_kin", "_law_kin", defArgs s_l_kin, defBody s_l_kin, defScope s_l_kin⟩,
  ⟨("_law_stands_right", none), "_law_stands_right", "_law_stands_right", defArgs s_l_stands_right, defBody s_l_stands_right, defScope s_l_stands_right⟩,
  ⟨("_law_all_right", none), "_law_all_right", "_law_all_right", defArgs s_l_all_right, defBody s_l_all_right, defScope s_l_all_right⟩,
  ⟨("law", none), "law", "law", defArgs s_law, defBody s_law, defScope s_law⟩,
  ⟨("Missing", some "__init__"), "__init__", "Missing.__init__", defArgs s_Missing_init, defBody s_Missing_init, defScope s_Missing_init⟩,
  ⟨("BadWorld", some "__init__"), "__init__", "BadWorld.__init__", defArgs s_BadWorld_init, defBody s_BadWorld_init, defScope s_BadWorld_init⟩,
  ⟨("BadBlur", some "__init__"), "__init__", "BadBlur.__init__", defArgs s_BadBlur_init, defBody s_BadBlur_init, defScope s_BadBlur_init⟩,
  ⟨("BadWatch", some "__init__"), "__init__", "BadWatch.__init__", defArgs s_BadWatch_init, defBody s_BadWatch_init, defScope s_BadWatch_init⟩,
  ⟨("BadTask", some "__init__"), "__init__", "BadTask.__init__", defArgs s_BadTask_init, defBody s_BadTask_init, defScope s_BadTask_init⟩,
  ⟨("BadStanding", some "__init__"), "__init__", "BadStanding.__init__", defArgs s_BadStanding_init, defBody s_BadStanding_init, defScope s_BadStanding_init⟩,
  ⟨("BadTable", some "__init__"), "__init__", "BadTable.__init__", defArgs s_BadTable_init, defBody s_BadTable_init, defScope s_BadTable_init⟩,
  ⟨("BadPlay", some "__init__"), "__init__", "BadPlay.__init__", defArgs s_BadPlay_init, defBody s_BadPlay_init, defScope s_BadPlay_init⟩,
  ⟨("BadView", some "__init__"), "__init__", "BadView.__init__", defArgs s_BadView_init, defBody s_BadView_init, defScope s_BadView_init⟩,
  ⟨("BadLog", some "__init__"), "__init__", "BadLog.__init__", defArgs s_BadLog_init, defBody s_BadLog_init, defScope s_BadLog_init⟩,
  ⟨("BadTree", some "__init__"), "__init__", "BadTree.__init__", defArgs s_BadTree_init, defBody s_BadTree_init, defScope s_BadTree_init⟩,
  ⟨("BadRow", some "__init__"), "__init__", "BadRow.__init__", defArgs s_BadRow_init, defBody s_BadRow_init, defScope s_BadRow_init⟩,
  ⟨("BadGroups", some "__init__"), "__init__", "BadGroups.__init__", defArgs s_BadGroups_init, defBody s_BadGroups_init, defScope s_BadGroups_init⟩,
  ⟨("BadWait", some "__init__"), "__init__", "BadWait.__init__", defArgs s_BadWait_init, defBody s_BadWait_init, defScope s_BadWait_init⟩,
  ⟨("BadSmudges", some "__init__"), "__init__", "BadSmudges.__init__", defArgs s_BadSmudges_init, defBody s_BadSmudges_init, defScope s_BadSmudges_init⟩,
  ⟨("BadRoster", some "__init__"), "__init__", "BadRoster.__init__", defArgs s_BadRoster_init, defBody s_BadRoster_init, defScope s_BadRoster_init⟩,
  ⟨("BadFog", some "__init__"), "__init__", "BadFog.__init__", defArgs s_BadFog_init, defBody s_BadFog_init, defScope s_BadFog_init⟩,
  ⟨("BadFront", some "__init__"), "__init__", "BadFront.__init__", defArgs s_BadFront_init, defBody s_BadFront_init, defScope s_BadFront_init⟩,
  ⟨("BadHall", some "__init__"), "__init__", "BadHall.__init__", defArgs s_BadHall_init, defBody s_BadHall_init, defScope s_BadHall_init⟩,
  ⟨("BadStory", some "__init__"), "__init__", "BadStory.__init__", defArgs s_BadStory_init, defBody s_BadStory_init, defScope s_BadStory_init⟩,
  ⟨("BadNumbers", some "__init__"), "__init__", "BadNumbers.__init__", defArgs s_BadNumbers_init, defBody s_BadNumbers_init, defScope s_BadNumbers_init⟩,
  ⟨("BadPaper", some "__init__"), "__init__", "BadPaper.__init__", defArgs s_BadPaper_init, defBody s_BadPaper_init, defScope s_BadPaper_init⟩,
  ⟨("Twice", some "__init__"), "__init__", "Twice.__init__", defArgs s_Twice_init, defBody s_Twice_init, defScope s_Twice_init⟩,
  ⟨("NoTable", some "__init__"), "__init__", "NoTable.__init__", defArgs s_NoTable_init, defBody s_NoTable_init, defScope s_NoTable_init⟩,
  ⟨("NotKept", some "__init__"), "__init__", "NotKept.__init__", defArgs s_NotKept_init, defBody s_NotKept_init, defScope s_NotKept_init⟩,
  ⟨("Unlike", some "__init__"), "__init__", "Unlike.__init__", defArgs s_Unlike_init, defBody s_Unlike_init, defScope s_Unlike_init⟩,
  ⟨("NotNow", some "__init__"), "__init__", "NotNow.__init__", defArgs s_NotNow_init, defBody s_NotNow_init, defScope s_NotNow_init⟩,
  ⟨("NoWay", some "__init__"), "__init__", "NoWay.__init__", defArgs s_NoWay_init, defBody s_NoWay_init, defScope s_NoWay_init⟩,
  ⟨("NoEntry", some "__init__"), "__init__", "NoEntry.__init__", defArgs s_NoEntry_init, defBody s_NoEntry_init, defScope s_NoEntry_init⟩,
  ⟨("Breaks", some "__init__"), "__init__", "Breaks.__init__", defArgs s_Breaks_init, defBody s_Breaks_init, defScope s_Breaks_init⟩,
  ⟨("TooMany", some "__init__"), "__init__", "TooMany.__init__", defArgs s_TooMany_init, defBody s_TooMany_init, defScope s_TooMany_init⟩,
  ⟨("BadText", some "__init__"), "__init__", "BadText.__init__", defArgs s_BadText_init, defBody s_BadText_init, defScope s_BadText_init⟩,
  ⟨("BadLine", some "__init__"), "__init__", "BadLine.__init__", defArgs s_BadLine_init, defBody s_BadLine_init, defScope s_BadLine_init⟩]
def adr (K : PySem.W.Frag) : Adr := ⟨ga K "_law_spring", ga K "_law_cup", ga K "_law_one_of", ga K "_law_parts", ga K "_law_parts_turned", ga K "_law_others", ga K "_law_others_named", ga K "_law_fields", ga K "_law_kin", ga K "_law_stands_right", ga K "_law_all_right", ga K "law", ga K "DimError", ga K "Missing", ga K "BadWorld", ga K "BadBlur", ga K "BadWatch", ga K "BadTask", ga K "BadStanding", ga K "BadTable", ga K "BadPlay", ga K "BadView", ga K "BadLog", ga K "BadTree", ga K "BadRow", ga K "BadGroups", ga K "BadWait", ga K "BadSmudges", ga K "BadRoster", ga K "BadFog", ga K "BadFront", ga K "BadHall", ga K "BadStory", ga K "BadNumbers", ga K "BadPaper", ga K "NoState", ga K "NoLabel", ga K "NoDeed", ga K "NoSight", ga K "NoWatchState", ga K "NoName", ga K "Twice", ga K "NoTable", ga K "NotKept", ga K "Unlike", ga K "NotNow", ga K "NoWay", ga K "NoEntry", ga K "Breaks", ga K "TooMany", ga K "BadText", ga K "BadLine", ga K "Ended", ga K "Nothing", ma K (ga K "Missing") "__init__", ma K (ga K "BadWorld") "__init__", ma K (ga K "BadBlur") "__init__", ma K (ga K "BadWatch") "__init__", ma K (ga K "BadTask") "__init__", ma K (ga K "BadStanding") "__init__", ma K (ga K "BadTable") "__init__", ma K (ga K "BadPlay") "__init__", ma K (ga K "BadView") "__init__", ma K (ga K "BadLog") "__init__", ma K (ga K "BadTree") "__init__", ma K (ga K "BadRow") "__init__", ma K (ga K "BadGroups") "__init__", ma K (ga K "BadWait") "__init__", ma K (ga K "BadSmudges") "__init__", ma K (ga K "BadRoster") "__init__", ma K (ga K "BadFog") "__init__", ma K (ga K "BadFront") "__init__", ma K (ga K "BadHall") "__init__", ma K (ga K "BadStory") "__init__", ma K (ga K "BadNumbers") "__init__", ma K (ga K "BadPaper") "__init__", ma K (ga K "Twice") "__init__", ma K (ga K "NoTable") "__init__", ma K (ga K "NotKept") "__init__", ma K (ga K "Unlike") "__init__", ma K (ga K "NotNow") "__init__", ma K (ga K "NoWay") "__init__", ma K (ga K "NoEntry") "__init__", ma K (ga K "Breaks") "__init__", ma K (ga K "TooMany") "__init__", ma K (ga K "BadText") "__init__", ma K (ga K "BadLine") "__init__"⟩
theorem txt_of {K : PySem.W.Frag} {h : Heap} {mg : Str → Option Value} (X : K.In h) (G : h.Ns mainGlobals mg) (c : MyH.SaysM chk fns K) : Txt K mg (adr K) where
  m_l_spring := glo_ok X G (c.fact 0)
  k_l_spring := by
    obtain ⟨_, F⟩ := c.def_ 0 (st := s_l_spring)
    exact F.kp
  F_l_spring := c.def_ 0 (st := s_l_spring)
  m_l_cup := glo_ok X G (c.fact 1)
  k_l_cup := by
    obtain ⟨_, F⟩ := c.def_ 1 (st := s_l_cup)
    exact F.kp
  F_l_cup := c.def_ 1 (st := s_l_cup)
  m_l_one_of := glo_ok X G (c.fact 2)
  k_l_one_of := by
    obtain ⟨_, F⟩ := c.def_ 2 (st := s_l_one_of)
    exact F.kp
  F_l_one_of := c.def_ 2 (st := s_l_one_of)
  m_l_parts := glo_ok X G (c.fact 3)
  k_l_parts := by
    obtain ⟨_, F⟩ := c.def_ 3 (st := s_l_parts)
    exact F.kp
  F_l_parts := c.def_ 3 (st := s_l_parts)
  m_l_parts_turned := glo_ok X G (c.fact 4)
  k_l_parts_turned := by
    obtain ⟨_, F⟩ := c.def_ 4 (st := s_l_parts_turned)
    exact F.kp
  F_l_parts_turned := c.def_ 4 (st := s_l_parts_turned)
  m_l_others := glo_ok X G (c.fact 5)
  k_l_others := by
    obtain ⟨_, F⟩ := c.def_ 5 (st := s_l_others)
    exact F.kp
  F_l_others := c.def_ 5 (st := s_l_others)
  m_l_others_named := glo_ok X G (c.fact 6)
  k_l_others_named := by
    obtain ⟨_, F⟩ := c.def_ 6 (st := s_l_others_named)
    exact F.kp
  F_l_others_named := c.def_ 6 (st := s_l_others_named)
  m_l_fields := glo_ok X G (c.fact 7)
  k_l_fields := by
    obtain ⟨_, F⟩ := c.def_ 7 (st := s_l_fields)
    exact F.kp
  F_l_fields := c.def_ 7 (st := s_l_fields)
  m_l_kin := glo_ok X G (c.fact 8)
  k_l_kin := by
    obtain ⟨_, F⟩ := c.def_ 8 (st := s_l_kin)
    exact F.kp
  F_l_kin := c.def_ 8 (st := s_l_kin)
  m_l_stands_right := glo_ok X G (c.fact 9)
  k_l_stands_right := by
    obtain ⟨_, F⟩ := c.def_ 9 (st := s_l_stands_right)
    exact F.kp
  F_l_stands_right := c.def_ 9 (st := s_l_stands_right)
  m_l_all_right := glo_ok X G (c.fact 10)
  k_l_all_right := by
    obtain ⟨_, F⟩ := c.def_ 10 (st := s_l_all_right)
    exact F.kp
  F_l_all_right := c.def_ 10 (st := s_l_all_right)
  m_law := glo_ok X G (c.fact 11)
  k_law := by
    obtain ⟨_, F⟩ := c.def_ 11 (st := s_law)
    exact F.kp
  F_law := c.def_ 11 (st := s_law)
  m_DimError := glo_ok X G (c.fact 12)
  E_DimError := (errB_ok (c.fact 13)).1
  M_DimError := (errB_ok (c.fact 13)).2
  m_Missing := glo_ok X G (c.fact 14)
  E_Missing := ⟨(errB_ok (c.fact 15)).1, eqO_ok (c.fact 16)⟩
  iC_Missing := eqO_ok (c.fact 17)
  tI_Missing := of_decide_eq_true (c.fact 18)
  FI_Missing := c.def_ 12 (st := s_Missing_init)
  M_Missing := (errB_ok (c.fact 15)).2
  m_BadWorld := glo_ok X G (c.fact 19)
  E_BadWorld := ⟨(errB_ok (c.fact 20)).1, eqO_ok (c.fact 21)⟩
  iC_BadWorld := eqO_ok (c.fact 22)
  tI_BadWorld := of_decide_eq_true (c.fact 23)
  FI_BadWorld := c.def_ 13 (st := s_BadWorld_init)
  M_BadWorld := (errB_ok (c.fact 20)).2
  m_BadBlur := glo_ok X G (c.fact 24)
  E_BadBlur := ⟨(errB_ok (c.fact 25)).1, eqO_ok (c.fact 26)⟩
  iC_BadBlur := eqO_ok (c.fact 27)
  tI_BadBlur := of_decide_eq_true (c.fact 28)
  FI_BadBlur := c.def_ 14 (st := s_BadBlur_init)
  M_BadBlur := (errB_ok (c.fact 25)).2
  m_BadWatch := glo_ok X G (c.fact 29)
  E_BadWatch := ⟨(errB_ok (c.fact 30)).1, eqO_ok (c.fact 31)⟩
  iC_BadWatch := eqO_ok (c.fact 32)
  tI_BadWatch := of_decide_eq_true (c.fact 33)
  FI_BadWatch := c.def_ 15 (st := s_BadWatch_init)
  M_BadWatch := (errB_ok (c.fact 30)).2
  m_BadTask := glo_ok X G (c.fact 34)
  E_BadTask := ⟨(errB_ok (c.fact 35)).1, eqO_ok (c.fact 36)⟩
  iC_BadTask := eqO_ok (c.fact 37)
  tI_BadTask := of_decide_eq_true (c.fact 38)
  FI_BadTask := c.def_ 16 (st := s_BadTask_init)
  M_BadTask := (errB_ok (c.fact 35)).2
  m_BadStanding := glo_ok X G (c.fact 39)
  E_BadStanding := ⟨(errB_ok (c.fact 40)).1, eqO_ok (c.fact 41)⟩
  iC_BadStanding := eqO_ok (c.fact 42)
  tI_BadStanding := of_decide_eq_true (c.fact 43)
  FI_BadStanding := c.def_ 17 (st := s_BadStanding_init)
  M_BadStanding := (errB_ok (c.fact 40)).2
  m_BadTable := glo_ok X G (c.fact 44)
  E_BadTable := ⟨(errB_ok (c.fact 45)).1, eqO_ok (c.fact 46)⟩
  iC_BadTable := eqO_ok (c.fact 47)
  tI_BadTable := of_decide_eq_true (c.fact 48)
  FI_BadTable := c.def_ 18 (st := s_BadTable_init)
  M_BadTable := (errB_ok (c.fact 45)).2
  m_BadPlay := glo_ok X G (c.fact 49)
  E_BadPlay := ⟨(errB_ok (c.fact 50)).1, eqO_ok (c.fact 51)⟩
  iC_BadPlay := eqO_ok (c.fact 52)
  tI_BadPlay := of_decide_eq_true (c.fact 53)
  FI_BadPlay := c.def_ 19 (st := s_BadPlay_init)
  M_BadPlay := (errB_ok (c.fact 50)).2
  m_BadView := glo_ok X G (c.fact 54)
  E_BadView := ⟨(errB_ok (c.fact 55)).1, eqO_ok (c.fact 56)⟩
  iC_BadView := eqO_ok (c.fact 57)
  tI_BadView := of_decide_eq_true (c.fact 58)
  FI_BadView := c.def_ 20 (st := s_BadView_init)
  M_BadView := (errB_ok (c.fact 55)).2
  m_BadLog := glo_ok X G (c.fact 59)
  E_BadLog := ⟨(errB_ok (c.fact 60)).1, eqO_ok (c.fact 61)⟩
  iC_BadLog := eqO_ok (c.fact 62)
  tI_BadLog := of_decide_eq_true (c.fact 63)
  FI_BadLog := c.def_ 21 (st := s_BadLog_init)
  M_BadLog := (errB_ok (c.fact 60)).2
  m_BadTree := glo_ok X G (c.fact 64)
  E_BadTree := ⟨(errB_ok (c.fact 65)).1, eqO_ok (c.fact 66)⟩
  iC_BadTree := eqO_ok (c.fact 67)
  tI_BadTree := of_decide_eq_true (c.fact 68)
  FI_BadTree := c.def_ 22 (st := s_BadTree_init)
  M_BadTree := (errB_ok (c.fact 65)).2
  m_BadRow := glo_ok X G (c.fact 69)
  E_BadRow := ⟨(errB_ok (c.fact 70)).1, eqO_ok (c.fact 71)⟩
  iC_BadRow := eqO_ok (c.fact 72)
  tI_BadRow := of_decide_eq_true (c.fact 73)
  FI_BadRow := c.def_ 23 (st := s_BadRow_init)
  M_BadRow := (errB_ok (c.fact 70)).2
  m_BadGroups := glo_ok X G (c.fact 74)
  E_BadGroups := ⟨(errB_ok (c.fact 75)).1, eqO_ok (c.fact 76)⟩
  iC_BadGroups := eqO_ok (c.fact 77)
  tI_BadGroups := of_decide_eq_true (c.fact 78)
  FI_BadGroups := c.def_ 24 (st := s_BadGroups_init)
  M_BadGroups := (errB_ok (c.fact 75)).2
  m_BadWait := glo_ok X G (c.fact 79)
  E_BadWait := ⟨(errB_ok (c.fact 80)).1, eqO_ok (c.fact 81)⟩
  iC_BadWait := eqO_ok (c.fact 82)
  tI_BadWait := of_decide_eq_true (c.fact 83)
  FI_BadWait := c.def_ 25 (st := s_BadWait_init)
  M_BadWait := (errB_ok (c.fact 80)).2
  m_BadSmudges := glo_ok X G (c.fact 84)
  E_BadSmudges := ⟨(errB_ok (c.fact 85)).1, eqO_ok (c.fact 86)⟩
  iC_BadSmudges := eqO_ok (c.fact 87)
  tI_BadSmudges := of_decide_eq_true (c.fact 88)
  FI_BadSmudges := c.def_ 26 (st := s_BadSmudges_init)
  M_BadSmudges := (errB_ok (c.fact 85)).2
  m_BadRoster := glo_ok X G (c.fact 89)
  E_BadRoster := ⟨(errB_ok (c.fact 90)).1, eqO_ok (c.fact 91)⟩
  iC_BadRoster := eqO_ok (c.fact 92)
  tI_BadRoster := of_decide_eq_true (c.fact 93)
  FI_BadRoster := c.def_ 27 (st := s_BadRoster_init)
  M_BadRoster := (errB_ok (c.fact 90)).2
  m_BadFog := glo_ok X G (c.fact 94)
  E_BadFog := ⟨(errB_ok (c.fact 95)).1, eqO_ok (c.fact 96)⟩
  iC_BadFog := eqO_ok (c.fact 97)
  tI_BadFog := of_decide_eq_true (c.fact 98)
  FI_BadFog := c.def_ 28 (st := s_BadFog_init)
  M_BadFog := (errB_ok (c.fact 95)).2
  m_BadFront := glo_ok X G (c.fact 99)
  E_BadFront := ⟨(errB_ok (c.fact 100)).1, eqO_ok (c.fact 101)⟩
  iC_BadFront := eqO_ok (c.fact 102)
  tI_BadFront := of_decide_eq_true (c.fact 103)
  FI_BadFront := c.def_ 29 (st := s_BadFront_init)
  M_BadFront := (errB_ok (c.fact 100)).2
  m_BadHall := glo_ok X G (c.fact 104)
  E_BadHall := ⟨(errB_ok (c.fact 105)).1, eqO_ok (c.fact 106)⟩
  iC_BadHall := eqO_ok (c.fact 107)
  tI_BadHall := of_decide_eq_true (c.fact 108)
  FI_BadHall := c.def_ 30 (st := s_BadHall_init)
  M_BadHall := (errB_ok (c.fact 105)).2
  m_BadStory := glo_ok X G (c.fact 109)
  E_BadStory := ⟨(errB_ok (c.fact 110)).1, eqO_ok (c.fact 111)⟩
  iC_BadStory := eqO_ok (c.fact 112)
  tI_BadStory := of_decide_eq_true (c.fact 113)
  FI_BadStory := c.def_ 31 (st := s_BadStory_init)
  M_BadStory := (errB_ok (c.fact 110)).2
  m_BadNumbers := glo_ok X G (c.fact 114)
  E_BadNumbers := ⟨(errB_ok (c.fact 115)).1, eqO_ok (c.fact 116)⟩
  iC_BadNumbers := eqO_ok (c.fact 117)
  tI_BadNumbers := of_decide_eq_true (c.fact 118)
  FI_BadNumbers := c.def_ 32 (st := s_BadNumbers_init)
  M_BadNumbers := (errB_ok (c.fact 115)).2
  m_BadPaper := glo_ok X G (c.fact 119)
  E_BadPaper := ⟨(errB_ok (c.fact 120)).1, eqO_ok (c.fact 121)⟩
  iC_BadPaper := eqO_ok (c.fact 122)
  tI_BadPaper := of_decide_eq_true (c.fact 123)
  FI_BadPaper := c.def_ 33 (st := s_BadPaper_init)
  M_BadPaper := (errB_ok (c.fact 120)).2
  m_NoState := glo_ok X G (c.fact 124)
  E_NoState := ⟨(errB_ok (c.fact 125)).1, eqO_ok (c.fact 126)⟩
  iC_NoState := eqO_ok (c.fact 127)
  M_NoState := (errB_ok (c.fact 125)).2
  m_NoLabel := glo_ok X G (c.fact 128)
  E_NoLabel := ⟨(errB_ok (c.fact 129)).1, eqO_ok (c.fact 130)⟩
  iC_NoLabel := eqO_ok (c.fact 131)
  M_NoLabel := (errB_ok (c.fact 129)).2
  m_NoDeed := glo_ok X G (c.fact 132)
  E_NoDeed := ⟨(errB_ok (c.fact 133)).1, eqO_ok (c.fact 134)⟩
  iC_NoDeed := eqO_ok (c.fact 135)
  M_NoDeed := (errB_ok (c.fact 133)).2
  m_NoSight := glo_ok X G (c.fact 136)
  E_NoSight := ⟨(errB_ok (c.fact 137)).1, eqO_ok (c.fact 138)⟩
  iC_NoSight := eqO_ok (c.fact 139)
  M_NoSight := (errB_ok (c.fact 137)).2
  m_NoWatchState := glo_ok X G (c.fact 140)
  E_NoWatchState := ⟨(errB_ok (c.fact 141)).1, eqO_ok (c.fact 142)⟩
  iC_NoWatchState := eqO_ok (c.fact 143)
  M_NoWatchState := (errB_ok (c.fact 141)).2
  m_NoName := glo_ok X G (c.fact 144)
  E_NoName := ⟨(errB_ok (c.fact 145)).1, eqO_ok (c.fact 146)⟩
  iC_NoName := eqO_ok (c.fact 147)
  M_NoName := (errB_ok (c.fact 145)).2
  m_Twice := glo_ok X G (c.fact 148)
  E_Twice := ⟨(errB_ok (c.fact 149)).1, eqO_ok (c.fact 150)⟩
  iC_Twice := eqO_ok (c.fact 151)
  tI_Twice := of_decide_eq_true (c.fact 152)
  FI_Twice := c.def_ 34 (st := s_Twice_init)
  M_Twice := (errB_ok (c.fact 149)).2
  m_NoTable := glo_ok X G (c.fact 153)
  E_NoTable := ⟨(errB_ok (c.fact 154)).1, eqO_ok (c.fact 155)⟩
  iC_NoTable := eqO_ok (c.fact 156)
  tI_NoTable := of_decide_eq_true (c.fact 157)
  FI_NoTable := c.def_ 35 (st := s_NoTable_init)
  M_NoTable := (errB_ok (c.fact 154)).2
  m_NotKept := glo_ok X G (c.fact 158)
  E_NotKept := ⟨(errB_ok (c.fact 159)).1, eqO_ok (c.fact 160)⟩
  iC_NotKept := eqO_ok (c.fact 161)
  tI_NotKept := of_decide_eq_true (c.fact 162)
  FI_NotKept := c.def_ 36 (st := s_NotKept_init)
  M_NotKept := (errB_ok (c.fact 159)).2
  m_Unlike := glo_ok X G (c.fact 163)
  E_Unlike := ⟨(errB_ok (c.fact 164)).1, eqO_ok (c.fact 165)⟩
  iC_Unlike := eqO_ok (c.fact 166)
  tI_Unlike := of_decide_eq_true (c.fact 167)
  FI_Unlike := c.def_ 37 (st := s_Unlike_init)
  M_Unlike := (errB_ok (c.fact 164)).2
  m_NotNow := glo_ok X G (c.fact 168)
  E_NotNow := ⟨(errB_ok (c.fact 169)).1, eqO_ok (c.fact 170)⟩
  iC_NotNow := eqO_ok (c.fact 171)
  tI_NotNow := of_decide_eq_true (c.fact 172)
  FI_NotNow := c.def_ 38 (st := s_NotNow_init)
  M_NotNow := (errB_ok (c.fact 169)).2
  m_NoWay := glo_ok X G (c.fact 173)
  E_NoWay := ⟨(errB_ok (c.fact 174)).1, eqO_ok (c.fact 175)⟩
  iC_NoWay := eqO_ok (c.fact 176)
  tI_NoWay := of_decide_eq_true (c.fact 177)
  FI_NoWay := c.def_ 39 (st := s_NoWay_init)
  M_NoWay := (errB_ok (c.fact 174)).2
  m_NoEntry := glo_ok X G (c.fact 178)
  E_NoEntry := ⟨(errB_ok (c.fact 179)).1, eqO_ok (c.fact 180), eqO_ok (c.fact 181)⟩
  iC_NoEntry := eqO_ok (c.fact 182)
  tI_NoEntry := of_decide_eq_true (c.fact 183)
  FI_NoEntry := c.def_ 40 (st := s_NoEntry_init)
  M_NoEntry := (errB_ok (c.fact 179)).2
  m_Breaks := glo_ok X G (c.fact 184)
  E_Breaks := ⟨(errB_ok (c.fact 185)).1, eqO_ok (c.fact 186), eqO_ok (c.fact 187)⟩
  iC_Breaks := eqO_ok (c.fact 188)
  tI_Breaks := of_decide_eq_true (c.fact 189)
  FI_Breaks := c.def_ 41 (st := s_Breaks_init)
  M_Breaks := (errB_ok (c.fact 185)).2
  m_TooMany := glo_ok X G (c.fact 190)
  E_TooMany := ⟨(errB_ok (c.fact 191)).1, eqO_ok (c.fact 192), eqO_ok (c.fact 193)⟩
  iC_TooMany := eqO_ok (c.fact 194)
  tI_TooMany := of_decide_eq_true (c.fact 195)
  FI_TooMany := c.def_ 42 (st := s_TooMany_init)
  M_TooMany := (errB_ok (c.fact 191)).2
  m_BadText := glo_ok X G (c.fact 196)
  E_BadText := ⟨(errB_ok (c.fact 197)).1, eqO_ok (c.fact 198), eqO_ok (c.fact 199)⟩
  iC_BadText := eqO_ok (c.fact 200)
  tI_BadText := of_decide_eq_true (c.fact 201)
  FI_BadText := c.def_ 43 (st := s_BadText_init)
  M_BadText := (errB_ok (c.fact 197)).2
  m_BadLine := glo_ok X G (c.fact 202)
  E_BadLine := ⟨(errB_ok (c.fact 203)).1, eqO_ok (c.fact 204), eqO_ok (c.fact 205)⟩
  iC_BadLine := eqO_ok (c.fact 206)
  tI_BadLine := of_decide_eq_true (c.fact 207)
  FI_BadLine := c.def_ 44 (st := s_BadLine_init)
  M_BadLine := (errB_ok (c.fact 203)).2
  m_Ended := glo_ok X G (c.fact 208)
  E_Ended := (errB_ok (c.fact 209)).1
  X_Ended := (c.fact 210)
  M_Ended := (errB_ok (c.fact 209)).2
  m_Nothing := glo_ok X G (c.fact 211)
  E_Nothing := (errB_ok (c.fact 212)).1
  X_Nothing := (c.fact 213)
  M_Nothing := (errB_ok (c.fact 212)).2
  nd := of_decide_eq_true (c.fact 214)
  n_len := free_ok X G (c.fact 215)
  n_int := free_ok X G (c.fact 216)
  n_abs := free_ok X G (c.fact 217)
  n_isinstance := free_ok X G (c.fact 218)
  n_range := free_ok X G (c.fact 219)
  n_enumerate := free_ok X G (c.fact 220)
  n_repr := free_ok X G (c.fact 221)
  n_ValueError := free_ok X G (c.fact 222)
  n_LookupError := free_ok X G (c.fact 223)
  n_TypeError := free_ok X G (c.fact 224)
  n_ArithmeticError := free_ok X G (c.fact 225)
  n_RuntimeError := free_ok X G (c.fact 226)
  n_AttributeError := free_ok X G (c.fact 227)
def loose0 : List PySem.Str := ["DimError", "BadWorld", "BadBlur", "BadWatch", "BadTask", "BadStanding", "BadTable", "BadPlay", "BadView", "BadLog", "BadTree", "BadRow", "BadGroups", "BadWait", "BadSmudges", "BadRoster", "BadFog", "BadFront", "BadHall", "BadStory", "BadNumbers", "BadPaper", "Missing", "NoState", "NoLabel", "NoDeed", "NoSight", "NoWatchState", "NoName", "NoEntry"]
def loose1 : List PySem.Str := ["NoTable", "NotKept", "Twice", "Unlike", "Breaks", "NotNow", "NoWay", "Ended", "Nothing", "TooMany", "BadText", "BadLine", "_law_spring", "_law_cup", "_law_one_of", "_law_parts", "_law_parts_turned", "_law_others", "_law_others_named", "_law_fields", "_law_kin", "_law_stands_right", "_law_all_right"]
def loose : List PySem.Str := loose0 ++ loose1
abbrev lawAt : Nat := 55
abbrev R : PySem.W.OpenRow := PySem.W.OpenLaw.row PySem.Challenge.rw_dimkeeper_k00_errors_keep_their_fields
abbrev hk : PySem.W.Hook := hookM 5 chk fns
def ob (s : PySem.W.SharedT) : Al := obsMG 5 chk fns (HandSHeadRun.getT s)
theorem ob_eq (s : PySem.W.SharedT) : ob s = hk.obs s.abs := obsMG_eq (HandSHeadRun.getT_eq s)
theorem run (w : World) : HandSHeadRun.RunEq R (PySem.W.view R.prog [lawAt]) hk ob 12000 loose w := by
  intro os
  kernel_rfl
end K00

namespace K00
open PySem PySem.Spec PyProof.Rows L2 MyL
section
variable {P : Program} {w : World} {K : PySem.W.Frag} {mg : Str → Option Value} {base : Heap} {A : Adr}
local macro_rules | `(tactic| walk_at "sames") => `(tactic| repeat (first
  | exact Same.refl _
  | refine Same.new ?_ (by assumption)
  | refine Same.trans ?_ (by assumption)))
local macro_rules | `(tactic| walk_at "ne") => `(tactic| first
  | assumption
  | exact Ne.symm (by assumption)
  | exact ne_new (by assumption) (by walk_at "look")
  | exact ne_new' (by assumption) (by walk_at "look")
  | exact ne_of (by walk_at "look") (by walk_at "look") (by intro z; cases z))
local macro_rules | `(tactic| walk_at "look") => `(tactic| first
  | assumption
  | exact upd_same
  | (refine upd_new (by assumption) ?_
     walk_at "look")
  | (refine (upd_ne ?_).trans ?_
     · walk_at "ne"
     · walk_at "look")
  | (refine Kp.get (by assumption) ?_ ?_
     · walk_at "ne"
     · walk_at "look")
  | (refine Same.get (by assumption) ?_
     walk_at "look"))
local macro_rules | `(tactic| walk_at "lenv") => `(tactic| first
  | exact Or.inl ⟨_, SqL.of (by walk_at "look"), rfl⟩
  | exact Or.inr ⟨_, SqT.of (by walk_at "look"), rfl⟩
  | exact ⟨line_le (by omega), rfl⟩)
local macro_rules | `(tactic| walk_at "cond") => `(tactic| first
  | assumption
  | rfl
  | exact Nat.zero_le _
  | exact Nat.le_of_ble_eq_true rfl
  | decide
  | omega
  | exact line_lt (by (try simp only [List.length_map, List.length_append, List.length_cons, List.length_nil]); omega)
  | exact line_le (by (try simp only [List.length_map, List.length_append, List.length_cons, List.length_nil]); omega)
  | (dsimp only; omega)
  | exact ⟨by decide, by decide⟩
  | exact ⟨by decide, by decide, by decide⟩
  | exact Or.inl ⟨by decide, by decide⟩
  | exact Or.inl ⟨by omega, by omega⟩
  | exact Or.inr ⟨by omega, by omega⟩)
local macro_rules | `(tactic| walk_at "kit") => `(tactic| first | assumption | exact kit_NoneType_int | exact kit_NoneType_bool | exact kit_NoneType_str | exact kit_NoneType_list | exact kit_NoneType_tuple | exact kit_NoneType_dict | exact kit_bool_int | exact kit_bool_bool | exact kit_bool_str | exact kit_bool_list | exact kit_bool_tuple | exact kit_bool_dict | exact kit_int_int | exact kit_int_bool | exact kit_int_str | exact kit_int_list | exact kit_int_tuple | exact kit_int_dict | exact kit_str_int | exact kit_str_bool | exact kit_str_str | exact kit_str_list | exact kit_str_tuple | exact kit_str_dict | exact kit_list_int | exact kit_list_bool | exact kit_list_str | exact kit_list_list | exact kit_list_tuple | exact kit_list_dict | exact kit_tuple_int | exact kit_tuple_bool | exact kit_tuple_str | exact kit_tuple_list | exact kit_tuple_tuple | exact kit_tuple_dict | exact kit_dict_int | exact kit_dict_bool | exact kit_dict_str | exact kit_dict_list | exact kit_dict_tuple | exact kit_dict_dict)
local macro_rules | `(tactic| walk_at "ty") => `(tactic| first | assumption | exact tyx_str | exact tyx_int | exact tyx_bl | exact tyx_non | exact tyx_lst (by walk_at "look") | exact tyx_tup (by walk_at "look") | exact tyx_dK (by walk_at "look"))
local macro_rules | `(tactic| walk_at "s") => `(tactic| first
  | refine ⟨_, rfl, ?_⟩
  | refine ⟨_, _, rfl, rfl, ?_⟩
  | refine ⟨_, _, _, _, rfl, rfl, SqL.of (by walk_at "look"), by rfl, ?_⟩
  | refine ⟨_, _, _, _, rfl, rfl, SqT.of (by walk_at "look"), by rfl, ?_⟩
  | refine ⟨_, _, _, _, rfl, rfl, by walk_at "look", by rfl, ?_⟩
  | refine ⟨_, _, rfl, by walk_at "lenv", ?_⟩
  | refine Or.inl ⟨_, rfl, ?_⟩
  | refine ⟨_, _, _, _, _, rfl, ClsV.ty _, by walk_at "ty", by walk_at "kit", ?_⟩
  | refine And.intro (by walk_at "cond") ?_
  | refine ⟨_, _, rfl, SqT.of (by walk_at "look"), rfl, ?_⟩
  | refine ⟨_, _, rfl, SqL.of (by walk_at "look"), rfl, ?_⟩
  | refine And.intro (Or.inl ⟨rfl, _, SqL.of (by walk_at "look")⟩) ?_
  | refine ⟨_, _, _, rfl, rfl, by walk_at "look", by walk_at "cond", ?_⟩
  | refine ⟨_, _, _, _, rfl, rfl, by walk_at "look", by walk_at "look", by walk_at "cond", ?_⟩
  | refine And.intro ⟨_, rfl⟩ ?_
  | refine And.intro ⟨_, SqL.of (by walk_at "look")⟩ ?_
  | refine ⟨_, _, rfl, SqL.of (by walk_at "look"), ?_⟩
  | refine ⟨_, _, rfl, (by assumption : SqL _ _ _ _), ?_⟩
  | refine ⟨_, by walk_at "look", by walk_at "cond", ?_⟩
  | refine ⟨_, _, rfl, Or.inr (SqT.of (by walk_at "look")), ?_⟩
  | refine ⟨_, _, rfl, Or.inl (SqL.of (by walk_at "look")), ?_⟩
  | refine ⟨_, _, rfl, ?_⟩
  | refine ⟨_, _, _, rfl, by walk_at "look", by assumption, ?_⟩
  | refine ⟨_, _, true, _, _, rfl, rfl, ClsV.own _, kit_own (by assumption) (by assumption), rfl, by walk_at "look", ?_⟩
  | refine ⟨_, _, _, _, rfl, ErAt.same (by assumption) (by walk_at "sames"), by assumption, by assumption, ?_⟩
  | refine ⟨_, _, _, _, rfl, ErAt.same (by assumption) (by walk_at "sames"), by assumption, by assumption, by assumption, ?_⟩
  | refine if_t (by first | rfl | assumption | decide) ?_
  | refine if_f (by assumption) ?_
  | refine if_f (by first | decide | exact Bool.false_ne_true) ?_
  | refine fun (_ : _ ≠ sysModules) => ?_
  | refine fun (_ : ErAt _ _ _ _) => ?_
  | refine fun _ _ => ?_)

theorem ok_l_cup (T : Txt K mg A) : FnG P w K mg base CX0 1 A.l_cup spDip := by
  obtain ⟨fd, F⟩ := T.F_l_cup
  refine Fun_okN F sc_l_cup (fun vs H Q E h => ?_) (fun _ _ _ _ _ _ us hl => match us, hl with | [_, _], _ => rfl) (fun cdv A' outer s H vs Q E hr hg h => ?_)
  · obtain ⟨_, _, _, rfl, _⟩ := h
    rfl
  obtain ⟨⟨a, c, cs⟩, many, n, rfl, ⟨b, r, ha, hc, hne, hlen, hb0, hbn⟩, hn, hm0, hm1, q⟩ := h
  dsimp only at ha hc hne hlen q ⊢
  refine ⟨_, ((pss_cons (ps_if (pt_cmpR op_gt (pe_ix ix_list (pv 0) pe_int (fun _ _ => rfl)) pe_int (nomark _)) (pss_cons (ps_set (i := 2) sc_l_cup.nd rfl (Or.inl rfl) (pe_ix ix_list (pv 0) pe_int (fun _ _ => rfl)))
    (pss_cons (ps_asg (pe_op op_fdivW (pe_callTy call_int1 (by rfl) T.n_int (by decide +kernel) (pa_cons (pv 2) pa_nil)) (pv 1)) (pg_sub (pv 0) pe_int set_list))
    (pss_one (ps_ret (pe_op op_mod (pe_callTy call_int1 (by rfl) T.n_int (by decide +kernel) (pa_cons (pv 2) pa_nil)) (pv 1)))))) pss_nil)
    (pss_cons (ps_set (i := 3) sc_l_cup.nd rfl (Or.inl rfl) (pe_ix ix_list (pv 0) pe_int (fun _ _ => rfl)))
    (pss_cons (ps_asg (pe_op op_add (pv 3) pe_int) (pg_sub (pv 0) pe_int set_list))
    (pss_cons (ps_set (i := 4) sc_l_cup.nd rfl (Or.inl rfl) (pe_op op_add (pe_op op_mul pe_int (pv 3)) pe_int))
    (pss_cons (ps_if (pt_cmpR (op_neD hr.units) (pe_ix ix_list (pv 0) pe_int (fun _ _ => rfl)) (pe_lst pa_nil) (nomark _)) (pss_one (ps_set (i := 4) sc_l_cup.nd rfl (Or.inl rfl) (pe_ix ix_list (pe_ix ix_list (pv 0) pe_int (fun _ _ => rfl)) (pe_op op_mod (pe_callTy call_int1 (by rfl) T.n_int (by decide +kernel) (pa_cons (pv 3) pa_nil)) (pe_callB call_len (by rfl) T.n_len (by decide +kernel) (pa_cons (pe_ix ix_list (pv 0) pe_int (fun _ _ => rfl)) pa_nil))) (fun _ _ => rfl)))) pss_nil)
    (pss_cons (ps_if (PW.pt (pw_and (pt_cmpR op_lt (pv 3) (pe_callB call_len (by rfl) T.n_len (by decide +kernel) (pa_cons (pe_ix ix_list (pv 0) pe_int (fun _ _ => rfl)) pa_nil)) (nomark _)) (pw_and1 (pt_cmpR op_ge (pe_callB call_abs (by rfl) T.n_abs (by decide +kernel) (pa_cons (pv 4) pa_nil)) (pe_op op_pow pe_int pe_int) (nomark _))))) (pss_cons (ps_set (i := 2) sc_l_cup.nd rfl (Or.inl rfl) (pe_op op_sub (pe_callB call_abs (by rfl) T.n_abs (by decide +kernel) (pa_cons (pv 4) pa_nil)) (pe_op op_pow pe_int pe_int)))
    (pss_cons (ps_asg (pe_op op_fdivW (pe_callTy call_int1 (by rfl) T.n_int (by decide +kernel) (pa_cons (pv 2) pa_nil)) (pv 1)) (pg_sub (pv 0) pe_int set_list))
    (pss_one (ps_ret (pe_op op_mod (pe_callTy call_int1 (by rfl) T.n_int (by decide +kernel) (pa_cons (pv 2) pa_nil)) (pv 1)))))) pss_nil)
    (pss_cons (ps_set (i := 5) sc_l_cup.nd rfl (Or.inl rfl) (pe_op op_mod (pe_callTy call_int1 (by rfl) T.n_int (by decide +kernel) (pa_cons (pe_op op_pow (pe_op op_add (pe_op op_add (pe_op op_mod (pe_callTy call_int1 (by rfl) T.n_int (by decide +kernel) (pa_cons (pv 4) pa_nil)) pe_int) (pe_op op_mul pe_int (pv 3))) pe_int) pe_int) pa_nil)) pe_int))
    (pss_cons (ps_set (i := 5) sc_l_cup.nd rfl (Or.inl rfl) (pe_op op_mod (pe_callTy call_int1 (by rfl) T.n_int (by decide +kernel) (pa_cons (pe_op op_pow (pe_op op_add (pe_op op_add (pe_op op_mul (pv 5) (pe_op op_add (pe_op op_mul pe_int (pv 3)) pe_int)) (pe_op op_mul (pe_op op_mul pe_int (pv 3)) (pv 3))) pe_int) pe_int) pa_nil)) pe_int))
    (pss_one (ps_ret (pe_op op_mod (pe_callTy call_int1 (by rfl) T.n_int (by decide +kernel) (pa_cons (pe_op op_fdivW (pv 5) pe_int) pa_nil)) (pv 1))))))))))))), ?_⟩
  have hw : CDivW r many := wide_div hm0 hm1 (by decide) (by decide)
  repeat walk_at "s"
  refine ite2 (fun c1 => ?_) (fun c1 => ?_)
  · repeat walk_at "s"
    exact q _ _ (Int.emod_nonneg _ (by omega)) (Int.emod_lt_of_pos _ hm0) ⟨b, _, upd_same, by walk_at "look", hne, hlen, hb0, by omega⟩ (Kp.refl _ _).put
  · repeat walk_at "s"
    refine ⟨.list (cs.map PyData.int), .list [], .lst (SqL.of (by walk_at "look")) (dpAll_ints cs), .lst (SqL.of upd_same) .nil, shaped_ints cs, shaped_nil, ?_⟩
    rw [eqv_nil]
    repeat walk_at "s"
    refine ite2 (fun c2 => ?_) (fun c2 => ?_)
    · have hp : 0 < (cs.map V.int).length := by
        rw [List.length_map]
        cases cs with
        | nil => simp at c2
        | cons _ _ => exact Nat.succ_pos _
      have hp' : (0 : Int) < ((cs.map V.int).length : Int) := by omega
      obtain ⟨j, x, hj, hx⟩ := at_mod_ints (cs := cs) b (by simpa using hp)
      repeat walk_at "s"
      refine ⟨_, _, _, _, rfl, rfl, SqL.of (by walk_at "look"), hx, ?_⟩
      have hp5 : CPow (x % 2147483543 + 40927 * b + 911) 5 := ⟨by decide, by decide, draw_one (by omega) (by omega) hb0 (by omega) (by decide) (by decide) (by decide) (by decide)⟩
      have hp3 : CPow ((x % 2147483543 + 40927 * b + 911) ^ (5 : Int).toNat % 2147483647 * (2 * b + 1301) + 30203 * b * b + 911) 3 := ⟨by decide, by decide, draw_two (by omega) (by omega) hb0 (by omega) (by decide) (by decide) (by decide) (by decide)⟩
      repeat walk_at "s"
      refine ite2 (fun c3 => ?_) (fun c3 => ?_)
      · repeat walk_at "s"
        refine ite2 (fun c4 => ?_) (fun c4 => ?_)
        · have hw2 : CDivW ((if x < 0 then -x else x) - 10 ^ (18 : Int).toNat) many := wide_div hm0 hm1 (by decide) (by decide)
          repeat walk_at "s"
          exact q _ _ (Int.emod_nonneg _ (by omega)) (Int.emod_lt_of_pos _ hm0) ⟨b + 1, _, upd_same, by walk_at "look", hne, hlen, by omega, by omega⟩ (((Kp.refl _ _).put.new (by assumption)).put)
        · repeat walk_at "s"
          exact q _ _ (Int.emod_nonneg _ (by omega)) (Int.emod_lt_of_pos _ hm0) ⟨b + 1, _, by walk_at "look", by walk_at "look", hne, hlen, by omega, by omega⟩ ((Kp.refl _ _).put.new (by assumption))
      · repeat walk_at "s"
        exact q _ _ (Int.emod_nonneg _ (by omega)) (Int.emod_lt_of_pos _ hm0) ⟨b + 1, _, by walk_at "look", by walk_at "look", hne, hlen, by omega, by omega⟩ ((Kp.refl _ _).put.new (by assumption))
    · have hp0 : (cs.map V.int).length = 0 := by
        cases cs with
        | nil => rfl
        | cons _ _ => simp at c2
      repeat walk_at "s"
      refine ite2 (fun c3 => ?_) (fun c3 => ?_)
      · exfalso
        have := of_decide_eq_true c3
        omega
      · have hp5 : CPow ((30203 * b + 911) % 2147483543 + 40927 * b + 911) 5 := ⟨by decide, by decide, draw_one (by omega) (by omega) hb0 (by omega) (by decide) (by decide) (by decide) (by decide)⟩
        have hp3 : CPow (((30203 * b + 911) % 2147483543 + 40927 * b + 911) ^ (5 : Int).toNat % 2147483647 * (2 * b + 1301) + 30203 * b * b + 911) 3 := ⟨by decide, by decide, draw_two (by omega) (by omega) hb0 (by omega) (by decide) (by decide) (by decide) (by decide)⟩
        repeat walk_at "s"
        exact q _ _ (Int.emod_nonneg _ (by omega)) (Int.emod_lt_of_pos _ hm0) ⟨b + 1, _, by walk_at "look", by walk_at "look", hne, hlen, by omega, by omega⟩ ((Kp.refl _ _).put.new (by assumption))
end
end K00

namespace K00
open PySem PySem.Spec PyProof.Rows L2 MyL
section
variable {P : Program} {w : World} {K : PySem.W.Frag} {mg : Str → Option Value} {base : Heap} {A : Adr}
local macro_rules | `(tactic| walk_at "sames") => `(tactic| repeat (first
  | exact Same.refl _
  | refine Same.new ?_ (by assumption)
  | refine Same.trans ?_ (by assumption)))
local macro_rules | `(tactic| walk_at "ne") => `(tactic| first
  | assumption
  | exact Ne.symm (by assumption)
  | exact ne_new (by assumption) (by walk_at "look")
  | exact ne_new' (by assumption) (by walk_at "look")
  | exact ne_of (by walk_at "look") (by walk_at "look") (by intro z; cases z))
local macro_rules | `(tactic| walk_at "look") => `(tactic| first
  | assumption
  | exact upd_same
  | (refine upd_new (by assumption) ?_
     walk_at "look")
  | (refine (upd_ne ?_).trans ?_
     · walk_at "ne"
     · walk_at "look")
  | (refine Kp.get (by assumption) ?_ ?_
     · walk_at "ne"
     · walk_at "look")
  | (refine Same.get (by assumption) ?_
     walk_at "look"))
local macro_rules | `(tactic| walk_at "lenv") => `(tactic| first
  | exact Or.inl ⟨_, SqL.of (by walk_at "look"), rfl⟩
  | exact Or.inr ⟨_, SqT.of (by walk_at "look"), rfl⟩
  | exact ⟨line_le (by omega), rfl⟩)
local macro_rules | `(tactic| walk_at "cond") => `(tactic| first
  | assumption
  | rfl
  | exact Nat.zero_le _
  | exact Nat.le_of_ble_eq_true rfl
  | decide
  | omega
  | exact line_lt (by (try simp only [List.length_map, List.length_append, List.length_cons, List.length_nil]); omega)
  | exact line_le (by (try simp only [List.length_map, List.length_append, List.length_cons, List.length_nil]); omega)
  | (dsimp only; omega)
  | exact ⟨by decide, by decide⟩
  | exact ⟨by decide, by decide, by decide⟩
  | exact Or.inl ⟨by decide, by decide⟩
  | exact Or.inl ⟨by omega, by omega⟩
  | exact Or.inr ⟨by omega, by omega⟩)
local macro_rules | `(tactic| walk_at "kit") => `(tactic| first | assumption | exact kit_NoneType_int | exact kit_NoneType_bool | exact kit_NoneType_str | exact kit_NoneType_list | exact kit_NoneType_tuple | exact kit_NoneType_dict | exact kit_bool_int | exact kit_bool_bool | exact kit_bool_str | exact kit_bool_list | exact kit_bool_tuple | exact kit_bool_dict | exact kit_int_int | exact kit_int_bool | exact kit_int_str | exact kit_int_list | exact kit_int_tuple | exact kit_int_dict | exact kit_str_int | exact kit_str_bool | exact kit_str_str | exact kit_str_list | exact kit_str_tuple | exact kit_str_dict | exact kit_list_int | exact kit_list_bool | exact kit_list_str | exact kit_list_list | exact kit_list_tuple | exact kit_list_dict | exact kit_tuple_int | exact kit_tuple_bool | exact kit_tuple_str | exact kit_tuple_list | exact kit_tuple_tuple | exact kit_tuple_dict | exact kit_dict_int | exact kit_dict_bool | exact kit_dict_str | exact kit_dict_list | exact kit_dict_tuple | exact kit_dict_dict)
local macro_rules | `(tactic| walk_at "ty") => `(tactic| first | assumption | exact tyx_str | exact tyx_int | exact tyx_bl | exact tyx_non | exact tyx_lst (by walk_at "look") | exact tyx_tup (by walk_at "look") | exact tyx_dK (by walk_at "look"))
local macro_rules | `(tactic| walk_at "s") => `(tactic| first
  | refine ⟨_, rfl, ?_⟩
  | refine ⟨_, _, rfl, rfl, ?_⟩
  | refine ⟨_, _, _, _, rfl, rfl, SqL.of (by walk_at "look"), by rfl, ?_⟩
  | refine ⟨_, _, _, _, rfl, rfl, SqT.of (by walk_at "look"), by rfl, ?_⟩
  | refine ⟨_, _, _, _, rfl, rfl, by walk_at "look", by rfl, ?_⟩
  | refine ⟨_, _, rfl, by walk_at "lenv", ?_⟩
  | refine Or.inl ⟨_, rfl, ?_⟩
  | refine ⟨_, _, _, _, _, rfl, ClsV.ty _, by walk_at "ty", by walk_at "kit", ?_⟩
  | refine And.intro (by walk_at "cond") ?_
  | refine ⟨_, _, rfl, SqT.of (by walk_at "look"), rfl, ?_⟩
  | refine ⟨_, _, rfl, SqL.of (by walk_at "look"), rfl, ?_⟩
  | refine And.intro (Or.inl ⟨rfl, _, SqL.of (by walk_at "look")⟩) ?_
  | refine ⟨_, _, _, rfl, rfl, by walk_at "look", by walk_at "cond", ?_⟩
  | refine ⟨_, _, _, _, rfl, rfl, by walk_at "look", by walk_at "look", by walk_at "cond", ?_⟩
  | refine And.intro ⟨_, rfl⟩ ?_
  | refine And.intro ⟨_, SqL.of (by walk_at "look")⟩ ?_
  | refine ⟨_, _, rfl, SqL.of (by walk_at "look"), ?_⟩
  | refine ⟨_, _, rfl, (by assumption : SqL _ _ _ _), ?_⟩
  | refine ⟨_, by walk_at "look", by walk_at "cond", ?_⟩
  | refine ⟨_, _, rfl, Or.inr (SqT.of (by walk_at "look")), ?_⟩
  | refine ⟨_, _, rfl, Or.inl (SqL.of (by walk_at "look")), ?_⟩
  | refine ⟨_, _, rfl, ?_⟩
  | refine ⟨_, _, _, rfl, by walk_at "look", by assumption, ?_⟩
  | refine ⟨_, _, true, _, _, rfl, rfl, ClsV.own _, kit_own (by assumption) (by assumption), rfl, by walk_at "look", ?_⟩
  | refine ⟨_, _, _, _, rfl, ErAt.same (by assumption) (by walk_at "sames"), by assumption, by assumption, ?_⟩
  | refine ⟨_, _, _, _, rfl, ErAt.same (by assumption) (by walk_at "sames"), by assumption, by assumption, by assumption, ?_⟩
  | refine if_t (by first | rfl | assumption | decide) ?_
  | refine if_f (by assumption) ?_
  | refine if_f (by first | decide | exact Bool.false_ne_true) ?_
  | refine fun (_ : _ ≠ sysModules) => ?_
  | refine fun (_ : ErAt _ _ _ _) => ?_
  | refine fun _ _ => ?_)

theorem ok_l_one_of (T : Txt K mg A) : FnG P w K mg base CX0 2 A.l_one_of spPick := by
  obtain ⟨fd, F⟩ := T.F_l_one_of
  refine Fun_okN F sc_l_one_of (fun vs H Q E h => ?_) (fun _ _ _ _ _ _ us hl => match us, hl with | [_, _], _ => rfl) (fun cdv A' outer s H vs Q E hr hg h => ?_)
  · obtain ⟨_, _, _, rfl, _⟩ := h
    rfl
  obtain ⟨a, x, n, rfl, W, hn, h⟩ := h
  refine ⟨_, ((pss_one (ps_ret (pe_ix ix_seq (pv 1) (pe_callGd (ok_l_cup T) (hr.mono (by decide)) hg rfl T.m_l_cup T.k_l_cup pass0 (pa_cons (pv 0) (pa_cons (pe_callB call_len (by rfl) T.n_len (by decide +kernel) (pa_cons (pv 1) pa_nil)) pa_nil))) (fun _ _ => rfl))))), ?_⟩
  rcases h with ⟨p, xs, rfl, hpw, hp, h0, h1, q⟩ | ⟨z, rfl, h0, h1, q⟩
  · repeat walk_at "s"
    refine Iv.mk ⟨a, _, n, rfl, W, hn, by omega, natAbs_small (n := 1000) (by omega) (by omega) (by decide), fun H' r r0 r1 W1 K1 => ?_⟩
    obtain ⟨v, hv, hm⟩ := atI_of r0 r1
    exact .inl ⟨p, xs, r, v, rfl, rfl, SqL.of (K1 p _ hpw hp), hv, q H' v hm W1 K1⟩
  · repeat walk_at "s"
    refine Iv.mk ⟨a, _, n, rfl, W, hn, by omega, natAbs_small (n := 1000) (by omega) (by omega) (by decide), fun H' r r0 r1 W1 K1 => ?_⟩
    obtain ⟨v, hv, hm⟩ := atI_of (xs := z.cps.toList) r0 (by simpa [Str.length] using r1)
    exact .inr (.inr ⟨z, r, v, rfl, rfl, line_le (by omega), hv, q H' v hm W1 K1⟩)
end
end K00

namespace K00
open PySem PySem.Spec PyProof.Rows L2 MyL
def spWell (K : PySem.W.Frag) : Sp := fun vs H Q _ => ∃ (a : Addr) (ns : List Int), vs = [.ref a] ∧ SqL K H a (ns.map V.int) ∧ ns.length ≤ 63 ∧ ∀ H' p, Same H H' → H p = none → (∃ c cs, WellAt H' ⟨p, c, cs⟩ 0) → Q (.ref p) H'
section
variable {P : Program} {w : World} {K : PySem.W.Frag} {mg : Str → Option Value} {base : Heap} {A : Adr}
local macro_rules | `(tactic| walk_at "sames") => `(tactic| repeat (first
  | exact Same.refl _
  | refine Same.new ?_ (by assumption)
  | refine Same.trans ?_ (by assumption)))
local macro_rules | `(tactic| walk_at "ne") => `(tactic| first
  | assumption
  | exact Ne.symm (by assumption)
  | exact ne_new (by assumption) (by walk_at "look")
  | exact ne_new' (by assumption) (by walk_at "look")
  | exact ne_of (by walk_at "look") (by walk_at "look") (by intro z; cases z))
local macro_rules | `(tactic| walk_at "look") => `(tactic| first
  | assumption
  | exact upd_same
  | (refine upd_new (by assumption) ?_
     walk_at "look")
  | (refine (upd_ne ?_).trans ?_
     · walk_at "ne"
     · walk_at "look")
  | (refine Kp.get (by assumption) ?_ ?_
     · walk_at "ne"
     · walk_at "look")
  | (refine Same.get (by assumption) ?_
     walk_at "look"))
local macro_rules | `(tactic| walk_at "lenv") => `(tactic| first
  | exact Or.inl ⟨_, SqL.of (by walk_at "look"), rfl⟩
  | exact Or.inr ⟨_, SqT.of (by walk_at "look"), rfl⟩
  | exact ⟨line_le (by omega), rfl⟩)
local macro_rules | `(tactic| walk_at "cond") => `(tactic| first
  | assumption
  | rfl
  | exact Nat.zero_le _
  | exact Nat.le_of_ble_eq_true rfl
  | decide
  | omega
  | exact line_lt (by (try simp only [List.length_map, List.length_append, List.length_cons, List.length_nil]); omega)
  | exact line_le (by (try simp only [List.length_map, List.length_append, List.length_cons, List.length_nil]); omega)
  | (dsimp only; omega)
  | exact ⟨by decide, by decide⟩
  | exact ⟨by decide, by decide, by decide⟩
  | exact Or.inl ⟨by decide, by decide⟩
  | exact Or.inl ⟨by omega, by omega⟩
  | exact Or.inr ⟨by omega, by omega⟩)
local macro_rules | `(tactic| walk_at "kit") => `(tactic| first | assumption | exact kit_NoneType_int | exact kit_NoneType_bool | exact kit_NoneType_str | exact kit_NoneType_list | exact kit_NoneType_tuple | exact kit_NoneType_dict | exact kit_bool_int | exact kit_bool_bool | exact kit_bool_str | exact kit_bool_list | exact kit_bool_tuple | exact kit_bool_dict | exact kit_int_int | exact kit_int_bool | exact kit_int_str | exact kit_int_list | exact kit_int_tuple | exact kit_int_dict | exact kit_str_int | exact kit_str_bool | exact kit_str_str | exact kit_str_list | exact kit_str_tuple | exact kit_str_dict | exact kit_list_int | exact kit_list_bool | exact kit_list_str | exact kit_list_list | exact kit_list_tuple | exact kit_list_dict | exact kit_tuple_int | exact kit_tuple_bool | exact kit_tuple_str | exact kit_tuple_list | exact kit_tuple_tuple | exact kit_tuple_dict | exact kit_dict_int | exact kit_dict_bool | exact kit_dict_str | exact kit_dict_list | exact kit_dict_tuple | exact kit_dict_dict)
local macro_rules | `(tactic| walk_at "ty") => `(tactic| first | assumption | exact tyx_str | exact tyx_int | exact tyx_bl | exact tyx_non | exact tyx_lst (by walk_at "look") | exact tyx_tup (by walk_at "look") | exact tyx_dK (by walk_at "look"))
local macro_rules | `(tactic| walk_at "s") => `(tactic| first
  | refine ⟨_, rfl, ?_⟩
  | refine ⟨_, _, rfl, rfl, ?_⟩
  | refine ⟨_, _, _, _, rfl, rfl, SqL.of (by walk_at "look"), by rfl, ?_⟩
  | refine ⟨_, _, _, _, rfl, rfl, SqT.of (by walk_at "look"), by rfl, ?_⟩
  | refine ⟨_, _, _, _, rfl, rfl, by walk_at "look", by rfl, ?_⟩
  | refine ⟨_, _, rfl, by walk_at "lenv", ?_⟩
  | refine Or.inl ⟨_, rfl, ?_⟩
  | refine ⟨_, _, _, _, _, rfl, ClsV.ty _, by walk_at "ty", by walk_at "kit", ?_⟩
  | refine And.intro (by walk_at "cond") ?_
  | refine ⟨_, _, rfl, SqT.of (by walk_at "look"), rfl, ?_⟩
  | refine ⟨_, _, rfl, SqL.of (by walk_at "look"), rfl, ?_⟩
  | refine And.intro (Or.inl ⟨rfl, _, SqL.of (by walk_at "look")⟩) ?_
  | refine ⟨_, _, _, rfl, rfl, by walk_at "look", by walk_at "cond", ?_⟩
  | refine ⟨_, _, _, _, rfl, rfl, by walk_at "look", by walk_at "look", by walk_at "cond", ?_⟩
  | refine And.intro ⟨_, rfl⟩ ?_
  | refine And.intro ⟨_, SqL.of (by walk_at "look")⟩ ?_
  | refine ⟨_, _, rfl, SqL.of (by walk_at "look"), ?_⟩
  | refine ⟨_, _, rfl, (by assumption : SqL _ _ _ _), ?_⟩
  | refine ⟨_, by walk_at "look", by walk_at "cond", ?_⟩
  | refine ⟨_, _, rfl, Or.inr (SqT.of (by walk_at "look")), ?_⟩
  | refine ⟨_, _, rfl, Or.inl (SqL.of (by walk_at "look")), ?_⟩
  | refine ⟨_, _, rfl, ?_⟩
  | refine ⟨_, _, _, rfl, by walk_at "look", by assumption, ?_⟩
  | refine ⟨_, _, true, _, _, rfl, rfl, ClsV.own _, kit_own (by assumption) (by assumption), rfl, by walk_at "look", ?_⟩
  | refine ⟨_, _, _, _, rfl, ErAt.same (by assumption) (by walk_at "sames"), by assumption, by assumption, ?_⟩
  | refine ⟨_, _, _, _, rfl, ErAt.same (by assumption) (by walk_at "sames"), by assumption, by assumption, by assumption, ?_⟩
  | refine if_t (by first | rfl | assumption | decide) ?_
  | refine if_f (by assumption) ?_
  | refine if_f (by first | decide | exact Bool.false_ne_true) ?_
  | refine fun (_ : _ ≠ sysModules) => ?_
  | refine fun (_ : ErAt _ _ _ _) => ?_
  | refine fun _ _ => ?_)

theorem ok_l_spring (T : Txt K mg A) : FnG P w K mg base CX0 1 A.l_spring (spWell K) := by
  obtain ⟨fd, F⟩ := T.F_l_spring
  refine Fun_okN F sc_l_spring (fun vs H Q E h => ?_) (fun _ _ _ _ _ _ us hl => match us, hl with | [_], _ => rfl) (fun cdv A' outer s H vs Q E hr hg h => ?_)
  · obtain ⟨_, _, rfl, _⟩ := h
    rfl
  obtain ⟨a, ns, rfl, hS, hn, q⟩ := h
  refine ⟨_, ((pss_one (ps_ret (pe_lst (pa_cons (pe_lc (own := [(("_law_cell" : PySem.Str), 1)]) rfl sc_l_spring.nd (pi_list (pe_slice sl_list (pv 0) po_none (po_some pe_int))) (blkOk_by (own := [(("_law_cell" : PySem.Str), 1)]) (N := [("_law_script" : PySem.Str), ("_law_cell" : PySem.Str)]) (sc := defScope s_l_spring) (by decide +kernel)) (fun _ _ _ _ _ => (pg_name (i := 1) sc_l_spring.nd rfl (Or.inl rfl))) (fun _ _ _ _ _ => pts_nil) (fun _ _ _ _ _ => (pe_callTy call_int1 (by rfl) T.n_int (by decide +kernel) (pa_cons (pv 1) pa_nil)))) (pa_cons pe_int (pa_cons pe_int pa_nil))))))), ?_⟩
  repeat walk_at "s"
  rename_i p hp D hD
  obtain ⟨cs, ec, lc⟩ := cutV_ints ns none (some 63)
  rw [ec] at hD ⊢
  refine lc_it (walk_list (xs := cs.map V.int)) (fun i H' => Iv (Same H H' ∧ H' p = some (.lst (cs.map V.int)) ∧ H' D = some (.lst ((cs.take i).map V.int)))) (Iv.mk ⟨Same.new (Same.new (Same.refl H) hp) hD, by walk_at "look", upd_same⟩) (fun i H' _ h => SqL.of h.out.2.1) ?_ ?_
  · rintro i x H1 H2 hi hI ⟨rfl, hx⟩
    obtain ⟨sm, hpl, hDl⟩ := hI.out
    obtain ⟨c, hc, rfl⟩ : ∃ c, cs[i]? = some c ∧ x = V.int c := by
      rw [List.getElem?_map] at hx
      cases e : cs[i]? with
      | none => rw [e] at hx; cases hx
      | some s => rw [e] at hx; exact ⟨s, rfl, (Option.some.inj hx).symm⟩
    have lt : (List.map V.int (cs.take i)).length < sizeLine := line_lt (by rw [List.length_map, List.length_take]; omega)
    repeat walk_at "s"
    refine Iv.mk ⟨Same.put sm (Same.free (Same.new (Same.refl H) hp) hD), by walk_at "look", ?_⟩
    rw [upd_same, List.take_add_one, hc, List.map_append]
    rfl
  · intro H1 hI
    obtain ⟨sm, hpl, hDl⟩ := hI.out
    repeat walk_at "s"
    rename_i r hr2
    have el : (cs.take (cs.map V.int).length) = cs := by rw [List.length_map, List.take_length]
    rw [el] at hDl
    refine q _ r (Same.new sm hr2) (Same.free sm hr2) ⟨D, cs, 0, 0, upd_same, (by show upd H1 r _ D = _; walk_at "look"), (by show D ≠ r; walk_at "ne"), (by show cs.length ≤ 63; omega), Int.le_refl _, Int.le_refl _⟩
end
end K00

namespace K00
open PySem PySem.Spec PyProof.Rows L2 MyL
/-- errors at these places, of these classes, with these fields -/
inductive ErsAt (H : Hp) : List Addr → List (Addr × List (Str × V)) → Prop
  | nil : ErsAt H [] []
  | cons {x : Addr} {xs : List Addr} {c : Addr} {fs : List (Str × V)} {l : List (Addr × List (Str × V))} : ErAt H x c fs → ErsAt H xs l → ErsAt H (x :: xs) ((c, fs) :: l)
def partsL (A : Adr) (v : V) : List (Addr × List (Str × V)) := [(A.c_BadWorld, [("part", v)]), (A.c_BadBlur, [("part", v)]), (A.c_BadWatch, [("part", v)]), (A.c_BadTask, [("part", v)]), (A.c_BadStanding, [("part", v)]), (A.c_BadTable, [("part", v)]), (A.c_BadPlay, [("part", v)]), (A.c_BadView, [("part", v)]), (A.c_BadLog, [("part", v)]), (A.c_BadTree, [("part", v)]), (A.c_BadRow, [("part", v)]), (A.c_BadGroups, [("part", v)]), (A.c_BadWait, [("part", v)]), (A.c_BadSmudges, [("part", v)]), (A.c_BadRoster, [("part", v)]), (A.c_BadFog, [("part", v)]), (A.c_BadFront, [("part", v)]), (A.c_BadHall, [("part", v)]), (A.c_BadStory, [("part", v)]), (A.c_BadNumbers, [("part", v)]), (A.c_BadPaper, [("part", v)])]
def othersL (A : Adr) (v u : V) : List (Addr × List (Str × V)) := [(A.c_NoState, [("name", v)]), (A.c_NoLabel, [("name", v)]), (A.c_NoDeed, [("name", v)]), (A.c_NoSight, [("name", v)]), (A.c_NoWatchState, [("name", v)]), (A.c_NoName, [("name", v)]), (A.c_Twice, [("name", v)]), (A.c_NoTable, [("number", v)]), (A.c_NotKept, [("why", v)]), (A.c_Unlike, [("what", v)]), (A.c_NotNow, [("what", v)]), (A.c_NoWay, [("sight", v)]), (A.c_NoEntry, [("sight", u), ("page", v)]), (A.c_Breaks, [("place", u), ("state", v)]), (A.c_TooMany, [("most", u), ("what", v)]), (A.c_BadText, [("word", u), ("line", v)]), (A.c_BadLine, [("error", u), ("line", v)]), (A.c_Ended, []), (A.c_Nothing, [])]
def spParts (l : V → List (Addr × List (Str × V))) : Sp := fun vs H Q _ => ∃ v, vs = [v] ∧ ∀ H' p xs, Same H H' → H' p = some (.lst (xs.map V.ref)) → ErsAt H' xs (l v) → Q (.ref p) H'
def spOthers (l : V → V → List (Addr × List (Str × V))) : Sp := fun vs H Q _ => ∃ v u, vs = [v, u] ∧ ∀ H' p xs, Same H H' → H' p = some (.lst (xs.map V.ref)) → ErsAt H' xs (l v u) → Q (.ref p) H'
section
variable {P : Program} {w : World} {K : PySem.W.Frag} {mg : Str → Option Value} {base : Heap} {A : Adr}
local macro_rules | `(tactic| walk_at "sames") => `(tactic| repeat (first
  | exact Same.refl _
  | refine Same.new ?_ (by assumption)
  | refine Same.trans ?_ (by assumption)))
local macro_rules | `(tactic| walk_at "ne") => `(tactic| first
  | assumption
  | exact Ne.symm (by assumption)
  | exact ne_new (by assumption) (by walk_at "look")
  | exact ne_new' (by assumption) (by walk_at "look")
  | exact ne_of (by walk_at "look") (by walk_at "look") (by intro z; cases z))
local macro_rules | `(tactic| walk_at "look") => `(tactic| first
  | assumption
  | exact upd_same
  | (refine upd_new (by assumption) ?_
     walk_at "look")
  | (refine (upd_ne ?_).trans ?_
     · walk_at "ne"
     · walk_at "look")
  | (refine Kp.get (by assumption) ?_ ?_
     · walk_at "ne"
     · walk_at "look")
  | (refine Same.get (by assumption) ?_
     walk_at "look"))
local macro_rules | `(tactic| walk_at "lenv") => `(tactic| first
  | exact Or.inl ⟨_, SqL.of (by walk_at "look"), rfl⟩
  | exact Or.inr ⟨_, SqT.of (by walk_at "look"), rfl⟩
  | exact ⟨line_le (by omega), rfl⟩)
local macro_rules | `(tactic| walk_at "cond") => `(tactic| first
  | assumption
  | rfl
  | exact Nat.zero_le _
  | exact Nat.le_of_ble_eq_true rfl
  | decide
  | omega
  | exact line_lt (by (try simp only [List.length_map, List.length_append, List.length_cons, List.length_nil]); omega)
  | exact line_le (by (try simp only [List.length_map, List.length_append, List.length_cons, List.length_nil]); omega)
  | (dsimp only; omega)
  | exact ⟨by decide, by decide⟩
  | exact ⟨by decide, by decide, by decide⟩
  | exact Or.inl ⟨by decide, by decide⟩
  | exact Or.inl ⟨by omega, by omega⟩
  | exact Or.inr ⟨by omega, by omega⟩)
local macro_rules | `(tactic| walk_at "kit") => `(tactic| first | assumption | exact kit_NoneType_int | exact kit_NoneType_bool | exact kit_NoneType_str | exact kit_NoneType_list | exact kit_NoneType_tuple | exact kit_NoneType_dict | exact kit_bool_int | exact kit_bool_bool | exact kit_bool_str | exact kit_bool_list | exact kit_bool_tuple | exact kit_bool_dict | exact kit_int_int | exact kit_int_bool | exact kit_int_str | exact kit_int_list | exact kit_int_tuple | exact kit_int_dict | exact kit_str_int | exact kit_str_bool | exact kit_str_str | exact kit_str_list | exact kit_str_tuple | exact kit_str_dict | exact kit_list_int | exact kit_list_bool | exact kit_list_str | exact kit_list_list | exact kit_list_tuple | exact kit_list_dict | exact kit_tuple_int | exact kit_tuple_bool | exact kit_tuple_str | exact kit_tuple_list | exact kit_tuple_tuple | exact kit_tuple_dict | exact kit_dict_int | exact kit_dict_bool | exact kit_dict_str | exact kit_dict_list | exact kit_dict_tuple | exact kit_dict_dict)
local macro_rules | `(tactic| walk_at "ty") => `(tactic| first | assumption | exact tyx_str | exact tyx_int | exact tyx_bl | exact tyx_non | exact tyx_lst (by walk_at "look") | exact tyx_tup (by walk_at "look") | exact tyx_dK (by walk_at "look"))
local macro_rules | `(tactic| walk_at "s") => `(tactic| first
  | refine ⟨_, rfl, ?_⟩
  | refine ⟨_, _, rfl, rfl, ?_⟩
  | refine ⟨_, _, _, _, rfl, rfl, SqL.of (by walk_at "look"), by rfl, ?_⟩
  | refine ⟨_, _, _, _, rfl, rfl, SqT.of (by walk_at "look"), by rfl, ?_⟩
  | refine ⟨_, _, _, _, rfl, rfl, by walk_at "look", by rfl, ?_⟩
  | refine ⟨_, _, rfl, by walk_at "lenv", ?_⟩
  | refine Or.inl ⟨_, rfl, ?_⟩
  | refine ⟨_, _, _, _, _, rfl, ClsV.ty _, by walk_at "ty", by walk_at "kit", ?_⟩
  | refine And.intro (by walk_at "cond") ?_
  | refine ⟨_, _, rfl, SqT.of (by walk_at "look"), rfl, ?_⟩
  | refine ⟨_, _, rfl, SqL.of (by walk_at "look"), rfl, ?_⟩
  | refine And.intro (Or.inl ⟨rfl, _, SqL.of (by walk_at "look")⟩) ?_
  | refine ⟨_, _, _, rfl, rfl, by walk_at "look", by walk_at "cond", ?_⟩
  | refine ⟨_, _, _, _, rfl, rfl, by walk_at "look", by walk_at "look", by walk_at "cond", ?_⟩
  | refine And.intro ⟨_, rfl⟩ ?_
  | refine And.intro ⟨_, SqL.of (by walk_at "look")⟩ ?_
  | refine ⟨_, _, rfl, SqL.of (by walk_at "look"), ?_⟩
  | refine ⟨_, _, rfl, (by assumption : SqL _ _ _ _), ?_⟩
  | refine ⟨_, by walk_at "look", by walk_at "cond", ?_⟩
  | refine ⟨_, _, rfl, Or.inr (SqT.of (by walk_at "look")), ?_⟩
  | refine ⟨_, _, rfl, Or.inl (SqL.of (by walk_at "look")), ?_⟩
  | refine ⟨_, _, rfl, ?_⟩
  | refine ⟨_, _, _, rfl, by walk_at "look", by assumption, ?_⟩
  | refine ⟨_, _, true, _, _, rfl, rfl, ClsV.own _, kit_own (by assumption) (by assumption), rfl, by walk_at "look", ?_⟩
  | refine ⟨_, _, _, _, rfl, ErAt.same (by assumption) (by walk_at "sames"), by assumption, by assumption, ?_⟩
  | refine ⟨_, _, _, _, rfl, ErAt.same (by assumption) (by walk_at "sames"), by assumption, by assumption, by assumption, ?_⟩
  | refine if_t (by first | rfl | assumption | decide) ?_
  | refine if_f (by assumption) ?_
  | refine if_f (by first | decide | exact Bool.false_ne_true) ?_
  | refine fun (_ : _ ≠ sysModules) => ?_
  | refine fun (_ : ErAt _ _ _ _) => ?_
  | refine fun _ _ => ?_)

theorem ok_l_parts (T : Txt K mg A) : FnG P w K mg base CX0 3 A.l_parts (spParts (partsL A)) := by
  obtain ⟨fd, F⟩ := T.F_l_parts
  refine Fun_okN F sc_l_parts (fun vs H Q E h => ?_) (fun _ _ _ _ _ _ us hl => match us, hl with | [_], _ => rfl) (fun cdv A' outer s H vs Q E hr hg h => ?_)
  · obtain ⟨_, rfl, _⟩ := h
    rfl
  obtain ⟨v, rfl, q⟩ := h
  refine ⟨_, ((pss_cons (ps_set (i := 1) sc_l_parts.nd rfl (Or.inl rfl) (pe_lstX (pa_cons (pe_x1 T.E_BadWorld.o (jn_BadWorld T) (hr.mono (by decide)) rfl T.m_BadWorld (pa_cons (pv 0) pa_nil)) (pa_cons (pe_x1k T.E_BadBlur.o (jn_BadBlur T) (hr.mono (by decide)) rfl T.m_BadBlur (pk_cons (pv 0) pk_nil)) (pa_cons (pe_x1 T.E_BadWatch.o (jn_BadWatch T) (hr.mono (by decide)) rfl T.m_BadWatch (pa_cons (pv 0) pa_nil)) (pa_cons (pe_x1k T.E_BadTask.o (jn_BadTask T) (hr.mono (by decide)) rfl T.m_BadTask (pk_cons (pv 0) pk_nil)) (pa_cons (pe_x1 T.E_BadStanding.o (jn_BadStanding T) (hr.mono (by decide)) rfl T.m_BadStanding (pa_cons (pv 0) pa_nil)) pa_nil)))))))
    (pss_cons (ps_set (i := 1) sc_l_parts.nd rfl (Or.inl rfl) (pe_op op_cat (pv 1) (pe_lstX (pa_cons (pe_x1k T.E_BadTable.o (jn_BadTable T) (hr.mono (by decide)) rfl T.m_BadTable (pk_cons (pv 0) pk_nil)) (pa_cons (pe_x1 T.E_BadPlay.o (jn_BadPlay T) (hr.mono (by decide)) rfl T.m_BadPlay (pa_cons (pv 0) pa_nil)) (pa_cons (pe_x1k T.E_BadView.o (jn_BadView T) (hr.mono (by decide)) rfl T.m_BadView (pk_cons (pv 0) pk_nil)) (pa_cons (pe_x1 T.E_BadLog.o (jn_BadLog T) (hr.mono (by decide)) rfl T.m_BadLog (pa_cons (pv 0) pa_nil)) (pa_cons (pe_x1k T.E_BadTree.o (jn_BadTree T) (hr.mono (by decide)) rfl T.m_BadTree (pk_cons (pv 0) pk_nil)) pa_nil))))))))
    (pss_cons (ps_set (i := 1) sc_l_parts.nd rfl (Or.inl rfl) (pe_op op_cat (pv 1) (pe_lstX (pa_cons (pe_x1 T.E_BadRow.o (jn_BadRow T) (hr.mono (by decide)) rfl T.m_BadRow (pa_cons (pv 0) pa_nil)) (pa_cons (pe_x1k T.E_BadGroups.o (jn_BadGroups T) (hr.mono (by decide)) rfl T.m_BadGroups (pk_cons (pv 0) pk_nil)) (pa_cons (pe_x1 T.E_BadWait.o (jn_BadWait T) (hr.mono (by decide)) rfl T.m_BadWait (pa_cons (pv 0) pa_nil)) (pa_cons (pe_x1k T.E_BadSmudges.o (jn_BadSmudges T) (hr.mono (by decide)) rfl T.m_BadSmudges (pk_cons (pv 0) pk_nil)) (pa_cons (pe_x1 T.E_BadRoster.o (jn_BadRoster T) (hr.mono (by decide)) rfl T.m_BadRoster (pa_cons (pv 0) pa_nil)) pa_nil))))))))
    (pss_cons (ps_set (i := 1) sc_l_parts.nd rfl (Or.inl rfl) (pe_op op_cat (pv 1) (pe_lstX (pa_cons (pe_x1k T.E_BadFog.o (jn_BadFog T) (hr.mono (by decide)) rfl T.m_BadFog (pk_cons (pv 0) pk_nil)) (pa_cons (pe_x1 T.E_BadFront.o (jn_BadFront T) (hr.mono (by decide)) rfl T.m_BadFront (pa_cons (pv 0) pa_nil)) (pa_cons (pe_x1k T.E_BadHall.o (jn_BadHall T) (hr.mono (by decide)) rfl T.m_BadHall (pk_cons (pv 0) pk_nil)) (pa_cons (pe_x1 T.E_BadStory.o (jn_BadStory T) (hr.mono (by decide)) rfl T.m_BadStory (pa_cons (pv 0) pa_nil)) (pa_cons (pe_x1k T.E_BadNumbers.o (jn_BadNumbers T) (hr.mono (by decide)) rfl T.m_BadNumbers (pk_cons (pv 0) pk_nil)) pa_nil))))))))
    (pss_one (ps_ret (pe_op op_cat (pv 1) (pe_lstX (pa_cons (pe_x1 T.E_BadPaper.o (jn_BadPaper T) (hr.mono (by decide)) rfl T.m_BadPaper (pa_cons (pv 0) pa_nil)) pa_nil)))))))))), ?_⟩
  repeat walk_at "s"
  refine q _ _ [_, _, _, _, _, _, _, _, _, _, _, _, _, _, _, _, _, _, _, _, _] ?_ upd_same ?_
  · walk_at "sames"
  · repeat (first | exact ErsAt.nil | refine ErsAt.cons (ErAt.same (by assumption) (by walk_at "sames")) ?_)
end
end K00

namespace K00
open PySem PySem.Spec PyProof.Rows L2 MyL
section
variable {P : Program} {w : World} {K : PySem.W.Frag} {mg : Str → Option Value} {base : Heap} {A : Adr}
local macro_rules | `(tactic| walk_at "sames") => `(tactic| repeat (first
  | exact Same.refl _
  | refine Same.new ?_ (by assumption)
  | refine Same.trans ?_ (by assumption)))
local macro_rules | `(tactic| walk_at "ne") => `(tactic| first
  | assumption
  | exact Ne.symm (by assumption)
  | exact ne_new (by assumption) (by walk_at "look")
  | exact ne_new' (by assumption) (by walk_at "look")
  | exact ne_of (by walk_at "look") (by walk_at "look") (by intro z; cases z))
local macro_rules | `(tactic| walk_at "look") => `(tactic| first
  | assumption
  | exact upd_same
  | (refine upd_new (by assumption) ?_
     walk_at "look")
  | (refine (upd_ne ?_).trans ?_
     · walk_at "ne"
     · walk_at "look")
  | (refine Kp.get (by assumption) ?_ ?_
     · walk_at "ne"
     · walk_at "look")
  | (refine Same.get (by assumption) ?_
     walk_at "look"))
local macro_rules | `(tactic| walk_at "lenv") => `(tactic| first
  | exact Or.inl ⟨_, SqL.of (by walk_at "look"), rfl⟩
  | exact Or.inr ⟨_, SqT.of (by walk_at "look"), rfl⟩
  | exact ⟨line_le (by omega), rfl⟩)
local macro_rules | `(tactic| walk_at "cond") => `(tactic| first
  | assumption
  | rfl
  | exact Nat.zero_le _
  | exact Nat.le_of_ble_eq_true rfl
  | decide
  | omega
  | exact line_lt (by (try simp only [List.length_map, List.length_append, List.length_cons, List.length_nil]); omega)
  | exact line_le (by (try simp only [List.length_map, List.length_append, List.length_cons, List.length_nil]); omega)
  | (dsimp only; omega)
  | exact ⟨by decide, by decide⟩
  | exact ⟨by decide, by decide, by decide⟩
  | exact Or.inl ⟨by decide, by decide⟩
  | exact Or.inl ⟨by omega, by omega⟩
  | exact Or.inr ⟨by omega, by omega⟩)
local macro_rules | `(tactic| walk_at "kit") => `(tactic| first | assumption | exact kit_NoneType_int | exact kit_NoneType_bool | exact kit_NoneType_str | exact kit_NoneType_list | exact kit_NoneType_tuple | exact kit_NoneType_dict | exact kit_bool_int | exact kit_bool_bool | exact kit_bool_str | exact kit_bool_list | exact kit_bool_tuple | exact kit_bool_dict | exact kit_int_int | exact kit_int_bool | exact kit_int_str | exact kit_int_list | exact kit_int_tuple | exact kit_int_dict | exact kit_str_int | exact kit_str_bool | exact kit_str_str | exact kit_str_list | exact kit_str_tuple | exact kit_str_dict | exact kit_list_int | exact kit_list_bool | exact kit_list_str | exact kit_list_list | exact kit_list_tuple | exact kit_list_dict | exact kit_tuple_int | exact kit_tuple_bool | exact kit_tuple_str | exact kit_tuple_list | exact kit_tuple_tuple | exact kit_tuple_dict | exact kit_dict_int | exact kit_dict_bool | exact kit_dict_str | exact kit_dict_list | exact kit_dict_tuple | exact kit_dict_dict)
local macro_rules | `(tactic| walk_at "ty") => `(tactic| first | assumption | exact tyx_str | exact tyx_int | exact tyx_bl | exact tyx_non | exact tyx_lst (by walk_at "look") | exact tyx_tup (by walk_at "look") | exact tyx_dK (by walk_at "look"))
local macro_rules | `(tactic| walk_at "s") => `(tactic| first
  | refine ⟨_, rfl, ?_⟩
  | refine ⟨_, _, rfl, rfl, ?_⟩
  | refine ⟨_, _, _, _, rfl, rfl, SqL.of (by walk_at "look"), by rfl, ?_⟩
  | refine ⟨_, _, _, _, rfl, rfl, SqT.of (by walk_at "look"), by rfl, ?_⟩
  | refine ⟨_, _, _, _, rfl, rfl, by walk_at "look", by rfl, ?_⟩
  | refine ⟨_, _, rfl, by walk_at "lenv", ?_⟩
  | refine Or.inl ⟨_, rfl, ?_⟩
  | refine ⟨_, _, _, _, _, rfl, ClsV.ty _, by walk_at "ty", by walk_at "kit", ?_⟩
  | refine And.intro (by walk_at "cond") ?_
  | refine ⟨_, _, rfl, SqT.of (by walk_at "look"), rfl, ?_⟩
  | refine ⟨_, _, rfl, SqL.of (by walk_at "look"), rfl, ?_⟩
  | refine And.intro (Or.inl ⟨rfl, _, SqL.of (by walk_at "look")⟩) ?_
  | refine ⟨_, _, _, rfl, rfl, by walk_at "look", by walk_at "cond", ?_⟩
  | refine ⟨_, _, _, _, rfl, rfl, by walk_at "look", by walk_at "look", by walk_at "cond", ?_⟩
  | refine And.intro ⟨_, rfl⟩ ?_
  | refine And.intro ⟨_, SqL.of (by walk_at "look")⟩ ?_
  | refine ⟨_, _, rfl, SqL.of (by walk_at "look"), ?_⟩
  | refine ⟨_, _, rfl, (by assumption : SqL _ _ _ _), ?_⟩
  | refine ⟨_, by walk_at "look", by walk_at "cond", ?_⟩
  | refine ⟨_, _, rfl, Or.inr (SqT.of (by walk_at "look")), ?_⟩
  | refine ⟨_, _, rfl, Or.inl (SqL.of (by walk_at "look")), ?_⟩
  | refine ⟨_, _, rfl, ?_⟩
  | refine ⟨_, _, _, rfl, by walk_at "look", by assumption, ?_⟩
  | refine ⟨_, _, true, _, _, rfl, rfl, ClsV.own _, kit_own (by assumption) (by assumption), rfl, by walk_at "look", ?_⟩
  | refine ⟨_, _, _, _, rfl, ErAt.same (by assumption) (by walk_at "sames"), by assumption, by assumption, ?_⟩
  | refine ⟨_, _, _, _, rfl, ErAt.same (by assumption) (by walk_at "sames"), by assumption, by assumption, by assumption, ?_⟩
  | refine if_t (by first | rfl | assumption | decide) ?_
  | refine if_f (by assumption) ?_
  | refine if_f (by first | decide | exact Bool.false_ne_true) ?_
  | refine fun (_ : _ ≠ sysModules) => ?_
  | refine fun (_ : ErAt _ _ _ _) => ?_
  | refine fun _ _ => ?_)

theorem ok_l_parts_turned (T : Txt K mg A) : FnG P w K mg base CX0 3 A.l_parts_turned (spParts (partsL A)) := by
  obtain ⟨fd, F⟩ := T.F_l_parts_turned
  refine Fun_okN F sc_l_parts_turned (fun vs H Q E h => ?_) (fun _ _ _ _ _ _ us hl => match us, hl with | [_], _ => rfl) (fun cdv A' outer s H vs Q E hr hg h => ?_)
  · obtain ⟨_, rfl, _⟩ := h
    rfl
  obtain ⟨v, rfl, q⟩ := h
  refine ⟨_, ((pss_cons (ps_set (i := 1) sc_l_parts_turned.nd rfl (Or.inl rfl) (pe_lstX (pa_cons (pe_x1k T.E_BadWorld.o (jn_BadWorld T) (hr.mono (by decide)) rfl T.m_BadWorld (pk_cons (pv 0) pk_nil)) (pa_cons (pe_x1 T.E_BadBlur.o (jn_BadBlur T) (hr.mono (by decide)) rfl T.m_BadBlur (pa_cons (pv 0) pa_nil)) (pa_cons (pe_x1k T.E_BadWatch.o (jn_BadWatch T) (hr.mono (by decide)) rfl T.m_BadWatch (pk_cons (pv 0) pk_nil)) (pa_cons (pe_x1 T.E_BadTask.o (jn_BadTask T) (hr.mono (by decide)) rfl T.m_BadTask (pa_cons (pv 0) pa_nil)) (pa_cons (pe_x1k T.E_BadStanding.o (jn_BadStanding T) (hr.mono (by decide)) rfl T.m_BadStanding (pk_cons (pv 0) pk_nil)) pa_nil)))))))
    (pss_cons (ps_set (i := 1) sc_l_parts_turned.nd rfl (Or.inl rfl) (pe_op op_cat (pv 1) (pe_lstX (pa_cons (pe_x1 T.E_BadTable.o (jn_BadTable T) (hr.mono (by decide)) rfl T.m_BadTable (pa_cons (pv 0) pa_nil)) (pa_cons (pe_x1k T.E_BadPlay.o (jn_BadPlay T) (hr.mono (by decide)) rfl T.m_BadPlay (pk_cons (pv 0) pk_nil)) (pa_cons (pe_x1 T.E_BadView.o (jn_BadView T) (hr.mono (by decide)) rfl T.m_BadView (pa_cons (pv 0) pa_nil)) (pa_cons (pe_x1k T.E_BadLog.o (jn_BadLog T) (hr.mono (by decide)) rfl T.m_BadLog (pk_cons (pv 0) pk_nil)) (pa_cons (pe_x1 T.E_BadTree.o (jn_BadTree T) (hr.mono (by decide)) rfl T.m_BadTree (pa_cons (pv 0) pa_nil)) pa_nil))))))))
    (pss_cons (ps_set (i := 1) sc_l_parts_turned.nd rfl (Or.inl rfl) (pe_op op_cat (pv 1) (pe_lstX (pa_cons (pe_x1k T.E_BadRow.o (jn_BadRow T) (hr.mono (by decide)) rfl T.m_BadRow (pk_cons (pv 0) pk_nil)) (pa_cons (pe_x1 T.E_BadGroups.o (jn_BadGroups T) (hr.mono (by decide)) rfl T.m_BadGroups (pa_cons (pv 0) pa_nil)) (pa_cons (pe_x1k T.E_BadWait.o (jn_BadWait T) (hr.mono (by decide)) rfl T.m_BadWait (pk_cons (pv 0) pk_nil)) (pa_cons (pe_x1 T.E_BadSmudges.o (jn_BadSmudges T) (hr.mono (by decide)) rfl T.m_BadSmudges (pa_cons (pv 0) pa_nil)) (pa_cons (pe_x1k T.E_BadRoster.o (jn_BadRoster T) (hr.mono (by decide)) rfl T.m_BadRoster (pk_cons (pv 0) pk_nil)) pa_nil))))))))
    (pss_cons (ps_set (i := 1) sc_l_parts_turned.nd rfl (Or.inl rfl) (pe_op op_cat (pv 1) (pe_lstX (pa_cons (pe_x1 T.E_BadFog.o (jn_BadFog T) (hr.mono (by decide)) rfl T.m_BadFog (pa_cons (pv 0) pa_nil)) (pa_cons (pe_x1k T.E_BadFront.o (jn_BadFront T) (hr.mono (by decide)) rfl T.m_BadFront (pk_cons (pv 0) pk_nil)) (pa_cons (pe_x1 T.E_BadHall.o (jn_BadHall T) (hr.mono (by decide)) rfl T.m_BadHall (pa_cons (pv 0) pa_nil)) (pa_cons (pe_x1k T.E_BadStory.o (jn_BadStory T) (hr.mono (by decide)) rfl T.m_BadStory (pk_cons (pv 0) pk_nil)) (pa_cons (pe_x1 T.E_BadNumbers.o (jn_BadNumbers T) (hr.mono (by decide)) rfl T.m_BadNumbers (pa_cons (pv 0) pa_nil)) pa_nil))))))))
    (pss_one (ps_ret (pe_op op_cat (pv 1) (pe_lstX (pa_cons (pe_x1k T.E_BadPaper.o (jn_BadPaper T) (hr.mono (by decide)) rfl T.m_BadPaper (pk_cons (pv 0) pk_nil)) pa_nil)))))))))), ?_⟩
  repeat walk_at "s"
  refine q _ _ [_, _, _, _, _, _, _, _, _, _, _, _, _, _, _, _, _, _, _, _, _] ?_ upd_same ?_
  · walk_at "sames"
  · repeat (first | exact ErsAt.nil | refine ErsAt.cons (ErAt.same (by assumption) (by walk_at "sames")) ?_)
theorem ok_l_others (T : Txt K mg A) : FnG P w K mg base CX0 3 A.l_others (spOthers (othersL A)) := by
  obtain ⟨fd, F⟩ := T.F_l_others
  refine Fun_okN F sc_l_others (fun vs H Q E h => ?_) (fun _ _ _ _ _ _ us hl => match us, hl with | [_, _], _ => rfl) (fun cdv A' outer s H vs Q E hr hg h => ?_)
  · obtain ⟨_, _, rfl, _⟩ := h
    rfl
  obtain ⟨v, u, rfl, q⟩ := h
  refine ⟨_, ((pss_cons (ps_set (i := 2) sc_l_others.nd rfl (Or.inl rfl) (pe_lstX (pa_cons (pe_x1 T.E_NoState.o (jn_NoState T) (hr.mono (by decide)) rfl T.m_NoState (pa_cons (pv 0) pa_nil)) (pa_cons (pe_x1 T.E_NoLabel.o (jn_NoLabel T) (hr.mono (by decide)) rfl T.m_NoLabel (pa_cons (pv 0) pa_nil)) (pa_cons (pe_x1 T.E_NoDeed.o (jn_NoDeed T) (hr.mono (by decide)) rfl T.m_NoDeed (pa_cons (pv 0) pa_nil)) (pa_cons (pe_x1 T.E_NoSight.o (jn_NoSight T) (hr.mono (by decide)) rfl T.m_NoSight (pa_cons (pv 0) pa_nil)) (pa_cons (pe_x1 T.E_NoWatchState.o (jn_NoWatchState T) (hr.mono (by decide)) rfl T.m_NoWatchState (pa_cons (pv 0) pa_nil)) (pa_cons (pe_x1 T.E_NoName.o (jn_NoName T) (hr.mono (by decide)) rfl T.m_NoName (pa_cons (pv 0) pa_nil)) pa_nil))))))))
    (pss_cons (ps_set (i := 2) sc_l_others.nd rfl (Or.inl rfl) (pe_op op_cat (pv 2) (pe_lstX (pa_cons (pe_x1 T.E_Twice.o (jn_Twice T) (hr.mono (by decide)) rfl T.m_Twice (pa_cons (pv 0) pa_nil)) (pa_cons (pe_x1 T.E_NoTable.o (jn_NoTable T) (hr.mono (by decide)) rfl T.m_NoTable (pa_cons (pv 0) pa_nil)) (pa_cons (pe_x1 T.E_NotKept.o (jn_NotKept T) (hr.mono (by decide)) rfl T.m_NotKept (pa_cons (pv 0) pa_nil)) (pa_cons (pe_x1 T.E_Unlike.o (jn_Unlike T) (hr.mono (by decide)) rfl T.m_Unlike (pa_cons (pv 0) pa_nil)) (pa_cons (pe_x1 T.E_NotNow.o (jn_NotNow T) (hr.mono (by decide)) rfl T.m_NotNow (pa_cons (pv 0) pa_nil)) (pa_cons (pe_x1 T.E_NoWay.o (jn_NoWay T) (hr.mono (by decide)) rfl T.m_NoWay (pa_cons (pv 0) pa_nil)) pa_nil)))))))))
    (pss_cons (ps_set (i := 2) sc_l_others.nd rfl (Or.inl rfl) (pe_op op_cat (pv 2) (pe_lstX (pa_cons (pe_x2 T.E_NoEntry.o (jn_NoEntry T) (hr.mono (by decide)) rfl T.m_NoEntry (pa_cons (pv 0) (pa_cons (pv 1) pa_nil))) (pa_cons (pe_x2 T.E_Breaks.o (jn_Breaks T) (hr.mono (by decide)) rfl T.m_Breaks (pa_cons (pv 0) (pa_cons (pv 1) pa_nil))) (pa_cons (pe_x2 T.E_TooMany.o (jn_TooMany T) (hr.mono (by decide)) rfl T.m_TooMany (pa_cons (pv 0) (pa_cons (pv 1) pa_nil))) (pa_cons (pe_x2 T.E_BadText.o (jn_BadText T) (hr.mono (by decide)) rfl T.m_BadText (pa_cons (pv 0) (pa_cons (pv 1) pa_nil))) (pa_cons (pe_x2 T.E_BadLine.o (jn_BadLine T) (hr.mono (by decide)) rfl T.m_BadLine (pa_cons (pv 0) (pa_cons (pv 1) pa_nil))) pa_nil))))))))
    (pss_one (ps_ret (pe_op op_cat (pv 2) (pe_lstX (pa_cons (pe_x0 T.X_Ended T.m_Ended T.E_Ended.o.kC rfl) (pa_cons (pe_x0 T.X_Nothing T.m_Nothing T.E_Nothing.o.kC rfl) pa_nil)))))))))), ?_⟩
  repeat walk_at "s"
  refine q _ _ [_, _, _, _, _, _, _, _, _, _, _, _, _, _, _, _, _, _, _] ?_ upd_same ?_
  · walk_at "sames"
  · repeat (first | exact ErsAt.nil | refine ErsAt.cons (ErAt.same (by assumption) (by walk_at "sames")) ?_)
theorem ok_l_others_named (T : Txt K mg A) : FnG P w K mg base CX0 3 A.l_others_named (spOthers (othersL A)) := by
  obtain ⟨fd, F⟩ := T.F_l_others_named
  refine Fun_okN F sc_l_others_named (fun vs H Q E h => ?_) (fun _ _ _ _ _ _ us hl => match us, hl with | [_, _], _ => rfl) (fun cdv A' outer s H vs Q E hr hg h => ?_)
  · obtain ⟨_, _, rfl, _⟩ := h
    rfl
  obtain ⟨v, u, rfl, q⟩ := h
  refine ⟨_, ((pss_cons (ps_set (i := 2) sc_l_others_named.nd rfl (Or.inl rfl) (pe_lstX (pa_cons (pe_x1k T.E_NoState.o (jn_NoState T) (hr.mono (by decide)) rfl T.m_NoState (pk_cons (pv 0) pk_nil)) (pa_cons (pe_x1k T.E_NoLabel.o (jn_NoLabel T) (hr.mono (by decide)) rfl T.m_NoLabel (pk_cons (pv 0) pk_nil)) (pa_cons (pe_x1k T.E_NoDeed.o (jn_NoDeed T) (hr.mono (by decide)) rfl T.m_NoDeed (pk_cons (pv 0) pk_nil)) (pa_cons (pe_x1k T.E_NoSight.o (jn_NoSight T) (hr.mono (by decide)) rfl T.m_NoSight (pk_cons (pv 0) pk_nil)) (pa_cons (pe_x1k T.E_NoWatchState.o (jn_NoWatchState T) (hr.mono (by decide)) rfl T.m_NoWatchState (pk_cons (pv 0) pk_nil)) pa_nil)))))))
    (pss_cons (ps_set (i := 2) sc_l_others_named.nd rfl (Or.inl rfl) (pe_op op_cat (pv 2) (pe_lstX (pa_cons (pe_x1k T.E_NoName.o (jn_NoName T) (hr.mono (by decide)) rfl T.m_NoName (pk_cons (pv 0) pk_nil)) (pa_cons (pe_x1k T.E_Twice.o (jn_Twice T) (hr.mono (by decide)) rfl T.m_Twice (pk_cons (pv 0) pk_nil)) (pa_cons (pe_x1k T.E_NoTable.o (jn_NoTable T) (hr.mono (by decide)) rfl T.m_NoTable (pk_cons (pv 0) pk_nil)) (pa_cons (pe_x1k T.E_NotKept.o (jn_NotKept T) (hr.mono (by decide)) rfl T.m_NotKept (pk_cons (pv 0) pk_nil)) (pa_cons (pe_x1k T.E_Unlike.o (jn_Unlike T) (hr.mono (by decide)) rfl T.m_Unlike (pk_cons (pv 0) pk_nil)) pa_nil))))))))
    (pss_cons (ps_set (i := 2) sc_l_others_named.nd rfl (Or.inl rfl) (pe_op op_cat (pv 2) (pe_lstX (pa_cons (pe_x1k T.E_NotNow.o (jn_NotNow T) (hr.mono (by decide)) rfl T.m_NotNow (pk_cons (pv 0) pk_nil)) (pa_cons (pe_x1k T.E_NoWay.o (jn_NoWay T) (hr.mono (by decide)) rfl T.m_NoWay (pk_cons (pv 0) pk_nil)) (pa_cons (pe_x2k T.E_NoEntry.o (jn_NoEntry T) (hr.mono (by decide)) rfl T.m_NoEntry (pk_cons (pv 1) (pk_cons (pv 0) pk_nil))) (pa_cons (pe_x2k T.E_Breaks.o (jn_Breaks T) (hr.mono (by decide)) rfl T.m_Breaks (pk_cons (pv 1) (pk_cons (pv 0) pk_nil))) pa_nil)))))))
    (pss_cons (ps_set (i := 2) sc_l_others_named.nd rfl (Or.inl rfl) (pe_op op_cat (pv 2) (pe_lstX (pa_cons (pe_x2k T.E_TooMany.o (jn_TooMany T) (hr.mono (by decide)) rfl T.m_TooMany (pk_cons (pv 1) (pk_cons (pv 0) pk_nil))) (pa_cons (pe_x2k T.E_BadText.o (jn_BadText T) (hr.mono (by decide)) rfl T.m_BadText (pk_cons (pv 1) (pk_cons (pv 0) pk_nil))) (pa_cons (pe_x2k T.E_BadLine.o (jn_BadLine T) (hr.mono (by decide)) rfl T.m_BadLine (pk_cons (pv 1) (pk_cons (pv 0) pk_nil))) pa_nil))))))
    (pss_one (ps_ret (pe_op op_cat (pv 2) (pe_lstX (pa_cons (pe_x0 T.X_Ended T.m_Ended T.E_Ended.o.kC rfl) (pa_cons (pe_x0 T.X_Nothing T.m_Nothing T.E_Nothing.o.kC rfl) pa_nil))))))))))), ?_⟩
  repeat walk_at "s"
  refine q _ _ [_, _, _, _, _, _, _, _, _, _, _, _, _, _, _, _, _, _, _] ?_ upd_same ?_
  · walk_at "sames"
  · repeat (first | exact ErsAt.nil | refine ErsAt.cons (ErAt.same (by assumption) (by walk_at "sames")) ?_)
end
end K00

namespace K00
open PySem PySem.Spec PyProof.Rows L2 MyL
def kinL (A : Adr) : List Addr := [A.c_BadWorld, A.c_BadBlur, A.c_BadWatch, A.c_BadTask, A.c_BadStanding, A.c_BadTable, A.c_BadPlay, A.c_BadView, A.c_BadLog, A.c_BadTree, A.c_BadRow, A.c_BadGroups, A.c_BadWait, A.c_BadSmudges, A.c_BadRoster, A.c_BadFog, A.c_BadFront, A.c_BadHall, A.c_BadStory, A.c_BadNumbers, A.c_BadPaper, A.c_NoState, A.c_NoLabel, A.c_NoDeed, A.c_NoSight, A.c_NoWatchState, A.c_NoName, A.c_Twice, A.c_NoTable, A.c_NotKept, A.c_Unlike, A.c_NotNow, A.c_NoWay, A.c_NoEntry, A.c_Breaks, A.c_TooMany, A.c_BadText, A.c_BadLine, A.c_Ended, A.c_Nothing]
def spKin (K : PySem.W.Frag) (A : Adr) : Sp := fun vs H Q _ => ∃ (x C : Addr) (fs : List (Str × V)) (l : List Value), vs = [.ref x] ∧ ErAt H x C fs ∧ ExcC K C ∧ MroAt K C (.ref C :: l) ∧
  ∀ H' p, Same H H' → H' p = some (.lst ((kinL A).map fun D => V.bl ((Value.ref C :: l).contains (.ref D)))) → Q (.ref p) H'
section
variable {P : Program} {w : World} {K : PySem.W.Frag} {mg : Str → Option Value} {base : Heap} {A : Adr}
local macro_rules | `(tactic| walk_at "sames") => `(tactic| repeat (first
  | exact Same.refl _
  | refine Same.new ?_ (by assumption)
  | refine Same.trans ?_ (by assumption)))
local macro_rules | `(tactic| walk_at "ne") => `(tactic| first
  | assumption
  | exact Ne.symm (by assumption)
  | exact ne_new (by assumption) (by walk_at "look")
  | exact ne_new' (by assumption) (by walk_at "look")
  | exact ne_of (by walk_at "look") (by walk_at "look") (by intro z; cases z))
local macro_rules | `(tactic| walk_at "look") => `(tactic| first
  | assumption
  | exact upd_same
  | (refine upd_new (by assumption) ?_
     walk_at "look")
  | (refine (upd_ne ?_).trans ?_
     · walk_at "ne"
     · walk_at "look")
  | (refine Kp.get (by assumption) ?_ ?_
     · walk_at "ne"
     · walk_at "look")
  | (refine Same.get (by assumption) ?_
     walk_at "look"))
local macro_rules | `(tactic| walk_at "lenv") => `(tactic| first
  | exact Or.inl ⟨_, SqL.of (by walk_at "look"), rfl⟩
  | exact Or.inr ⟨_, SqT.of (by walk_at "look"), rfl⟩
  | exact ⟨line_le (by omega), rfl⟩)
local macro_rules | `(tactic| walk_at "cond") => `(tactic| first
  | assumption
  | rfl
  | exact Nat.zero_le _
  | exact Nat.le_of_ble_eq_true rfl
  | decide
  | omega
  | exact line_lt (by (try simp only [List.length_map, List.length_append, List.length_cons, List.length_nil]); omega)
  | exact line_le (by (try simp only [List.length_map, List.length_append, List.length_cons, List.length_nil]); omega)
  | (dsimp only; omega)
  | exact ⟨by decide, by decide⟩
  | exact ⟨by decide, by decide, by decide⟩
  | exact Or.inl ⟨by decide, by decide⟩
  | exact Or.inl ⟨by omega, by omega⟩
  | exact Or.inr ⟨by omega, by omega⟩)
local macro_rules | `(tactic| walk_at "kit") => `(tactic| first | assumption | exact kit_NoneType_int | exact kit_NoneType_bool | exact kit_NoneType_str | exact kit_NoneType_list | exact kit_NoneType_tuple | exact kit_NoneType_dict | exact kit_bool_int | exact kit_bool_bool | exact kit_bool_str | exact kit_bool_list | exact kit_bool_tuple | exact kit_bool_dict | exact kit_int_int | exact kit_int_bool | exact kit_int_str | exact kit_int_list | exact kit_int_tuple | exact kit_int_dict | exact kit_str_int | exact kit_str_bool | exact kit_str_str | exact kit_str_list | exact kit_str_tuple | exact kit_str_dict | exact kit_list_int | exact kit_list_bool | exact kit_list_str | exact kit_list_list | exact kit_list_tuple | exact kit_list_dict | exact kit_tuple_int | exact kit_tuple_bool | exact kit_tuple_str | exact kit_tuple_list | exact kit_tuple_tuple | exact kit_tuple_dict | exact kit_dict_int | exact kit_dict_bool | exact kit_dict_str | exact kit_dict_list | exact kit_dict_tuple | exact kit_dict_dict)
local macro_rules | `(tactic| walk_at "ty") => `(tactic| first | assumption | exact tyx_str | exact tyx_int | exact tyx_bl | exact tyx_non | exact tyx_lst (by walk_at "look") | exact tyx_tup (by walk_at "look") | exact tyx_dK (by walk_at "look"))
local macro_rules | `(tactic| walk_at "s") => `(tactic| first
  | refine ⟨_, rfl, ?_⟩
  | refine ⟨_, _, rfl, rfl, ?_⟩
  | refine ⟨_, _, _, _, rfl, rfl, SqL.of (by walk_at "look"), by rfl, ?_⟩
  | refine ⟨_, _, _, _, rfl, rfl, SqT.of (by walk_at "look"), by rfl, ?_⟩
  | refine ⟨_, _, _, _, rfl, rfl, by walk_at "look", by rfl, ?_⟩
  | refine ⟨_, _, rfl, by walk_at "lenv", ?_⟩
  | refine Or.inl ⟨_, rfl, ?_⟩
  | refine ⟨_, _, _, _, _, rfl, ClsV.ty _, by walk_at "ty", by walk_at "kit", ?_⟩
  | refine And.intro (by walk_at "cond") ?_
  | refine ⟨_, _, rfl, SqT.of (by walk_at "look"), rfl, ?_⟩
  | refine ⟨_, _, rfl, SqL.of (by walk_at "look"), rfl, ?_⟩
  | refine And.intro (Or.inl ⟨rfl, _, SqL.of (by walk_at "look")⟩) ?_
  | refine ⟨_, _, _, rfl, rfl, by walk_at "look", by walk_at "cond", ?_⟩
  | refine ⟨_, _, _, _, rfl, rfl, by walk_at "look", by walk_at "look", by walk_at "cond", ?_⟩
  | refine And.intro ⟨_, rfl⟩ ?_
  | refine And.intro ⟨_, SqL.of (by walk_at "look")⟩ ?_
  | refine ⟨_, _, rfl, SqL.of (by walk_at "look"), ?_⟩
  | refine ⟨_, _, rfl, (by assumption : SqL _ _ _ _), ?_⟩
  | refine ⟨_, by walk_at "look", by walk_at "cond", ?_⟩
  | refine ⟨_, _, rfl, Or.inr (SqT.of (by walk_at "look")), ?_⟩
  | refine ⟨_, _, rfl, Or.inl (SqL.of (by walk_at "look")), ?_⟩
  | refine ⟨_, _, rfl, ?_⟩
  | refine ⟨_, _, _, rfl, by walk_at "look", by assumption, ?_⟩
  | refine ⟨_, _, true, _, _, rfl, rfl, ClsV.own _, kit_own (by assumption) (by assumption), rfl, by walk_at "look", ?_⟩
  | refine ⟨_, _, _, _, rfl, ErAt.same (by assumption) (by walk_at "sames"), by assumption, by assumption, ?_⟩
  | refine ⟨_, _, _, _, rfl, ErAt.same (by assumption) (by walk_at "sames"), by assumption, by assumption, by assumption, ?_⟩
  | refine if_t (by first | rfl | assumption | decide) ?_
  | refine if_f (by assumption) ?_
  | refine if_f (by first | decide | exact Bool.false_ne_true) ?_
  | refine fun (_ : _ ≠ sysModules) => ?_
  | refine fun (_ : ErAt _ _ _ _) => ?_
  | refine fun _ _ => ?_)

theorem ok_l_kin (T : Txt K mg A) : FnG P w K mg base CX0 1 A.l_kin (spKin K A) := by
  obtain ⟨fd, F⟩ := T.F_l_kin
  refine Fun_okN F sc_l_kin (fun vs H Q E h => ?_) (fun _ _ _ _ _ _ us hl => match us, hl with | [_], _ => rfl) (fun cdv A' outer s H vs Q E hr hg h => ?_)
  · obtain ⟨_, _, _, _, rfl, _⟩ := h
    rfl
  obtain ⟨x, C, fs, l, rfl, hE, hT, hM, q⟩ := h
  refine ⟨_, ((pss_cons (ps_set (i := 1) sc_l_kin.nd rfl (Or.inl rfl) (pe_lstX (pa_cons (pe_callB (call_isXD T.E_BadWorld.toErrC) (by rfl) T.n_isinstance (by decide +kernel) (pa_cons (pv 0) (pa_cons (pe_glob (v := .ref A.c_BadWorld) (u := .ref A.c_BadWorld) rfl T.m_BadWorld rfl) pa_nil))) (pa_cons (pe_callB (call_isXD T.E_BadBlur.toErrC) (by rfl) T.n_isinstance (by decide +kernel) (pa_cons (pv 0) (pa_cons (pe_glob (v := .ref A.c_BadBlur) (u := .ref A.c_BadBlur) rfl T.m_BadBlur rfl) pa_nil))) (pa_cons (pe_callB (call_isXD T.E_BadWatch.toErrC) (by rfl) T.n_isinstance (by decide +kernel) (pa_cons (pv 0) (pa_cons (pe_glob (v := .ref A.c_BadWatch) (u := .ref A.c_BadWatch) rfl T.m_BadWatch rfl) pa_nil))) pa_nil)))))
    (pss_cons (ps_set (i := 1) sc_l_kin.nd rfl (Or.inl rfl) (pe_op op_cat (pv 1) (pe_lstX (pa_cons (pe_callB (call_isXD T.E_BadTask.toErrC) (by rfl) T.n_isinstance (by decide +kernel) (pa_cons (pv 0) (pa_cons (pe_glob (v := .ref A.c_BadTask) (u := .ref A.c_BadTask) rfl T.m_BadTask rfl) pa_nil))) (pa_cons (pe_callB (call_isXD T.E_BadStanding.toErrC) (by rfl) T.n_isinstance (by decide +kernel) (pa_cons (pv 0) (pa_cons (pe_glob (v := .ref A.c_BadStanding) (u := .ref A.c_BadStanding) rfl T.m_BadStanding rfl) pa_nil))) (pa_cons (pe_callB (call_isXD T.E_BadTable.toErrC) (by rfl) T.n_isinstance (by decide +kernel) (pa_cons (pv 0) (pa_cons (pe_glob (v := .ref A.c_BadTable) (u := .ref A.c_BadTable) rfl T.m_BadTable rfl) pa_nil))) pa_nil))))))
    (pss_cons (ps_set (i := 1) sc_l_kin.nd rfl (Or.inl rfl) (pe_op op_cat (pv 1) (pe_lstX (pa_cons (pe_callB (call_isXD T.E_BadPlay.toErrC) (by rfl) T.n_isinstance (by decide +kernel) (pa_cons (pv 0) (pa_cons (pe_glob (v := .ref A.c_BadPlay) (u := .ref A.c_BadPlay) rfl T.m_BadPlay rfl) pa_nil))) (pa_cons (pe_callB (call_isXD T.E_BadView.toErrC) (by rfl) T.n_isinstance (by decide +kernel) (pa_cons (pv 0) (pa_cons (pe_glob (v := .ref A.c_BadView) (u := .ref A.c_BadView) rfl T.m_BadView rfl) pa_nil))) (pa_cons (pe_callB (call_isXD T.E_BadLog.toErrC) (by rfl) T.n_isinstance (by decide +kernel) (pa_cons (pv 0) (pa_cons (pe_glob (v := .ref A.c_BadLog) (u := .ref A.c_BadLog) rfl T.m_BadLog rfl) pa_nil))) pa_nil))))))
    (pss_cons (ps_set (i := 1) sc_l_kin.nd rfl (Or.inl rfl) (pe_op op_cat (pv 1) (pe_lstX (pa_cons (pe_callB (call_isXD T.E_BadTree.toErrC) (by rfl) T.n_isinstance (by decide +kernel) (pa_cons (pv 0) (pa_cons (pe_glob (v := .ref A.c_BadTree) (u := .ref A.c_BadTree) rfl T.m_BadTree rfl) pa_nil))) (pa_cons (pe_callB (call_isXD T.E_BadRow.toErrC) (by rfl) T.n_isinstance (by decide +kernel) (pa_cons (pv 0) (pa_cons (pe_glob (v := .ref A.c_BadRow) (u := .ref A.c_BadRow) rfl T.m_BadRow rfl) pa_nil))) (pa_cons (pe_callB (call_isXD T.E_BadGroups.toErrC) (by rfl) T.n_isinstance (by decide +kernel) (pa_cons (pv 0) (pa_cons (pe_glob (v := .ref A.c_BadGroups) (u := .ref A.c_BadGroups) rfl T.m_BadGroups rfl) pa_nil))) pa_nil))))))
    (pss_cons (ps_set (i := 1) sc_l_kin.nd rfl (Or.inl rfl) (pe_op op_cat (pv 1) (pe_lstX (pa_cons (pe_callB (call_isXD T.E_BadWait.toErrC) (by rfl) T.n_isinstance (by decide +kernel) (pa_cons (pv 0) (pa_cons (pe_glob (v := .ref A.c_BadWait) (u := .ref A.c_BadWait) rfl T.m_BadWait rfl) pa_nil))) (pa_cons (pe_callB (call_isXD T.E_BadSmudges.toErrC) (by rfl) T.n_isinstance (by decide +kernel) (pa_cons (pv 0) (pa_cons (pe_glob (v := .ref A.c_BadSmudges) (u := .ref A.c_BadSmudges) rfl T.m_BadSmudges rfl) pa_nil))) (pa_cons (pe_callB (call_isXD T.E_BadRoster.toErrC) (by rfl) T.n_isinstance (by decide +kernel) (pa_cons (pv 0) (pa_cons (pe_glob (v := .ref A.c_BadRoster) (u := .ref A.c_BadRoster) rfl T.m_BadRoster rfl) pa_nil))) pa_nil))))))
    (pss_cons (ps_set (i := 1) sc_l_kin.nd rfl (Or.inl rfl) (pe_op op_cat (pv 1) (pe_lstX (pa_cons (pe_callB (call_isXD T.E_BadFog.toErrC) (by rfl) T.n_isinstance (by decide +kernel) (pa_cons (pv 0) (pa_cons (pe_glob (v := .ref A.c_BadFog) (u := .ref A.c_BadFog) rfl T.m_BadFog rfl) pa_nil))) (pa_cons (pe_callB (call_isXD T.E_BadFront.toErrC) (by rfl) T.n_isinstance (by decide +kernel) (pa_cons (pv 0) (pa_cons (pe_glob (v := .ref A.c_BadFront) (u := .ref A.c_BadFront) rfl T.m_BadFront rfl) pa_nil))) (pa_cons (pe_callB (call_isXD T.E_BadHall.toErrC) (by rfl) T.n_isinstance (by decide +kernel) (pa_cons (pv 0) (pa_cons (pe_glob (v := .ref A.c_BadHall) (u := .ref A.c_BadHall) rfl T.m_BadHall rfl) pa_nil))) pa_nil))))))
    (pss_cons (ps_set (i := 1) sc_l_kin.nd rfl (Or.inl rfl) (pe_op op_cat (pv 1) (pe_lstX (pa_cons (pe_callB (call_isXD T.E_BadStory.toErrC) (by rfl) T.n_isinstance (by decide +kernel) (pa_cons (pv 0) (pa_cons (pe_glob (v := .ref A.c_BadStory) (u := .ref A.c_BadStory) rfl T.m_BadStory rfl) pa_nil))) (pa_cons (pe_callB (call_isXD T.E_BadNumbers.toErrC) (by rfl) T.n_isinstance (by decide +kernel) (pa_cons (pv 0) (pa_cons (pe_glob (v := .ref A.c_BadNumbers) (u := .ref A.c_BadNumbers) rfl T.m_BadNumbers rfl) pa_nil))) (pa_cons (pe_callB (call_isXD T.E_BadPaper.toErrC) (by rfl) T.n_isinstance (by decide +kernel) (pa_cons (pv 0) (pa_cons (pe_glob (v := .ref A.c_BadPaper) (u := .ref A.c_BadPaper) rfl T.m_BadPaper rfl) pa_nil))) pa_nil))))))
    (pss_cons (ps_set (i := 1) sc_l_kin.nd rfl (Or.inl rfl) (pe_op op_cat (pv 1) (pe_lstX (pa_cons (pe_callB (call_isXD T.E_NoState.toErrC) (by rfl) T.n_isinstance (by decide +kernel) (pa_cons (pv 0) (pa_cons (pe_glob (v := .ref A.c_NoState) (u := .ref A.c_NoState) rfl T.m_NoState rfl) pa_nil))) (pa_cons (pe_callB (call_isXD T.E_NoLabel.toErrC) (by rfl) T.n_isinstance (by decide +kernel) (pa_cons (pv 0) (pa_cons (pe_glob (v := .ref A.c_NoLabel) (u := .ref A.c_NoLabel) rfl T.m_NoLabel rfl) pa_nil))) (pa_cons (pe_callB (call_isXD T.E_NoDeed.toErrC) (by rfl) T.n_isinstance (by decide +kernel) (pa_cons (pv 0) (pa_cons (pe_glob (v := .ref A.c_NoDeed) (u := .ref A.c_NoDeed) rfl T.m_NoDeed rfl) pa_nil))) pa_nil))))))
    (pss_cons (ps_set (i := 1) sc_l_kin.nd rfl (Or.inl rfl) (pe_op op_cat (pv 1) (pe_lstX (pa_cons (pe_callB (call_isXD T.E_NoSight.toErrC) (by rfl) T.n_isinstance (by decide +kernel) (pa_cons (pv 0) (pa_cons (pe_glob (v := .ref A.c_NoSight) (u := .ref A.c_NoSight) rfl T.m_NoSight rfl) pa_nil))) (pa_cons (pe_callB (call_isXD T.E_NoWatchState.toErrC) (by rfl) T.n_isinstance (by decide +kernel) (pa_cons (pv 0) (pa_cons (pe_glob (v := .ref A.c_NoWatchState) (u := .ref A.c_NoWatchState) rfl T.m_NoWatchState rfl) pa_nil))) (pa_cons (pe_callB (call_isXD T.E_NoName.toErrC) (by rfl) T.n_isinstance (by decide +kernel) (pa_cons (pv 0) (pa_cons (pe_glob (v := .ref A.c_NoName) (u := .ref A.c_NoName) rfl T.m_NoName rfl) pa_nil))) pa_nil))))))
    (pss_cons (ps_set (i := 1) sc_l_kin.nd rfl (Or.inl rfl) (pe_op op_cat (pv 1) (pe_lstX (pa_cons (pe_callB (call_isXD T.E_Twice.toErrC) (by rfl) T.n_isinstance (by decide +kernel) (pa_cons (pv 0) (pa_cons (pe_glob (v := .ref A.c_Twice) (u := .ref A.c_Twice) rfl T.m_Twice rfl) pa_nil))) (pa_cons (pe_callB (call_isXD T.E_NoTable.toErrC) (by rfl) T.n_isinstance (by decide +kernel) (pa_cons (pv 0) (pa_cons (pe_glob (v := .ref A.c_NoTable) (u := .ref A.c_NoTable) rfl T.m_NoTable rfl) pa_nil))) (pa_cons (pe_callB (call_isXD T.E_NotKept.toErrC) (by rfl) T.n_isinstance (by decide +kernel) (pa_cons (pv 0) (pa_cons (pe_glob (v := .ref A.c_NotKept) (u := .ref A.c_NotKept) rfl T.m_NotKept rfl) pa_nil))) pa_nil))))))
    (pss_cons (ps_set (i := 1) sc_l_kin.nd rfl (Or.inl rfl) (pe_op op_cat (pv 1) (pe_lstX (pa_cons (pe_callB (call_isXD T.E_Unlike.toErrC) (by rfl) T.n_isinstance (by decide +kernel) (pa_cons (pv 0) (pa_cons (pe_glob (v := .ref A.c_Unlike) (u := .ref A.c_Unlike) rfl T.m_Unlike rfl) pa_nil))) (pa_cons (pe_callB (call_isXD T.E_NotNow.toErrC) (by rfl) T.n_isinstance (by decide +kernel) (pa_cons (pv 0) (pa_cons (pe_glob (v := .ref A.c_NotNow) (u := .ref A.c_NotNow) rfl T.m_NotNow rfl) pa_nil))) (pa_cons (pe_callB (call_isXD T.E_NoWay.toErrC) (by rfl) T.n_isinstance (by decide +kernel) (pa_cons (pv 0) (pa_cons (pe_glob (v := .ref A.c_NoWay) (u := .ref A.c_NoWay) rfl T.m_NoWay rfl) pa_nil))) pa_nil))))))
    (pss_cons (ps_set (i := 1) sc_l_kin.nd rfl (Or.inl rfl) (pe_op op_cat (pv 1) (pe_lstX (pa_cons (pe_callB (call_isXD T.E_NoEntry.toErrC) (by rfl) T.n_isinstance (by decide +kernel) (pa_cons (pv 0) (pa_cons (pe_glob (v := .ref A.c_NoEntry) (u := .ref A.c_NoEntry) rfl T.m_NoEntry rfl) pa_nil))) (pa_cons (pe_callB (call_isXD T.E_Breaks.toErrC) (by rfl) T.n_isinstance (by decide +kernel) (pa_cons (pv 0) (pa_cons (pe_glob (v := .ref A.c_Breaks) (u := .ref A.c_Breaks) rfl T.m_Breaks rfl) pa_nil))) (pa_cons (pe_callB (call_isXD T.E_TooMany.toErrC) (by rfl) T.n_isinstance (by decide +kernel) (pa_cons (pv 0) (pa_cons (pe_glob (v := .ref A.c_TooMany) (u := .ref A.c_TooMany) rfl T.m_TooMany rfl) pa_nil))) pa_nil))))))
    (pss_cons (ps_set (i := 1) sc_l_kin.nd rfl (Or.inl rfl) (pe_op op_cat (pv 1) (pe_lstX (pa_cons (pe_callB (call_isXD T.E_BadText.toErrC) (by rfl) T.n_isinstance (by decide +kernel) (pa_cons (pv 0) (pa_cons (pe_glob (v := .ref A.c_BadText) (u := .ref A.c_BadText) rfl T.m_BadText rfl) pa_nil))) (pa_cons (pe_callB (call_isXD T.E_BadLine.toErrC) (by rfl) T.n_isinstance (by decide +kernel) (pa_cons (pv 0) (pa_cons (pe_glob (v := .ref A.c_BadLine) (u := .ref A.c_BadLine) rfl T.m_BadLine rfl) pa_nil))) (pa_cons (pe_callB (call_isXD T.E_Ended) (by rfl) T.n_isinstance (by decide +kernel) (pa_cons (pv 0) (pa_cons (pe_glob (v := .ref A.c_Ended) (u := .ref A.c_Ended) rfl T.m_Ended rfl) pa_nil))) pa_nil))))))
    (pss_one (ps_ret (pe_op op_cat (pv 1) (pe_lstX (pa_cons (pe_callB (call_isXD T.E_Nothing) (by rfl) T.n_isinstance (by decide +kernel) (pa_cons (pv 0) (pa_cons (pe_glob (v := .ref A.c_Nothing) (u := .ref A.c_Nothing) rfl T.m_Nothing rfl) pa_nil))) pa_nil))))))))))))))))))), ?_⟩
  repeat walk_at "s"
  refine q _ _ ?_ upd_same
  walk_at "sames"
end
end K00

namespace K00
open PySem PySem.Spec PyProof.Rows L2 MyL
/-- the fields of the error at this place -/
def fsAt (i : Nat) (v u : V) : List (Str × V) := if i < 21 then [("part", v)] else if i < 28 then [("name", v)] else if i = 28 then [("number", v)] else if i = 29 then [("why", v)] else if i = 30 then [("what", v)] else if i = 31 then [("what", v)] else if i = 32 then [("sight", v)] else if i = 33 then [("sight", u), ("page", v)] else if i = 34 then [("place", u), ("state", v)] else if i = 35 then [("most", u), ("what", v)] else if i = 36 then [("word", u), ("line", v)] else if i = 37 then [("error", u), ("line", v)] else []
def dueL (i : Nat) (v u : V) : List V := if i < 33 then [v] else if i < 38 then [v, u] else []
def clsAt (A : Adr) (i : Nat) : Addr := (kinL A).getD i A.c_DimError
theorem all_is (A : Adr) (v u : V) : partsL A v ++ othersL A v u = (List.range 40).map fun i => (clsAt A i, fsAt i v u) := rfl
def spFields (K : PySem.W.Frag) : Sp := fun vs H Q _ => ∃ (x C : Addr) (i : Nat) (v u : V), vs = [.ref x, .int i] ∧ i < 40 ∧ ErAt H x C (fsAt i v u) ∧ XfC K C ∧ (∀ p ∈ fsAt i v u, PySem.W.findIn K (.ref C) p.1 = some none) ∧
  ∀ H' p, Same H H' → p ≠ sysModules → H' p = some (.lst (dueL i v u)) → Q (.ref p) H'
theorem lk1 {f : Str} {v : V} {r : List (Str × V)} : List.lookup f ((f, v) :: r) = some v := by simp [List.lookup]
theorem lk2 {f g : Str} {v u : V} (h : (f == g) = false) : List.lookup f [(g, u), (f, v)] = some v := by
  rw [List.lookup, h]
  exact lk1
section
variable {P : Program} {w : World} {K : PySem.W.Frag} {mg : Str → Option Value} {base : Heap} {A : Adr}
local macro_rules | `(tactic| walk_at "sames") => `(tactic| repeat (first
  | exact Same.refl _
  | refine Same.new ?_ (by assumption)
  | refine Same.trans ?_ (by assumption)))
local macro_rules | `(tactic| walk_at "ne") => `(tactic| first
  | assumption
  | exact Ne.symm (by assumption)
  | exact ne_new (by assumption) (by walk_at "look")
  | exact ne_new' (by assumption) (by walk_at "look")
  | exact ne_of (by walk_at "look") (by walk_at "look") (by intro z; cases z))
local macro_rules | `(tactic| walk_at "look") => `(tactic| first
  | assumption
  | exact upd_same
  | (refine upd_new (by assumption) ?_
     walk_at "look")
  | (refine (upd_ne ?_).trans ?_
     · walk_at "ne"
     · walk_at "look")
  | (refine Kp.get (by assumption) ?_ ?_
     · walk_at "ne"
     · walk_at "look")
  | (refine Same.get (by assumption) ?_
     walk_at "look"))
local macro_rules | `(tactic| walk_at "lenv") => `(tactic| first
  | exact Or.inl ⟨_, SqL.of (by walk_at "look"), rfl⟩
  | exact Or.inr ⟨_, SqT.of (by walk_at "look"), rfl⟩
  | exact ⟨line_le (by omega), rfl⟩)
local macro_rules | `(tactic| walk_at "cond") => `(tactic| first
  | assumption
  | rfl
  | exact Nat.zero_le _
  | exact Nat.le_of_ble_eq_true rfl
  | decide
  | omega
  | exact line_lt (by (try simp only [List.length_map, List.length_append, List.length_cons, List.length_nil]); omega)
  | exact line_le (by (try simp only [List.length_map, List.length_append, List.length_cons, List.length_nil]); omega)
  | (dsimp only; omega)
  | exact ⟨by decide, by decide⟩
  | exact ⟨by decide, by decide, by decide⟩
  | exact Or.inl ⟨by decide, by decide⟩
  | exact Or.inl ⟨by omega, by omega⟩
  | exact Or.inr ⟨by omega, by omega⟩)
local macro_rules | `(tactic| walk_at "kit") => `(tactic| first | assumption | exact kit_NoneType_int | exact kit_NoneType_bool | exact kit_NoneType_str | exact kit_NoneType_list | exact kit_NoneType_tuple | exact kit_NoneType_dict | exact kit_bool_int | exact kit_bool_bool | exact kit_bool_str | exact kit_bool_list | exact kit_bool_tuple | exact kit_bool_dict | exact kit_int_int | exact kit_int_bool | exact kit_int_str | exact kit_int_list | exact kit_int_tuple | exact kit_int_dict | exact kit_str_int | exact kit_str_bool | exact kit_str_str | exact kit_str_list | exact kit_str_tuple | exact kit_str_dict | exact kit_list_int | exact kit_list_bool | exact kit_list_str | exact kit_list_list | exact kit_list_tuple | exact kit_list_dict | exact kit_tuple_int | exact kit_tuple_bool | exact kit_tuple_str | exact kit_tuple_list | exact kit_tuple_tuple | exact kit_tuple_dict | exact kit_dict_int | exact kit_dict_bool | exact kit_dict_str | exact kit_dict_list | exact kit_dict_tuple | exact kit_dict_dict)
local macro_rules | `(tactic| walk_at "ty") => `(tactic| first | assumption | exact tyx_str | exact tyx_int | exact tyx_bl | exact tyx_non | exact tyx_lst (by walk_at "look") | exact tyx_tup (by walk_at "look") | exact tyx_dK (by walk_at "look"))
local macro_rules | `(tactic| walk_at "s") => `(tactic| first
  | refine ⟨_, rfl, ?_⟩
  | refine ⟨_, _, rfl, rfl, ?_⟩
  | refine ⟨_, _, _, _, rfl, rfl, SqL.of (by walk_at "look"), by rfl, ?_⟩
  | refine ⟨_, _, _, _, rfl, rfl, SqT.of (by walk_at "look"), by rfl, ?_⟩
  | refine ⟨_, _, _, _, rfl, rfl, by walk_at "look", by rfl, ?_⟩
  | refine ⟨_, _, rfl, by walk_at "lenv", ?_⟩
  | refine Or.inl ⟨_, rfl, ?_⟩
  | refine ⟨_, _, _, _, _, rfl, ClsV.ty _, by walk_at "ty", by walk_at "kit", ?_⟩
  | refine And.intro (by walk_at "cond") ?_
  | refine ⟨_, _, rfl, SqT.of (by walk_at "look"), rfl, ?_⟩
  | refine ⟨_, _, rfl, SqL.of (by walk_at "look"), rfl, ?_⟩
  | refine And.intro (Or.inl ⟨rfl, _, SqL.of (by walk_at "look")⟩) ?_
  | refine ⟨_, _, _, rfl, rfl, by walk_at "look", by walk_at "cond", ?_⟩
  | refine ⟨_, _, _, _, rfl, rfl, by walk_at "look", by walk_at "look", by walk_at "cond", ?_⟩
  | refine And.intro ⟨_, rfl⟩ ?_
  | refine And.intro ⟨_, SqL.of (by walk_at "look")⟩ ?_
  | refine ⟨_, _, rfl, SqL.of (by walk_at "look"), ?_⟩
  | refine ⟨_, _, rfl, (by assumption : SqL _ _ _ _), ?_⟩
  | refine ⟨_, by walk_at "look", by walk_at "cond", ?_⟩
  | refine ⟨_, _, rfl, Or.inr (SqT.of (by walk_at "look")), ?_⟩
  | refine ⟨_, _, rfl, Or.inl (SqL.of (by walk_at "look")), ?_⟩
  | refine ⟨_, _, rfl, ?_⟩
  | refine ⟨_, _, _, rfl, by walk_at "look", by assumption, ?_⟩
  | refine ⟨_, _, true, _, _, rfl, rfl, ClsV.own _, kit_own (by assumption) (by assumption), rfl, by walk_at "look", ?_⟩
  | refine ⟨_, _, _, _, rfl, ErAt.same (by assumption) (by walk_at "sames"), by assumption, by assumption, ?_⟩
  | refine ⟨_, _, _, _, rfl, ErAt.same (by assumption) (by walk_at "sames"), by assumption, by assumption, by assumption, ?_⟩
  | refine if_t (by first | rfl | assumption | decide) ?_
  | refine if_f (by assumption) ?_
  | refine if_f (by first | decide | exact Bool.false_ne_true) ?_
  | refine fun (_ : _ ≠ sysModules) => ?_
  | refine fun (_ : ErAt _ _ _ _) => ?_
  | refine fun _ _ => ?_)

theorem ok_l_fields (T : Txt K mg A) : FnG P w K mg base CX0 1 A.l_fields (spFields K) := by
  obtain ⟨fd, F⟩ := T.F_l_fields
  refine Fun_okN F sc_l_fields (fun vs H Q E h => ?_) (fun _ _ _ _ _ _ us hl => match us, hl with | [_, _], _ => rfl) (fun cdv A' outer s H vs Q E hr hg h => ?_)
  · obtain ⟨_, _, _, _, _, rfl, _⟩ := h
    rfl
  obtain ⟨x, C, i, v, u, rfl, hi, hE, hT, hf, q⟩ := h
  refine ⟨_, ((pss_cons (ps_if (pt_cmpR op_lt (pv 1) pe_int (nomark _)) (pss_one (ps_ret (pe_lstX (pa_cons (pe_xo (pv 0)) pa_nil)))) pss_nil)
    (pss_cons (ps_if (pt_cmpR op_lt (pv 1) pe_int (nomark _)) (pss_one (ps_ret (pe_lstX (pa_cons (pe_xo (pv 0)) pa_nil)))) pss_nil)
    (pss_cons (ps_if (pt_cmpR op_lt (pv 1) pe_int (nomark _)) (pss_one (ps_ret (pe_ifExp (pt_cmpR op_eq (pv 1) pe_int (nomark _)) (pe_lstX (pa_cons (pe_xo (pv 0)) pa_nil)) (pe_lstX (pa_cons (pe_xo (pv 0)) pa_nil))))) pss_nil)
    (pss_cons (ps_if (pt_cmpR op_lt (pv 1) pe_int (nomark _)) (pss_one (ps_ret (pe_ifExp (pt_cmpR op_eq (pv 1) pe_int (nomark _)) (pe_lstX (pa_cons (pe_xo (pv 0)) pa_nil)) (pe_lstX (pa_cons (pe_xo (pv 0)) pa_nil))))) pss_nil)
    (pss_cons (ps_if (pt_cmpR op_lt (pv 1) pe_int (nomark _)) (pss_one (ps_ret (pe_ifExp (pt_cmpR op_eq (pv 1) pe_int (nomark _)) (pe_lstX (pa_cons (pe_xo (pv 0)) (pa_cons (pe_xo (pv 0)) pa_nil))) (pe_lstX (pa_cons (pe_xo (pv 0)) (pa_cons (pe_xo (pv 0)) pa_nil)))))) pss_nil)
    (pss_cons (ps_if (pt_cmpR op_lt (pv 1) pe_int (nomark _)) (pss_one (ps_ret (pe_ifExp (pt_cmpR op_eq (pv 1) pe_int (nomark _)) (pe_lstX (pa_cons (pe_xo (pv 0)) (pa_cons (pe_xo (pv 0)) pa_nil))) (pe_lstX (pa_cons (pe_xo (pv 0)) (pa_cons (pe_xo (pv 0)) pa_nil)))))) pss_nil)
    (pss_one (ps_ret (pe_ifExp (pt_cmpR op_eq (pv 1) pe_int (nomark _)) (pe_lstX (pa_cons (pe_xo (pv 0)) (pa_cons (pe_xo (pv 0)) pa_nil))) (pe_lstX pa_nil))))))))))), ?_⟩
  have cs : i < 21 ∨ (21 ≤ i ∧ i < 28) ∨ i = 28 ∨ i = 29 ∨ i = 30 ∨ i = 31 ∨ i = 32 ∨ i = 33 ∨ i = 34 ∨ i = 35 ∨ i = 36 ∨ i = 37 ∨ i = 38 ∨ i = 39 := by omega
  rcases cs with c | ⟨c0, c⟩ | rfl | rfl | rfl | rfl | rfl | rfl | rfl | rfl | rfl | rfl | rfl | rfl
  · have e : fsAt i v u = [(("part" : Str), v)] := by
      unfold fsAt
      exact if_pos c
    rw [e] at hE hf
    have d1 : decide ((i : Int) < 21) = true := decide_eq_true (by omega)
    have hE1 : ErAt H x C [("part", v)] := hE
    have n1 : PySem.W.findIn K (.ref C) "part" = some none := hf ("part", v) (by first | exact List.mem_cons_self | exact List.mem_cons_of_mem _ List.mem_cons_self)
    have l1 : List.lookup ("part" : Str) [("part", v)] = some v := lk1
    clear hE hf
    repeat walk_at "s"
    refine q _ _ ?_ (by assumption) ?_
    · walk_at "sames"
    · rw [upd_same]
      unfold dueL
      rw [if_pos (by omega)]
  · have e : fsAt i v u = [(("name" : Str), v)] := by
      unfold fsAt
      rw [if_neg (by omega), if_pos c]
    rw [e] at hE hf
    have d1 : ¬ (decide ((i : Int) < 21) = true) := by simpa using by omega
    have d2 : decide ((i : Int) < 28) = true := decide_eq_true (by omega)
    have hE1 : ErAt H x C [("name", v)] := hE
    have n1 : PySem.W.findIn K (.ref C) "name" = some none := hf ("name", v) (by first | exact List.mem_cons_self | exact List.mem_cons_of_mem _ List.mem_cons_self)
    have l1 : List.lookup ("name" : Str) [("name", v)] = some v := lk1
    clear hE hf
    repeat walk_at "s"
    refine q _ _ ?_ (by assumption) ?_
    · walk_at "sames"
    · rw [upd_same]
      unfold dueL
      rw [if_pos (by omega)]
  · skip
    have hE1 : ErAt H x C [("number", v)] := hE
    have n1 : PySem.W.findIn K (.ref C) "number" = some none := hf ("number", v) (by first | exact List.mem_cons_self | exact List.mem_cons_of_mem _ List.mem_cons_self)
    have l1 : List.lookup ("number" : Str) [("number", v)] = some v := lk1
    clear hE hf
    repeat walk_at "s"
    refine q _ _ ?_ (by assumption) ?_
    · walk_at "sames"
    · rw [upd_same]
      rfl
  · skip
    have hE1 : ErAt H x C [("why", v)] := hE
    have n1 : PySem.W.findIn K (.ref C) "why" = some none := hf ("why", v) (by first | exact List.mem_cons_self | exact List.mem_cons_of_mem _ List.mem_cons_self)
    have l1 : List.lookup ("why" : Str) [("why", v)] = some v := lk1
    clear hE hf
    repeat walk_at "s"
    refine q _ _ ?_ (by assumption) ?_
    · walk_at "sames"
    · rw [upd_same]
      rfl
  · skip
    have hE1 : ErAt H x C [("what", v)] := hE
    have n1 : PySem.W.findIn K (.ref C) "what" = some none := hf ("what", v) (by first | exact List.mem_cons_self | exact List.mem_cons_of_mem _ List.mem_cons_self)
    have l1 : List.lookup ("what" : Str) [("what", v)] = some v := lk1
    clear hE hf
    repeat walk_at "s"
    refine q _ _ ?_ (by assumption) ?_
    · walk_at "sames"
    · rw [upd_same]
      rfl
  · skip
    have hE1 : ErAt H x C [("what", v)] := hE
    have n1 : PySem.W.findIn K (.ref C) "what" = some none := hf ("what", v) (by first | exact List.mem_cons_self | exact List.mem_cons_of_mem _ List.mem_cons_self)
    have l1 : List.lookup ("what" : Str) [("what", v)] = some v := lk1
    clear hE hf
    repeat walk_at "s"
    refine q _ _ ?_ (by assumption) ?_
    · walk_at "sames"
    · rw [upd_same]
      rfl
  · skip
    have hE1 : ErAt H x C [("sight", v)] := hE
    have n1 : PySem.W.findIn K (.ref C) "sight" = some none := hf ("sight", v) (by first | exact List.mem_cons_self | exact List.mem_cons_of_mem _ List.mem_cons_self)
    have l1 : List.lookup ("sight" : Str) [("sight", v)] = some v := lk1
    clear hE hf
    repeat walk_at "s"
    refine q _ _ ?_ (by assumption) ?_
    · walk_at "sames"
    · rw [upd_same]
      rfl
  · skip
    have hE1 : ErAt H x C [("sight", u), ("page", v)] := hE
    have n1 : PySem.W.findIn K (.ref C) "page" = some none := hf ("page", v) (by first | exact List.mem_cons_self | exact List.mem_cons_of_mem _ List.mem_cons_self)
    have n2 : PySem.W.findIn K (.ref C) "sight" = some none := hf ("sight", u) List.mem_cons_self
    have l1 : List.lookup ("page" : Str) [("sight", u), ("page", v)] = some v := lk2 (by decide +kernel)
    have l2 : List.lookup ("sight" : Str) [("sight", u), ("page", v)] = some u := lk1
    clear hE hf
    repeat walk_at "s"
    refine q _ _ ?_ (by assumption) ?_
    · walk_at "sames"
    · rw [upd_same]
      rfl
  · skip
    have hE1 : ErAt H x C [("place", u), ("state", v)] := hE
    have n1 : PySem.W.findIn K (.ref C) "state" = some none := hf ("state", v) (by first | exact List.mem_cons_self | exact List.mem_cons_of_mem _ List.mem_cons_self)
    have n2 : PySem.W.findIn K (.ref C) "place" = some none := hf ("place", u) List.mem_cons_self
    have l1 : List.lookup ("state" : Str) [("place", u), ("state", v)] = some v := lk2 (by decide +kernel)
    have l2 : List.lookup ("place" : Str) [("place", u), ("state", v)] = some u := lk1
    clear hE hf
    repeat walk_at "s"
    refine q _ _ ?_ (by assumption) ?_
    · walk_at "sames"
    · rw [upd_same]
      rfl
  · skip
    have hE1 : ErAt H x C [("most", u), ("what", v)] := hE
    have n1 : PySem.W.findIn K (.ref C) "what" = some none := hf ("what", v) (by first | exact List.mem_cons_self | exact List.mem_cons_of_mem _ List.mem_cons_self)
    have n2 : PySem.W.findIn K (.ref C) "most" = some none := hf ("most", u) List.mem_cons_self
    have l1 : List.lookup ("what" : Str) [("most", u), ("what", v)] = some v := lk2 (by decide +kernel)
    have l2 : List.lookup ("most" : Str) [("most", u), ("what", v)] = some u := lk1
    clear hE hf
    repeat walk_at "s"
    refine q _ _ ?_ (by assumption) ?_
    · walk_at "sames"
    · rw [upd_same]
      rfl
  · skip
    have hE1 : ErAt H x C [("word", u), ("line", v)] := hE
    have n1 : PySem.W.findIn K (.ref C) "line" = some none := hf ("line", v) (by first | exact List.mem_cons_self | exact List.mem_cons_of_mem _ List.mem_cons_self)
    have n2 : PySem.W.findIn K (.ref C) "word" = some none := hf ("word", u) List.mem_cons_self
    have l1 : List.lookup ("line" : Str) [("word", u), ("line", v)] = some v := lk2 (by decide +kernel)
    have l2 : List.lookup ("word" : Str) [("word", u), ("line", v)] = some u := lk1
    clear hE hf
    repeat walk_at "s"
    refine q _ _ ?_ (by assumption) ?_
    · walk_at "sames"
    · rw [upd_same]
      rfl
  · skip
    have hE1 : ErAt H x C [("error", u), ("line", v)] := hE
    have n1 : PySem.W.findIn K (.ref C) "line" = some none := hf ("line", v) (by first | exact List.mem_cons_self | exact List.mem_cons_of_mem _ List.mem_cons_self)
    have n2 : PySem.W.findIn K (.ref C) "error" = some none := hf ("error", u) List.mem_cons_self
    have l1 : List.lookup ("line" : Str) [("error", u), ("line", v)] = some v := lk2 (by decide +kernel)
    have l2 : List.lookup ("error" : Str) [("error", u), ("line", v)] = some u := lk1
    clear hE hf
    repeat walk_at "s"
    refine q _ _ ?_ (by assumption) ?_
    · walk_at "sames"
    · rw [upd_same]
      rfl
  · skip
    repeat walk_at "s"
    refine q _ _ ?_ (by assumption) ?_
    · walk_at "sames"
    · rw [upd_same]
      rfl
  · skip
    repeat walk_at "s"
    refine q _ _ ?_ (by assumption) ?_
    · walk_at "sames"
    · rw [upd_same]
      rfl
end
end K00

namespace K00
open PySem PySem.Spec PyProof.Rows L2 MyL
theorem dp_bls {K : PySem.W.Frag} {H : Hp} : ∀ bs : List Bool, DpAll K H (bs.map V.bl) (bs.map PyData.bool)
  | [] => .nil
  | b :: bs => .cons (.bl b) (dp_bls bs)
theorem lay_bls : ∀ bs : List Bool, PyData.canLayAll0 (bs.map PyData.bool) = true
  | [] => rfl
  | b :: bs => by simp only [List.map_cons, PyData.canLayAll0, PyData.canLay0, lay_bls bs, Bool.and_self]
theorem deep_bls : ∀ bs : List Bool, PyData.depthAll (bs.map PyData.bool) = 0
  | [] => rfl
  | b :: bs => by
    simp only [List.map_cons, PyData.depthAll, PyData.depth, deep_bls bs]
    rfl
theorem shaped_bls (bs : List Bool) : SeqAt.shaped (.list (bs.map PyData.bool)) = true := by
  unfold SeqAt.shaped
  simp only [PyData.canLay0, lay_bls, PyData.depth, deep_bls]
  rfl
theorem eqv_bls : ∀ bs : List Bool, PyData.eqvAll (bs.map PyData.bool) (bs.map PyData.bool) = true
  | [] => rfl
  | b :: bs => by simp only [List.map_cons, PyData.eqvAll, PyData.eqv, eqv_bls bs, beq_self_eq_true, Bool.and_self]
def veT : List Value := [.type "ValueError", .type "Exception", .type "BaseException", .type "object"]
def tailAt (A : Adr) (i : Nat) : List Value := if 21 ≤ i ∧ i < 27 then .ref A.c_Missing :: .ref A.c_DimError :: veT else .ref A.c_DimError :: veT
theorem ref_beq (a b : Addr) : (Value.ref a == Value.ref b) = decide (a = b) := by
  rw [Bool.eq_iff_iff, beq_iff_eq, decide_eq_true_iff]
  exact ⟨fun h => Value.ref.inj h, fun h => by rw [h]⟩
theorem ref_ty (a : Addr) (n : String) : (Value.ref a == Value.type n) = false := by
  rw [Bool.eq_false_iff]
  exact fun z => nomatch (beq_iff_eq.mp z)
theorem ty_ref (a : Addr) (n : String) : (Value.type n == Value.ref a) = false := by
  rw [Bool.eq_false_iff]
  exact fun z => nomatch (beq_iff_eq.mp z)
theorem ve_ref (a : Addr) : veT.contains (.ref a) = false := by
  unfold veT
  simp only [List.contains_cons, ref_ty, List.contains_nil, Bool.or_false]
section
variable {K : PySem.W.Frag} {mg : Str → Option Value} {A : Adr}
theorem kin_is (A : Adr) : kinL A = (List.range 40).map (clsAt A) := rfl
theorem cls_mem {i : Nat} (hi : i < 40) : clsAt A i ∈ kinL A := by
  rw [kin_is]
  exact List.mem_map_of_mem (List.mem_range.mpr hi)
theorem cls_inj (T : Txt K mg A) {i j : Nat} (hi : i < 40) (hj : j < 40) (e : clsAt A i = clsAt A j) : i = j := by
  have nd : (kinL A).Nodup := (List.nodup_cons.mp (List.nodup_cons.mp T.nd).2).2
  rw [kin_is] at nd
  have h := List.pairwise_iff_getElem.mp nd
  have l : ((List.range 40).map (clsAt A)).length = 40 := by rw [List.length_map, List.length_range]
  rcases Nat.lt_trichotomy i j with c | c | c
  · have z := h i j (by omega) (by omega) c
    simp only [List.getElem_map, List.getElem_range] at z
    exact absurd e z
  · exact c
  · have z := h j i (by omega) (by omega) c
    simp only [List.getElem_map, List.getElem_range] at z
    exact absurd e.symm z
theorem cls_dim (T : Txt K mg A) {i : Nat} (hi : i < 40) : clsAt A i ≠ A.c_DimError := fun e => (List.nodup_cons.mp T.nd).1 (List.mem_cons_of_mem _ (e ▸ cls_mem hi))
theorem cls_mis (T : Txt K mg A) {i : Nat} (hi : i < 40) : clsAt A i ≠ A.c_Missing := fun e => (List.nodup_cons.mp (List.nodup_cons.mp T.nd).2).1 (e ▸ cls_mem hi)
theorem dim_mis (T : Txt K mg A) : A.c_DimError ≠ A.c_Missing := fun e => (List.nodup_cons.mp T.nd).1 (e ▸ List.mem_cons_self)
theorem tail_cls (T : Txt K mg A) (i : Nat) {j : Nat} (hj : j < 40) : (tailAt A i).contains (.ref (clsAt A j)) = false := by
  unfold tailAt
  split
  · simp only [List.contains_cons, ref_beq, ve_ref, Bool.or_false]
    rw [decide_eq_false (cls_mis T hj), decide_eq_false (cls_dim T hj)]
    rfl
  · simp only [List.contains_cons, ref_beq, ve_ref, Bool.or_false]
    rw [decide_eq_false (cls_dim T hj)]
theorem kin_bools (T : Txt K mg A) {i : Nat} (hi : i < 40) : ((kinL A).map fun D => V.bl ((Value.ref (clsAt A i) :: tailAt A i).contains (.ref D))) = ((List.range 40).map fun j => decide (i = j)).map V.bl := by
  rw [kin_is, List.map_map, List.map_map]
  refine List.map_congr_left fun j hj => ?_
  have hj' := List.mem_range.mp hj
  show V.bl ((Value.ref (clsAt A i) :: tailAt A i).contains (.ref (clsAt A j))) = V.bl (decide (i = j))
  rw [List.contains_cons, tail_cls T i hj', Bool.or_false, ref_beq]
  congr 1
  rw [Bool.eq_iff_iff, decide_eq_true_iff, decide_eq_true_iff]
  exact ⟨fun e => (cls_inj T hj' hi e).symm, fun e => by rw [e]⟩
theorem has_dim (i : Nat) : ((Value.ref (clsAt A i) :: tailAt A i).contains (.ref A.c_DimError)) = true := by
  unfold tailAt
  split <;> simp only [List.contains_cons, ref_beq, decide_true, Bool.or_true, Bool.true_or]
theorem has_mis (T : Txt K mg A) {i : Nat} (hi : i < 40) : ((Value.ref (clsAt A i) :: tailAt A i).contains (.ref A.c_Missing)) = decide (21 ≤ i ∧ i < 27) := by
  unfold tailAt
  split
  · rename_i h
    rw [decide_eq_true h]
    simp only [List.contains_cons, ref_beq, decide_true, Bool.or_true, Bool.true_or]
  · rename_i h
    rw [decide_eq_false h]
    simp only [List.contains_cons, ref_beq, ve_ref, Bool.or_false]
    rw [decide_eq_false (cls_mis T hi).symm, decide_eq_false (dim_mis T).symm]
    rfl
theorem has_ve (i : Nat) : ((Value.ref (clsAt A i) :: tailAt A i).contains (.type "ValueError")) = true := by
  have h : veT.contains (.type "ValueError") = true := by decide +kernel
  unfold tailAt
  split <;> simp only [List.contains_cons, h, Bool.or_true]
theorem has_not (i : Nat) {n : String} (h : veT.contains (.type n) = false) : ((Value.ref (clsAt A i) :: tailAt A i).contains (.type n)) = false := by
  unfold tailAt
  split <;> simp only [List.contains_cons, h, ty_ref, Bool.or_false]
end
def spStands (K : PySem.W.Frag) (A : Adr) : Sp := fun vs H Q _ => ∃ (x : Addr) (i : Nat) (fs : List (Str × V)), vs = [.ref x, .int i] ∧ i < 40 ∧ ErAt H x (clsAt A i) fs ∧ ExcC K (clsAt A i) ∧ MroAt K (clsAt A i) (.ref (clsAt A i) :: tailAt A i) ∧ ∀ H', Same H H' → Q (.bl true) H'
section
variable {P : Program} {w : World} {K : PySem.W.Frag} {mg : Str → Option Value} {base : Heap} {A : Adr}
local macro_rules | `(tactic| walk_at "sames") => `(tactic| repeat (first
  | exact Same.refl _
  | refine Same.new ?_ (by assumption)
  | refine Same.trans ?_ (by assumption)))
local macro_rules | `(tactic| walk_at "ne") => `(tactic| first
  | assumption
  | exact Ne.symm (by assumption)
  | exact ne_new (by assumption) (by walk_at "look")
  | exact ne_new' (by assumption) (by walk_at "look")
  | exact ne_of (by walk_at "look") (by walk_at "look") (by intro z; cases z))
local macro_rules | `(tactic| walk_at "look") => `(tactic| first
  | assumption
  | exact upd_same
  | (refine upd_new (by assumption) ?_
     walk_at "look")
  | (refine (upd_ne ?_).trans ?_
     · walk_at "ne"
     · walk_at "look")
  | (refine Kp.get (by assumption) ?_ ?_
     · walk_at "ne"
     · walk_at "look")
  | (refine Same.get (by assumption) ?_
     walk_at "look"))
local macro_rules | `(tactic| walk_at "lenv") => `(tactic| first
  | exact Or.inl ⟨_, SqL.of (by walk_at "look"), rfl⟩
  | exact Or.inr ⟨_, SqT.of (by walk_at "look"), rfl⟩
  | exact ⟨line_le (by omega), rfl⟩)
local macro_rules | `(tactic| walk_at "cond") => `(tactic| first
  | assumption
  | rfl
  | exact Nat.zero_le _
  | exact Nat.le_of_ble_eq_true rfl
  | decide
  | omega
  | exact line_lt (by (try simp only [List.length_map, List.length_append, List.length_cons, List.length_nil]); omega)
  | exact line_le (by (try simp only [List.length_map, List.length_append, List.length_cons, List.length_nil]); omega)
  | (dsimp only; omega)
  | exact ⟨by decide, by decide⟩
  | exact ⟨by decide, by decide, by decide⟩
  | exact Or.inl ⟨by decide, by decide⟩
  | exact Or.inl ⟨by omega, by omega⟩
  | exact Or.inr ⟨by omega, by omega⟩)
local macro_rules | `(tactic| walk_at "kit") => `(tactic| first | assumption | exact kit_NoneType_int | exact kit_NoneType_bool | exact kit_NoneType_str | exact kit_NoneType_list | exact kit_NoneType_tuple | exact kit_NoneType_dict | exact kit_bool_int | exact kit_bool_bool | exact kit_bool_str | exact kit_bool_list | exact kit_bool_tuple | exact kit_bool_dict | exact kit_int_int | exact kit_int_bool | exact kit_int_str | exact kit_int_list | exact kit_int_tuple | exact kit_int_dict | exact kit_str_int | exact kit_str_bool | exact kit_str_str | exact kit_str_list | exact kit_str_tuple | exact kit_str_dict | exact kit_list_int | exact kit_list_bool | exact kit_list_str | exact kit_list_list | exact kit_list_tuple | exact kit_list_dict | exact kit_tuple_int | exact kit_tuple_bool | exact kit_tuple_str | exact kit_tuple_list | exact kit_tuple_tuple | exact kit_tuple_dict | exact kit_dict_int | exact kit_dict_bool | exact kit_dict_str | exact kit_dict_list | exact kit_dict_tuple | exact kit_dict_dict)
local macro_rules | `(tactic| walk_at "ty") => `(tactic| first | assumption | exact tyx_str | exact tyx_int | exact tyx_bl | exact tyx_non | exact tyx_lst (by walk_at "look") | exact tyx_tup (by walk_at "look") | exact tyx_dK (by walk_at "look"))
local macro_rules | `(tactic| walk_at "s") => `(tactic| first
  | refine ⟨_, rfl, ?_⟩
  | refine ⟨_, _, rfl, rfl, ?_⟩
  | refine ⟨_, _, _, _, rfl, rfl, SqL.of (by walk_at "look"), by rfl, ?_⟩
  | refine ⟨_, _, _, _, rfl, rfl, SqT.of (by walk_at "look"), by rfl, ?_⟩
  | refine ⟨_, _, _, _, rfl, rfl, by walk_at "look", by rfl, ?_⟩
  | refine ⟨_, _, rfl, by walk_at "lenv", ?_⟩
  | refine Or.inl ⟨_, rfl, ?_⟩
  | refine ⟨_, _, _, _, _, rfl, ClsV.ty _, by walk_at "ty", by walk_at "kit", ?_⟩
  | refine And.intro (by walk_at "cond") ?_
  | refine ⟨_, _, rfl, SqT.of (by walk_at "look"), rfl, ?_⟩
  | refine ⟨_, _, rfl, SqL.of (by walk_at "look"), rfl, ?_⟩
  | refine And.intro (Or.inl ⟨rfl, _, SqL.of (by walk_at "look")⟩) ?_
  | refine ⟨_, _, _, rfl, rfl, by walk_at "look", by walk_at "cond", ?_⟩
  | refine ⟨_, _, _, _, rfl, rfl, by walk_at "look", by walk_at "look", by walk_at "cond", ?_⟩
  | refine And.intro ⟨_, rfl⟩ ?_
  | refine And.intro ⟨_, SqL.of (by walk_at "look")⟩ ?_
  | refine ⟨_, _, rfl, SqL.of (by walk_at "look"), ?_⟩
  | refine ⟨_, _, rfl, (by assumption : SqL _ _ _ _), ?_⟩
  | refine ⟨_, by walk_at "look", by walk_at "cond", ?_⟩
  | refine ⟨_, _, rfl, Or.inr (SqT.of (by walk_at "look")), ?_⟩
  | refine ⟨_, _, rfl, Or.inl (SqL.of (by walk_at "look")), ?_⟩
  | refine ⟨_, _, rfl, ?_⟩
  | refine ⟨_, _, _, rfl, by walk_at "look", by assumption, ?_⟩
  | refine ⟨_, _, true, _, _, rfl, rfl, ClsV.own _, kit_own (by assumption) (by assumption), rfl, by walk_at "look", ?_⟩
  | refine ⟨_, _, _, _, rfl, ErAt.same (by assumption) (by walk_at "sames"), by assumption, by assumption, ?_⟩
  | refine ⟨_, _, _, _, rfl, ErAt.same (by assumption) (by walk_at "sames"), by assumption, by assumption, by assumption, ?_⟩
  | refine if_t (by first | rfl | assumption | decide) ?_
  | refine if_f (by assumption) ?_
  | refine if_f (by first | decide | exact Bool.false_ne_true) ?_
  | refine fun (_ : _ ≠ sysModules) => ?_
  | refine fun (_ : ErAt _ _ _ _) => ?_
  | refine fun _ _ => ?_)

theorem ok_l_stands_right (T : Txt K mg A) : FnG P w K mg base CX0 2 A.l_stands_right (spStands K A) := by
  obtain ⟨fd, F⟩ := T.F_l_stands_right
  refine Fun_okN F sc_l_stands_right (fun vs H Q E h => ?_) (fun _ _ _ _ _ _ us hl => match us, hl with | [_, _], _ => rfl) (fun cdv A' outer s H vs Q E hr hg h => ?_)
  · obtain ⟨_, _, _, rfl, _⟩ := h
    rfl
  obtain ⟨x, i, fs, rfl, hi, hE, hT, hM, q⟩ := h
  refine ⟨_, ((pss_cons (ps_if (pt_cmpR (op_neD hr.units) (pe_callGd (ok_l_kin T) (hr.mono (by decide)) hg rfl T.m_l_kin T.k_l_kin pass0 (pa_cons (pv 0) pa_nil)) (pe_lc (own := [(("_law_at" : PySem.Str), 2)]) rfl sc_l_stands_right.nd (pi_range1 (by rfl) T.n_range (pa_cons pe_int pa_nil)) (blkOk_by (own := [(("_law_at" : PySem.Str), 2)]) (N := [("_law_error" : PySem.Str), ("_law_place" : PySem.Str), ("_law_at" : PySem.Str)]) (sc := defScope s_l_stands_right) (by decide +kernel)) (fun _ _ _ _ _ => (pg_name (i := 2) sc_l_stands_right.nd rfl (Or.inl rfl))) (fun _ _ _ _ _ => pts_nil) (fun _ _ _ _ _ => (pe_cmpR op_eq (pv 1) (pv 2) (nomark _)))) (nomark _)) (pss_one (ps_ret pe_bl)) pss_nil)
    (pss_cons (ps_if (PW.pt (pw_or (pt_not (pt_val (pe_callB (call_isXD T.E_DimError) (by rfl) T.n_isinstance (by decide +kernel) (pa_cons (pv 0) (pa_cons (pe_glob (v := .ref A.c_DimError) (u := .ref A.c_DimError) rfl T.m_DimError rfl) pa_nil))))) (pw_or1 (pt_not (pt_val (pe_callB (call_isXT (N := "ValueError") (by decide +kernel)) (by rfl) T.n_isinstance (by decide +kernel) (pa_cons (pv 0) (pa_cons (pe_bltn (v := .ty "ValueError") (u := .type "ValueError") (by rfl) T.n_ValueError (by decide +kernel) rfl) pa_nil)))))))) (pss_one (ps_ret pe_bl)) pss_nil)
    (pss_cons (ps_if (pt_cmpR op_ne (pe_callB (call_isXD T.E_Missing.toErrC) (by rfl) T.n_isinstance (by decide +kernel) (pa_cons (pv 0) (pa_cons (pe_glob (v := .ref A.c_Missing) (u := .ref A.c_Missing) rfl T.m_Missing rfl) pa_nil))) (pe_chain op_le op_lt pe_int (pv 1) pe_int) (nomark _)) (pss_one (ps_ret pe_bl)) pss_nil)
    (pss_cons (ps_if (PW.pt (pw_or (pt_val (pe_callB (call_isXT (N := "LookupError") (by decide +kernel)) (by rfl) T.n_isinstance (by decide +kernel) (pa_cons (pv 0) (pa_cons (pe_bltn (v := .ty "LookupError") (u := .type "LookupError") (by rfl) T.n_LookupError (by decide +kernel) rfl) pa_nil)))) (pw_or (pt_val (pe_callB (call_isXT (N := "TypeError") (by decide +kernel)) (by rfl) T.n_isinstance (by decide +kernel) (pa_cons (pv 0) (pa_cons (pe_bltn (v := .ty "TypeError") (u := .type "TypeError") (by rfl) T.n_TypeError (by decide +kernel) rfl) pa_nil)))) (pw_or1 (pt_val (pe_callB (call_isXT (N := "ArithmeticError") (by decide +kernel)) (by rfl) T.n_isinstance (by decide +kernel) (pa_cons (pv 0) (pa_cons (pe_bltn (v := .ty "ArithmeticError") (u := .type "ArithmeticError") (by rfl) T.n_ArithmeticError (by decide +kernel) rfl) pa_nil)))))))) (pss_one (ps_ret pe_bl)) pss_nil)
    (pss_one (ps_ret (pe_and (pe_not (pe_callB (call_isXT (N := "RuntimeError") (by decide +kernel)) (by rfl) T.n_isinstance (by decide +kernel) (pa_cons (pv 0) (pa_cons (pe_bltn (v := .ty "RuntimeError") (u := .type "RuntimeError") (by rfl) T.n_RuntimeError (by decide +kernel) rfl) pa_nil)))) (pe_one (pe_not (pe_callB (call_isXT (N := "AttributeError") (by decide +kernel)) (by rfl) T.n_isinstance (by decide +kernel) (pa_cons (pv 0) (pa_cons (pe_bltn (v := .ty "AttributeError") (u := .type "AttributeError") (by rfl) T.n_AttributeError (by decide +kernel) rfl) pa_nil))))))))))))), ?_⟩
  repeat walk_at "s"
  refine Iv.mk ⟨x, _, fs, _, rfl, hE, hT, hM, fun H1 p1 S1 hp1 => ?_⟩
  repeat walk_at "s"
  rename_i D hD
  have hE1 := hE.same S1
  refine lc_it walk_range (fun j H' => Iv (Same H1 H' ∧ H' D = some (.lst (((List.range j).map fun k => decide (i = k)).map V.bl))))
    (Iv.mk ⟨Same.new (Same.refl H1) hD, upd_same⟩) (fun _ _ _ _ => trivial) ?_ ?_
  · rintro j y H2 H3 hj hI ⟨rfl, rfl⟩
    obtain ⟨S2, h2⟩ := hI.out
    have hj40 : j < 40 := hj
    repeat walk_at "s"
    refine ⟨_, h2, line_lt (by simp only [List.length_map, List.length_range]; omega), ?_⟩
    refine Iv.mk ⟨Same.put S2 hD, ?_⟩
    have ei : decide (V.int (i : Int) = V.int (0 + (j : Int))) = decide (i = j) := by
      rw [Bool.eq_iff_iff, decide_eq_true_iff, decide_eq_true_iff]
      exact ⟨fun h => by have := V.int.inj h; omega, fun h => by rw [h, Int.zero_add]⟩
    rw [upd_same, List.range_succ, List.map_append, List.map_append]
    show some (HO.lst (_ ++ [V.bl (decide (V.int (i : Int) = V.int (0 + (j : Int))))])) = _
    rw [ei]
    rfl
  · intro H2 hI
    obtain ⟨S2, h2⟩ := hI.out
    have e40 : (Int.toNat 40) = 40 := rfl
    rw [e40] at h2
    rw [kin_bools T hi] at hp1
    have hp2 := S2 _ _ hp1
    have hE2 := hE1.same S2
    refine ⟨.list (((List.range 40).map fun j => decide (i = j)).map PyData.bool), .list (((List.range 40).map fun j => decide (i = j)).map PyData.bool), .lst (SqL.of hp2) (dp_bls _), .lst (SqL.of h2) (dp_bls _), shaped_bls _, shaped_bls _, ?_⟩
    have ev : PyData.eqv (.list (((List.range 40).map fun j => decide (i = j)).map PyData.bool)) (.list (((List.range 40).map fun j => decide (i = j)).map PyData.bool)) = true := eqv_bls _
    rw [ev]
    clear ev hp2 h2 hp1
    repeat walk_at "s"
    rw [has_dim]
    repeat walk_at "s"
    rw [has_ve]
    repeat walk_at "s"
    rw [has_mis T hi]
    have cs : (21 ≤ i ∧ i < 27) ∨ (21 ≤ i ∧ ¬ i < 27) ∨ ¬ 21 ≤ i := by omega
    have fin : ∀ H', Same H2 H' → Q (.bl true) H' := fun H' S => q H' (S1.trans (S2.trans S))
    have x1 : veT.contains (.type "LookupError") = false := by decide +kernel
    have x2 : veT.contains (.type "TypeError") = false := by decide +kernel
    have x3 : veT.contains (.type "ArithmeticError") = false := by decide +kernel
    have x4 : veT.contains (.type "RuntimeError") = false := by decide +kernel
    have x5 : veT.contains (.type "AttributeError") = false := by decide +kernel
    rcases cs with ⟨c1, c2⟩ | ⟨c1, c2⟩ | c1
    · have d1 : decide (21 ≤ (i : Int)) = true := decide_eq_true (by omega)
      have d2 : decide ((i : Int) < 27) = true := decide_eq_true (by omega)
      rw [decide_eq_true (show 21 ≤ i ∧ i < 27 from ⟨c1, c2⟩)]
      repeat walk_at "s"
      refine if_f (by simp [d2]) ?_
      repeat walk_at "s"
      rw [has_not i x1]
      repeat walk_at "s"
      rw [has_not i x2]
      repeat walk_at "s"
      rw [has_not i x3]
      repeat walk_at "s"
      rw [has_not i x4]
      repeat walk_at "s"
      rw [has_not i x5]
      repeat walk_at "s"
      exact fin _ (Same.refl _)
    · have d1 : decide (21 ≤ (i : Int)) = true := decide_eq_true (by omega)
      have d2 : decide ((i : Int) < 27) = false := decide_eq_false (by omega)
      rw [decide_eq_false (show ¬ (21 ≤ i ∧ i < 27) from fun h => c2 h.2)]
      repeat walk_at "s"
      refine if_f (by simp [d2]) ?_
      repeat walk_at "s"
      rw [has_not i x1]
      repeat walk_at "s"
      rw [has_not i x2]
      repeat walk_at "s"
      rw [has_not i x3]
      repeat walk_at "s"
      rw [has_not i x4]
      repeat walk_at "s"
      rw [has_not i x5]
      repeat walk_at "s"
      exact fin _ (Same.refl _)
    · have d1 : ¬ (decide (21 ≤ (i : Int)) = true) := by simpa using by omega
      rw [decide_eq_false (show ¬ (21 ≤ i ∧ i < 27) from fun h => c1 h.1)]
      repeat walk_at "s"
      rw [has_not i x1]
      repeat walk_at "s"
      rw [has_not i x2]
      repeat walk_at "s"
      rw [has_not i x3]
      repeat walk_at "s"
      rw [has_not i x4]
      repeat walk_at "s"
      rw [has_not i x5]
      repeat walk_at "s"
      exact fin _ (Same.refl _)
end
end K00

namespace K00
open PySem PySem.Spec PyProof.Rows L2 MyL
theorem cls_facts {K : PySem.W.Frag} {mg : Str → Option Value} {A : Adr} (T : Txt K mg A) (v u : V) : ∀ i, i < 40 → XfC K (clsAt A i) ∧ ExcC K (clsAt A i) ∧ MroAt K (clsAt A i) (.ref (clsAt A i) :: tailAt A i) ∧ ∀ p ∈ fsAt i v u, PySem.W.findIn K (.ref (clsAt A i)) p.1 = some none
  | 0, _ => ⟨T.E_BadWorld.toErrC.x, T.E_BadWorld.toErrC.e, T.M_BadWorld, fun p hp => by rw [List.mem_singleton.mp (show p ∈ [(("part" : Str), v)] from hp)]; exact T.E_BadWorld.f1⟩
  | 1, _ => ⟨T.E_BadBlur.toErrC.x, T.E_BadBlur.toErrC.e, T.M_BadBlur, fun p hp => by rw [List.mem_singleton.mp (show p ∈ [(("part" : Str), v)] from hp)]; exact T.E_BadBlur.f1⟩
  | 2, _ => ⟨T.E_BadWatch.toErrC.x, T.E_BadWatch.toErrC.e, T.M_BadWatch, fun p hp => by rw [List.mem_singleton.mp (show p ∈ [(("part" : Str), v)] from hp)]; exact T.E_BadWatch.f1⟩
  | 3, _ => ⟨T.E_BadTask.toErrC.x, T.E_BadTask.toErrC.e, T.M_BadTask, fun p hp => by rw [List.mem_singleton.mp (show p ∈ [(("part" : Str), v)] from hp)]; exact T.E_BadTask.f1⟩
  | 4, _ => ⟨T.E_BadStanding.toErrC.x, T.E_BadStanding.toErrC.e, T.M_BadStanding, fun p hp => by rw [List.mem_singleton.mp (show p ∈ [(("part" : Str), v)] from hp)]; exact T.E_BadStanding.f1⟩
  | 5, _ => ⟨T.E_BadTable.toErrC.x, T.E_BadTable.toErrC.e, T.M_BadTable, fun p hp => by rw [List.mem_singleton.mp (show p ∈ [(("part" : Str), v)] from hp)]; exact T.E_BadTable.f1⟩
  | 6, _ => ⟨T.E_BadPlay.toErrC.x, T.E_BadPlay.toErrC.e, T.M_BadPlay, fun p hp => by rw [List.mem_singleton.mp (show p ∈ [(("part" : Str), v)] from hp)]; exact T.E_BadPlay.f1⟩
  | 7, _ => ⟨T.E_BadView.toErrC.x, T.E_BadView.toErrC.e, T.M_BadView, fun p hp => by rw [List.mem_singleton.mp (show p ∈ [(("part" : Str), v)] from hp)]; exact T.E_BadView.f1⟩
  | 8, _ => ⟨T.E_BadLog.toErrC.x, T.E_BadLog.toErrC.e, T.M_BadLog, fun p hp => by rw [List.mem_singleton.mp (show p ∈ [(("part" : Str), v)] from hp)]; exact T.E_BadLog.f1⟩
  | 9, _ => ⟨T.E_BadTree.toErrC.x, T.E_BadTree.toErrC.e, T.M_BadTree, fun p hp => by rw [List.mem_singleton.mp (show p ∈ [(("part" : Str), v)] from hp)]; exact T.E_BadTree.f1⟩
  | 10, _ => ⟨T.E_BadRow.toErrC.x, T.E_BadRow.toErrC.e, T.M_BadRow, fun p hp => by rw [List.mem_singleton.mp (show p ∈ [(("part" : Str), v)] from hp)]; exact T.E_BadRow.f1⟩
  | 11, _ => ⟨T.E_BadGroups.toErrC.x, T.E_BadGroups.toErrC.e, T.M_BadGroups, fun p hp => by rw [List.mem_singleton.mp (show p ∈ [(("part" : Str), v)] from hp)]; exact T.E_BadGroups.f1⟩
  | 12, _ => ⟨T.E_BadWait.toErrC.x, T.E_BadWait.toErrC.e, T.M_BadWait, fun p hp => by rw [List.mem_singleton.mp (show p ∈ [(("part" : Str), v)] from hp)]; exact T.E_BadWait.f1⟩
  | 13, _ => ⟨T.E_BadSmudges.toErrC.x, T.E_BadSmudges.toErrC.e, T.M_BadSmudges, fun p hp => by rw [List.mem_singleton.mp (show p ∈ [(("part" : Str), v)] from hp)]; exact T.E_BadSmudges.f1⟩
  | 14, _ => ⟨T.E_BadRoster.toErrC.x, T.E_BadRoster.toErrC.e, T.M_BadRoster, fun p hp => by rw [List.mem_singleton.mp (show p ∈ [(("part" : Str), v)] from hp)]; exact T.E_BadRoster.f1⟩
  | 15, _ => ⟨T.E_BadFog.toErrC.x, T.E_BadFog.toErrC.e, T.M_BadFog, fun p hp => by rw [List.mem_singleton.mp (show p ∈ [(("part" : Str), v)] from hp)]; exact T.E_BadFog.f1⟩
  | 16, _ => ⟨T.E_BadFront.toErrC.x, T.E_BadFront.toErrC.e, T.M_BadFront, fun p hp => by rw [List.mem_singleton.mp (show p ∈ [(("part" : Str), v)] from hp)]; exact T.E_BadFront.f1⟩
  | 17, _ => ⟨T.E_BadHall.toErrC.x, T.E_BadHall.toErrC.e, T.M_BadHall, fun p hp => by rw [List.mem_singleton.mp (show p ∈ [(("part" : Str), v)] from hp)]; exact T.E_BadHall.f1⟩
  | 18, _ => ⟨T.E_BadStory.toErrC.x, T.E_BadStory.toErrC.e, T.M_BadStory, fun p hp => by rw [List.mem_singleton.mp (show p ∈ [(("part" : Str), v)] from hp)]; exact T.E_BadStory.f1⟩
  | 19, _ => ⟨T.E_BadNumbers.toErrC.x, T.E_BadNumbers.toErrC.e, T.M_BadNumbers, fun p hp => by rw [List.mem_singleton.mp (show p ∈ [(("part" : Str), v)] from hp)]; exact T.E_BadNumbers.f1⟩
  | 20, _ => ⟨T.E_BadPaper.toErrC.x, T.E_BadPaper.toErrC.e, T.M_BadPaper, fun p hp => by rw [List.mem_singleton.mp (show p ∈ [(("part" : Str), v)] from hp)]; exact T.E_BadPaper.f1⟩
  | 21, _ => ⟨T.E_NoState.toErrC.x, T.E_NoState.toErrC.e, T.M_NoState, fun p hp => by rw [List.mem_singleton.mp (show p ∈ [(("name" : Str), v)] from hp)]; exact T.E_NoState.f1⟩
  | 22, _ => ⟨T.E_NoLabel.toErrC.x, T.E_NoLabel.toErrC.e, T.M_NoLabel, fun p hp => by rw [List.mem_singleton.mp (show p ∈ [(("name" : Str), v)] from hp)]; exact T.E_NoLabel.f1⟩
  | 23, _ => ⟨T.E_NoDeed.toErrC.x, T.E_NoDeed.toErrC.e, T.M_NoDeed, fun p hp => by rw [List.mem_singleton.mp (show p ∈ [(("name" : Str), v)] from hp)]; exact T.E_NoDeed.f1⟩
  | 24, _ => ⟨T.E_NoSight.toErrC.x, T.E_NoSight.toErrC.e, T.M_NoSight, fun p hp => by rw [List.mem_singleton.mp (show p ∈ [(("name" : Str), v)] from hp)]; exact T.E_NoSight.f1⟩
  | 25, _ => ⟨T.E_NoWatchState.toErrC.x, T.E_NoWatchState.toErrC.e, T.M_NoWatchState, fun p hp => by rw [List.mem_singleton.mp (show p ∈ [(("name" : Str), v)] from hp)]; exact T.E_NoWatchState.f1⟩
  | 26, _ => ⟨T.E_NoName.toErrC.x, T.E_NoName.toErrC.e, T.M_NoName, fun p hp => by rw [List.mem_singleton.mp (show p ∈ [(("name" : Str), v)] from hp)]; exact T.E_NoName.f1⟩
  | 27, _ => ⟨T.E_Twice.toErrC.x, T.E_Twice.toErrC.e, T.M_Twice, fun p hp => by rw [List.mem_singleton.mp (show p ∈ [(("name" : Str), v)] from hp)]; exact T.E_Twice.f1⟩
  | 28, _ => ⟨T.E_NoTable.toErrC.x, T.E_NoTable.toErrC.e, T.M_NoTable, fun p hp => by rw [List.mem_singleton.mp (show p ∈ [(("number" : Str), v)] from hp)]; exact T.E_NoTable.f1⟩
  | 29, _ => ⟨T.E_NotKept.toErrC.x, T.E_NotKept.toErrC.e, T.M_NotKept, fun p hp => by rw [List.mem_singleton.mp (show p ∈ [(("why" : Str), v)] from hp)]; exact T.E_NotKept.f1⟩
  | 30, _ => ⟨T.E_Unlike.toErrC.x, T.E_Unlike.toErrC.e, T.M_Unlike, fun p hp => by rw [List.mem_singleton.mp (show p ∈ [(("what" : Str), v)] from hp)]; exact T.E_Unlike.f1⟩
  | 31, _ => ⟨T.E_NotNow.toErrC.x, T.E_NotNow.toErrC.e, T.M_NotNow, fun p hp => by rw [List.mem_singleton.mp (show p ∈ [(("what" : Str), v)] from hp)]; exact T.E_NotNow.f1⟩
  | 32, _ => ⟨T.E_NoWay.toErrC.x, T.E_NoWay.toErrC.e, T.M_NoWay, fun p hp => by rw [List.mem_singleton.mp (show p ∈ [(("sight" : Str), v)] from hp)]; exact T.E_NoWay.f1⟩
  | 33, _ => ⟨T.E_NoEntry.toErrC.x, T.E_NoEntry.toErrC.e, T.M_NoEntry, fun p hp => by rcases List.mem_cons.mp (show p ∈ [(("sight" : Str), u), (("page" : Str), v)] from hp) with h | h; (rw [h]; exact T.E_NoEntry.f2); (rw [List.mem_singleton.mp h]; exact T.E_NoEntry.f1)⟩
  | 34, _ => ⟨T.E_Breaks.toErrC.x, T.E_Breaks.toErrC.e, T.M_Breaks, fun p hp => by rcases List.mem_cons.mp (show p ∈ [(("place" : Str), u), (("state" : Str), v)] from hp) with h | h; (rw [h]; exact T.E_Breaks.f2); (rw [List.mem_singleton.mp h]; exact T.E_Breaks.f1)⟩
  | 35, _ => ⟨T.E_TooMany.toErrC.x, T.E_TooMany.toErrC.e, T.M_TooMany, fun p hp => by rcases List.mem_cons.mp (show p ∈ [(("most" : Str), u), (("what" : Str), v)] from hp) with h | h; (rw [h]; exact T.E_TooMany.f2); (rw [List.mem_singleton.mp h]; exact T.E_TooMany.f1)⟩
  | 36, _ => ⟨T.E_BadText.toErrC.x, T.E_BadText.toErrC.e, T.M_BadText, fun p hp => by rcases List.mem_cons.mp (show p ∈ [(("word" : Str), u), (("line" : Str), v)] from hp) with h | h; (rw [h]; exact T.E_BadText.f2); (rw [List.mem_singleton.mp h]; exact T.E_BadText.f1)⟩
  | 37, _ => ⟨T.E_BadLine.toErrC.x, T.E_BadLine.toErrC.e, T.M_BadLine, fun p hp => by rcases List.mem_cons.mp (show p ∈ [(("error" : Str), u), (("line" : Str), v)] from hp) with h | h; (rw [h]; exact T.E_BadLine.f2); (rw [List.mem_singleton.mp h]; exact T.E_BadLine.f1)⟩
  | 38, _ => ⟨T.E_Ended.x, T.E_Ended.e, T.M_Ended, fun p hp => absurd hp List.not_mem_nil⟩
  | 39, _ => ⟨T.E_Nothing.x, T.E_Nothing.e, T.M_Nothing, fun p hp => absurd hp List.not_mem_nil⟩
  | n + 40, h => absurd h (by omega)
theorem ErsAt.len {H : Hp} : ∀ {xs : List Addr} {l : List (Addr × List (Str × V))}, ErsAt H xs l → xs.length = l.length
  | _, _, .nil => rfl
  | _, _, .cons _ h => by rw [List.length_cons, List.length_cons, h.len]
theorem ErsAt.get {H : Hp} : ∀ {xs : List Addr} {l : List (Addr × List (Str × V))} {i : Nat} {x : Addr} {e : Addr × List (Str × V)}, ErsAt H xs l → xs[i]? = some x → l[i]? = some e → ErAt H x e.1 e.2
  | _, _, 0, _, _, .cons h _, h1, h2 => by
    cases h1
    cases h2
    exact h
  | _, _, i + 1, _, _, .cons _ h, h1, h2 => h.get (i := i) h1 h2
theorem ErsAt.same {H H' : Hp} (S : Same H H') : ∀ {xs : List Addr} {l : List (Addr × List (Str × V))}, ErsAt H xs l → ErsAt H' xs l
  | _, _, .nil => .nil
  | _, _, .cons h q => .cons (h.same S) (q.same S)
theorem ErsAt.app {H : Hp} : ∀ {xs ys : List Addr} {l m : List (Addr × List (Str × V))}, ErsAt H xs l → ErsAt H ys m → ErsAt H (xs ++ ys) (l ++ m)
  | _, _, _, _, .nil, h => h
  | _, _, _, _, .cons h q, r => .cons h (q.app r)
/-- data that may be shown -/
def Sm (d : PyData) : Prop := d.showable = true ∧ d.depth ≤ 10 ∧ d.shown.length ≤ 100000
theorem len1 (x : Str) : (listText [x]).length = x.length + 2 := by
  rw [listText_eq_join, strLen_append, strLen_append]
  show 1 + x.length + 1 = x.length + 2
  omega
theorem len2 (x y : Str) : (listText [x, y]).length = x.length + y.length + 4 := by
  rw [listText_eq_join, strLen_append, strLen_append]
  show 1 + (x ++ (", " : Str) ++ y).length + 1 = _
  rw [strLen_append, strLen_append]
  show 1 + (x.length + 2 + y.length) + 1 = _
  omega
theorem sm1 {d : PyData} (h : Sm d) : (PyData.list [d]).showable = true ∧ (PyData.list [d]).depth ≤ 60 ∧ (PyData.list [d]).shown.length ≤ sizeLine := by
  obtain ⟨h1, h2, h3⟩ := h
  refine ⟨by simp only [PyData.showable, PyData.showableAll, h1, Bool.and_self], by simp only [PyData.depth, PyData.depthAll]; omega, ?_⟩
  simp only [PyData.shown, PyData.shownAll, len1]
  exact line_le (by omega)
theorem sm2 {d e : PyData} (h : Sm d) (k : Sm e) : (PyData.list [d, e]).showable = true ∧ (PyData.list [d, e]).depth ≤ 60 ∧ (PyData.list [d, e]).shown.length ≤ sizeLine := by
  obtain ⟨h1, h2, h3⟩ := h
  obtain ⟨k1, k2, k3⟩ := k
  refine ⟨by simp only [PyData.showable, PyData.showableAll, h1, k1, Bool.and_self], by simp only [PyData.depth, PyData.depthAll]; omega, ?_⟩
  simp only [PyData.shown, PyData.shownAll, len2]
  exact line_le (by omega)
theorem sm0 : (PyData.list []).showable = true ∧ (PyData.list []).depth ≤ 60 ∧ (PyData.list []).shown.length ≤ sizeLine := by decide +kernel
def DD (i : Nat) (d e : PyData) : List PyData := if i < 33 then [d] else if i < 38 then [d, e] else []
theorem due_dp {H : Hp} {v u : V} {d e : PyData} (i : Nat) (h : DpX H v d) (k : DpX H u e) : DpXs H (dueL i v u) (DD i d e) := by
  unfold dueL DD
  split
  · exact .cons h .nil
  · split
    · exact .cons h (.cons k .nil)
    · exact .nil
theorem due_sm {d e : PyData} (i : Nat) (h : Sm d) (k : Sm e) : (PyData.list (DD i d e)).showable = true ∧ (PyData.list (DD i d e)).depth ≤ 60 ∧ (PyData.list (DD i d e)).shown.length ≤ sizeLine := by
  unfold DD
  split
  · exact sm1 h
  · split
    · exact sm2 h k
    · exact sm0
def spAll (A : Adr) : Sp := fun vs H Q _ => ∃ (v u : V) (p : Addr) (xs : List Addr) (de : PyData × PyData), vs = [v, u, .ref p] ∧ H p = some (.lst (xs.map V.ref)) ∧ ErsAt H xs (partsL A v ++ othersL A v u) ∧ DpX H v de.1 ∧ DpX H u de.2 ∧ Sm de.1 ∧ Sm de.2 ∧ ∀ H', Same H H' → Q (.bl true) H'
section
variable {P : Program} {w : World} {K : PySem.W.Frag} {mg : Str → Option Value} {base : Heap} {A : Adr}
local macro_rules | `(tactic| walk_at "sames") => `(tactic| repeat (first
  | exact Same.refl _
  | refine Same.new ?_ (by assumption)
  | refine Same.trans ?_ (by assumption)))
local macro_rules | `(tactic| walk_at "ne") => `(tactic| first
  | assumption
  | exact Ne.symm (by assumption)
  | exact ne_new (by assumption) (by walk_at "look")
  | exact ne_new' (by assumption) (by walk_at "look")
  | exact ne_of (by walk_at "look") (by walk_at "look") (by intro z; cases z))
local macro_rules | `(tactic| walk_at "look") => `(tactic| first
  | assumption
  | exact upd_same
  | (refine upd_new (by assumption) ?_
     walk_at "look")
  | (refine (upd_ne ?_).trans ?_
     · walk_at "ne"
     · walk_at "look")
  | (refine Kp.get (by assumption) ?_ ?_
     · walk_at "ne"
     · walk_at "look")
  | (refine Same.get (by assumption) ?_
     walk_at "look"))
local macro_rules | `(tactic| walk_at "lenv") => `(tactic| first
  | exact Or.inl ⟨_, SqL.of (by walk_at "look"), rfl⟩
  | exact Or.inr ⟨_, SqT.of (by walk_at "look"), rfl⟩
  | exact ⟨line_le (by omega), rfl⟩)
local macro_rules | `(tactic| walk_at "cond") => `(tactic| first
  | assumption
  | rfl
  | exact Nat.zero_le _
  | exact Nat.le_of_ble_eq_true rfl
  | decide
  | omega
  | exact line_lt (by (try simp only [List.length_map, List.length_append, List.length_cons, List.length_nil]); omega)
  | exact line_le (by (try simp only [List.length_map, List.length_append, List.length_cons, List.length_nil]); omega)
  | (dsimp only; omega)
  | exact ⟨by decide, by decide⟩
  | exact ⟨by decide, by decide, by decide⟩
  | exact Or.inl ⟨by decide, by decide⟩
  | exact Or.inl ⟨by omega, by omega⟩
  | exact Or.inr ⟨by omega, by omega⟩)
local macro_rules | `(tactic| walk_at "kit") => `(tactic| first | assumption | exact kit_NoneType_int | exact kit_NoneType_bool | exact kit_NoneType_str | exact kit_NoneType_list | exact kit_NoneType_tuple | exact kit_NoneType_dict | exact kit_bool_int | exact kit_bool_bool | exact kit_bool_str | exact kit_bool_list | exact kit_bool_tuple | exact kit_bool_dict | exact kit_int_int | exact kit_int_bool | exact kit_int_str | exact kit_int_list | exact kit_int_tuple | exact kit_int_dict | exact kit_str_int | exact kit_str_bool | exact kit_str_str | exact kit_str_list | exact kit_str_tuple | exact kit_str_dict | exact kit_list_int | exact kit_list_bool | exact kit_list_str | exact kit_list_list | exact kit_list_tuple | exact kit_list_dict | exact kit_tuple_int | exact kit_tuple_bool | exact kit_tuple_str | exact kit_tuple_list | exact kit_tuple_tuple | exact kit_tuple_dict | exact kit_dict_int | exact kit_dict_bool | exact kit_dict_str | exact kit_dict_list | exact kit_dict_tuple | exact kit_dict_dict)
local macro_rules | `(tactic| walk_at "ty") => `(tactic| first | assumption | exact tyx_str | exact tyx_int | exact tyx_bl | exact tyx_non | exact tyx_lst (by walk_at "look") | exact tyx_tup (by walk_at "look") | exact tyx_dK (by walk_at "look"))
local macro_rules | `(tactic| walk_at "s") => `(tactic| first
  | refine ⟨_, rfl, ?_⟩
  | refine ⟨_, _, rfl, rfl, ?_⟩
  | refine ⟨_, _, _, _, rfl, rfl, SqL.of (by walk_at "look"), by rfl, ?_⟩
  | refine ⟨_, _, _, _, rfl, rfl, SqT.of (by walk_at "look"), by rfl, ?_⟩
  | refine ⟨_, _, _, _, rfl, rfl, by walk_at "look", by rfl, ?_⟩
  | refine ⟨_, _, rfl, by walk_at "lenv", ?_⟩
  | refine Or.inl ⟨_, rfl, ?_⟩
  | refine ⟨_, _, _, _, _, rfl, ClsV.ty _, by walk_at "ty", by walk_at "kit", ?_⟩
  | refine And.intro (by walk_at "cond") ?_
  | refine ⟨_, _, rfl, SqT.of (by walk_at "look"), rfl, ?_⟩
  | refine ⟨_, _, rfl, SqL.of (by walk_at "look"), rfl, ?_⟩
  | refine And.intro (Or.inl ⟨rfl, _, SqL.of (by walk_at "look")⟩) ?_
  | refine ⟨_, _, _, rfl, rfl, by walk_at "look", by walk_at "cond", ?_⟩
  | refine ⟨_, _, _, _, rfl, rfl, by walk_at "look", by walk_at "look", by walk_at "cond", ?_⟩
  | refine And.intro ⟨_, rfl⟩ ?_
  | refine And.intro ⟨_, SqL.of (by walk_at "look")⟩ ?_
  | refine ⟨_, _, rfl, SqL.of (by walk_at "look"), ?_⟩
  | refine ⟨_, _, rfl, (by assumption : SqL _ _ _ _), ?_⟩
  | refine ⟨_, by walk_at "look", by walk_at "cond", ?_⟩
  | refine ⟨_, _, rfl, Or.inr (SqT.of (by walk_at "look")), ?_⟩
  | refine ⟨_, _, rfl, Or.inl (SqL.of (by walk_at "look")), ?_⟩
  | refine ⟨_, _, rfl, ?_⟩
  | refine ⟨_, _, _, rfl, by walk_at "look", by assumption, ?_⟩
  | refine ⟨_, _, true, _, _, rfl, rfl, ClsV.own _, kit_own (by assumption) (by assumption), rfl, by walk_at "look", ?_⟩
  | refine ⟨_, _, _, _, rfl, ErAt.same (by assumption) (by walk_at "sames"), by assumption, by assumption, ?_⟩
  | refine ⟨_, _, _, _, rfl, ErAt.same (by assumption) (by walk_at "sames"), by assumption, by assumption, by assumption, ?_⟩
  | refine if_t (by first | rfl | assumption | decide) ?_
  | refine if_f (by assumption) ?_
  | refine if_f (by first | decide | exact Bool.false_ne_true) ?_
  | refine fun (_ : _ ≠ sysModules) => ?_
  | refine fun (_ : ErAt _ _ _ _) => ?_
  | refine fun _ _ => ?_)

theorem ok_l_all_right (T : Txt K mg A) : FnG P w K mg base CX0 3 A.l_all_right (spAll A) := by
  obtain ⟨fd, F⟩ := T.F_l_all_right
  refine Fun_okN F sc_l_all_right (fun vs H Q E h => ?_) (fun _ _ _ _ _ _ us hl => match us, hl with | [_, _, _], _ => rfl) (fun cdv A' outer s H vs Q E hr hg h => ?_)
  · obtain ⟨_, _, _, _, _, rfl, _⟩ := h
    rfl
  obtain ⟨v, u, p, xs, de, rfl, hp, hx, hd, he, sd, se, q⟩ := h
  have hl : xs.length = 40 := hx.len
  refine ⟨_, ((pss_cons (ps_for PassesOwn.never rfl (pi_enum (by rfl) T.n_enumerate (pa_cons (pv 2) pa_nil)) (pg_tup (by rfl) (pgs_cons (pg_name (i := 3) sc_l_all_right.nd rfl (Or.inl rfl)) (pgs_cons (pg_name (i := 4) sc_l_all_right.nd rfl (Or.inl rfl)) pgs_nil)))
    (pss_cons (ps_set (i := 5) sc_l_all_right.nd rfl (Or.inl rfl) (pe_ifExp (pt_cmpR op_lt (pv 3) pe_int (nomark _)) (pe_lstX (pa_cons (pv 0) pa_nil)) (pe_ifExp (pt_cmpR op_lt (pv 3) pe_int (nomark _)) (pe_lstX (pa_cons (pv 0) (pa_cons (pv 1) pa_nil))) (pe_lstX pa_nil))))
    (pss_one (ps_if (PW.pt (pw_or (pt_cmpR op_ne (pe_callB (call_reprX hg hr.units) (by rfl) T.n_repr (by decide +kernel) (pa_cons (pe_callGd (ok_l_fields T) (hr.mono (by decide)) hg rfl T.m_l_fields T.k_l_fields pass0 (pa_cons (pv 4) (pa_cons (pv 3) pa_nil))) pa_nil)) (pe_callB (call_reprX hg hr.units) (by rfl) T.n_repr (by decide +kernel) (pa_cons (pv 5) pa_nil)) (nomark _)) (pw_or1 (pt_not (pt_val (pe_callGd (ok_l_stands_right T) (hr.mono (by decide)) hg rfl T.m_l_stands_right T.k_l_stands_right pass0 (pa_cons (pv 4) (pa_cons (pv 3) pa_nil)))))))) (pss_one (ps_ret pe_bl)) pss_nil))))
    (pss_one (ps_ret (pe_cmpR op_eq (pe_callB call_len (by rfl) T.n_len (by decide +kernel) (pa_cons (pv 2) pa_nil)) pe_int (nomark _)))))), ?_⟩
  repeat walk_at "s"
  refine for_it (walk_enum (xs := xs.map V.ref)) (fun i σ H' => Iv (∃ v3 v4 v5 : Option V, σ = [some v, some u, some (.ref p), v3, v4, v5] ∧ Same H H')) (Iv.mk ⟨_, _, _, rfl, Same.refl H⟩) (fun i σ H' _ h => ?_) ?_ ?_
  · obtain ⟨_, _, _, _, S⟩ := h.out
    exact SqL.of (S _ _ hp)
  · rintro i y σ H2 H3 hi hI ⟨t, a, b, rfl, ht, rfl, ha, hb⟩
    obtain ⟨v3, v4, v5, rfl, S2⟩ := hI.out
    cases ha
    obtain ⟨x, hxi, rfl⟩ := map_at hb
    have hi40 : i < 40 := by
      rw [List.length_map, hl] at hi
      exact hi
    have hE0 : ErAt H2 x (clsAt A i) (fsAt i v u) := (hx.same S2).get hxi (by rw [all_is, List.getElem?_map, List.getElem?_range hi40] <;> rfl)
    obtain ⟨c1, c2, c3, c4⟩ := cls_facts T v u i hi40
    have hE := hE0.same (Same.new (o := .tup [.int (i : Nat), .ref x]) (Same.refl H2) ht)
    have hd2 := (hd.same S2).same (Same.new (o := .tup [.int (i : Nat), .ref x]) (Same.refl H2) ht)
    have he2 := (he.same S2).same (Same.new (o := .tup [.int (i : Nat), .ref x]) (Same.refl H2) ht)
    have S3 := S2.trans (Same.new (o := .tup [.int (i : Nat), .ref x]) (Same.refl H2) ht)
    have ht3 : upd H2 t (.tup [.int (i : Nat), .ref x]) t = some (.tup [.int (i : Nat), .ref x]) := upd_same
    revert hE hd2 he2 S3 ht3
    generalize upd H2 t (.tup [.int (i : Nat), .ref x]) = H3
    intro hE hd2 he2 S3 ht3
    clear hE0 S2 hI ht
    have cs : i < 33 ∨ (¬ i < 33 ∧ i < 38) ∨ (¬ i < 33 ∧ ¬ i < 38) := by omega
    have main : ∀ (H4 : Hp) (q4 : Addr), Same H3 H4 → q4 ≠ sysModules → H4 q4 = some (.lst (dueL i v u)) → True := fun _ _ _ _ _ => trivial
    rcases cs with k1 | ⟨k1, k2⟩ | ⟨k1, k2⟩
    · have d1 : decide ((i : Int) < 33) = true := decide_eq_true (by omega)
      have ed : dueL i v u = [v] := if_pos k1
      repeat walk_at "s"
      rename_i q5 hq5 hs5
      have S4 : Same H3 (upd H3 q5 _) := Same.new (o := .lst [v]) (Same.refl H3) hq5
      refine Iv.mk ⟨x, clsAt A i, i, v, u, rfl, hi40, hE.same S4, c1, c4, fun H5 p5 S5 n5 hp5 => ?_⟩
      have hq6 : H5 q5 = some (.lst (dueL i v u)) := by
        rw [ed]
        exact S5 _ _ upd_same
      have S35 := S4.trans S5
      have hE5 := hE.same S35
      have hdd5 : DpXs H5 (dueL i v u) (DD i de.1 de.2) := due_dp i (hd2.same S35) (he2.same S35)
      obtain ⟨z1, z2, z3⟩ := due_sm i sd se
      clear ed
      repeat walk_at "s"
      refine ⟨_, .list (DD i de.1 de.2), rfl, .lst hp5 n5 hdd5, z1, z2, z3, ?_⟩
      repeat walk_at "s"
      refine ⟨_, .list (DD i de.1 de.2), rfl, .lst hq6 hs5 hdd5, z1, z2, z3, ?_⟩
      repeat walk_at "s"
      refine if_f (by simp) ?_
      repeat walk_at "s"
      refine Iv.mk ⟨x, i, _, rfl, hi40, hE5, c2, c3, fun H6 S6 => ?_⟩
      repeat walk_at "s"
      exact Iv.mk ⟨_, _, _, rfl, S3.trans (S35.trans S6)⟩
    · have d1 : ¬ (decide ((i : Int) < 33) = true) := by simpa using by omega
      have d2 : decide ((i : Int) < 38) = true := decide_eq_true (by omega)
      have ed : dueL i v u = [v, u] := by
        unfold dueL
        rw [if_neg k1, if_pos k2]
      repeat walk_at "s"
      rename_i q5 hq5 hs5
      have S4 : Same H3 (upd H3 q5 _) := Same.new (o := .lst [v, u]) (Same.refl H3) hq5
      refine Iv.mk ⟨x, clsAt A i, i, v, u, rfl, hi40, hE.same S4, c1, c4, fun H5 p5 S5 n5 hp5 => ?_⟩
      have hq6 : H5 q5 = some (.lst (dueL i v u)) := by
        rw [ed]
        exact S5 _ _ upd_same
      have S35 := S4.trans S5
      have hE5 := hE.same S35
      have hdd5 : DpXs H5 (dueL i v u) (DD i de.1 de.2) := due_dp i (hd2.same S35) (he2.same S35)
      obtain ⟨z1, z2, z3⟩ := due_sm i sd se
      clear ed
      repeat walk_at "s"
      refine ⟨_, .list (DD i de.1 de.2), rfl, .lst hp5 n5 hdd5, z1, z2, z3, ?_⟩
      repeat walk_at "s"
      refine ⟨_, .list (DD i de.1 de.2), rfl, .lst hq6 hs5 hdd5, z1, z2, z3, ?_⟩
      repeat walk_at "s"
      refine if_f (by simp) ?_
      repeat walk_at "s"
      refine Iv.mk ⟨x, i, _, rfl, hi40, hE5, c2, c3, fun H6 S6 => ?_⟩
      repeat walk_at "s"
      exact Iv.mk ⟨_, _, _, rfl, S3.trans (S35.trans S6)⟩
    · have d1 : ¬ (decide ((i : Int) < 33) = true) := by simpa using by omega
      have d2 : ¬ (decide ((i : Int) < 38) = true) := by simpa using by omega
      have ed : dueL i v u = [] := by
        unfold dueL
        rw [if_neg k1, if_neg k2]
      repeat walk_at "s"
      rename_i q5 hq5 hs5
      have S4 : Same H3 (upd H3 q5 _) := Same.new (o := .lst []) (Same.refl H3) hq5
      refine Iv.mk ⟨x, clsAt A i, i, v, u, rfl, hi40, hE.same S4, c1, c4, fun H5 p5 S5 n5 hp5 => ?_⟩
      have hq6 : H5 q5 = some (.lst (dueL i v u)) := by
        rw [ed]
        exact S5 _ _ upd_same
      have S35 := S4.trans S5
      have hE5 := hE.same S35
      have hdd5 : DpXs H5 (dueL i v u) (DD i de.1 de.2) := due_dp i (hd2.same S35) (he2.same S35)
      obtain ⟨z1, z2, z3⟩ := due_sm i sd se
      clear ed
      repeat walk_at "s"
      refine ⟨_, .list (DD i de.1 de.2), rfl, .lst hp5 n5 hdd5, z1, z2, z3, ?_⟩
      repeat walk_at "s"
      refine ⟨_, .list (DD i de.1 de.2), rfl, .lst hq6 hs5 hdd5, z1, z2, z3, ?_⟩
      repeat walk_at "s"
      refine if_f (by simp) ?_
      repeat walk_at "s"
      refine Iv.mk ⟨x, i, _, rfl, hi40, hE5, c2, c3, fun H6 S6 => ?_⟩
      repeat walk_at "s"
      exact Iv.mk ⟨_, _, _, rfl, S3.trans (S35.trans S6)⟩
  · intro σ H2 hI
    obtain ⟨v3, v4, v5, rfl, S2⟩ := hI.out
    have hp2 := S2 _ _ hp
    repeat walk_at "s"
    have e40 : decide (V.int ((xs.map V.ref).length : Nat) = V.int 40) = true := decide_eq_true (by rw [List.length_map, hl] <;> rfl)
    show Q (V.bl (decide (V.int ((xs.map V.ref).length : Nat) = V.int 40))) H2
    rw [e40]
    exact q _ S2
end
end K00

namespace K00
open PySem PySem.Spec PyProof.Rows L2 MyL
def spLaw (K : PySem.W.Frag) : Sp := fun vs H Q _ => ∃ (a : Addr) (ns : List Int), vs = [.ref a] ∧ SqL K H a (ns.map V.int) ∧ ns.length ≤ 63 ∧ ∀ H', Q (.bl true) H'
theorem sm_int {n : Int} (h : n.natAbs ≤ 10 ^ 60 + 1) : Sm (.int n) := by
  refine ⟨?_, by simp only [PyData.depth]; omega, ?_⟩
  · simp only [PyData.showable, decide_eq_true_eq]
    by_cases h0 : n.natAbs = 0
    · rw [h0]
      decide
    · rw [Nat.log2_lt h0]
      exact Nat.lt_of_le_of_lt h (by decide +kernel)
  · simp only [PyData.shown]
    rw [PySem.ofString_length]
    have := int_text_length_le10 (a := n) (k := 61) (by decide) (Nat.lt_of_le_of_lt h (by decide +kernel))
    omega
theorem sm_l1 {n : Int} (h : n.natAbs ≤ 10 ^ 60 + 1) : Sm (.list [.int n]) := by
  obtain ⟨h1, h2, h3⟩ := sm_int h
  refine ⟨by simp only [PyData.showable, PyData.showableAll] at h1 ⊢; rw [h1]; rfl, by simp only [PyData.depth, PyData.depthAll]; omega, ?_⟩
  rw [show (PyData.list [.int n]).shown = listText [(PyData.int n).shown] by simp only [PyData.shown, PyData.shownAll], len1]
  simp only [PyData.shown] at h3 ⊢
  rw [PySem.ofString_length] at h3 ⊢
  have := int_text_length_le10 (a := n) (k := 61) (by decide) (Nat.lt_of_le_of_lt h (by decide +kernel))
  omega
theorem mis_kin {K : PySem.W.Frag} {mg : Str → Option Value} {A : Adr} (T : Txt K mg A) : inV (.bl true) ((kinL A).map fun D => V.bl ((Value.ref A.c_Missing :: .ref A.c_DimError :: veT).contains (.ref D))) = false := by
  have e : ((kinL A).map fun D => V.bl ((Value.ref A.c_Missing :: .ref A.c_DimError :: veT).contains (.ref D))) = (List.range 40).map fun _ => V.bl false := by
    rw [kin_is, List.map_map]
    refine List.map_congr_left fun j hj => ?_
    have hj' := List.mem_range.mp hj
    show V.bl ((Value.ref A.c_Missing :: .ref A.c_DimError :: veT).contains (.ref (clsAt A j))) = V.bl false
    simp only [List.contains_cons, ref_beq, ve_ref, Bool.or_false]
    rw [decide_eq_false (cls_mis T hj'), decide_eq_false (cls_dim T hj')]
    rfl
  rw [e]
  decide +kernel
theorem mis_dim {A : Adr} : ((Value.ref A.c_Missing :: .ref A.c_DimError :: veT).contains (.ref A.c_DimError)) = true := by
  simp only [List.contains_cons, ref_beq, decide_true, Bool.or_true, Bool.true_or]
theorem mis_ve {A : Adr} : ((Value.ref A.c_Missing :: .ref A.c_DimError :: veT).contains (.type "ValueError")) = true := by
  have h : veT.contains (.type "ValueError") = true := by decide +kernel
  simp only [List.contains_cons, h, Bool.or_true]
section
variable {P : Program} {w : World} {K : PySem.W.Frag} {mg : Str → Option Value} {base : Heap} {A : Adr}
local macro_rules | `(tactic| walk_at "sames") => `(tactic| repeat (first
  | exact Same.refl _
  | refine Same.new ?_ (by assumption)
  | refine Same.trans ?_ (by assumption)))
local macro_rules | `(tactic| walk_at "ne") => `(tactic| first
  | assumption
  | exact Ne.symm (by assumption)
  | exact ne_new (by assumption) (by walk_at "look")
  | exact ne_new' (by assumption) (by walk_at "look")
  | exact ne_of (by walk_at "look") (by walk_at "look") (by intro z; cases z))
local macro_rules | `(tactic| walk_at "look") => `(tactic| first
  | assumption
  | exact upd_same
  | (refine upd_new (by assumption) ?_
     walk_at "look")
  | (refine (upd_ne ?_).trans ?_
     · walk_at "ne"
     · walk_at "look")
  | (refine Kp.get (by assumption) ?_ ?_
     · walk_at "ne"
     · walk_at "look")
  | (refine Same.get (by assumption) ?_
     walk_at "look"))
local macro_rules | `(tactic| walk_at "lenv") => `(tactic| first
  | exact Or.inl ⟨_, SqL.of (by walk_at "look"), rfl⟩
  | exact Or.inr ⟨_, SqT.of (by walk_at "look"), rfl⟩
  | exact ⟨line_le (by omega), rfl⟩)
local macro_rules | `(tactic| walk_at "cond") => `(tactic| first
  | assumption
  | rfl
  | exact Nat.zero_le _
  | exact Nat.le_of_ble_eq_true rfl
  | decide
  | omega
  | exact line_lt (by (try simp only [List.length_map, List.length_append, List.length_cons, List.length_nil]); omega)
  | exact line_le (by (try simp only [List.length_map, List.length_append, List.length_cons, List.length_nil]); omega)
  | (dsimp only; omega)
  | exact ⟨by decide, by decide⟩
  | exact ⟨by decide, by decide, by decide⟩
  | exact Or.inl ⟨by decide, by decide⟩
  | exact Or.inl ⟨by omega, by omega⟩
  | exact Or.inr ⟨by omega, by omega⟩)
local macro_rules | `(tactic| walk_at "kit") => `(tactic| first | assumption | exact kit_NoneType_int | exact kit_NoneType_bool | exact kit_NoneType_str | exact kit_NoneType_list | exact kit_NoneType_tuple | exact kit_NoneType_dict | exact kit_bool_int | exact kit_bool_bool | exact kit_bool_str | exact kit_bool_list | exact kit_bool_tuple | exact kit_bool_dict | exact kit_int_int | exact kit_int_bool | exact kit_int_str | exact kit_int_list | exact kit_int_tuple | exact kit_int_dict | exact kit_str_int | exact kit_str_bool | exact kit_str_str | exact kit_str_list | exact kit_str_tuple | exact kit_str_dict | exact kit_list_int | exact kit_list_bool | exact kit_list_str | exact kit_list_list | exact kit_list_tuple | exact kit_list_dict | exact kit_tuple_int | exact kit_tuple_bool | exact kit_tuple_str | exact kit_tuple_list | exact kit_tuple_tuple | exact kit_tuple_dict | exact kit_dict_int | exact kit_dict_bool | exact kit_dict_str | exact kit_dict_list | exact kit_dict_tuple | exact kit_dict_dict)
local macro_rules | `(tactic| walk_at "ty") => `(tactic| first | assumption | exact tyx_str | exact tyx_int | exact tyx_bl | exact tyx_non | exact tyx_lst (by walk_at "look") | exact tyx_tup (by walk_at "look") | exact tyx_dK (by walk_at "look"))
local macro_rules | `(tactic| walk_at "s") => `(tactic| first
  | refine ⟨_, rfl, ?_⟩
  | refine ⟨_, _, rfl, rfl, ?_⟩
  | refine ⟨_, _, _, _, rfl, rfl, SqL.of (by walk_at "look"), by rfl, ?_⟩
  | refine ⟨_, _, _, _, rfl, rfl, SqT.of (by walk_at "look"), by rfl, ?_⟩
  | refine ⟨_, _, _, _, rfl, rfl, by walk_at "look", by rfl, ?_⟩
  | refine ⟨_, _, rfl, by walk_at "lenv", ?_⟩
  | refine Or.inl ⟨_, rfl, ?_⟩
  | refine ⟨_, _, _, _, _, rfl, ClsV.ty _, by walk_at "ty", by walk_at "kit", ?_⟩
  | refine And.intro (by walk_at "cond") ?_
  | refine ⟨_, _, rfl, SqT.of (by walk_at "look"), rfl, ?_⟩
  | refine ⟨_, _, rfl, SqL.of (by walk_at "look"), rfl, ?_⟩
  | refine And.intro (Or.inl ⟨rfl, _, SqL.of (by walk_at "look")⟩) ?_
  | refine ⟨_, _, _, rfl, rfl, by walk_at "look", by walk_at "cond", ?_⟩
  | refine ⟨_, _, _, _, rfl, rfl, by walk_at "look", by walk_at "look", by walk_at "cond", ?_⟩
  | refine And.intro ⟨_, rfl⟩ ?_
  | refine And.intro ⟨_, SqL.of (by walk_at "look")⟩ ?_
  | refine ⟨_, _, rfl, SqL.of (by walk_at "look"), ?_⟩
  | refine ⟨_, _, rfl, (by assumption : SqL _ _ _ _), ?_⟩
  | refine ⟨_, by walk_at "look", by walk_at "cond", ?_⟩
  | refine ⟨_, _, rfl, Or.inr (SqT.of (by walk_at "look")), ?_⟩
  | refine ⟨_, _, rfl, Or.inl (SqL.of (by walk_at "look")), ?_⟩
  | refine ⟨_, _, rfl, ?_⟩
  | refine ⟨_, _, _, rfl, by walk_at "look", by assumption, ?_⟩
  | refine ⟨_, _, true, _, _, rfl, rfl, ClsV.own _, kit_own (by assumption) (by assumption), rfl, by walk_at "look", ?_⟩
  | refine ⟨_, _, _, _, rfl, ErAt.same (by assumption) (by walk_at "sames"), by assumption, by assumption, ?_⟩
  | refine ⟨_, _, _, _, rfl, ErAt.same (by assumption) (by walk_at "sames"), by assumption, by assumption, by assumption, ?_⟩
  | refine if_t (by first | rfl | assumption | decide) ?_
  | refine if_f (by assumption) ?_
  | refine if_f (by first | decide | exact Bool.false_ne_true) ?_
  | refine fun (_ : _ ≠ sysModules) => ?_
  | refine fun (_ : ErAt _ _ _ _) => ?_
  | refine fun _ _ => ?_)

theorem ok_law (T : Txt K mg A) : FnG P w K mg base CX0 4 A.law (spLaw K) := by
  obtain ⟨fd, F⟩ := T.F_law
  refine Fun_okN F sc_law (fun vs H Q E h => ?_) (fun _ _ _ _ _ _ us hl => match us, hl with | [_], _ => rfl) (fun cdv A' outer s H vs Q E hr hg h => ?_)
  · obtain ⟨_, _, rfl, _⟩ := h
    rfl
  obtain ⟨a, ns, rfl, hS, hl, q⟩ := h
  refine ⟨_, ((pss_cons (ps_set (i := 1) sc_law.nd rfl (Or.inl rfl) (pe_callGd (ok_l_spring T) (hr.mono (by decide)) hg rfl T.m_l_spring T.k_l_spring pass0 (pa_cons (pv 0) pa_nil)))
    (pss_cons (ps_set (i := 2) sc_law.nd rfl (Or.inl rfl) (pe_op op_mul (pe_callGd (ok_l_one_of T) (hr.mono (by decide)) hg rfl T.m_l_one_of T.k_l_one_of pass0 (pa_cons (pv 1) (pa_cons (pe_lstX (pa_cons (pe_un un_neg pe_int) (pa_cons pe_int pa_nil))) pa_nil))) (pe_callGd (ok_l_cup T) (hr.mono (by decide)) hg rfl T.m_l_cup T.k_l_cup pass0 (pa_cons (pv 1) (pa_cons (pe_op op_pow pe_int pe_int) pa_nil)))))
    (pss_cons (ps_set (i := 3) sc_law.nd rfl (Or.inl rfl) (pe_lstX (pa_cons pe_non (pa_cons pe_bl (pa_cons (pv 2) (pa_cons pe_str (pa_cons pe_str (pa_cons (pe_tup (pa_cons pe_int (pa_cons pe_str pa_nil))) (pa_cons (pe_lstX (pa_cons (pv 2) pa_nil)) (pa_cons (pe_disp (pps_cons pe_str (pe_lstX (pa_cons pe_int pa_nil)) pps_nil) (by rfl) (by rfl) (fun z => by cases z) (by decide)) pa_nil))))))))))
    (pss_cons (ps_par (i := 4) (j := 5) (by rfl) sc_law.nd rfl rfl (by decide) rfl rfl (pa_cons (pe_callGd (ok_l_one_of T) (hr.mono (by decide)) hg rfl T.m_l_one_of T.k_l_one_of pass0 (pa_cons (pv 1) (pa_cons (pv 3) pa_nil))) (pa_cons (pe_callGd (ok_l_one_of T) (hr.mono (by decide)) hg rfl T.m_l_one_of T.k_l_one_of pass0 (pa_cons (pv 1) (pa_cons (pe_lstX (pa_cons pe_int (pa_cons pe_bl (pa_cons pe_str (pa_cons (pe_lstX pa_nil) (pa_cons (pe_tup pa_nil) (pa_cons (pe_disp (pps_cons pe_int pe_int pps_nil) (by rfl) (by rfl) (fun z => by cases z) (by decide)) (pa_cons (pe_op op_add (pv 2) pe_int) (pa_cons pe_non pa_nil))))))))) pa_nil))) pa_nil)) (by rfl))
    (pss_cons (ps_if (pt_not (pt_val (pe_callGd (ok_l_all_right T) (hr.mono (by decide)) hg rfl T.m_l_all_right T.k_l_all_right pass0 (pa_cons (pv 4) (pa_cons (pv 5) (pa_cons (pe_op op_cat (pe_callGd (ok_l_parts T) (hr.mono (by decide)) hg rfl T.m_l_parts T.k_l_parts pass0 (pa_cons (pv 4) pa_nil)) (pe_callGd (ok_l_others T) (hr.mono (by decide)) hg rfl T.m_l_others T.k_l_others pass0 (pa_cons (pv 4) (pa_cons (pv 5) pa_nil)))) pa_nil)))))) (pss_one (ps_ret pe_bl)) pss_nil)
    (pss_cons (ps_if (pt_not (pt_val (pe_callGd (ok_l_all_right T) (hr.mono (by decide)) hg rfl T.m_l_all_right T.k_l_all_right pass0 (pa_cons (pv 4) (pa_cons (pv 5) (pa_cons (pe_op op_cat (pe_callGd (ok_l_parts_turned T) (hr.mono (by decide)) hg rfl T.m_l_parts_turned T.k_l_parts_turned pass0 (pa_cons (pv 4) pa_nil)) (pe_callGd (ok_l_others_named T) (hr.mono (by decide)) hg rfl T.m_l_others_named T.k_l_others_named pass0 (pa_cons (pv 4) (pa_cons (pv 5) pa_nil)))) pa_nil)))))) (pss_one (ps_ret pe_bl)) pss_nil)
    (pss_cons (ps_for PassesOwn.never rfl (pi_list (pe_lstX (pa_cons (pe_x1 T.E_Missing.o (jn_Missing T) (hr.mono (by decide)) rfl T.m_Missing (pa_cons (pv 4) pa_nil)) (pa_cons (pe_x1k T.E_Missing.o (jn_Missing T) (hr.mono (by decide)) rfl T.m_Missing (pk_cons (pv 4) pk_nil)) pa_nil)))) (pg_name (i := 6) sc_law.nd rfl (Or.inl rfl))
    (pss_cons (ps_if (PW.pt (pw_or (pt_cmpR op_ne (pe_callB (call_reprX hg hr.units) (by rfl) T.n_repr (by decide +kernel) (pa_cons (pe_xo (pv 6)) pa_nil)) (pe_callB (call_reprX hg hr.units) (by rfl) T.n_repr (by decide +kernel) (pa_cons (pv 4) pa_nil)) (nomark _)) (pw_or1 (pt_cmpR op_in_seq pe_bl (pe_callGd (ok_l_kin T) (hr.mono (by decide)) hg rfl T.m_l_kin T.k_l_kin pass0 (pa_cons (pv 6) pa_nil)) (by rfl))))) (pss_one (ps_ret pe_bl)) pss_nil)
    (pss_one (ps_if (PW.pt (pw_or (pt_not (pt_val (pe_callB (call_isXD T.E_DimError) (by rfl) T.n_isinstance (by decide +kernel) (pa_cons (pv 6) (pa_cons (pe_glob (v := .ref A.c_DimError) (u := .ref A.c_DimError) rfl T.m_DimError rfl) pa_nil))))) (pw_or1 (pt_not (pt_val (pe_callB (call_isXT (N := "ValueError") (by decide +kernel)) (by rfl) T.n_isinstance (by decide +kernel) (pa_cons (pv 6) (pa_cons (pe_bltn (v := .ty "ValueError") (u := .type "ValueError") (by rfl) T.n_ValueError (by decide +kernel) rfl) pa_nil)))))))) (pss_one (ps_ret pe_bl)) pss_nil))))
    (pss_one (ps_ret pe_bl)))))))))), ?_⟩
  repeat walk_at "s"
  refine Iv.mk ⟨a, ns, rfl, hS, hl, fun H1 sp0 S1 hp ⟨c, cs, W1⟩ => ?_⟩
  clear hS S1 hp
  repeat walk_at "s"
  rename_i p2 hp2 hs2
  refine Iv.mk ⟨_, _, _, rfl, W1.new hp2, by omega, .inl ⟨p2, _, rfl, (W1.ne hp2).1, upd_same, by show 0 < 2; decide, by show 2 ≤ 1000; decide, fun H2 v hv W2 K2 => ?_⟩⟩
  obtain ⟨sg, rfl, hsg⟩ : ∃ s : Int, v = .int s ∧ (-1 ≤ s ∧ s ≤ 1) := by
    simp only [List.mem_cons, List.not_mem_nil, or_false] at hv
    rcases hv with rfl | rfl
    · exact ⟨_, rfl, by decide⟩
    · exact ⟨_, rfl, by decide⟩
  clear hv K2 W1
  repeat walk_at "s"
  refine Iv.mk ⟨⟨sp0, c, cs⟩, _, _, rfl, W2, by omega, by decide +kernel, by decide +kernel, fun H3 r r0 r1 W3 K3 => ?_⟩
  clear K3 W2
  have hmul : CMul sg r := .inl ⟨by omega, by omega⟩
  have hN : (sg * r).natAbs ≤ 10 ^ 60 := by
    have r2 : r.natAbs ≤ 10 ^ 60 := by
      have r1' : r < (10 : Int) ^ (60 : Nat) := r1
      omega
    rw [Int.natAbs_mul]
    have s1 : sg.natAbs ≤ 1 := by omega
    calc sg.natAbs * r.natAbs ≤ 1 * r.natAbs := Nat.mul_le_mul_right _ s1
      _ = r.natAbs := Nat.one_mul _
      _ ≤ 10 ^ 60 := r2
  repeat walk_at "s"
  rename_i t ht l1 hl1 sl1 d hd l2 hl2 sl2
  have V1 := (W3.new (o := .tup [.int 1, .str "a"]) ht)
  have V2 := V1.new (o := .lst [.int (sg * r)]) hl1
  have V3 := V2.new (o := .dK []) hd
  have V4 := V3.new (o := .lst [.int 1]) hl2
  have n1 := W3.ne ht
  have n2 := V1.ne hl1
  have n3 := V2.ne hd
  have n4 := V3.ne hl2
  have V5 := V4.put (o := .dK [(Sum.inr (Str.ofString "a"), V.ref l2)]) n3
  refine ⟨by walk_at "look", [(Sum.inr (Str.ofString "a"), .ref l2)], rfl, by show 1 ≤ 15; decide, ?_⟩
  repeat walk_at "s"
  rename_i pl hpl spl
  have em : mergeK [] [(Sum.inr (Str.ofString "a"), V.ref l2)] = [(Sum.inr (Str.ofString "a"), V.ref l2)] := rfl
  rw [em] at hpl ⊢
  have V6 := V5.new (o := .lst [.non, .bl true, .int (sg * r), .str "part", .str "", .ref t, .ref l1, .ref d]) hpl
  have n6 := V5.ne hpl
  have d1 : d ≠ l2 := fun z => by
    rw [z, upd_same] at hl2
    cases hl2
  have f2 : upd (upd (upd (upd (upd H3 t (.tup [.int 1, .str "a"])) l1 (.lst [.int (sg * r)])) d (.dK [])) l2 (.lst [.int 1])) d (.dK [(Sum.inr (Str.ofString "a"), V.ref l2)]) l2 = some (.lst [.int 1]) := (upd_ne (Ne.symm d1)).trans upd_same
  refine Iv.mk ⟨⟨sp0, c, cs⟩, _, _, rfl, V6, by omega, .inl ⟨pl, _, rfl, n6.1, upd_same, by show 0 < 8; decide, by show 8 ≤ 1000; decide, fun H5 v hv W5 K5 => ?_⟩⟩
  have ft5 : H5 t = some (.tup [.int 1, .str "a"]) := K5.get n1.1 (by walk_at "look")
  have fa5 : H5 l1 = some (.lst [.int (sg * r)]) := K5.get n2.1 (by walk_at "look")
  have fb5 : H5 l2 = some (.lst [.int 1]) := K5.get n4.1 (upd_new hpl f2)
  have fd5 : H5 d = some (.dK [(Sum.inr (Str.ofString "a"), V.ref l2)]) := K5.get n3.1 (by walk_at "look")
  have m1 := n1.1
  have m2 := n2.1
  have m3 := n3.1
  have m4 := n4.1
  clear K5 V6 V5 V4 V3 V2 V1 n6 n1 n2 n3 n4 f2 d1 em hpl hl2 hd hl1 ht W3
  repeat walk_at "s"
  rename_i la hla sla ta hta da hda
  have V1 := W5.new (o := .lst []) hla
  have V2 := V1.new (o := .tup []) hta
  have V3 := V2.new (o := .dK []) hda
  have n1 := W5.ne hla
  have n2 := V1.ne hta
  have n3 := V2.ne hda
  have V4 := V3.put (o := .dK [(Sum.inl 1, V.int 2)]) n3
  have K1 : Kp sp0 H5 _ := (((Kp.refl sp0 H5).new (o := .lst []) hla).new (o := .tup []) hta).new (o := .dK []) hda
  refine ⟨by walk_at "look", [(Sum.inl 1, .int 2)], rfl, by show 1 ≤ 15; decide, ?_⟩
  repeat walk_at "s"
  rename_i pl2 hpl spl2
  have em : mergeK [] [((Sum.inl 1 : Key), V.int 2)] = [(Sum.inl 1, V.int 2)] := rfl
  rw [em] at hpl ⊢
  have K2 := (K1.put2 (o := .dK [(Sum.inl 1, V.int 2)]) (Kp.free (((Kp.refl sp0 H5).new (o := .lst []) hla).new (o := .tup []) hta) V2.at hda)).new (o := .lst [.int 0, .bl false, .str "task", .ref la, .ref ta, .ref da, .int (sg * r + 1), .non]) hpl
  have V5 := V4.new (o := .lst [.int 0, .bl false, .str "task", .ref la, .ref ta, .ref da, .int (sg * r + 1), .non]) hpl
  have n4 := V4.ne hpl
  refine Iv.mk ⟨⟨sp0, c, cs⟩, _, _, rfl, V5, by omega, .inl ⟨pl2, _, rfl, n4.1, upd_same, by show 0 < 8; decide, by show 8 ≤ 1000; decide, fun H7 u hu W7 K7 => ?_⟩⟩
  have hda5 : H5 da = none := Kp.free (((Kp.refl sp0 H5).new (o := .lst []) hla).new (o := .tup []) hta) V2.at hda
  have KK := K2.trans K7
  have f1 := KK.get m1 ft5
  have f2 := KK.get m2 fa5
  have f3 := KK.get m4 fb5
  have f4 := KK.get m3 fd5
  have q1 : la ≠ da := ne_of_none (upd_new hta upd_same) hda
  have q2 : ta ≠ da := ne_of_none upd_same hda
  have ga : H7 la = some (.lst []) := K7.get n1.1 (upd_new hpl ((upd_ne q1).trans ((upd_ne q1).trans (upd_new hta upd_same))))
  have gt : H7 ta = some (.tup []) := K7.get n2.1 (upd_new hpl ((upd_ne q2).trans ((upd_ne q2).trans upd_same)))
  have gd : H7 da = some (.dK [(Sum.inl 1, V.int 2)]) := K7.get n3.1 (by walk_at "look")
  have hdv : ∃ dd, DpX H7 v dd ∧ Sm dd := by
    simp only [List.mem_cons, List.not_mem_nil, or_false] at hv
    rcases hv with rfl | rfl | rfl | rfl | rfl | rfl | rfl | rfl
    · exact ⟨.none, .non, by unfold Sm; decide +kernel⟩
    · exact ⟨.bool true, .bl true, by unfold Sm; decide +kernel⟩
    · exact ⟨.int (sg * r), .int _, sm_int (by omega)⟩
    · exact ⟨.str "part", .str _, by unfold Sm; decide +kernel⟩
    · exact ⟨.str "", .str _, by unfold Sm; decide +kernel⟩
    · exact ⟨.tuple [.int 1, .str "a"], .tup f1 (.cons (.int 1) (.cons (.str _) .nil)), by unfold Sm; decide +kernel⟩
    · exact ⟨.list [.int (sg * r)], .lst f2 sl1 (.cons (.int _) .nil), sm_l1 (by omega)⟩
    · exact ⟨.dict [(.str "a", .list [.int 1])], .dct f4 (.cons (.lst f3 sl2 (.cons (.int 1) .nil)) .nil), by unfold Sm; decide +kernel⟩
  have hdu : ∃ dd, DpX H7 u dd ∧ Sm dd := by
    simp only [List.mem_cons, List.not_mem_nil, or_false] at hu
    rcases hu with rfl | rfl | rfl | rfl | rfl | rfl | rfl | rfl
    · exact ⟨.int 0, .int _, by unfold Sm; decide +kernel⟩
    · exact ⟨.bool false, .bl _, by unfold Sm; decide +kernel⟩
    · exact ⟨.str "task", .str _, by unfold Sm; decide +kernel⟩
    · exact ⟨.list [], .lst ga sla .nil, by unfold Sm; decide +kernel⟩
    · exact ⟨.tuple [], .tup gt .nil, by unfold Sm; decide +kernel⟩
    · exact ⟨.dict [(.int 1, .int 2)], .dct gd (.cons (.int 2) .nil), by unfold Sm; decide +kernel⟩
    · exact ⟨.int (sg * r + 1), .int _, sm_int (by omega)⟩
    · exact ⟨.none, .non, by unfold Sm; decide +kernel⟩
  obtain ⟨dv, hdv, smv⟩ := hdv
  obtain ⟨du, hdu, smu⟩ := hdu
  clear ga gt gd f1 f2 f3 f4 KK hda5 V5 V4 V3 V2 V1 n1 n2 n3 n4 K1 K2 K7 hu hv hpl hda hta hla ft5 fa5 fb5 fd5 W5 W7 em m1 m2 m3 m4 q1 q2
  repeat walk_at "s"
  refine Iv.mk ⟨v, rfl, fun H8 p8 xs8 S8 h8 x8 => ?_⟩
  repeat walk_at "s"
  refine Iv.mk ⟨v, u, rfl, fun H9 p9 xs9 S9 h9 x9 => ?_⟩
  have h8' := S9 _ _ h8
  have x89 := (x8.same S9).app x9
  have l8 : (xs8.map V.ref).length = 21 := by rw [List.length_map, x8.len] <;> rfl
  have l9 : (xs9.map V.ref).length = 19 := by rw [List.length_map, x9.len] <;> rfl
  have lz : (xs8.map V.ref).length + (xs9.map V.ref).length ≤ sizeLine := by
    rw [l8, l9]
    exact line_le (by decide)
  repeat walk_at "s"
  rename_i pc hpc
  have N9 : Same H9 (upd H9 pc (.lst (xs8.map V.ref ++ xs9.map V.ref))) := Same.new (Same.refl H9) hpc
  have S79 := S8.trans (S9.trans N9)
  refine Iv.mk ⟨v, u, pc, xs8 ++ xs9, (dv, du), rfl, (by rw [upd_same, List.map_append]), x89.same N9, hdv.same S79, hdu.same S79, smv, smu, fun H10 S10 => ?_⟩
  have hdv2 := (hdv.same S79).same S10
  have hdu2 := (hdu.same S79).same S10
  clear S79 N9 hpc h8' x89 l8 l9 lz h9 x9 S9 h8 x8 S8 hdv hdu
  repeat walk_at "s"
  refine Iv.mk ⟨v, rfl, fun H11 p11 xs11 S11 h11 x11 => ?_⟩
  repeat walk_at "s"
  refine Iv.mk ⟨v, u, rfl, fun H12 p12 xs12 S12 h12 x12 => ?_⟩
  have h11' := S12 _ _ h11
  have x1112 := (x11.same S12).app x12
  have l11 : (xs11.map V.ref).length = 21 := by rw [List.length_map, x11.len] <;> rfl
  have l12 : (xs12.map V.ref).length = 19 := by rw [List.length_map, x12.len] <;> rfl
  have lz : (xs11.map V.ref).length + (xs12.map V.ref).length ≤ sizeLine := by
    rw [l11, l12]
    exact line_le (by decide)
  repeat walk_at "s"
  rename_i pe hpe
  have N12 : Same H12 (upd H12 pe (.lst (xs11.map V.ref ++ xs12.map V.ref))) := Same.new (Same.refl H12) hpe
  have S1012 := S11.trans (S12.trans N12)
  refine Iv.mk ⟨v, u, pe, xs11 ++ xs12, (dv, du), rfl, (by rw [upd_same, List.map_append]), x1112.same N12, hdv2.same S1012, hdu2.same S1012, smv, smu, fun H13 S13 => ?_⟩
  have hdv3 := (hdv2.same S1012).same S13
  clear S1012 N12 hpe h11' x1112 l11 l12 lz h12 x12 S12 h11 x11 S11 hdv2 hdu2
  repeat walk_at "s"
  rename_i Ha xa Sa na Ea Hb xb Sb nb Eb pm hpm spm
  have pk : ∃ dq : PyData × Nat, DpX H13 v dq.1 ∧ Sm dq.1 := ⟨(dv, 0), hdv3, smv⟩
  clear hdv3 smv smu
  obtain ⟨dq, hdq, smq⟩ := pk
  clear dv du
  have Sm1 : Same Hb (upd Hb pm (.lst [.ref xa, .ref xb])) := Same.new (Same.refl Hb) hpm
  have EA := (Ea.same Sb).same Sm1
  have EB := Eb.same Sm1
  have hdm := ((hdq.same Sa).same Sb).same Sm1
  have hpm2 : upd Hb pm (.lst [.ref xa, .ref xb]) pm = some (.lst [.ref xa, .ref xb]) := upd_same
  revert EA EB hdm hpm2
  generalize upd Hb pm (.lst [.ref xa, .ref xb]) = Hm
  intro EA EB hdm hpm2
  clear Ea Eb hdq hpm spm na nb Sa Sb
  obtain ⟨z1, z2, z3⟩ := smq
  refine for_it (walk_list (xs := [V.ref xa, V.ref xb])) (fun i σ H' => Iv (∃ v2 v6 : Option V, σ = [some (.ref a), some (.ref sp0), v2, some (.ref pl), some v, some u, v6] ∧ Same Hm H')) (Iv.mk ⟨_, _, rfl, Same.refl _⟩) (fun i σ H' _ h => ?_) ?_ ?_
  · obtain ⟨_, _, _, S⟩ := h.out
    exact SqL.of (S _ _ hpm2)
  · rintro i y σ H14 H15 hi hI ⟨rfl, hy⟩
    obtain ⟨v2, v6, rfl, S14⟩ := hI.out
    have hE : ∃ e, y = .ref e ∧ ErAt H15 e A.c_Missing [("name", v)] := by
      match i, hi, hy with
      | 0, _, hy => exact ⟨xa, (Option.some.inj hy).symm, EA.same S14⟩
      | 1, _, hy => exact ⟨xb, (Option.some.inj hy).symm, EB.same S14⟩
    obtain ⟨e, rfl, hE⟩ := hE
    have hd14 := hdm.same S14
    have lkm : List.lookup ("name" : Str) [(("name" : Str), v)] = some v := lk1
    have xf := T.E_Missing.toErrC.x
    have ex := T.E_Missing.toErrC.e
    have nf := T.E_Missing.f1
    have mm : MroAt K A.c_Missing (.ref A.c_Missing :: .ref A.c_DimError :: veT) := T.M_Missing
    clear EA EB hdm hpm2 hI hy
    have z4 : dq.1.depth ≤ 60 := by omega
    have z5 : dq.1.shown.length ≤ sizeLine := line_le (by omega)
    repeat walk_at "s"
    refine ⟨v, dq.1, rfl, hd14, z1, z4, z5, ?_⟩
    repeat walk_at "s"
    refine ⟨v, dq.1, rfl, hd14, z1, z4, z5, ?_⟩
    repeat walk_at "s"
    refine if_f (by simp) ?_
    repeat walk_at "s"
    refine Iv.mk ⟨e, A.c_Missing, _, _, rfl, hE, ex, mm, fun H16 p16 S16 h16 => ?_⟩
    repeat walk_at "s"
    refine if_f (show ¬ (inV (.bl true) ((kinL A).map fun D => V.bl ((Value.ref A.c_Missing :: .ref A.c_DimError :: veT).contains (.ref D))) = true) from by rw [mis_kin T]; exact Bool.false_ne_true) ?_
    repeat walk_at "s"
    refine if_f (show ¬ ((!(Value.ref A.c_Missing :: .ref A.c_DimError :: veT).contains (.ref A.c_DimError)) = true) from by rw [mis_dim]; exact Bool.false_ne_true) ?_
    repeat walk_at "s"
    exact Iv.mk ⟨_, _, rfl, S14.trans S16⟩
  · intro σ H14 hI
    obtain ⟨v2, v6, rfl, S14⟩ := hI.out
    repeat walk_at "s"
    exact q _
end
end K00

open PySem PySem.W PySem.Calls PyProof.Rows in
set_option maxRecDepth 100000 in
set_option maxHeartbeats 0 in
theorem PySem.Challenge.cw_dimkeeper_k00_errors_keep_their_fields_holds : PySem.Challenge.rw_dimkeeper_k00_errors_keep_their_fields.Holds := by
  w_on; o_law
  refine HandSHeadRun.head_any (r := K00.R) (q := view K00.R.prog [K00.lawAt]) (H := K00.hk) (ob := K00.ob) (M := 12000) (loose := K00.loose) (d := HandSHeadRun.topDef K00.R.prog K00.lawAt) (kwd := []) K00.ob_eq
    (by kernel_rfl) (fun s => by kernel_rfl) K00.run (by kernel_rfl) (by kernel_rfl) (by kernel_rfl) (by rfl) (by first | assumption | decide +kernel) (by decide +kernel) ⟨rfl, rfl, rfl, rfl, rfl, by decide +kernel⟩ ?hw ?hc
  case hw => w_witness2
  case hc =>
    refine MyH.walk_ofGE (l := PySem.Challenge.rw_dimkeeper_k00_errors_keep_their_fields) (n := 63) (k := 4) (CX := fun _ => L2.CX0) rfl (by decide) (by kernel_rfl) ⟨rfl, by decide, by decide⟩ ?F (fun _ _ _ _ _ z => z)
    intro w mg fa h Y G hmg0
    obtain ⟨K, KX, c⟩ := Y
    have hmg : mg ("law" : PySem.Str) = some (.ref fa) := by
      have e : (HandSHeadRun.topDef K00.R.prog K00.lawAt).name = ("law" : PySem.Str) := by kernel_rfl
      rw [← e]
      exact hmg0
    have T := K00.txt_of KX G c
    have e := hmg.symm.trans T.m_law
    cases e
    exact ⟨K, K00.spLaw K, KX, fun H a ns hl _ hS => ⟨a, ns, rfl, hS, hl, fun _ => rfl⟩, fun base _ _ => K00.ok_law T⟩
