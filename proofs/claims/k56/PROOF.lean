import PyProof.Rows.All
import PySem.Challenge.RW_dimkeeper_k56_papers_of_every_class
import Wide.All
import OpenK.AllK
import Wide.FinOn
import PyProof.EqAt
import PyProof.EqKinds
import PyProof.TupleCall
import PyProof.ReprRoads
import PyProof.Draws
import PyProof.EnumMake
import PyProof.EnumFor
import HandS.ForMost
import HandS.Wide
import HandS.IsInst
import HandS.Walk
import HandS.Star
import HandS.Exc
import KE.KExcIs
import HandS.ExcOwn
import HandS.ExcInit
import HandS.ExcField
import HandS.ExcIs
import HandS.WordsExc
import HandS.ExcValue
import HandS.RaiseMore
import HandS.Ends
import HandS.Head0
import HandS.Head1
import HandS.Head2
import HandS.HeadEnd
import HandS.HeadHook1
import KE.KSuper
import KE.KTypeName
import HandS.Nested
import HandS.SlotsOwn
import PyProof.AssignAttr
import HandS.Codes
import PyProof.Rows.StrJoinMade
import HandS.Small
import HandS.Style
import HandS.NoneIn
import HandS.TupAny
set_option Elab.async false
set_option linter.all false
set_option maxRecDepth 100000
set_option maxHeartbeats 4000000
/-! Rules that the layer lacks: repr of data, enumerate of a text, defs that are called where no repr is under way. -/
namespace MyL
open PySem PySem.Spec PyProof.Rows L2

/-- an invariant, closed to the stepper -/
@[irreducible] def Iv (p : Prop) : Prop := p
theorem Iv.mk {p : Prop} (h : p) : Iv p := by unfold Iv; exact h
theorem Iv.out {p : Prop} (h : Iv p) : p := by unfold Iv at h; exact h
/-! ### repr of data without dicts -/
def rRepr (K : PySem.W.Frag) : List V → Hp → VK → Prop := fun xs H Q => ∃ (a : Addr) (d : PyData), xs = [.ref a] ∧ Dp K H (.ref a) d ∧ d.showable = true ∧ d.hasDict = false ∧ d.depth ≤ 60 ∧ d.shown.length ≤ sizeLine ∧ Q (.str d.shown) H
theorem call_repr_data {X : Cx} (hg : X.A.guards = some []) (hu : X.A.units + 64 < cLine) : CallR X (.builtin "repr") (rRepr X.K) := by
  intro pins s σ H xs us Q I r h
  obtain ⟨a, d, rfl, hd, hs, hn, hz, hl, q⟩ := h
  obtain ⟨u, rfl, ru⟩ := vals1 r
  obtain rfl : u = Value.ref a := ru
  obtain ⟨as, rd⟩ := Dp.reads I d _ (.ref a) hd rfl
  refine repr_of_reads' rd hs (PyData.noDict_hsm hn) hg (by omega) (fun b o e => e) (fun h' u tk hk => ?_) hl
  exact ⟨.str d.shown, H, I.kept (t' := tk) hk, ⟨u, rfl⟩, q⟩

/-! ### enumerate over a text -/
def Ites (x : Str) : It :=
  ⟨fun i _ => i < x.cps.size, fun i H v H' => ∃ T c, v = .ref T ∧ H T = none ∧ H' = upd H T (.tup [.int (i : Nat), .str ⟨#[c]⟩]) ∧ x.cps[i]? = some c, fun i _ => i = x.cps.size⟩
theorem turn_enum_str {P : Program} {w : World} {K : PySem.W.Frag} {elts : List Expr} {kk : Nat} {tpos : Pos} (x : Str) (t : Tok) (ty : String) (hty : ty = "str_ascii_iterator" ∨ ty = "str_iterator") (e it : Addr) :
    Turn P w K (.Tuple elts kk tpos) (Ites x) [e, it] e (fun i h => (∃ old, IsEnum h e it ((i : Nat) : Int) old) ∧ h.IsStrIter it ty x t i ∧ e ≠ it) where
  mem := by simp
  obj := by
    rintro i h ⟨⟨old, he⟩, ⟨o, ho, _, hd⟩, _⟩ b hb
    rcases (show b = e ∨ b = it by simpa using hb) with rfl | rfl
    · exact ⟨_, he, fun v z => nomatch z⟩
    · exact ⟨o, ho, fun v z => by rw [hd] at z; cases z⟩
  keep := by
    rintro i h h' ⟨⟨old, he⟩, ⟨o, ho, hr⟩, hne⟩ k
    exact ⟨⟨old, k e (by simp) _ he⟩, ⟨o, k it (by simp) o ho, hr⟩, hne⟩
  item := by
    intro X hP hw hK hc i pins s σ H E I hf st hg
    subst hP hw hK
    obtain ⟨⟨old, he⟩, hit, hne⟩ := st
    have lt1 : e < s.heap.objs.size := Heap.lt_size he
    have lt2 : it < s.heap.objs.size := by
      obtain ⟨_, z, _⟩ := id hit
      exact Heap.lt_size z
    have D : Draws X.prog X.w X.A.in1 it [it] x.cps.size (fun i v => ∃ c u, x.cps[i]? = some c ∧ v = .str ⟨#[c]⟩ u) (fun i h => h.IsStrIter it ty x t i) := by
      rcases hty with rfl | rfl
      · exact Draws.strAscii (A := X.A.in1) (I.ok.hd hc) it x t
      · exact Draws.strWide (A := X.A.in1) (I.ok.hd hc) it x t
    refine wpAny_pyNext_enum_itemD D he hit hg hne (by simpa using hne) fun v h' tk hv ho hit' hT hsz hk => ?_
    obtain ⟨c, u, hcx, rfl⟩ := hv
    refine ⟨_, rfl, wpAny_letOwnedTupleGo_enum (s := { s with heap := h', toks := tk + 1 }) ho fun h2 he2 sb => ?_⟩
    have hT2 := (sb.2 _ (Nat.ne_of_gt lt1)).trans hT
    have nw : ObjOk X.prog X.w (upd H s.heap.objs.size (.tup [.int (i : Nat), .str ⟨#[c]⟩])) h2 s.heap.objs.size (.tup [.int (i : Nat), .str ⟨#[c]⟩]) :=
      ⟨by show 2 ≤ sizeLine; decide, [.int i tk, .str ⟨#[c]⟩ u], .cons ⟨_, rfl⟩ (.cons ⟨_, rfl⟩ .nil), ⟨_, hT2, rfl, _, rfl⟩⟩
    have J : Inv X pins σ (upd H s.heap.objs.size (.tup [.int (i : Nat), .str ⟨#[c]⟩])) { s with heap := h2, toks := tk + 1 } := by
      refine I.turnedNew (t' := tk + 1) (ch := [e, it]) (fun b ob hb q => ?_) hf (Nat.le_refl _) nw
      have b1 : b ≠ e := fun z => hb (by simp [z])
      have b2 : b ≠ it := fun z => hb (by simp [z])
      exact (sb.2 b b1).trans (hk b ob b1 b2 q)
    refine ⟨.ref s.heap.objs.size, _, J, rfl, ⟨_, c, rfl, I.hok.fresh (Nat.le_refl _), rfl, hcx⟩, ⟨⟨.str ⟨#[c]⟩ u, ?_⟩, ?_, hne⟩, fun b hb => ?_⟩
    · have e1 : ((i + 1 : Nat) : Int) = (i : Int) + 1 := by omega
      rw [e1]
      exact he2
    · obtain ⟨o, ho2, hr⟩ := hit'
      exact ⟨o, (sb.2 it (Ne.symm hne)).trans ho2, hr⟩
    · have lb : b < s.heap.objs.size := by
        rcases (show b = e ∨ b = it by simpa using hb) with rfl | rfl
        · exact lt1
        · exact lt2
      rw [upd_ne (Nat.ne_of_lt lb)]
      exact (hf b hb).1
  done := by
    intro X hP hw hK hc i pins s σ H E I hf st hg
    subst hP hw hK
    obtain ⟨⟨old, he⟩, hit, hne⟩ := st
    obtain ⟨f0, f1, f2, f3, f4, f5⟩ := hf it (by simp)
    have D : Draws X.prog X.w X.A.in1 it [it] x.cps.size (fun i v => ∃ c u, x.cps[i]? = some c ∧ v = .str ⟨#[c]⟩ u) (fun i h => h.IsStrIter it ty x t i) := by
      rcases hty with rfl | rfl
      · exact Draws.strAscii (A := X.A.in1) (I.ok.hd hc) it x t
      · exact Draws.strWide (A := X.A.in1) (I.ok.hd hc) it x t
    have ei : i = x.cps.size := hg
    subst ei
    exact wpAny_pyNext_enum_endD D he hit fun h' eb => ⟨rfl, I.turned (t' := s.toks) (fun b o hb q => eb b o hb q) f0 f1 f3 f4 f5⟩
  self := fun A i s Q E st h => let ⟨⟨_, he⟩, _⟩ := st; wpAny_pyIter_enum he h

def iEnumS (ta : TA) : TI := fun σ H R => ta σ H fun vs H1 => ∃ x : Str, vs = [.str x] ∧ R (Ites x) H1
theorem pi_enum_str {X : Cx} {e : Expr} {ta : TA} {p pos tpos : Pos} {elts : List Expr} {kk : Nat} (hg : Gl X "enumerate") (hm : X.mg "enumerate" = none) (ha : PA X [e] ta) (hs : starEach [e] X.env = [(false, eval e X.env)] := by rfl) :
    PI X (.Tuple elts kk tpos) (.Call (.Name "enumerate" p) [e] [] pos) (iEnumS ta) := by
  refine ⟨fun pins s σ H R I h => ?_⟩
  refine Call_ (ld_blt I hg hm boot_enumerate (PyProof.Rows.callWith_type1 ?_ hs rfl))
  refine thn (ha.run pos pins s σ H _ I h) fun us s1 ⟨vs, H1, I1, r1, x, ex, q⟩ => ?_
  subst ex
  obtain ⟨u, rfl, ru⟩ := vals1 r1
  obtain ⟨t, rfl⟩ := ru
  refine call_enumerate_str fun h' he hit hsz hk => wpAny_pyIter_enum he ?_
  have hty : strIterType x = "str_ascii_iterator" ∨ strIterType x = "str_iterator" := by
    unfold strIterType
    split
    · exact .inl rfl
    · exact .inr rfl
  refine ⟨s1.heap.objs.size + 1, [s1.heap.objs.size + 1, s1.heap.objs.size], _, _, H1, rfl, I1.kept (t' := s1.toks) hk, turn_enum_str x t _ hty (s1.heap.objs.size + 1) s1.heap.objs.size, ⟨⟨.none, he⟩, hit, Nat.succ_ne_self _⟩, fun b hb => ?_, q⟩
  have hle : s1.heap.objs.size ≤ b := by
    rcases (show b = s1.heap.objs.size + 1 ∨ b = s1.heap.objs.size by simpa using hb) with z | z
    · rw [z]; exact Nat.le_add_right _ _
    · rw [z]; exact Nat.le_refl _
  exact I1.fpOk hle (I1.hok.fresh hle)
theorem walk_enum_str {x : Str} : Walk (Ites x) x.cps.size (fun _ => True) (YPair (fun i => some (.int (i : Nat))) (fun i => (x.cps[i]?).map fun c => .str ⟨#[c]⟩)) := by
  refine ⟨fun _ _ hi _ => hi, fun _ _ => rfl, fun i H v H' _ _ y => ?_⟩
  obtain ⟨T, c, h1, h2, h3, h4⟩ := y
  exact ⟨T, .int (i : Nat), .str ⟨#[c]⟩, h1, h2, h3, rfl, (by show (x.cps[i]?).map _ = _; rw [h4] <;> rfl)⟩

/-! ### defs that want to know that no repr is under way -/
def FnG (P : Program) (w : World) (K : PySem.W.Frag) (mg : Str → Option Value) (base : Heap) (CX : CXT) (k : Nat) (f : Addr) (sp : Sp) : Prop :=
  ∀ (A : Around) (outer : List Env) (s : Shared) (H : Hp) (us : List Value) (vs : List V) (Q : VK) (E : XK), Room k A → A.guards = some [] → Env0 P w K mg base A outer s H → Vals vs us → sp vs H Q E →
    codeAny (model P w) A (.call (.ref f) ⟨us, []⟩) (CR CX outer P w H s Q E) s
section
variable {P : Program} {w : World} {K : PySem.W.Frag} {mg : Str → Option Value} {base : Heap} {CX : CXT} {k : Nat} {f : Addr} {sp : Sp}
theorem FnG.mono {j : Nat} (F : FnG P w K mg base CX j f sp) (h : j ≤ k) : FnG P w K mg base CX k f sp := fun A outer s H us vs Q E hr hg => F A outer s H us vs Q E (hr.mono h) hg
/-- a def of the text, by its body -/
theorem Fun_okG {x qual : Str} {st : Stmt} {fd : FuncData} {N ps : List Str} (F : Fun K x qual st f fd) (S : FnScope N ps (defScope st)) (len : ∀ vs H Q E, sp vs H Q E → vs.length = ps.length)
    (hb : ∀ (kV doc pm : Value) (an : Option Addr) (cdv ct : Value) (us : List Value), us.length = ps.length → bindArgs (PySem.W.fnOf x qual (defArgs st) (defBody st) (defScope st) .none kV doc pm an cdv ct) ⟨us, []⟩ = pure (ps.zip us))
    (hbody : ∀ (cdv : Value) (A : Around) (outer : List Env) (s : Shared) (H : Hp) (vs : List V) (Q : VK) (E : XK), Room k (A.deeper (envOfC qual (defScope st) s.heap.objs.size f cdv)) → A.guards = some [] → sp vs H Q E →
      ∃ t, PSs (cxOf CX P w K mg base N qual (defScope st) f cdv A outer s H E) (defBody st) t ∧ t { nx := fun _ H' => Q .non H', rt := Q } (start N vs) H) : FnG P w K mg base CX (k + 1) f sp := by
  obtain ⟨oc, od, kV, doc, pm, an, cdv, ct, osl, rfl, lk, hcd⟩ := F.ex
  intro A outer s H us vs Q E hr hg e0 r hsp
  have hl := len _ _ _ _ hsp
  have hul : us.length = ps.length := by rw [← r.length]; exact hl
  refine StX.run_bnd lk hcd S hr e0 (G := fun xs H2 => xs = vs ∧ H2 = H) (fun A' Ex Q' h => ?_) fun s2 H2 xs ⟨e1, e2⟩ hr' => ?_
  · rw [hb kV doc pm an cdv ct us hul]
    exact wpAny_pure (h s H vs us e0 Un.refl rfl (fun e s' z => z) r hl ⟨rfl, rfl⟩)
  · subst e1 e2
    exact hbody cdv A outer s2 _ _ Q E hr' hg hsp
end
section
variable {P : Program} {w : World} {K : PySem.W.Frag} {mg : Str → Option Value} {base : Heap} {CX : CXT} {k : Nat} {f : Addr} {sp : Sp}
/-- .. for a def that no exception leaves -/
theorem Fun_okN {x qual : Str} {st : Stmt} {fd : FuncData} {N ps : List Str} (F : Fun K x qual st f fd) (S : FnScope N ps (defScope st)) (len : ∀ vs H Q E, sp vs H Q E → vs.length = ps.length)
    (hb : ∀ (kV doc pm : Value) (an : Option Addr) (cdv ct : Value) (us : List Value), us.length = ps.length → bindArgs (PySem.W.fnOf x qual (defArgs st) (defBody st) (defScope st) .none kV doc pm an cdv ct) ⟨us, []⟩ = pure (ps.zip us))
    (hbody : ∀ (cdv : Value) (A : Around) (outer : List Env) (s : Shared) (H : Hp) (vs : List V) (Q : VK) (E : XK), Room k (A.deeper (envOfC qual (defScope st) s.heap.objs.size f cdv)) → A.guards = some [] → sp vs H Q E →
      ∃ t, PSs (cxOf CX P w K mg base N qual (defScope st) f cdv A outer s H E).nox (defBody st) t ∧ t { nx := fun _ H' => Q .non H', rt := Q } (start N vs) H) : FnG P w K mg base CX (k + 1) f sp := by
  refine Fun_okG F S len hb fun cdv A outer s H vs Q E hr hg h => ?_
  obtain ⟨t, ht, hq⟩ := hbody cdv A outer s H vs Q E hr hg h
  exact ⟨t, ht.nox, hq⟩
end
section
variable {X : Cx} {CX : CXT} {k : Nat} {f : Addr} {sp : Sp} {E : XK} {x : Str} {p pos : Pos} {e : Expr} {es : List Expr} {t : TA}
def tCallG (sp : Sp) (E : XK) (t : TA) : TE := fun σ H Q => t σ H fun vs H1 => Iv (sp vs H1 Q E)
theorem pe_callGd (F : FnG X.prog X.w X.K X.mg X.base CX k f sp) (hr : Room k X.A) (hgd : X.A.guards = some []) (hg : Gl X x) (hm : X.mg x = some (.ref f)) (hk : PySem.W.keepIn X.K (.ref f) = true) (hx : Passes CX X E) (ha : PA X (e :: es) t)
    (hdb : (x == ("__debug__" : Str)) = false := by decide) (he : starEach (e :: es) X.env = (false, eval e X.env) :: starEach es X.env := by rfl) (hpl : (backTo pos (starEach es X.env)).any (·.1) = false := by rfl) :
    PE X (.Call (.Name x p) (e :: es) [] pos) (tCallG sp E t) := by
  refine ⟨fun pins s σ H Q I h => ?_⟩
  refine wpAny_Call_Name_kw (ld_glob I hg hm ?_ hdb)
  refine PySem.W.callWith_K (h₀ := X.base) I.ok.mod.kin hk ?_ he hpl
  refine thn (ha.run pos pins s σ H _ I h) fun us s1 ⟨vs, H1, I1, r, q⟩ => ⟨I1.kIn, ?_⟩
  refine wpAny_call (codeAny_mono (F X.A X.stack s1 H1 us vs Q E hr hgd I1.env0 r q.out) fun r' s' hq => ?_)
  cases r' with
  | error er => exact hx pins σ H1 s1 er s' I1 hq
  | ok fl =>
    cases fl with
    | ret u => exact I1.after hq
    | next => exact False.elim hq
    | brk => exact False.elim hq
    | cont => exact False.elim hq
end

/-! ### heaps, what draws -/
/-- all but what stands at w is as it was -/
def Kp (w : Addr) (H H' : Hp) : Prop := ∀ b o, b ≠ w → H b = some o → H' b = some o
theorem Kp.refl (w : Addr) (H : Hp) : Kp w H H := fun _ _ _ h => h
theorem Kp.trans {w : Addr} {H H1 H2 : Hp} (a : Kp w H H1) (b : Kp w H1 H2) : Kp w H H2 := fun c o n h => b c o n (a c o n h)
theorem Kp.put {w : Addr} {H H' : Hp} {o : HO} (a : Kp w H H') : Kp w H (upd H' w o) := fun b u n h => by rw [upd_ne n]; exact a b u n h
theorem Kp.get {w : Addr} {H H' : Hp} {b : Addr} {o : HO} (a : Kp w H H') (n : b ≠ w) (h : H b = some o) : H' b = some o := a b o n h
theorem Kp.new {w : Addr} {H H' : Hp} {p : Addr} {o : HO} (a : Kp w H H') (n : H' p = none) : Kp w H (upd H' p o) := fun b u nb h => by
  have e := a b u nb h
  rw [upd_ne (ne_of_none e n)]
  exact e
theorem Kp.of_same {w : Addr} {H H' : Hp} (a : Same H H') : Kp w H H' := fun b o _ h => a b o h
theorem Kp.free {w : Addr} {H H' : Hp} {p : Addr} (a : Kp w H H') (hw : ∃ o, H' w = some o) (n : H' p = none) : H p = none := by
  cases e : H p with
  | none => rfl
  | some o =>
    have np : p ≠ w := fun z => by
      obtain ⟨u, hu⟩ := hw
      rw [z, hu] at n
      cases n
    rw [a p o np e] at n
    cases n
theorem Same.get {H H' : Hp} {b : Addr} {o : HO} (a : Same H H') (h : H b = some o) : H' b = some o := a b o h
theorem Same.new {H H' : Hp} {p : Addr} {o : HO} (a : Same H H') (n : H' p = none) : Same H (upd H' p o) := fun b u h => by
  have e := a b u h
  rw [upd_ne (ne_of_none e n)]
  exact e
/-- an own new object is written -/
theorem Same.put {H H' : Hp} {p : Addr} {o : HO} (a : Same H H') (n : H p = none) : Same H (upd H' p o) := fun b u h => by
  rw [upd_ne (ne_of_none h n)]
  exact a b u h
theorem Kp.put2 {w : Addr} {H H' : Hp} {p : Addr} {o : HO} (a : Kp w H H') (n : H p = none) : Kp w H (upd H' p o) := fun b u nb h => by
  rw [upd_ne (ne_of_none h n)]
  exact a b u nb h
/-- what draws: where it stands, where its cells stand, the cells -/
structure Wl where
  (w c : Addr) (cs : List Int)
/-- .. the cells, how many were begun (at most n), the rest -/
def WellAt (H : Hp) (W : Wl) (n : Nat) : Prop := ∃ (b r : Int), H W.w = some (.lst [.ref W.c, .int b, .int r]) ∧ H W.c = some (.lst (W.cs.map V.int)) ∧ W.c ≠ W.w ∧ W.cs.length ≤ 63 ∧ 0 ≤ b ∧ b ≤ n
theorem WellAt.mono {H : Hp} {W : Wl} {n m : Nat} (h : WellAt H W n) (l : n ≤ m) : WellAt H W m := by
  obtain ⟨b, r, h1, h2, h3, h4, h5, h6⟩ := h
  exact ⟨b, r, h1, h2, h3, h4, h5, by omega⟩
theorem WellAt.same {H H' : Hp} {W : Wl} {n : Nat} (h : WellAt H W n) (k : Same H H') : WellAt H' W n := by
  obtain ⟨b, r, h1, h2, h3⟩ := h
  exact ⟨b, r, k _ _ h1, k _ _ h2, h3⟩
theorem WellAt.at {H : Hp} {W : Wl} {n : Nat} (h : WellAt H W n) : ∃ o, H W.w = some o := by
  obtain ⟨b, r, h1, _⟩ := h
  exact ⟨_, h1⟩
theorem WellAt.ne {H : Hp} {W : Wl} {n : Nat} (h : WellAt H W n) {p : Addr} (hp : H p = none) : p ≠ W.w ∧ p ≠ W.c := by
  obtain ⟨b, r, h1, h2, _⟩ := h
  exact ⟨Ne.symm (ne_of_none h1 hp), Ne.symm (ne_of_none h2 hp)⟩
theorem WellAt.put {H : Hp} {W : Wl} {n : Nat} (h : WellAt H W n) {p : Addr} {o : HO} (hp : p ≠ W.w ∧ p ≠ W.c) : WellAt (upd H p o) W n := by
  obtain ⟨b, r, h1, h2, h3⟩ := h
  exact ⟨b, r, by rw [upd_ne (Ne.symm hp.1)]; exact h1, by rw [upd_ne (Ne.symm hp.2)]; exact h2, h3⟩
theorem WellAt.new {H : Hp} {W : Wl} {n : Nat} (h : WellAt H W n) {p : Addr} {o : HO} (hp : H p = none) : WellAt (upd H p o) W n := h.put (h.ne hp)
def spDip : Sp := fun vs H Q _ => ∃ (W : Wl) (many : Int) (n : Nat), vs = [.ref W.w, .int many] ∧ WellAt H W n ∧ n < 1000000 ∧ 0 < many ∧ many.natAbs < 2 ^ 300 ∧
  ∀ H' r, 0 ≤ r → r < many → WellAt H' W (n + 1) → Kp W.w H H' → Q (.int r) H'
theorem pow_lt {a b : Int} (h0 : 0 ≤ a) (h : a < b) (hb : b ≤ 2 ^ 64) : a.natAbs < 2 ^ 64 := by omega
/-- the numbers that the draw reckons with stay small -/
theorem draw_one {x b c1 c2 : Int} (hx0 : 0 ≤ x) (hx : x < 2147483543) (hb0 : 0 ≤ b) (hb : b < 1000000) (h1 : 0 ≤ c1) (h1' : c1 < 1000000) (h2 : 0 ≤ c2) (h2' : c2 < 1000000) : (x + c1 * b + c2).natAbs < 2 ^ 64 := by
  have h3 : 0 ≤ c1 * b := Int.mul_nonneg h1 hb0
  have h4 : c1 * b ≤ 1000000 * 1000000 := Int.mul_le_mul (by omega) (by omega) hb0 (by decide)
  omega
theorem draw_two {x b c1 c2 : Int} (hx0 : 0 ≤ x) (hx : x < 2147483647) (hb0 : 0 ≤ b) (hb : b < 1000000) (h1 : 0 ≤ c1) (h1' : c1 < 1000000) (h2 : 0 ≤ c2) (h2' : c2 < 1000000) : (x * (2 * b + 1301) + c1 * b * b + c2).natAbs < 2 ^ 64 := by
  have h3 : 0 ≤ x * (2 * b + 1301) := Int.mul_nonneg hx0 (by omega)
  have h4 : x * (2 * b + 1301) ≤ 2147483647 * 2001301 := Int.mul_le_mul (by omega) (by omega) (by omega) (by decide)
  have h5 : 0 ≤ c1 * b := Int.mul_nonneg h1 hb0
  have h6 : c1 * b ≤ 1000000 * 1000000 := Int.mul_le_mul (by omega) (by omega) hb0 (by decide)
  have h7 : 0 ≤ c1 * b * b := Int.mul_nonneg h5 hb0
  have h8 : c1 * b * b ≤ 1000000000000 * 1000000 := Int.mul_le_mul (by omega) (by omega) hb0 (by decide)
  omega

theorem ne_new {H : Hp} {a b : Addr} {o : HO} (n : H b = none) (h : H a = some o) : a ≠ b := ne_of_none h n
theorem upd_new {H : Hp} {a b : Addr} {o u : HO} (n : H b = none) (h : H a = some o) : upd H b u a = some o := by
  rw [upd_ne (ne_of_none h n)]
  exact h
theorem ne_new' {H : Hp} {a b : Addr} {o : HO} (n : H b = none) (h : H a = some o) : b ≠ a := Ne.symm (ne_of_none h n)
/-! ### data of flat items -/
/-- a flat value's datum -/
def flatD : V → Option PyData
  | .non => some .none
  | .bl b => some (.bool b)
  | .int i => some (.int i)
  | .str x => some (.str x)
  | _ => none
theorem dp_flat {K : PySem.W.Frag} {H : Hp} : ∀ {v : V} {d : PyData}, flatD v = some d → Dp K H v d
  | .non, _, h => by cases h; exact .non
  | .bl b, _, h => by cases h; exact .bl b
  | .int i, _, h => by cases h; exact .int i
  | .str x, _, h => by cases h; exact .str x
  | .byt _, _, h => by cases h
  | .flt _, _, h => by cases h
  | .ref _, _, h => by cases h
  | .ty _, _, h => by cases h
theorem dpAll_ints {K : PySem.W.Frag} {H : Hp} : ∀ ns : List Int, DpAll K H (ns.map V.int) (ns.map PyData.int)
  | [] => .nil
  | n :: ns => .cons (.int n) (dpAll_ints ns)
theorem dpAll_strs {K : PySem.W.Frag} {H : Hp} : ∀ zs : List Str, DpAll K H (zs.map V.str) (zs.map PyData.str)
  | [] => .nil
  | z :: zs => .cons (.str z) (dpAll_strs zs)
theorem canLay_ints : ∀ ns : List Int, PyData.canLayAll0 (ns.map PyData.int) = true
  | [] => rfl
  | n :: ns => by
    simp only [List.map_cons, PyData.canLayAll0, PyData.canLay0, canLay_ints ns, Bool.and_self]
theorem canLay_strs : ∀ zs : List Str, (∀ z ∈ zs, PyData.strOk z = true) → PyData.canLayAll0 (zs.map PyData.str) = true
  | [], _ => rfl
  | z :: zs, h => by
    simp only [List.map_cons, PyData.canLayAll0, PyData.canLay0, canLay_strs zs (fun y hy => h y (List.mem_cons_of_mem _ hy)), h z List.mem_cons_self, Bool.and_self]
theorem depth_ints : ∀ ns : List Int, PyData.depthAll (ns.map PyData.int) = 0
  | [] => rfl
  | n :: ns => by
    simp only [List.map_cons, PyData.depthAll, PyData.depth, depth_ints ns]
    rfl
theorem depth_strs : ∀ zs : List Str, PyData.depthAll (zs.map PyData.str) = 0
  | [] => rfl
  | z :: zs => by
    simp only [List.map_cons, PyData.depthAll, PyData.depth, depth_strs zs]
    rfl
theorem shaped_ints (ns : List Int) : SeqAt.shaped (.list (ns.map PyData.int)) = true := by
  unfold SeqAt.shaped
  simp only [PyData.canLay0, canLay_ints, PyData.depth, depth_ints]
  rfl
theorem shaped_strs (zs : List Str) (h : ∀ z ∈ zs, PyData.strOk z = true) : SeqAt.shaped (.list (zs.map PyData.str)) = true := by
  unfold SeqAt.shaped
  simp only [PyData.canLay0, canLay_strs zs h, PyData.depth, depth_strs]
  rfl
theorem eqv_nil : ∀ ds : List PyData, PyData.eqv (.list ds) (.list []) = ds.isEmpty
  | [] => rfl
  | _ :: _ => rfl
theorem shaped_nil : SeqAt.shaped (.list []) = true := by decide +kernel
theorem at_mod_ints {cs : List Int} (b : Int) (h : 0 < cs.length) : ∃ (j : Nat) (x : Int), j < cs.length ∧ atI (cs.map V.int) (b % ((cs.map V.int).length : Int)) = some (.int x) := by
  have hl : (0 : Int) < ((cs.map V.int).length : Int) := by rw [List.length_map]; omega
  have h0 := Int.emod_nonneg b (show ((cs.map V.int).length : Int) ≠ 0 by omega)
  have h1 := Int.emod_lt_of_pos b hl
  obtain ⟨j, hj⟩ : ∃ j : Nat, b % ((cs.map V.int).length : Int) = j := ⟨(b % ((cs.map V.int).length : Int)).toNat, by omega⟩
  have hj2 : j < cs.length := by rw [hj, List.length_map] at h1; omega
  refine ⟨j, cs[j], hj2, ?_⟩
  rw [hj]
  exact atI_nat (by rw [List.getElem?_map, List.getElem?_eq_getElem hj2] <;> rfl)
/-! ### isinstance of built-in kinds -/
theorem kit_NoneType_int {K : PySem.W.Frag} : PySem.W.kitOne K (.type "NoneType") (.type "int") = some false := kit_ty (by decide +kernel)
theorem kit_NoneType_bool {K : PySem.W.Frag} : PySem.W.kitOne K (.type "NoneType") (.type "bool") = some false := kit_ty (by decide +kernel)
theorem kit_NoneType_str {K : PySem.W.Frag} : PySem.W.kitOne K (.type "NoneType") (.type "str") = some false := kit_ty (by decide +kernel)
theorem kit_NoneType_list {K : PySem.W.Frag} : PySem.W.kitOne K (.type "NoneType") (.type "list") = some false := kit_ty (by decide +kernel)
theorem kit_NoneType_tuple {K : PySem.W.Frag} : PySem.W.kitOne K (.type "NoneType") (.type "tuple") = some false := kit_ty (by decide +kernel)
theorem kit_NoneType_dict {K : PySem.W.Frag} : PySem.W.kitOne K (.type "NoneType") (.type "dict") = some false := kit_ty (by decide +kernel)
theorem kit_bool_int {K : PySem.W.Frag} : PySem.W.kitOne K (.type "bool") (.type "int") = some true := kit_ty (by decide +kernel)
theorem kit_bool_bool {K : PySem.W.Frag} : PySem.W.kitOne K (.type "bool") (.type "bool") = some true := kit_ty (by decide +kernel)
theorem kit_bool_str {K : PySem.W.Frag} : PySem.W.kitOne K (.type "bool") (.type "str") = some false := kit_ty (by decide +kernel)
theorem kit_bool_list {K : PySem.W.Frag} : PySem.W.kitOne K (.type "bool") (.type "list") = some false := kit_ty (by decide +kernel)
theorem kit_bool_tuple {K : PySem.W.Frag} : PySem.W.kitOne K (.type "bool") (.type "tuple") = some false := kit_ty (by decide +kernel)
theorem kit_bool_dict {K : PySem.W.Frag} : PySem.W.kitOne K (.type "bool") (.type "dict") = some false := kit_ty (by decide +kernel)
theorem kit_int_int {K : PySem.W.Frag} : PySem.W.kitOne K (.type "int") (.type "int") = some true := kit_ty (by decide +kernel)
theorem kit_int_bool {K : PySem.W.Frag} : PySem.W.kitOne K (.type "int") (.type "bool") = some false := kit_ty (by decide +kernel)
theorem kit_int_str {K : PySem.W.Frag} : PySem.W.kitOne K (.type "int") (.type "str") = some false := kit_ty (by decide +kernel)
theorem kit_int_list {K : PySem.W.Frag} : PySem.W.kitOne K (.type "int") (.type "list") = some false := kit_ty (by decide +kernel)
theorem kit_int_tuple {K : PySem.W.Frag} : PySem.W.kitOne K (.type "int") (.type "tuple") = some false := kit_ty (by decide +kernel)
theorem kit_int_dict {K : PySem.W.Frag} : PySem.W.kitOne K (.type "int") (.type "dict") = some false := kit_ty (by decide +kernel)
theorem kit_str_int {K : PySem.W.Frag} : PySem.W.kitOne K (.type "str") (.type "int") = some false := kit_ty (by decide +kernel)
theorem kit_str_bool {K : PySem.W.Frag} : PySem.W.kitOne K (.type "str") (.type "bool") = some false := kit_ty (by decide +kernel)
theorem kit_str_str {K : PySem.W.Frag} : PySem.W.kitOne K (.type "str") (.type "str") = some true := kit_ty (by decide +kernel)
theorem kit_str_list {K : PySem.W.Frag} : PySem.W.kitOne K (.type "str") (.type "list") = some false := kit_ty (by decide +kernel)
theorem kit_str_tuple {K : PySem.W.Frag} : PySem.W.kitOne K (.type "str") (.type "tuple") = some false := kit_ty (by decide +kernel)
theorem kit_str_dict {K : PySem.W.Frag} : PySem.W.kitOne K (.type "str") (.type "dict") = some false := kit_ty (by decide +kernel)
theorem kit_list_int {K : PySem.W.Frag} : PySem.W.kitOne K (.type "list") (.type "int") = some false := kit_ty (by decide +kernel)
theorem kit_list_bool {K : PySem.W.Frag} : PySem.W.kitOne K (.type "list") (.type "bool") = some false := kit_ty (by decide +kernel)
theorem kit_list_str {K : PySem.W.Frag} : PySem.W.kitOne K (.type "list") (.type "str") = some false := kit_ty (by decide +kernel)
theorem kit_list_list {K : PySem.W.Frag} : PySem.W.kitOne K (.type "list") (.type "list") = some true := kit_ty (by decide +kernel)
theorem kit_list_tuple {K : PySem.W.Frag} : PySem.W.kitOne K (.type "list") (.type "tuple") = some false := kit_ty (by decide +kernel)
theorem kit_list_dict {K : PySem.W.Frag} : PySem.W.kitOne K (.type "list") (.type "dict") = some false := kit_ty (by decide +kernel)
theorem kit_tuple_int {K : PySem.W.Frag} : PySem.W.kitOne K (.type "tuple") (.type "int") = some false := kit_ty (by decide +kernel)
theorem kit_tuple_bool {K : PySem.W.Frag} : PySem.W.kitOne K (.type "tuple") (.type "bool") = some false := kit_ty (by decide +kernel)
theorem kit_tuple_str {K : PySem.W.Frag} : PySem.W.kitOne K (.type "tuple") (.type "str") = some false := kit_ty (by decide +kernel)
theorem kit_tuple_list {K : PySem.W.Frag} : PySem.W.kitOne K (.type "tuple") (.type "list") = some false := kit_ty (by decide +kernel)
theorem kit_tuple_tuple {K : PySem.W.Frag} : PySem.W.kitOne K (.type "tuple") (.type "tuple") = some true := kit_ty (by decide +kernel)
theorem kit_tuple_dict {K : PySem.W.Frag} : PySem.W.kitOne K (.type "tuple") (.type "dict") = some false := kit_ty (by decide +kernel)
theorem kit_dict_int {K : PySem.W.Frag} : PySem.W.kitOne K (.type "dict") (.type "int") = some false := kit_ty (by decide +kernel)
theorem kit_dict_bool {K : PySem.W.Frag} : PySem.W.kitOne K (.type "dict") (.type "bool") = some false := kit_ty (by decide +kernel)
theorem kit_dict_str {K : PySem.W.Frag} : PySem.W.kitOne K (.type "dict") (.type "str") = some false := kit_ty (by decide +kernel)
theorem kit_dict_list {K : PySem.W.Frag} : PySem.W.kitOne K (.type "dict") (.type "list") = some false := kit_ty (by decide +kernel)
theorem kit_dict_tuple {K : PySem.W.Frag} : PySem.W.kitOne K (.type "dict") (.type "tuple") = some false := kit_ty (by decide +kernel)
theorem kit_dict_dict {K : PySem.W.Frag} : PySem.W.kitOne K (.type "dict") (.type "dict") = some true := kit_ty (by decide +kernel)
/-- a value's kind, by the abstract heap -/
theorem tyx_str {K : PySem.W.Frag} {H : Hp} {z : Str} : TyX K H (.str z) (.type "str") := .base (.str z)
theorem tyx_int {K : PySem.W.Frag} {H : Hp} {i : Int} : TyX K H (.int i) (.type "int") := .base (.int i)
theorem tyx_bl {K : PySem.W.Frag} {H : Hp} {b : Bool} : TyX K H (.bl b) (.type "bool") := .base (.bl b)
theorem tyx_non {K : PySem.W.Frag} {H : Hp} : TyX K H .non (.type "NoneType") := .base .non
theorem tyx_lst {K : PySem.W.Frag} {H : Hp} {a : Addr} {xs : List V} (h : H a = some (.lst xs)) : TyX K H (.ref a) (.type "list") := .base (.lst h)
theorem tyx_tup {K : PySem.W.Frag} {H : Hp} {a : Addr} {xs : List V} (h : H a = some (.tup xs)) : TyX K H (.ref a) (.type "tuple") := .base (.tup h)
theorem tyx_dK {K : PySem.W.Frag} {H : Hp} {a : Addr} {xs : List (Key × V)} (h : H a = some (.dK xs)) : TyX K H (.ref a) (.type "dict") := .base (.dK h)
/-- a draw from a row or a text -/
def spPick : Sp := fun vs H Q _ => ∃ (W : Wl) (x : V) (n : Nat), vs = [.ref W.w, x] ∧ WellAt H W n ∧ n < 1000000 ∧
  ((∃ (p : Addr) (xs : List V), x = .ref p ∧ p ≠ W.w ∧ H p = some (.lst xs) ∧ 0 < xs.length ∧ xs.length ≤ 1000 ∧ ∀ H' v, v ∈ xs → WellAt H' W (n + 1) → Kp W.w H H' → Q v H') ∨
   (∃ z : Str, x = .str z ∧ 0 < z.length ∧ z.length ≤ 1000 ∧ ∀ H' c, c ∈ z.cps.toList → WellAt H' W (n + 1) → Kp W.w H H' → Q (.str ⟨#[c]⟩) H'))
theorem natAbs_small {i : Int} {n : Nat} (h0 : 0 ≤ i) (h : i ≤ n) (hn : n ≤ 2 ^ 200) : i.natAbs < 2 ^ 300 := by
  have e : i.natAbs ≤ n := by omega
  exact Nat.lt_of_le_of_lt (Nat.le_trans e hn) (Nat.pow_lt_pow_right (by decide) (by decide))
theorem atI_of {α : Type} {xs : List α} {i : Int} (h0 : 0 ≤ i) (h : i < xs.length) : ∃ v, atI xs i = some v ∧ v ∈ xs := by
  obtain ⟨j, rfl⟩ : ∃ j : Nat, i = j := ⟨i.toNat, by omega⟩
  have hj : j < xs.length := by omega
  exact ⟨xs[j], atI_nat (List.getElem?_eq_getElem hj), List.getElem_mem hj⟩
theorem line_le {n : Nat} (h : n ≤ 16777216) : n ≤ sizeLine := by rw [sizeLine_eq]; exact h
theorem line_lt {n : Nat} (h : n < 16777216) : n < sizeLine := by rw [sizeLine_eq]; exact h
theorem if_t {c A B : Prop} [Decidable c] (h : c) (a : A) : if c then A else B := by rw [if_pos h]; exact a
theorem if_f {c A B : Prop} [Decidable c] (h : ¬ c) (b : B) : if c then A else B := by rw [if_neg h]; exact b
/-- two ways of an answer k -/
theorem if_2 {k : Bool} {A B : Prop} (h1 : k = true → A) (h2 : k = false → B) : if k = true then A else B := by
  cases k with
  | true => exact if_t rfl (h1 rfl)
  | false => exact if_f Bool.false_ne_true (h2 rfl)

/-! ### texts -/
open TL in
theorem cutS_mem {z : Str} {lo hi : Option Int} {c : Nat} (h : c ∈ tl (cutS z lo hi)) : c ∈ tl z := by
  have h' : c ∈ (z.cps.toList.drop (HT.sIx z.length 0 lo)).take (HT.sIx z.length z.length hi - HT.sIx z.length 0 lo) := h
  exact List.mem_of_mem_drop (List.mem_of_mem_take h')
open TL in
theorem joinL_mem {S : List Nat} {c : Nat} : ∀ {ps : List (List Nat)}, c ∈ joinL S ps → c ∈ S ∨ ∃ p ∈ ps, c ∈ p
  | [], h => absurd h List.not_mem_nil
  | [p], h => .inr ⟨p, List.mem_singleton.mpr rfl, h⟩
  | p :: q :: r, h => by
    have h' : c ∈ p ++ (S ++ joinL S (q :: r)) := h
    rcases List.mem_append.mp h' with h1 | h1
    · exact .inr ⟨p, List.mem_cons_self, h1⟩
    · rcases List.mem_append.mp h1 with h2 | h2
      · exact .inl h2
      · rcases joinL_mem h2 with h3 | ⟨p', hp, h3⟩
        · exact .inl h3
        · exact .inr ⟨p', List.mem_cons_of_mem _ hp, h3⟩
open TL in
theorem joinL_len {S : List Nat} {m : Nat} : ∀ {ps : List (List Nat)}, (∀ p ∈ ps, p.length ≤ m) → (joinL S ps).length ≤ ps.length * (m + S.length)
  | [], _ => Nat.zero_le _
  | [p], h => by
    have := h p (List.mem_singleton.mpr rfl)
    show p.length ≤ 1 * (m + S.length)
    omega
  | p :: q :: r, h => by
    have h1 := h p List.mem_cons_self
    have h2 := joinL_len (S := S) (ps := q :: r) fun z hz => h z (List.mem_cons_of_mem _ hz)
    show (p ++ (S ++ joinL S (q :: r))).length ≤ (r.length + 1 + 1) * (m + S.length)
    rw [List.length_append, List.length_append, Nat.succ_mul]
    have h3 : (q :: r).length * (m + S.length) = (r.length + 1) * (m + S.length) := rfl
    omega
open TL in
theorem join_mem {y : Str} {ys : List Str} {c : Nat} (h : c ∈ tl (Txt.join y ys)) : c ∈ tl y ∨ ∃ p ∈ ys, c ∈ tl p := by
  rw [join_eq, tl_join] at h
  rcases joinL_mem h with h | ⟨p, hp, h⟩
  · exact .inl h
  · obtain ⟨z, hz, rfl⟩ := List.mem_map.mp hp
    exact .inr ⟨z, hz, h⟩
open TL in
theorem join_len {y : Str} {ys : List Str} {m : Nat} (h : ∀ p ∈ ys, p.length ≤ m) : (Txt.join y ys).length ≤ ys.length * (m + y.length) := by
  rw [len_tl, join_eq, tl_join, len_tl y]
  have := joinL_len (S := tl y) (ps := ys.map tl) (m := m) fun p hp => by
    obtain ⟨z, hz, rfl⟩ := List.mem_map.mp hp
    rw [← len_tl]
    exact h z hz
  rw [List.length_map] at this
  exact this
theorem sum_len {ys : List Str} {m : Nat} (h : ∀ p ∈ ys, p.length ≤ m) : (ys.map (·.length)).sum ≤ ys.length * m := by
  induction ys with
  | nil => exact Nat.zero_le _
  | cons p ys ih =>
    rw [List.map_cons, List.sum_cons, List.length_cons, Nat.succ_mul]
    have h1 := h p List.mem_cons_self
    have h2 := ih fun z hz => h z (List.mem_cons_of_mem _ hz)
    omega
open TL in
theorem spl_mem : ∀ (l acc : List Nat), ∀ p ∈ spl [46] 0 acc l, p.length ≤ acc.length + l.length ∧ ∀ c ∈ p, c ∈ acc ∨ c ∈ l
  | [], acc, p, h => by
    rw [spl_nil] at h
    rw [List.mem_singleton.mp h]
    exact ⟨Nat.le_add_right _ _, fun c hc => .inl hc⟩
  | d :: l, acc, p, h => by
    by_cases e : d = 46
    · subst e
      rw [show spl [46] 0 acc (46 :: l) = acc :: spl [46] 0 [] l from spl_hit (by rfl)] at h
      rcases List.mem_cons.mp h with h | h
      · rw [h]
        exact ⟨Nat.le_add_right _ _, fun c hc => .inl hc⟩
      · obtain ⟨h1, h2⟩ := spl_mem l [] p h
        refine ⟨by simp only [List.length_nil, List.length_cons] at h1 ⊢; omega, fun c hc => ?_⟩
        rcases h2 c hc with h3 | h3
        · exact absurd h3 List.not_mem_nil
        · exact .inr (List.mem_cons_of_mem _ h3)
    · rw [spl_miss (pre_of_head [] l e)] at h
      obtain ⟨h1, h2⟩ := spl_mem l (acc ++ [d]) p h
      refine ⟨by simp only [List.length_append, List.length_cons, List.length_nil] at h1 ⊢; omega, fun c hc => ?_⟩
      rcases h2 c hc with h3 | h3
      · rcases List.mem_append.mp h3 with h4 | h4
        · exact .inl h4
        · rw [List.mem_singleton.mp h4]
          exact .inr List.mem_cons_self
      · exact .inr (List.mem_cons_of_mem _ h3)
open TL in
theorem split_dot_mem {z y : Str} (ey : y = Str.ofString ".") : ∀ p ∈ Txt.split z y, p.length ≤ z.length ∧ ∀ c ∈ tl p, c ∈ tl z := by
  intro p hp
  subst ey
  have e := split_spl z (Str.ofString ".") (by decide +kernel) (kind_ok (by decide +kernel))
  have e1 : tl (Str.ofString ".") = [46] := by decide +kernel
  rw [e1] at e
  have h : tl p ∈ spl [46] 0 [] (tl z) := by rw [← e]; exact List.mem_map_of_mem hp
  obtain ⟨h1, h2⟩ := spl_mem _ _ _ h
  refine ⟨by rw [len_tl, len_tl]; simpa using h1, fun c hc => ?_⟩
  rcases h2 c hc with h3 | h3
  · exact absurd h3 List.not_mem_nil
  · exact h3
theorem cutV_ints (ns : List Int) (lo hi : Option Int) : ∃ cs : List Int, cutV (ns.map V.int) lo hi = cs.map V.int ∧ cs.length ≤ ns.length := by
  refine ⟨(ns.drop (HT.sIx (ns.map V.int).length 0 lo)).take (HT.sIx (ns.map V.int).length (ns.map V.int).length hi - HT.sIx (ns.map V.int).length 0 lo), ?_, ?_⟩
  · unfold cutV
    rw [List.map_take, List.map_drop]
  · rw [List.length_take, List.length_drop]
    omega
section
variable {X : Cx} {CX : CXT} {k : Nat} {f : Addr} {sp : Sp} {E : XK} {x : Str} {p pos : Pos}
theorem pe_callGd0 (F : FnG X.prog X.w X.K X.mg X.base CX k f sp) (hr : Room k X.A) (hgd : X.A.guards = some []) (hg : Gl X x) (hm : X.mg x = some (.ref f)) (hk : PySem.W.keepIn X.K (.ref f) = true) (hx : Passes CX X E)
    (hdb : (x == ("__debug__" : Str)) = false := by decide) : PE X (.Call (.Name x p) [] [] pos) (tCallG sp E tNil) := by
  refine ⟨fun pins s σ H Q I h => ?_⟩
  refine wpAny_Call_Name_kw (ld_glob I hg hm ?_ hdb)
  refine PySem.W.callWith_K0 I.kIn hk (wpAny_call (codeAny_mono (F X.A X.stack s H [] [] Q E hr hgd I.env0 .nil (show Iv (sp [] H Q E) from h).out) fun r' s' hq => ?_))
  cases r' with
  | error er => exact hx pins σ H s er s' I hq
  | ok fl =>
    cases fl with
    | ret u => exact I.after hq
    | next => exact False.elim hq
    | brk => exact False.elim hq
    | cont => exact False.elim hq
end

/-- a and b: both ways meet in R -/
theorem and_two {c : Bool} {tb : TE} {σ : L2.St} {H : Hp} {Q : VK} (R : V → Hp → Prop) (fin : ∀ v H', R v H' → Q v H') (h1 : c = true → (∀ v H', R v H' → Q v H') → tb σ H Q) (h2 : c = false → R (.bl false) H) : if c = true then tb σ H Q else Q (.bl false) H := by
  cases c with
  | true => exact if_t rfl (h1 rfl fin)
  | false => exact if_f Bool.false_ne_true (fin _ _ (h2 rfl))
theorem strOk_of {z : Str} (h : ∀ c ∈ z.cps.toList, c < 128) : PyData.strOk z = true := by
  unfold PyData.strOk
  rw [Array.all_eq_true]
  intro i hi
  have := h z.cps[i] (by rw [Array.mem_toList_iff]; exact Array.getElem_mem hi)
  exact decide_eq_true (by omega)
theorem map_at {α : Type} {f : α → V} {xs : List α} {i : Nat} {v : V} (h : (xs.map f)[i]? = some v) : ∃ x, xs[i]? = some x ∧ v = f x := by
  rw [List.getElem?_map] at h
  cases e : xs[i]? with
  | none => rw [e] at h; cases h
  | some s => rw [e] at h; exact ⟨s, rfl, (Option.some.inj h).symm⟩
theorem take_one {α : Type} {xs : List α} {i : Nat} {x : α} (h : xs[i]? = some x) : xs.take (i + 1) = xs.take i ++ [x] := by
  rw [List.take_add_one, h]
  rfl
end MyL

/-! Own errors with fields: made, raised, caught; a def with a star parameter. -/
namespace MyL
open PySem PySem.Spec PyProof.Rows L2

/-- an own error's class: what the top has written of it -/
structure ErrC (K : PySem.W.Frag) (C : Addr) : Prop where
  o : OexC K C
  x : XfC K C
  e : ExcC K C
/-- two fields -/
structure ErrC2 (K : PySem.W.Frag) (C : Addr) (f g : Str) : Prop extends ErrC K C where
  f1 : PySem.W.findIn K (.ref C) f = some none
  f2 : PySem.W.findIn K (.ref C) g = some none
/-- def __init__(self, x, y): self.f = x; self.g = y -/
def spInit2 (C : Addr) (f g : Str) : Sp := fun vs H Q _ => ∃ (a : Addr) (x y : V), vs = [.ref a, x, y] ∧ H a = some (exo a C none) ∧
  ∀ d, H d = none → d ≠ a → Q .non (upd (upd (upd H d (exd d [(f, x)])) a (exo a C (some d))) d (exd d [(g, y), (f, x)]))
/-- a reading of arguments, weakened -/
def tMon (ta : TA) : TA := fun σ H R => ∃ R' : List V → Hp → Prop, ta σ H R' ∧ ∀ vs H1, R' vs H1 → R vs H1
theorem pa_mon {X : Cx} {es : List Expr} {ta : TA} (h : PA X es ta) : PA X es (tMon ta) := by
  refine ⟨fun pos pins s σ H Q I q => ?_⟩
  obtain ⟨R', q1, q2⟩ := q
  exact thn (h.run pos pins s σ H R' I q1) fun us s1 ⟨vs, H1, I1, r, z⟩ => ⟨vs, H1, I1, r, q2 vs H1 z⟩
/-- C(x, y) -/
def tMk2 (C : Addr) (f g : Str) (ta : TA) : L2.St → Hp → XK → Prop := fun σ H Q => ta σ H fun vs H1 => ∃ x y : V, vs = [x, y] ∧ ∀ d, H1 d = none → Q (.ref C) (some d) (upd H1 d (.xd [(g, y), (f, x)]))
theorem mk2_heap {H : Hp} {a d : Addr} {o1 o2 o3 o4 u : HO} (ha : H a = none) (hd : H d = none) (ne : d ≠ a) : upd (del (upd (upd (upd (upd H a o1) d o2) a o3) d o4) a) d u = upd H d u := by
  funext b
  by_cases hbd : b = d
  · rw [hbd, upd_same, upd_same]
  · rw [upd_ne hbd, upd_ne hbd]
    by_cases hba : b = a
    · rw [hba, del_same, ha]
    · rw [del_ne hba, upd_ne hbd, upd_ne hba, upd_ne hbd, upd_ne hba]
section
variable {X : Cx} {e : Expr} {es : List Expr} {ta : TA} {p pos : Pos}
theorem pmk_2 {CX : CXT} {x : Str} {C fI : Addr} {k : Nat} {fd : FuncData} {ps : List Str} {f g : Str} (T : OexC X.K C) (iC : PySem.W.findIn X.K (.ref C) "__init__" = some (some (.ref fI))) (tI : PySem.W.typeIn X.K (.ref fI) = some (.type "function"))
    (F1 : FnOk X.prog X.w X.K X.mg X.base CX k fI fd ps (spInit2 C f g)) (hr : Room (k + 1) X.A) (hb : Binds X.K fd ps []) (hx : Passes CX X (fun _ _ _ => False)) (hg : Gl X x) (hm : X.mg x = some (.ref C)) (ha : PA X (e :: es) ta)
    (hdb : (x == ("__debug__" : Str)) = false := by decide) (he : starEach (e :: es) X.env = (false, eval e X.env) :: starEach es X.env := by rfl) (hpl : (backTo pos (starEach es X.env)).any (·.1) = false := by rfl) :
    PMk X (.Call (.Name x p) (e :: es) [] pos) (tMk2 C f g ta) := by
  intro pins s σ H Q I h
  refine pmk_oex (sp := spInit2 C f g) (ds := []) (dvs := []) T iC tI F1 hr hb .nil hx hg hm (pa_mon ha) hdb he hpl pins s σ H Q I ?_
  refine ⟨_, h, ?_⟩
  rintro vs H1 ⟨v1, v2, rfl, q⟩
  refine ⟨(by show 2 ≤ 1000; decide), fun a ha1 => ⟨a, v1, v2, rfl, upd_same, fun d hd hne => ⟨rfl, d, _, (upd_ne (Ne.symm hne)).trans upd_same, upd_same, ?_, ?_⟩⟩⟩
  · rw [upd_ne hne] at hd
    exact hd
  · rw [upd_ne hne] at hd
    rw [mk2_heap ha1 hd hne]
    exact q d hd
end
/-- the two stores -/
theorem init2_ok {P : Program} {w : World} {K : PySem.W.Frag} {mg : Str → Option Value} {base : Heap} {C fI : Addr} {fd : FuncData} {q n1 n2 f g : Str} {st : Stmt} (T : ErrC2 K C f g)
    (F : Fun K "__init__" q st fI fd) (S : FnScope ["self", n1, n2] ["self", n1, n2] (defScope st))
    (hb : ∀ (cdv : Value) (A : Around) (outer : List Env) (s : Shared) (H : Hp) (E : XK), PSs (cxOf CX0 P w K mg base ["self", n1, n2] q (defScope st) fI cdv A outer s H E).nox (defBody st) (tSeq (tOst K f (tVar 0) (tVar 1)) (tOst K g (tVar 0) (tVar 2)))) :
    FnOk P w K mg base CX0 1 fI fd ["self", n1, n2] (spInit2 C f g) := by
  refine F.ok S (fun vs H Q E h => ?_) (fun cdv A outer s H vs Q E hr h => ⟨_, hb cdv A outer s H E, ?_⟩)
  · obtain ⟨_, _, _, rfl, _⟩ := h
    rfl
  · obtain ⟨a, v1, v2, rfl, ha, q⟩ := h
    refine ⟨_, rfl, _, rfl, a, C, rfl, T.o, T.f1, .inl ⟨ha, fun d hd hne => ⟨_, rfl, _, rfl, a, C, rfl, T.o, T.f2, .inr ⟨d, _, upd_same, (upd_ne hne).trans upd_same, by show 1 ≤ 900; decide, q d hd hne⟩⟩⟩⟩

/-! ### a def f(*v) -/
section
variable {P : Program} {w : World} {K : PySem.W.Frag} {mg : Str → Option Value} {base : Heap} {CX : CXT} {k : Nat} {f : Addr} {sp : Sp}
theorem Fun_starG {x qual pv : Str} {st : Stmt} {fd : FuncData} {N : List Str} (F : Fun K x qual st f fd) (S : FnScope N [pv] (defScope st)) (hCX : StX.CXUp CX)
    (hb : ∀ (kV doc pm : Value) (an : Option Addr) (cdv ct : Value) (us : List Value), bindArgs (PySem.W.fnOf x qual (defArgs st) (defBody st) (defScope st) .none kV doc pm an cdv ct) ⟨us, []⟩ = (newTuple us >>= fun t => pure [(pv, t)]))
    (hbody : ∀ (cdv : Value) (A : Around) (outer : List Env) (s : Shared) (H : Hp) (vs : List V) (Q : VK) (E : XK), Room k (A.deeper (envOfC qual (defScope st) s.heap.objs.size f cdv)) → A.guards = some [] → sp vs H Q E →
      ∃ t, PSs (cxOf CX P w K mg base N qual (defScope st) f cdv A outer s H E) (defBody st) t ∧ t { nx := fun _ H' => Q .non H', rt := Q } (start N vs) H) :
    FnG P w K mg base CX (k + 1) f (fun vs H Q E => vs.length ≤ sizeLine ∧ ∀ p, H p = none → sp [.ref p] (upd H p (.tup vs)) Q E) := by
  obtain ⟨oc, od, kV, doc, pm, an, cdv, ct, osl, rfl, lk, hcd⟩ := F.ex
  intro A outer s H us vs Q E hr hg e0 r hsp
  obtain ⟨hz, hq⟩ := hsp
  have hn : H s.heap.objs.size = none := e0.hok.fresh (Nat.le_refl _)
  have hl : us.length ≤ sizeLine := by rw [← r.length]; exact hz
  refine StX.run_bnd lk hcd S hr e0 (G := fun xs H2 => ∃ p, H p = none ∧ xs = [V.ref p] ∧ H2 = upd H p (.tup vs)) (fun A' Ex Q' h => ?_) fun s2 H2 xs ⟨p, hp, ex, eH⟩ hr' => ?_
  · rw [hb kV doc pm an cdv ct us]
    refine wpAny_bind (wpAny_newTuple (wpAny_pure ?_) hl)
    have new : ObjOk P w (upd H s.heap.objs.size (.tup vs)) (s.heap.push ({ cls := .type "tuple", data := .seq us.toArray } : Obj)) s.heap.objs.size (.tup vs) := ⟨hz, us, r, ⟨_, Heap.get?_push_size _ rfl, rfl, _, rfl⟩⟩
    have un := StX.un_laid (fs := frs outer) (s := s) (o := ({ cls := .type "tuple", data := .seq us.toArray } : Obj)) (u := .tup vs) hn
    exact h _ _ [V.ref s.heap.objs.size] [Value.ref s.heap.objs.size] (StX.env0_laid e0 new) un rfl (fun e s' => hCX outer s H _ _ E e s' un (fun b o q => Heap.get?_push_of_some _ q) rfl) (.cons rfl .nil) rfl ⟨_, hn, rfl, rfl⟩
  · subst ex eH
    exact hbody cdv A outer s2 _ _ Q E hr' hg (hq p hp)
end

/-! ### a def called in a try -/
section
variable {X : Cx} {CX : CXT} {k : Nat} {f : Addr} {sp : Sp} {E : L2.St → XK} {x : Str} {p pos : Pos} {e : Expr} {es : List Expr} {t : TA}
def tCallGS (sp : Sp) (E : L2.St → XK) (t : TA) : TE := fun σ H Q => t σ H fun vs H1 => Iv (sp vs H1 Q (E σ))
theorem pe_callGS (F : FnG X.prog X.w X.K X.mg X.base CX k f sp) (hr : Room k X.A) (hgd : X.A.guards = some []) (hg : Gl X x) (hm : X.mg x = some (.ref f)) (hk : PySem.W.keepIn X.K (.ref f) = true) (hx : ∀ σ, PassesAt CX X σ (E σ)) (ha : PA X (e :: es) t)
    (hdb : (x == ("__debug__" : Str)) = false := by decide) (he : starEach (e :: es) X.env = (false, eval e X.env) :: starEach es X.env := by rfl) (hpl : (backTo pos (starEach es X.env)).any (·.1) = false := by rfl) :
    PE X (.Call (.Name x p) (e :: es) [] pos) (tCallGS sp E t) := by
  refine ⟨fun pins s σ H Q I h => ?_⟩
  refine wpAny_Call_Name_kw (ld_glob I hg hm ?_ hdb)
  refine PySem.W.callWith_K (h₀ := X.base) I.ok.mod.kin hk ?_ he hpl
  refine thn (ha.run pos pins s σ H _ I h) fun us s1 ⟨vs, H1, I1, r, q⟩ => ⟨I1.kIn, ?_⟩
  refine wpAny_call (codeAny_mono (F X.A X.stack s1 H1 us vs Q (E σ) hr hgd I1.env0 r q.out) fun r' s' hq => ?_)
  cases r' with
  | error er => exact hx σ pins H1 s1 er s' I1 hq
  | ok fl =>
    cases fl with
    | ret u => exact I1.after hq
    | next => exact False.elim hq
    | brk => exact False.elim hq
    | cont => exact False.elim hq
theorem pss_eq {body : List Stmt} {t u : TS} (h : PSs X body t) (e : t = u) : PSs X body u := e ▸ h
end

/-! ### isinstance of a caught error that has fields -/
def rIsED (K : PySem.W.Frag) (D a : Addr) (cls : Value) (d : Option Addr) : List V → Hp → VK → Prop := fun xs H Q => ∃ (c : V) (cv : Value) (b : Bool) (dd : Addr) (fs : List (Str × V)), xs = [.ref a, c] ∧ cls = .ref D ∧ ClsV c cv ∧ PySem.W.kitOne K (.ref D) cv = some b ∧ d = some dd ∧ H dd = some (.xd fs) ∧ Q (.bl b) H
theorem call_isED {X : Cx} {a D : Addr} {oe : Obj} {cls : Value} {d : Option Addr} {pn : List (Addr × Obj)} (C : ExcC X.K D) (hz : Zc cls d oe) (hf : ∃ vs, oe.data = .fields vs) : CallR (X.suite a ((a, oe) :: pn)) (.builtin "isinstance") (rIsED X.K D a cls d) := by
  intro pins s σ H xs us Q I r h
  obtain ⟨c, cv, b, dd, fs, rfl, rfl, hcv, e, rfl, hd, q⟩ := h
  cases r with
  | cons rx rr =>
    cases rr with
    | cons rt rr =>
      cases rr
      cases rx
      have ec := hcv.eq rt
      subst ec
      obtain ⟨hget, _⟩ := I.pin (a, oe) (List.mem_append.mpr (.inl List.mem_cons_self))
      obtain ⟨vs, hv⟩ := hf
      have hx : ObjOk X.prog X.w H s.heap dd (.xd fs) := I.hok dd _ hd
      obtain ⟨mA, hns, _⟩ := hx
      obtain ⟨od, ho, _⟩ := lookIn_ns hns
      have J : PySem.W.InstAt s.heap a oe D (some od) := ⟨hget, hz.1, by unfold PySem.W.notCls; rw [hv] <;> rfl, by rw [hz.2]; exact ho⟩
      obtain ⟨cd, hc, _⟩ := PySem.W.any_some C.hd
      exact PySem.W.kia_one (PySem.W.kitx_exc (by rw [hc] <;> rfl) C.hg C.hk C.hs C.ha C.hn C.ht C.hm) I.kIn J e (fun z => nomatch z) fun tk => ⟨.bl b, H, I.kept (t' := tk) fun _ _ z => z, rfl, q⟩
/-- an error's class in an except clause -/
theorem exm_of {K : PySem.W.Frag} {C : Addr} {cls : Value} {b : Bool} (E : ErrC K C) (h : PySem.W.subIn K cls (.ref C) = some b) : PySem.W.exmOne K cls (.ref C) = some b := PySem.W.exm_ref E.o.exC E.e.hd E.o.tyC h
theorem kit_own {K : PySem.W.Frag} {D : Addr} {t : Value} (E : ErrC K D) (h : PySem.W.subIn K t (.ref D) = some true) : PySem.W.kitOne K t (.ref D) = some true := by
  unfold PySem.W.kitOne
  by_cases e : (t == Value.ref D) = true
  · rw [if_pos e]
  · rw [if_neg e]
    obtain ⟨cd, hc, _⟩ := PySem.W.any_some E.e.hd
    have e2 : ((PySem.W.clsIn K D).isSome && PySem.W.typeIn K (.ref D) == some (.type "type")) = true := by rw [hc, E.o.tyC] <;> rfl
    show (if ((PySem.W.clsIn K D).isSome && PySem.W.typeIn K (.ref D) == some (.type "type")) = true then PySem.W.subIn K t (.ref D) else none) = some true
    rw [if_pos e2]
    exact h
end MyL

/-! Own errors as values: made by place and by name, their fields, isinstance. -/
namespace MyX
open PySem PySem.Spec PySem.Calls PyProof.Rows PySem.HandSPX
section
variable {prog : Program} {w : World} {A : Around} {E : Value → Shared → Prop} {R : Result → Shared → Prop} {h : Heap} {g : Array GenState} {d : Drawn} {t : Nat} {os : OsState}
variable {nm q : Str} {C N : Addr} {bs bm bmB : List Value} {hdct : Bool} {sn : List Str} {sub : List Value} {ab : Bool} {col : Option Bool} {dd : Option Addr} {k0 k1 k2 k3 k5 : Option Value} {B newId initId : String}
/-- the class's maker is asked, keywords or not -/
theorem kw_check {M : Model} (F : ExcBaseFacts B newId initId bmB) (hT : ∀ X : String, bm.contains (.type X) = bmB.contains (.type X)) {us : List Value} {kw : List (Str × Value)} {Q : Unit → Shared → Prop}
    (hC : h.get? C = some (excClassObj nm q C N bs bm hdct sn sub ab col dd k0 k1 k2 k3 k5 newId)) (hq : Q () ⟨h, g, d, t, os⟩) :
    wpAny M A (checkBuiltinCall newId ⟨.ref C :: us, kw⟩) Q E ⟨h, g, d, t, os⟩ := by
  have inB : (Value.ref C :: bm).contains (.type B) = true := by
    rw [List.contains_cons, hT, F.hasB, Bool.or_true]
  have z := F.noStar
  simp only [checkBuiltinCall, F.newKind, F.newSplit, F.newRow]
  repeat (first
    | refine wpAny_loadPart_at hC ?_
    | (refine wpAny_isSubtype_exc hC ?_
       rw [inB])
    | refine wpAny_staticBase_exc hC ?_
    | refine wpAny_madeBy_exc hC ?_
    | simp only [bne_self_eq_false, Bool.false_eq_true, if_false]
    | wp_step)
  exact hq
theorem kw_new (F : ExcBaseFacts B newId initId bmB) (hT : ∀ X : String, bm.contains (.type X) = bmB.contains (.type X)) {us : List Value} {kw : List (Str × Value)}
    (hC : h.get? C = some (excClassObj nm q C N bs bm hdct sn sub ab col dd k0 k1 k2 k3 k5 newId)) (hl : us.length ≤ sizeLine)
    (hq : R (.ok (.ret (.ref (h.objs.size + 1)))) ⟨(h.push { cls := .type "tuple", data := .seq us.toArray }).push { cls := .ref C, data := .fields #[.ref h.objs.size, .none, .none, .none, .bool false, .none] }, g, d, t, os⟩) :
    codeAny (model prog w) A (.builtin newId ⟨.ref C :: us, kw⟩) R ⟨h, g, d, t, os⟩ := by
  have z := F.ends
  have inB : (Value.ref C :: bm).contains (.type B) = true := by
    rw [List.contains_cons, hT, F.hasB, Bool.or_true]
  have noA : (Value.ref C :: bm).contains (.type "AttributeError") = false := by
    rw [List.contains_cons, hT, F.noAttr]
    rfl
  have noN : (Value.ref C :: bm).contains (.type "NameError") = false := by
    rw [List.contains_cons, hT, F.noName]
    rfl
  refine codeAny_builtinAt F.entry ?_
  unfold Builtin.«BaseException.__new__»
  refine PySem.wpAt_bind ?_
  show PySem.wpAt _ _ _ (stack >>= _) _ _ _
  refine PySem.wpAt_bind (PySem.wpAt_stack fun p below => PySem.wpAt_of_wpAny ?_)
  wp_walk
  refine PySem.wpAt_of_wpAny ?_
  rw [F.owner]
  repeat (first
    | with_reducible refine wpAny_madeHere_exc F.canon hC ?_
    | with_reducible refine wpAny_loadPart_at hC ?_
    | (with_reducible refine wpAny_isSubtype_exc hC ?_
       first
         | rw [inB]
         | rw [noA]
         | rw [noN])
    | wp_step)
  show R _ _
  rw [Heap.size_push]
  exact hq
theorem kw_type (F : ExcBaseFacts B newId initId bmB) (hT : ∀ X : String, bm.contains (.type X) = bmB.contains (.type X)) {us : List Value} {kw : List (Str × Value)} {fI : Addr} {Q : Fin → Shared → Prop}
    (hC : h.get? C = some (excClassObj nm q C N bs bm hdct sn sub ab col dd k0 k1 k2 k3 k5 newId))
    (hi : W.Looks (model prog w) h (typeLookup (.ref C) "__init__") (some (.ref fI))) (hb : ∀ self, W.Looks (model prog w) h (bindSpecial (.ref fI) self) (.ref fI, [self])) (hl : us.length ≤ sizeLine)
    (hq : codeAny (model prog w) A (.call (.ref fI) ⟨.ref (h.objs.size + 1) :: us, kw⟩)
      (fun r s' => match r with | .ok (.ret v) => v = .none ∧ Q (.done (.ret (.ref (h.objs.size + 1)))) s' | .ok _ => False | .error e => E e s')
      ⟨(h.push (W.kdv_tup us)).push (excO C h.objs.size), g, d, t, os⟩) :
    wpAny (model prog w) A (Builtin.«type.__call__» ⟨.ref C :: us, kw⟩) Q E ⟨h, g, d, t, os⟩ := by
  repeat (first
    | with_reducible refine wpAny_loadPart_at hC ?_
    | with_reducible refine wpAny_madeBy_exc hC ?_
    | wp_step)
  refine codeAny_call_builtin_code (Code.quiet_builtin _ F.quiet) (kw_check F hT hC ?_)
  refine kw_new F hT hC hl ?_
  show wpAny _ _ _ _ _ _
  have up : ∀ b o, h.get? b = some o → ((h.push (W.kdv_tup us)).push (excO C h.objs.size)).get? b = some o := fun b o e =>
    Heap.get?_push_of_some _ (Heap.get?_push_of_some _ e)
  have hC1 := up _ _ hC
  have at1 : ((h.push (W.kdv_tup us)).push (excO C h.objs.size)).get? (h.objs.size + 1) = some (excO C h.objs.size) := by
    heap_get
  have own : (Value.ref C :: bm).contains (.ref C) = true := by
    simp
  have i1 := hi.keeps up
  have b1 := (hb (.ref (h.objs.size + 1))).keeps up
  unfold isInstance
  repeat (first
    | with_reducible refine wpAny_loadPart_at at1 ?_
    | (with_reducible refine wpAny_isSubtype_exc hC1 ?_
       rw [own])
    | wp_step)
  show wpAny _ _ (typeLookup (.ref C) _) _ _ _
  refine i1.at ?_
  refine wpAny_holding (wpAny_bind (b1.at ?_))
  refine wpAny_bind (wpAny_call (codeAny_mono hq fun r s' z => ?_))
  rcases r with e | (v | _ | _ | _)
  all_goals first
    | exact z
    | exact z.elim
    | skip
  obtain ⟨rfl, z⟩ := z
  first
    | exact wpAny_pure (wpAny_pure z)
    | (wp_walk
       exact z)
theorem kw_call (F : ExcBaseFacts B newId initId bmB) (hT : ∀ X : String, bm.contains (.type X) = bmB.contains (.type X)) {us : List Value} {kw : List (Str × Value)} {fI : Addr}
    (hC : h.get? C = some (excClassObj nm q C N bs bm hdct sn sub ab col dd k0 k1 k2 k3 k5 newId))
    (hi : W.Looks (model prog w) h (typeLookup (.ref C) "__init__") (some (.ref fI))) (hb : ∀ self, W.Looks (model prog w) h (bindSpecial (.ref fI) self) (.ref fI, [self])) (hl : us.length ≤ sizeLine)
    (hq : codeAny (model prog w) (A.under (.builtin "type.__call__" ⟨.ref C :: us, kw⟩)) (.call (.ref fI) ⟨.ref (h.objs.size + 1) :: us, kw⟩) (W.InitBack (h.objs.size + 1) R)
      ⟨(h.push (W.kdv_tup us)).push (excO C h.objs.size), g, d, t, os⟩) :
    codeAny (model prog w) A (.call (.ref C) ⟨us, kw⟩) R ⟨h, g, d, t, os⟩ := by
  have f1 := tc_lookup
  have f2 := tc_bind (.ref C)
  have ty : (⟨h, g, d, t, os⟩ : Shared).TypeIs (.ref C) "type" := ⟨_, hC, rfl⟩
  have f3 := tc_sub
  refine codeAny_of_tree ?_
  show wpAny _ _ (callAny (.ref C) _) _ _ _
  repeat (any_goals (first
    | assumption
    | with_reducible refine wpAny_loadPart_at hC ?_
    | wp_step))
  refine ⟨rfl, ?_⟩
  refine codeAny_call_builtin_at (Code.quiet_builtin _ (by decide +kernel)) entry_typeCall ?_
  have chk : ∀ {Q : Unit → Shared → Prop} {E : Value → Shared → Prop} {A : Around}, Q () ⟨h, g, d, t, os⟩ → wpAny (model prog w) A (checkBuiltinCall "type.__call__" ⟨.ref C :: us, kw⟩) Q E ⟨h, g, d, t, os⟩ := by
    intro Q E A hq
    simp only [checkBuiltinCall, tc_kind, tc_split]
    repeat (any_goals (first
      | assumption
      | with_reducible refine wpAny_loadPart_at hC ?_
      | with_reducible refine wpAny_onRaise ?_
      | with_reducible refine wpAny_map ?_
      | wp_step))
  refine chk (kw_type F hT hC hi hb hl ?_)
  refine codeAny_mono hq fun r s' z => ?_
  rcases r with e | (v | _ | _ | _) <;> exact z
end
end MyX
namespace MyL
open PySem PySem.Spec PyProof.Rows L2
/-- at x: an own error of the class at C, its fields fs -/
def ErAt (H : Hp) (x C : Addr) (fs : List (Str × V)) : Prop := (fs = [] ∧ H x = some (exo x C none)) ∨ ∃ d, H x = some (exo x C (some d)) ∧ H d = some (exd d fs)
theorem ErAt.same {H H' : Hp} {x C : Addr} {fs : List (Str × V)} (h : ErAt H x C fs) (S : Same H H') : ErAt H' x C fs := by
  rcases h with ⟨e, h⟩ | ⟨d, h1, h2⟩
  · exact .inl ⟨e, S _ _ h⟩
  · exact .inr ⟨d, S _ _ h1, S _ _ h2⟩
/-- one field -/
structure ErrC1 (K : PySem.W.Frag) (C : Addr) (f : Str) : Prop extends ErrC K C where
  f1 : PySem.W.findIn K (.ref C) f = some none
def spInit1 (C : Addr) (f : Str) : Sp := fun vs H Q _ => ∃ (a : Addr) (x : V), vs = [.ref a, x] ∧ H a = some (exo a C none) ∧
  ∀ d, H d = none → d ≠ a → Q .non (upd (upd H d (exd d [(f, x)])) a (exo a C (some d)))
/-- an __init__ of one field, n its parameter's name, as it may be called -/
def Init1 (P : Program) (w : World) (K : PySem.W.Frag) (mg : Str → Option Value) (base : Heap) (C fI : Addr) (f : Str) : Prop :=
  PySem.W.findIn K (.ref C) "__init__" = some (some (.ref fI)) ∧ PySem.W.typeIn K (.ref fI) = some (.type "function") ∧
  ∃ fd, FnOk P w K mg base CX0 1 fI fd ["self", f] (spInit1 C f) ∧ (∀ (s : Shared) (e u : Value), BindsTo s fd ⟨[e, u], []⟩ (([("self" : Str), f] : List Str).zip [e, u])) ∧ (∀ (s : Shared) (e u : Value), BindsTo s fd ⟨[e], [(f, u)]⟩ (([("self" : Str), f] : List Str).zip [e, u]))
def Init2 (P : Program) (w : World) (K : PySem.W.Frag) (mg : Str → Option Value) (base : Heap) (C fI : Addr) (f g : Str) : Prop :=
  PySem.W.findIn K (.ref C) "__init__" = some (some (.ref fI)) ∧ PySem.W.typeIn K (.ref fI) = some (.type "function") ∧
  ∃ fd, FnOk P w K mg base CX0 1 fI fd ["self", f, g] (spInit2 C f g) ∧ (∀ (s : Shared) (e u v : Value), BindsTo s fd ⟨[e, u, v], []⟩ (([("self" : Str), f, g] : List Str).zip [e, u, v])) ∧ (∀ (s : Shared) (e u v : Value), BindsTo s fd ⟨[e], [(g, v), (f, u)]⟩ (([("self" : Str), f, g] : List Str).zip [e, u, v]))
theorem init1_ok {P : Program} {w : World} {K : PySem.W.Frag} {mg : Str → Option Value} {base : Heap} {C fI : Addr} {fd : FuncData} {q f : Str} {st : Stmt} (T : ErrC1 K C f)
    (F : Fun K "__init__" q st fI fd) (S : FnScope ["self", f] ["self", f] (defScope st))
    (hb : ∀ (cdv : Value) (A : Around) (outer : List Env) (s : Shared) (H : Hp) (E : XK), PSs (cxOf CX0 P w K mg base ["self", f] q (defScope st) fI cdv A outer s H E).nox (defBody st) (tOst K f (tVar 0) (tVar 1))) :
    FnOk P w K mg base CX0 1 fI fd ["self", f] (spInit1 C f) := by
  refine F.ok S (fun vs H Q E h => ?_) (fun cdv A outer s H vs Q E hr h => ⟨_, hb cdv A outer s H E, ?_⟩)
  · obtain ⟨_, _, rfl, _⟩ := h
    rfl
  · obtain ⟨a, v1, rfl, ha, q⟩ := h
    exact ⟨_, rfl, _, rfl, a, C, rfl, T.o, T.f1, .inl ⟨ha, fun d hd hne => q d hd hne⟩⟩
section
variable {X : Cx} {x : Str} {C fI : Addr} {f g : Str} {e : Expr} {es : List Expr} {kws : List Keyword} {ta : TA} {p pos : Pos}
theorem run_mkX {k : Nat} {fd : FuncData} {ps : List Str} {sp : Sp} {pins : List (Addr × Obj)} {σ : L2.St} {H : Hp} {s : Shared} {Q : VK} {us ws' : List Value} {kw : List (Str × Value)} {vs' : List V} (T : OexC X.K C)
    (iC : PySem.W.findIn X.K (.ref C) "__init__" = some (some (.ref fI))) (tI : PySem.W.typeIn X.K (.ref fI) = some (.type "function")) (F1 : FnOk X.prog X.w X.K X.mg X.base CX0 k fI fd ps sp) (hr : Room (k + 1) X.A) (I : Inv X pins σ H s)
    (hb : ∀ (s : Shared) (e : Value), BindsTo s fd ⟨e :: us, kw⟩ (ps.zip (e :: ws'))) (r : Vals vs' ws') (hl : us.length ≤ sizeLine)
    (h : ∀ a, H a = none → sp (.ref a :: vs') (upd H a (exo a C none)) (fun v H2 => v = .non ∧ Q (.ref a) H2) (fun _ _ _ => False)) : wpAny (model X.prog X.w) X.A (call (.ref C) us kw) (EP X pins σ Q) X.xe s := by
  obtain ⟨nm, q, N, bs, bm, sn, sub, ab, col, dd, k0, k1, k2, k3, k5, hC, hbm⟩ := T.cls
  obtain ⟨hp, gg, dr, tk, os⟩ := s
  have hsz : hp.objs.size ≤ hp.objs.size + 1 := Nat.le_succ _
  have hq := h (hp.objs.size + 1) (I.hok.fresh hsz)
  have up : ∀ b o, hp.get? b = some o → ((hp.push (PySem.W.kdv_tup us)).push (PySem.HandSPX.excO C hp.objs.size)).get? b = some o := fun b o z =>
    Heap.get?_push_of_some _ (Heap.get?_push_of_some _ z)
  have at1 : ((hp.push (PySem.W.kdv_tup us)).push (PySem.HandSPX.excO C hp.objs.size)).get? (hp.objs.size + 1) = some (PySem.HandSPX.excO C hp.objs.size) := by
    heap_get
  have I2 : Inv X pins σ (upd H (hp.objs.size + 1) (exo (hp.objs.size + 1) C none)) ⟨(hp.push (PySem.W.kdv_tup us)).push (PySem.HandSPX.excO C hp.objs.size), gg, dr, tk, os⟩ :=
    I.laid (t' := tk) (a := hp.objs.size + 1) (o := exo (hp.objs.size + 1) C none) up hsz (exo_ok at1)
  have r2 : Vals (V.ref (hp.objs.size + 1) :: vs') (Value.ref (hp.objs.size + 1) :: ws') := .cons rfl r
  refine wpAny_call (MyX.kw_call F.excBase_ValueError (fun Y => PySem.HandSPX.refsVE_contains Y bm hbm) (I.kIn _ _ hC) (PySem.W.looks_findIn I.kIn iC) (fun self => PySem.W.bind_fn I.kIn self tI) hl
    (codeAny_mono (F1.run _ X.stack _ _ ⟨Value.ref (hp.objs.size + 1) :: us, kw⟩ (Value.ref (hp.objs.size + 1) :: ws') _ _ (fun _ _ _ => False) (hr.make C us kw) (I2.env0.make C us kw) (hb _ _) r2 hq) fun r' s' hq' => ?_))
  cases r' with
  | error er => exact hq'.elim
  | ok fl =>
    cases fl with
    | ret u =>
      obtain ⟨v, H', I3, rv, ev, q3⟩ := I2.after hq'
      subst ev
      exact ⟨rv, ⟨V.ref (hp.objs.size + 1), H', I3, rfl, q3⟩⟩
    | next => exact hq'.elim
    | brk => exact hq'.elim
    | cont => exact hq'.elim
/-- an error made of one value, of two -/
def tX1 (C : Addr) (f : Str) (ta : TA) : TE := fun σ H Q => ta σ H fun vs H1 => ∃ v : V, vs = [v] ∧ ∀ H' x, Same H1 H' → H1 x = none → ErAt H' x C [(f, v)] → Q (.ref x) H'
def tX2 (C : Addr) (f g : Str) (ta : TA) : TE := fun σ H Q => ta σ H fun vs H1 => ∃ v u : V, vs = [v, u] ∧ ∀ H' x, Same H1 H' → H1 x = none → ErAt H' x C [(g, u), (f, v)] → Q (.ref x) H'
def tX2r (C : Addr) (f g : Str) (ta : TA) : TE := fun σ H Q => ta σ H fun vs H1 => ∃ v u : V, vs = [u, v] ∧ ∀ H' x, Same H1 H' → H1 x = none → ErAt H' x C [(g, u), (f, v)] → Q (.ref x) H'
theorem sp1_of {H : Hp} {Q : VK} {v : V} (q : ∀ H' x, Same H H' → H x = none → ErAt H' x C [(f, v)] → Q (.ref x) H') (a : Addr) (ha : H a = none) : spInit1 C f [.ref a, v] (upd H a (exo a C none)) (fun w H2 => w = .non ∧ Q (.ref a) H2) (fun _ _ _ => False) := by
  refine ⟨a, v, rfl, upd_same, fun d hd hne => ⟨rfl, q _ a ?_ ha (.inr ⟨d, upd_same, (upd_ne hne).trans upd_same⟩)⟩⟩
  have hd0 : H d = none := by rw [upd_ne hne] at hd; exact hd
  exact Same.put (Same.put (Same.put (Same.refl H) ha) hd0) ha
theorem sp2_of {H : Hp} {Q : VK} {v u : V} (q : ∀ H' x, Same H H' → H x = none → ErAt H' x C [(g, u), (f, v)] → Q (.ref x) H') (a : Addr) (ha : H a = none) : spInit2 C f g [.ref a, v, u] (upd H a (exo a C none)) (fun w H2 => w = .non ∧ Q (.ref a) H2) (fun _ _ _ => False) := by
  refine ⟨a, v, u, rfl, upd_same, fun d hd hne => ⟨rfl, q _ a ?_ ha (.inr ⟨d, (upd_ne (Ne.symm hne)).trans upd_same, upd_same⟩)⟩⟩
  have hd0 : H d = none := by rw [upd_ne hne] at hd; exact hd
  exact Same.put (Same.put (Same.put (Same.put (Same.refl H) ha) hd0) ha) hd0
theorem pe_x1 (T : OexC X.K C) (J : Init1 X.prog X.w X.K X.mg X.base C fI f) (hr : Room 2 X.A) (hg : Gl X x) (hm : X.mg x = some (.ref C)) (ha : PA X [e] ta)
    (hdb : (x == ("__debug__" : Str)) = false := by decide) (he : starEach [e] X.env = (false, eval e X.env) :: starEach [] X.env := by rfl) (hpl : (backTo pos (starEach [] X.env)).any (·.1) = false := by rfl) :
    PE X (.Call (.Name x p) [e] [] pos) (tX1 C f ta) := by
  obtain ⟨iC, tI, fd, F1, b1, _⟩ := J
  refine ⟨fun pins s σ H Q I h => ?_⟩
  refine wpAny_Call_Name_kw (ld_glob I hg hm ?_ hdb)
  refine PySem.W.callWith_K (h₀ := X.base) I.ok.mod.kin T.kC (thn (ha.run pos pins s σ H _ I h) fun us s1 ⟨vs, H1, I1, r1, v, ev, q1⟩ => ⟨I1.kIn, ?_⟩) he hpl
  subst ev
  cases r1 with
  | cons rv rn =>
    cases rn
    exact run_mkX T iC tI F1 hr I1 (fun s e => b1 s e _) (.cons rv .nil) (by show 1 ≤ sizeLine; rw [sizeLine_eq]; decide) (fun a n => sp1_of q1 a n)
theorem pe_x2 {e2 : Expr} (T : OexC X.K C) (J : Init2 X.prog X.w X.K X.mg X.base C fI f g) (hr : Room 2 X.A) (hg : Gl X x) (hm : X.mg x = some (.ref C)) (ha : PA X [e, e2] ta)
    (hdb : (x == ("__debug__" : Str)) = false := by decide) (he : starEach [e, e2] X.env = (false, eval e X.env) :: starEach [e2] X.env := by rfl) (hpl : (backTo pos (starEach [e2] X.env)).any (·.1) = false := by rfl) :
    PE X (.Call (.Name x p) [e, e2] [] pos) (tX2 C f g ta) := by
  obtain ⟨iC, tI, fd, F1, b1, _⟩ := J
  refine ⟨fun pins s σ H Q I h => ?_⟩
  refine wpAny_Call_Name_kw (ld_glob I hg hm ?_ hdb)
  refine PySem.W.callWith_K (h₀ := X.base) I.ok.mod.kin T.kC (thn (ha.run pos pins s σ H _ I h) fun us s1 ⟨vs, H1, I1, r1, v, u, ev, q1⟩ => ⟨I1.kIn, ?_⟩) he hpl
  subst ev
  cases r1 with
  | cons rv rn =>
    cases rn with
    | cons ru rn =>
      cases rn
      exact run_mkX T iC tI F1 hr I1 (fun s e => b1 s e _ _) (.cons rv (.cons ru .nil)) (by show 2 ≤ sizeLine; rw [sizeLine_eq]; decide) (fun a n => sp2_of q1 a n)
theorem pe_x1k (T : OexC X.K C) (J : Init1 X.prog X.w X.K X.mg X.base C fI f) (hr : Room 2 X.A) (hg : Gl X x) (hm : X.mg x = some (.ref C)) (hkw : PK X kws ta)
    (hall : (backToKw pos (keywordEach kws X.env)).all (·.1.isSome) = true := by rfl) (hks : (backToKw pos (keywordEach kws X.env)).filterMap (·.1) = [f] := by rfl) (hdb : (x == ("__debug__" : Str)) = false := by decide)
    (hpl : ((backTo pos (starEach [] X.env)).any (·.1) || (backToKw pos (keywordEach kws X.env)).any (·.1.isNone)) = false := by rfl) :
    PE X (.Call (.Name x p) [] kws pos) (tX1 C f ta) := by
  obtain ⟨iC, tI, fd, F1, _, b2⟩ := J
  refine ⟨fun pins s σ H Q I h => ?_⟩
  refine wpAny_Call_Name_kw (ld_glob I hg hm ?_ hdb)
  refine PySem.W.callWith_KW0 (h₀ := X.base) I.ok.mod.kin T.kC hall ?_ hpl
  refine thn (hkw.run pos pins s σ H _ I h) fun ws s1 ⟨vs, H1, I1, r1, v, ev, q1⟩ => ⟨I1.kIn, ?_⟩
  subst ev
  rw [hks]
  cases r1 with
  | cons rv rn =>
    cases rn
    exact run_mkX T iC tI F1 hr I1 (fun s e => b2 s e _) (.cons rv .nil) (Nat.zero_le _) (fun a n => sp1_of q1 a n)
theorem pe_x2k (T : OexC X.K C) (J : Init2 X.prog X.w X.K X.mg X.base C fI f g) (hr : Room 2 X.A) (hg : Gl X x) (hm : X.mg x = some (.ref C)) (hkw : PK X kws ta)
    (hall : (backToKw pos (keywordEach kws X.env)).all (·.1.isSome) = true := by rfl) (hks : (backToKw pos (keywordEach kws X.env)).filterMap (·.1) = [g, f] := by rfl) (hdb : (x == ("__debug__" : Str)) = false := by decide)
    (hpl : ((backTo pos (starEach [] X.env)).any (·.1) || (backToKw pos (keywordEach kws X.env)).any (·.1.isNone)) = false := by rfl) :
    PE X (.Call (.Name x p) [] kws pos) (tX2r C f g ta) := by
  obtain ⟨iC, tI, fd, F1, _, b2⟩ := J
  refine ⟨fun pins s σ H Q I h => ?_⟩
  refine wpAny_Call_Name_kw (ld_glob I hg hm ?_ hdb)
  refine PySem.W.callWith_KW0 (h₀ := X.base) I.ok.mod.kin T.kC hall ?_ hpl
  refine thn (hkw.run pos pins s σ H _ I h) fun ws s1 ⟨vs, H1, I1, r1, v, u, ev, q1⟩ => ⟨I1.kIn, ?_⟩
  subst ev
  rw [hks]
  cases r1 with
  | cons ru rn =>
    cases rn with
    | cons rv rn =>
      cases rn
      exact run_mkX T iC tI F1 hr I1 (fun s e => b2 s e _ _) (.cons rv (.cons ru .nil)) (Nat.zero_le _) (fun a n => sp2_of q1 a n)
end
end MyL

/-! repr of any nested data, dicts among it; fields and kinds of errors that are held as values. -/
namespace MyL
open PySem PySem.Spec PyProof.Rows L2
def keyD : Key → PyData
  | .inl i => .int i
  | .inr x => .str x
mutual
/-- the value reads as the data -/
inductive DpX (H : Hp) : V → PyData → Prop
  | non : DpX H .non .none
  | bl (b : Bool) : DpX H (.bl b) (.bool b)
  | int (i : Int) : DpX H (.int i) (.int i)
  | str (z : Str) : DpX H (.str z) (.str z)
  | lst {a : Addr} {xs : List V} {ds : List PyData} : H a = some (.lst xs) → a ≠ sysModules → DpXs H xs ds → DpX H (.ref a) (.list ds)
  | tup {a : Addr} {xs : List V} {ds : List PyData} : H a = some (.tup xs) → DpXs H xs ds → DpX H (.ref a) (.tuple ds)
  | dct {a : Addr} {kvs : List (Key × V)} {ds : List (PyData × PyData)} : H a = some (.dK kvs) → DpXp H kvs ds → DpX H (.ref a) (.dict ds)
inductive DpXs (H : Hp) : List V → List PyData → Prop
  | nil : DpXs H [] []
  | cons {v : V} {vs : List V} {d : PyData} {ds : List PyData} : DpX H v d → DpXs H vs ds → DpXs H (v :: vs) (d :: ds)
inductive DpXp (H : Hp) : List (Key × V) → List (PyData × PyData) → Prop
  | nil : DpXp H [] []
  | cons {k : Key} {v : V} {vs : List (Key × V)} {d : PyData} {ds : List (PyData × PyData)} : DpX H v d → DpXp H vs ds → DpXp H ((k, v) :: vs) ((keyD k, d) :: ds)
end
section
variable {H H' : Hp}
mutual
theorem DpX.same (S : Same H H') : ∀ {v : V} {d : PyData}, DpX H v d → DpX H' v d
  | _, _, .non => .non
  | _, _, .bl b => .bl b
  | _, _, .int i => .int i
  | _, _, .str z => .str z
  | _, _, .lst h n q => .lst (S _ _ h) n (DpXs.same S q)
  | _, _, .tup h q => .tup (S _ _ h) (DpXs.same S q)
  | _, _, .dct h q => .dct (S _ _ h) (DpXp.same S q)
theorem DpXs.same (S : Same H H') : ∀ {v : List V} {d : List PyData}, DpXs H v d → DpXs H' v d
  | _, _, .nil => .nil
  | _, _, .cons h q => .cons (DpX.same S h) (DpXs.same S q)
theorem DpXp.same (S : Same H H') : ∀ {v : List (Key × V)} {d : List (PyData × PyData)}, DpXp H v d → DpXp H' v d
  | _, _, .nil => .nil
  | _, _, .cons h q => .cons (DpX.same S h) (DpXp.same S q)
end
end
section
variable {P : Program} {w : World} {H : Hp} {h : Heap}
theorem key_reads {k : Key} {u : Value} (e : keyIs k u = true) : Reads h u (keyD k) [] := by
  rcases keyIs_shape e with ⟨i, t, rfl, rfl⟩ | ⟨z, t, rfl, rfl⟩
  · exact Reads.int i t
  · exact Reads.str z t
mutual
theorem DpX.reads (hok : HOk P w H h) : ∀ {v : V} {d : PyData} {u : Value}, DpX H v d → RelV v u → ∃ as, Reads h u d as ∧ sysModules ∉ as
  | _, _, _, .non, r => by
    cases r
    exact ⟨_, Reads.none, List.not_mem_nil⟩
  | _, _, _, .bl b, r => by
    cases r
    exact ⟨_, Reads.bool b, List.not_mem_nil⟩
  | _, _, _, .int i, r => by
    obtain ⟨t, rfl⟩ := r
    exact ⟨_, Reads.int i t, List.not_mem_nil⟩
  | _, _, _, .str z, r => by
    obtain ⟨t, rfl⟩ := r
    exact ⟨_, Reads.str z t, List.not_mem_nil⟩
  | _, _, _, .lst (a := a) ha n q, r => by
    cases r
    obtain ⟨_, its, m, rv, e⟩ := hok a _ ha
    obtain ⟨as, hr, hn⟩ := DpXs.reads hok q rv
    exact ⟨_, Reads.list e rfl rfl hr, fun z => (List.mem_cons.mp z).elim (fun y => n y.symm) hn⟩
  | _, _, _, .tup (a := a) ha q, r => by
    cases r
    obtain ⟨_, its, rv, o, e, c, m, hd⟩ := hok a _ ha
    obtain ⟨as, hr, hn⟩ := DpXs.reads hok q rv
    exact ⟨_, Reads.tuple e c hd hr, hn⟩
  | _, _, _, .dct (a := a) ha q, r => by
    cases r
    obtain ⟨_, hne, vs, kv, o, es, ep, e, hx, hd, _, prs, _⟩ := hok a _ ha
    obtain ⟨as, bs, h1, h2, n1, n2⟩ := DpXp.reads hok q kv prs
    refine ⟨_, Reads.dict e hx.1 hd h1 h2, fun z => ?_⟩
    rcases List.mem_cons.mp z with y | y
    · rw [← y] at hne
      simp at hne
    · exact (List.mem_append.mp y).elim n1 n2
theorem DpXs.reads (hok : HOk P w H h) : ∀ {v : List V} {d : List PyData} {u : List Value}, DpXs H v d → Vals v u → ∃ as, ReadsAll h u d as ∧ sysModules ∉ as
  | _, _, _, .nil, r => by
    cases r
    exact ⟨_, ReadsAll.nil, List.not_mem_nil⟩
  | _, _, _, .cons p q, r => by
    cases r with
    | cons r1 r2 =>
      obtain ⟨as, h1, n1⟩ := DpX.reads hok p r1
      obtain ⟨bs, h2, n2⟩ := DpXs.reads hok q r2
      exact ⟨_, ReadsAll.cons h1 h2, fun z => (List.mem_append.mp z).elim n1 n2⟩
theorem DpXp.reads (hok : HOk P w H h) : ∀ {v : List (Key × V)} {d : List (PyData × PyData)} {us : List (Key × Value)} {es : List DictEntry}, DpXp H v d → KV v us → Pairs (mixKind P w) es us →
    ∃ as bs, ReadsAll h (es.map (·.key)) (d.map (·.1)) as ∧ ReadsAll h (es.map (·.val)) (d.map (·.2)) bs ∧ sysModules ∉ as ∧ sysModules ∉ bs
  | _, _, _, _, .nil, kv, prs => by
    cases kv
    cases prs
    exact ⟨[], [], ReadsAll.nil, ReadsAll.nil, List.not_mem_nil, List.not_mem_nil⟩
  | _, _, _, _, .cons p q, kv, prs => by
    cases kv with
    | cons r1 r2 =>
      cases prs with
      | cons k1 v1 prs =>
        obtain ⟨e1, e2⟩ := r1
        obtain ⟨as, h1, n1⟩ := DpX.reads hok p e2
        obtain ⟨cs, bs, h2, h3, n2, n3⟩ := DpXp.reads hok q r2 prs
        dsimp only at e1 h1
        rw [← e1] at k1
        rw [← v1] at h1
        exact ⟨_, _, ReadsAll.cons (key_reads k1) h2, ReadsAll.cons h1 h3, fun z => (List.mem_append.mp z).elim List.not_mem_nil n2, fun z => (List.mem_append.mp z).elim n1 n3⟩
end
end
/-- repr of a value that reads as data -/
def rReprX (K : PySem.W.Frag) : List V → Hp → VK → Prop := fun xs H Q => ∃ (v : V) (d : PyData), xs = [v] ∧ DpX H v d ∧ d.showable = true ∧ d.depth ≤ 60 ∧ d.shown.length ≤ sizeLine ∧ Q (.str d.shown) H
theorem call_reprX {X : Cx} (hg : X.A.guards = some []) (hu : X.A.units + 64 < cLine) : CallR X (.builtin "repr") (rReprX X.K) := by
  intro pins s σ H xs us Q I r h
  obtain ⟨v, d, rfl, hd, hs, hz, hl, q⟩ := h
  obtain ⟨u, rfl, ru⟩ := vals1 r
  obtain ⟨as, rd, hn⟩ := DpX.reads I.hok hd ru
  cases rd with
  | none =>
    simp only [PyData.shown] at q
    exact PySem.P.repr_of_none ⟨.str _, H, I.tok _, ⟨_, rfl⟩, q⟩
  | bool b =>
    simp only [PyData.shown] at q
    exact PySem.P.repr_of_bool ⟨.str _, H, I.tok _, ⟨_, rfl⟩, q⟩
  | int i t =>
    simp only [PyData.shown] at q
    exact PySem.P.repr_of_int (by simpa [PyData.showable] using hs) ⟨.str _, H, I.tok _, ⟨_, rfl⟩, q⟩
  | str x t =>
    simp only [PyData.shown] at q hl
    exact PySem.P.repr_of_str ⟨.str _, H, I.tok _, ⟨_, rfl⟩, q⟩ hl
  | list h1 h2 h3 h4 => exact repr_of_reads' (Reads.list h1 h2 h3 h4) hs (fun _ => hn) hg (by omega) (fun b o e => e) (fun h' u tk hk => ⟨.str _, H, I.kept (t' := tk) hk, ⟨_, rfl⟩, q⟩) hl
  | tuple h1 h2 h3 h4 => exact repr_of_reads' (Reads.tuple h1 h2 h3 h4) hs (fun _ => hn) hg (by omega) (fun b o e => e) (fun h' u tk hk => ⟨.str _, H, I.kept (t' := tk) hk, ⟨_, rfl⟩, q⟩) hl
  | dict h1 h2 h3 h4 h5 => exact repr_of_reads' (Reads.dict h1 h2 h3 h4 h5) hs (fun _ => hn) hg (by omega) (fun b o e => e) (fun h' u tk hk => ⟨.str _, H, I.kept (t' := tk) hk, ⟨_, rfl⟩, q⟩) hl
/-- a list display: the new address is not the module table's -/
def tLstX (t : TA) : TE := fun σ H Q => t σ H fun xs H1 => xs.length ≤ sizeLine ∧ ∀ p, H1 p = none → p ≠ sysModules → Q (.ref p) (upd H1 p (.lst xs))
theorem pe_lstX {X : Cx} {es : List Expr} {t : TA} {pos : Pos} (h : PA X es t) : PE X (.List es pos) (tLstX t) := by
  refine ⟨fun pins s σ H Q I hq => ?_⟩
  refine wpAny_List_spliced (thn (h.run pos pins s σ H _ I hq) fun us s1 ⟨xs, H1, I1, r, z, q⟩ => ⟨by rw [← r.length]; exact z, ?_⟩)
  have fresh : H1 s1.heap.objs.size = none := I1.hok.fresh (Nat.le_refl _)
  have big : s1.heap.objs.size ≠ sysModules := Nat.ne_of_gt (StX.env0_big I1.env0)
  have new : ObjOk X.prog X.w (upd H1 s1.heap.objs.size (.lst xs)) (s1.heap.push { cls := .type "list", data := .seq us.toArray 0 }) s1.heap.objs.size (.lst xs) := ⟨z, us, 0, r, Heap.get?_push_size _ rfl⟩
  exact ⟨.ref s1.heap.objs.size, _, I1.laid (t' := s1.toks) (fun b u e => Heap.get?_push_of_some _ e) (Nat.le_refl _) new, rfl, q _ fresh big⟩

/-! ### errors as values: fields, kinds -/
def tXo (K : PySem.W.Frag) (f : Str) (te : TE) : TE := fun σ H Q => te σ H fun v H1 => ∃ (x C : Addr) (fs : List (Str × V)) (y : V), v = .ref x ∧ ErAt H1 x C fs ∧ XfC K C ∧ PySem.W.findIn K (.ref C) f = some none ∧ fs.lookup f = some y ∧ Q y H1
theorem pe_xo {X : Cx} {e : Expr} {te : TE} {pos : Pos} {n : Str} (he : PE X e te) (hb : attributeBase e n X.env (eval e X.env) = eval e X.env := by rfl) : PE X (.Attribute e n pos) (tXo X.K n te) := by
  refine ⟨fun pins s σ H Q I h => ?_⟩
  refine attr_of hb (thn (he.run pins s σ H _ I h) fun u s1 hh => ?_)
  obtain ⟨v, H1, I1, rx, x, C, fs, y, rfl, hE, T, hno, l, q⟩ := hh
  obtain rfl : u = Value.ref x := rx
  rcases hE with ⟨rfl, _⟩ | ⟨d, h1, h2⟩
  · cases l
  · obtain ⟨t1, ho⟩ := exo_at I1.hok h1
    obtain ⟨mA, hns, hr⟩ := exd_at I1.hok h2
    obtain ⟨od, hod, hl⟩ := lookIn_ns hns
    obtain ⟨uv, hu, ru⟩ := RelO.some_of (v := y) (o := mA n) (by rw [← l]; exact hr n)
    have J : PySem.W.InstAt s1.heap x ({ cls := .ref C, dict := some d, data := .fields #[.ref t1, .none, .none, .none, .bool false, .none] } : Obj) C (some od) := ⟨ho, rfl, rfl, hod⟩
    exact HandSPX.exc_get I1.kIn J T.ga T.gg T.exC (PySem.W.findObj_own T.hdC hno rfl (by rw [hl, hu])) (handed_of ru) ⟨y, H1, I1.tok _, ru, q⟩
/-- isinstance of an error that is held as a value -/
def rIsX (K : PySem.W.Frag) : List V → Hp → VK → Prop := fun xs H Q => ∃ (x C : Addr) (fs : List (Str × V)) (c : V) (cv : Value) (b : Bool), xs = [.ref x, c] ∧ ErAt H x C fs ∧ ExcC K C ∧ ClsV c cv ∧ PySem.W.kitOne K (.ref C) cv = some b ∧ Q (.bl b) H
theorem call_isX {X : Cx} : CallR X (.builtin "isinstance") (rIsX X.K) := by
  intro pins s σ H xs us Q I r h
  obtain ⟨x, C, fs, c, cv, b, rfl, hE, T, hcv, e, q⟩ := h
  cases r with
  | cons rx rr =>
    cases rr with
    | cons rt rr =>
      cases rr
      cases rx
      have ec := hcv.eq rt
      subst ec
      obtain ⟨cd, hc, _⟩ := PySem.W.any_some T.hd
      have J : ∃ (ox : Obj) (od : Option Obj), PySem.W.InstAt s.heap x ox C od := by
        rcases hE with ⟨_, h1⟩ | ⟨d, h1, h2⟩
        · obtain ⟨t1, ho⟩ := exo_at I.hok h1
          exact ⟨_, none, ho, rfl, rfl, trivial⟩
        · obtain ⟨t1, ho⟩ := exo_at I.hok h1
          obtain ⟨mA, hns, _⟩ := exd_at I.hok h2
          obtain ⟨od, hod, _⟩ := lookIn_ns hns
          exact ⟨_, some od, ho, rfl, rfl, hod⟩
      obtain ⟨ox, od, J⟩ := J
      exact PySem.W.kia_one (PySem.W.kitx_exc (by rw [hc] <;> rfl) T.hg T.hk T.hs T.ha T.hn T.ht T.hm) I.kIn J e (fun z => nomatch z) fun tk => ⟨.bl b, H, I.kept (t' := tk) fun _ _ z => z, rfl, q⟩
/-- C(), no __init__ of its own -/
theorem pe_x0 {X : Cx} {C : Addr} {x : Str} {p pos : Pos} (q : PySem.W.excIn X.K C [.type "ValueError", .type "Exception", .type "BaseException", .type "object"] "ValueError.__new__" = true) (gC : X.mg x = some (.ref C)) (kC : PySem.W.keepIn X.K (.ref C) = true) (hg : Gl X x)
    (hdb : (x == ("__debug__" : Str)) = false := by decide) :
    PE X (.Call (.Name x p) [] [] pos) (fun _ H Q => ∀ H' x, Same H H' → H x = none → ErAt H' x C [] → Q (.ref x) H') := by
  refine ⟨fun pins s σ H Q I h => ?_⟩
  refine wpAny_Call_Name_kw (ld_glob I hg gC ?_ hdb)
  refine PySem.W.callWith_K0 I.kIn kC ?_
  show wpAny _ _ (call (.ref C) []) _ _ _
  obtain ⟨bm, N, nm, qn, bs, hdct, sn, sub, ab, col, dd, k0, k1, k2, k3, k5, mN, hC, hN, hni, T⟩ := exc_obj I.kIn q
  refine wpAny_call_exc_subT F.excBase_ValueError T hC hN hni (fun h' a hm => ?_) (Nat.zero_le _)
  have hn : H a = none := I.hok.gone hm.new
  obtain ⟨t, ht, _, _⟩ := hm.there
  exact ⟨.ref a, upd H a (exo a C none), I.laidN hm.keeps hm.new hn (exo_ok ht), rfl, h _ a (Same.new (Same.refl H) hn) hn (.inl ⟨rfl, upd_same⟩)⟩
/-- a class's chain -/
def MroAt (K : PySem.W.Frag) (C : Addr) (l : List Value) : Prop := l ≠ [] ∧ ∃ cd, PySem.W.clsIn K C = some cd ∧ cd.mro = l
/-- what a class's chain tells -/
theorem kit_mro {K : PySem.W.Frag} {C : Addr} {cd : ClassData} {l : List Value} (hc : PySem.W.clsIn K C = some cd) (e : cd.mro = l) (hl : l ≠ []) (t : Value) : PySem.W.subIn K (.ref C) t = some (l.contains t) := by
  subst e
  show ((PySem.W.clsIn K C).bind fun cd => if cd.mro.isEmpty then none else some (cd.mro.contains t)) = _
  rw [hc, Option.bind_some, if_neg (by simpa using hl)]
theorem MroAt.sub {K : PySem.W.Frag} {C : Addr} {l : List Value} (M : MroAt K C l) (t : Value) : PySem.W.subIn K (.ref C) t = some (l.contains t) := by
  obtain ⟨h, cd, hc, e⟩ := M
  exact kit_mro hc e h t
theorem MroAt.own {K : PySem.W.Frag} {C D : Addr} {l : List Value} (M : MroAt K C (.ref C :: l)) (E : ErrC K D) : PySem.W.kitOne K (.ref C) (.ref D) = some ((Value.ref C :: l).contains (.ref D)) := by
  have h := M.sub (.ref D)
  cases b : (Value.ref C :: l).contains (.ref D) with
  | true =>
    rw [b] at h
    exact kit_own E h
  | false =>
    rw [b] at h
    have ne : (Value.ref C == Value.ref D) = false := by
      rw [List.contains_cons] at b
      have b1 := (Bool.or_eq_false_iff.mp b).1
      rw [Bool.eq_false_iff] at b1 ⊢
      exact fun z => b1 (by rw [beq_iff_eq] at z ⊢; exact z.symm)
    unfold PySem.W.kitOne
    rw [if_neg (by rw [ne]; exact Bool.false_ne_true)]
    obtain ⟨cd, hc, _⟩ := PySem.W.any_some E.e.hd
    have e2 : ((PySem.W.clsIn K D).isSome && PySem.W.typeIn K (.ref D) == some (.type "type")) = true := by rw [hc, E.o.tyC] <;> rfl
    show (if ((PySem.W.clsIn K D).isSome && PySem.W.typeIn K (.ref D) == some (.type "type")) = true then PySem.W.subIn K (.ref C) (.ref D) else none) = some false
    rw [if_pos e2]
    exact h
theorem MroAt.ty {K : PySem.W.Frag} {C : Addr} {l : List Value} {N : String} (M : MroAt K C l) (hm : PySem.W.kitMeta N = true) : PySem.W.kitOne K (.ref C) (.type N) = some (l.contains (.type N)) := by
  have ne : (Value.ref C == Value.type N) = false := by
    rw [Bool.eq_false_iff]
    exact fun z => nomatch (beq_iff_eq.mp z)
  unfold PySem.W.kitOne
  rw [if_neg (by rw [ne]; exact Bool.false_ne_true)]
  show (if PySem.W.kitMeta N = true then PySem.W.subIn K (.ref C) (.type N) else none) = _
  rw [if_pos hm]
  exact M.sub _
/-- isinstance(e, D), D an own class; a built-in one -/
def rIsXD (K : PySem.W.Frag) (D : Addr) : List V → Hp → VK → Prop := fun xs H Q => ∃ (x C : Addr) (fs : List (Str × V)) (l : List Value), xs = [.ref x, .ref D] ∧ ErAt H x C fs ∧ ExcC K C ∧ MroAt K C (.ref C :: l) ∧ Q (.bl ((Value.ref C :: l).contains (.ref D))) H
theorem call_isXD {X : Cx} {D : Addr} (E : ErrC X.K D) : CallR X (.builtin "isinstance") (rIsXD X.K D) := by
  intro pins s σ H xs us Q I r h
  obtain ⟨x, C, fs, l, rfl, hE, T, M, q⟩ := h
  exact call_isX pins s σ H _ us Q I r ⟨x, C, fs, _, _, _, rfl, hE, T, ClsV.own D, M.own E, q⟩
def rIsXT (K : PySem.W.Frag) (N : String) : List V → Hp → VK → Prop := fun xs H Q => ∃ (x C : Addr) (fs : List (Str × V)) (l : List Value), xs = [.ref x, .ty N] ∧ ErAt H x C fs ∧ ExcC K C ∧ MroAt K C l ∧ Q (.bl (l.contains (.type N))) H
theorem call_isXT {X : Cx} {N : String} (hm : PySem.W.kitMeta N = true) : CallR X (.builtin "isinstance") (rIsXT X.K N) := by
  intro pins s σ H xs us Q I r h
  obtain ⟨x, C, fs, l, rfl, hE, T, M, q⟩ := h
  exact call_isX pins s σ H _ us Q I r ⟨x, C, fs, _, _, _, rfl, hE, T, ClsV.ty N, M.ty hm, q⟩
theorem cls_of {K : PySem.W.Frag} {nm q : Str} {C N : Addr} {bs bm : List Value} {hdct : Bool} {sn : List Str} {sub : List Value} {ab : Bool} {col : Option Bool} {dd : Option Addr} {k0 k1 k2 k3 k5 : Option Value} {newId : String}
    (hC : K.lookup C = some (excClassObj nm q C N bs bm hdct sn sub ab col dd k0 k1 k2 k3 k5 newId)) :
    PySem.W.clsIn K C = some { name := nm, bases := bs, mro := .ref C :: bm, ns := N, qualname := q, hasDict := hdct, slotNames := sn, subclasses := sub, abstract := ab, collection := col, hasDel := false } := by
  unfold PySem.W.clsIn
  rw [hC] <;> rfl
end MyL

namespace MyL
open PySem PySem.Spec PyProof.Rows L2
/-! ### the end of a law whose def is called where no repr is under way -/
section
variable {P : Program} {w : World} {K : PySem.W.Frag} {mg mb : Str → Option Value} {CX : CXT} {k : Nat} {fa a : Addr} {sp : Sp} {s1 : Shared} {vs : List Value} {ns : List Int}
/-- what the abstract heap at the law's entry must be -/
structure EntryH (P : Program) (w : World) (K : PySem.W.Frag) (s1 : Shared) (a : Addr) (H : Hp) : Prop where
  only : Only H
  ok : HOk P w H s1.heap
  at_ : ∀ b, H b ≠ none → b = a
  off : H a ≠ none → K.lookup a = none
theorem entry_run {H : Hp} (EH : EntryH P w K s1 a H) (KX : K.In s1.heap) (hns : s1.heap.Ns mainGlobals mg) (hb : s1.heap.Ns builtinsNs mb) (hbb : ∀ x : Str, x ≠ "__name__" → mb x = bootBuiltins x) (hlim : s1.heap.NoLimit) (hg : s1.gens = #[])
    (ha : s1.heap.get? a = some { cls := .type "list", data := .seq vs.toArray }) (hr : Room k callerA)
    (F : ∀ base : Heap, K.In base → base.Ns mainGlobals mg → FnG P w K mg base CX k fa sp)
    (hsp : sp [.ref a] H (fun v _ => v = .bl true) fun _ _ _ => False) (hCX : ∀ e s', CX [] H s1 (fun _ _ _ => False) e s' → False) :
    codeAny (model P w) callerA (.call (.ref fa) ⟨[.ref a], []⟩) (fun r s' => r = .ok (.ret (.bool true)) ∧ OldK s1.heap s'.heap ∧ s'.os = s1.os ∧ AllBare s'.gens) s1 := by
  have untr : ∀ {b : Addr} {o : Obj}, s1.heap.get? b = some o → o ≠ { cls := .type "list", data := .seq vs.toArray } → H b = none := by
    intro b o e d
    cases q : H b with
    | none => rfl
    | some u =>
      have z : b = a := EH.at_ b (by rw [q]; exact fun z => nomatch z)
      rw [z, ha] at e
      exact absurd (Option.some.inj e).symm d
  have hid : ∀ {b : Addr} {m : Str → Option Value}, s1.heap.Ns b m → (hidT s1.heap H).Ns b m := by
    rintro b m ⟨o, es, ep, e, d, r⟩
    refine ⟨o, es, ep, hidT_get e (untr e fun z => ?_), d, r⟩
    rw [z] at d
    exact nomatch d
  have KB : K.In (hidT s1.heap H) := by
    intro b o e
    refine hidT_get (KX b o e) ?_
    cases q : H b with
    | none => rfl
    | some u =>
      have z : b = a := EH.at_ b (by rw [q]; exact fun z => nomatch z)
      subst z
      rw [EH.off (by rw [q]; exact fun z => nomatch z)] at e
      exact nomatch e
  obtain ⟨mc, l1, l2⟩ := hlim
  have M : Mod K mg (hidT s1.heap H) := { kin := KB, glob := hid hns, blt := ⟨mb, hid hb, hbb⟩, nolimit := ⟨mc, hid l1, l2⟩ }
  have E0 : Env0 P w K mg (hidT s1.heap H) callerA [] s1 H :=
    { frames := rfl, mod := M, bs := fun b o e => of_hidT e, bsz := Nat.le_of_eq (hidT_size _ _), funs := trivial, frf := (fun b z => nomatch z), hok := EH.ok, bare := .of_eq hg }
  refine codeAny_mono (F _ KB (hid hns) callerA [] s1 H [.ref a] [.ref a] _ _ hr rfl E0 (.cons rfl .nil) hsp) fun r s' h => ?_
  match r, h with
  | .error e, h => exact (hCX e s' h).elim
  | .ok .next, h => exact h.elim
  | .ok .brk, h => exact h.elim
  | .ok .cont, h => exact h.elim
  | .ok (.ret u), h =>
    obtain ⟨v, H2, hos, hbare, un, hok2, ru, rfl⟩ := h
    obtain rfl : u = Value.bool true := ru
    refine ⟨rfl, OldK.of_keep fun b o e => ?_, hos, hbare⟩
    rcases EH.only b with z | ⟨ob, xs, z⟩
    · exact un.keep b o e z (fun q => nomatch q) (fun q => nomatch q)
    · have e1 := (EH.ok b _ z).1
      have e2 := (hok2 b _ (un.frzs b ob _ z)).1
      rw [e] at e1
      rw [e2, Option.some.inj e1]
theorem entry_at (KX : K.In s1.heap) (ha : s1.heap.get? a = some { cls := .type "list", data := .seq vs.toArray }) (hi : IntsAre vs ns) (hl : ns.length ≤ sizeLine) : ∃ H, EntryH P w K s1 a H ∧ SqL K H a (ns.map V.int) := by
  have rv := vals_ints hi
  cases hk : K.lookup a with
  | some o =>
    have e := KX a o hk
    rw [ha] at e
    obtain rfl := Option.some.inj e
    refine ⟨fun _ => none, ⟨fun _ => .inl rfl, (fun b u z => nomatch z), fun b z => absurd rfl z, fun z => absurd rfl z⟩, .inr ⟨_, vs.toArray, _, hk, rfl, rfl, rfl, ?_, by simpa using rv⟩⟩
    rw [List.size_toArray, hi.length]
    exact hl
  | none =>
    refine ⟨fun b => if b = a then some (.frz { cls := .type "list", data := .seq vs.toArray } (.lst (ns.map V.int))) else none, ⟨fun b => ?_, fun b u z => ?_, fun b z => ?_, fun _ => hk⟩, .inl (.inr ⟨_, if_pos rfl⟩)⟩
    · by_cases c : b = a
      · exact .inr ⟨_, _, if_pos c⟩
      · exact .inl (if_neg c)
    · by_cases c : b = a
      · subst c
        rw [if_pos rfl] at z
        obtain rfl := Option.some.inj z
        exact ⟨ha, (by rw [List.length_map]; exact hl), vs, _, rv, ha⟩
      · rw [if_neg c] at z
        exact nomatch z
    · by_cases c : b = a
      · exact c
      · exact absurd (if_neg c) z
end
theorem walk_ofG {l : PySem.W.OpenLaw} {n k : Nat} {q : Program} {loose : List Str} {XP : (Str → Option Value) → Heap → Prop} {YP : World → Heap → Prop} {d : DefRec} {K : Params → PySem.W.Frag} {CX : World → CXT} {sp : World → Sp}
    (hn : l.most = some n) (hn2 : n ≤ sizeLine) (hdf : d.params.defaults = []) (hr : Room k callerA) (hY : ∀ (w : World) (h : Heap), YP w h → (K w.params).In h)
    (F : ∀ (w : World) (mg : Str → Option Value) (fa : Addr) (h : Heap), (K w.params).In h → h.Ns mainGlobals mg → mg d.name = some (.ref fa) →
      ∀ base : Heap, (K w.params).In base → base.Ns mainGlobals mg → FnG l.prog w (K w.params) mg base (CX w) k fa (sp w))
    (hsp : ∀ (w : World) (H : Hp) (a : Addr) (ns : List Int), ns.length ≤ n → Only H → SqL (K w.params) H a (ns.map V.int) → sp w [.ref a] H (fun v _ => v = .bl true) fun _ _ _ => False)
    (hCX : ∀ (w : World) (H : Hp) (s : Shared) (e : Value) (s' : Shared), CX w [] H s (fun _ _ _ => False) e s' → False) :
    PySem.W.WalkO q loose XP YP l.row.toRowW d [] (fun f vs => PySem.call f vs) := by
  refine Att.attach_call hn hdf fun w s₀ s₁ mg mb fa o pm cd doc a vs ns G Y ho hd hcd hmg hobj hints hlen hg => ?_
  have KX := hY w _ Y
  obtain ⟨H, EH, hS⟩ := entry_at (P := l.prog) (w := w) KX hobj hints (Nat.le_trans hlen hn2)
  exact entry_run EH KX G.T.g G.T.b G.T.builtins G.T.nolimit hg hobj hr (fun base h1 h2 => F w mg fa _ KX G.T.g hmg base h1 h2) (hsp w H a ns hlen EH.only hS) fun e s' => hCX w H s₁ e s'
end MyL

/-! A law's head by one run: what the top has written is read by a check. -/
namespace MyH
open PySem PySem.Spec PyProof.Rows L2 MyL He
/-- a check of the written part -/
abbrev Chk := PySem.W.Frag → Bool
def obsM (chk : List Chk) (fn : List FnD) (K : PySem.W.Frag) : Al := ((chk.all fun f => f K) && fn.all fun d => (Fa.code d.at_ d.qual).ok K && PySem.W.keepIn K (.ref (fAd K d.at_)), fn.map fun d => fnObs K d.at_)
def SaysM (chk : List Chk) (fn : List FnD) (K : PySem.W.Frag) : Prop := obsM chk fn K = valE fn
def obsMG (n : Nat) (chk : List Chk) (fn : List FnD) (g : Addr → Option Obj) : Al := obsM chk fn (frG g (asG g n))
def hookM (n : Nat) (chk : List Chk) (fn : List FnD) : PySem.W.Hook where
  α := Al
  obs := fun s => obsMG n chk fn s.heap.get?
  val := fun _ => valE fn
  says := fun _ h => ∃ K : PySem.W.Frag, K.In h ∧ SaysM chk fn K
  of := fun _ _ e => ⟨_, frG_in, e⟩
  keeps := fun _ _ _ ⟨K, hK, c⟩ k => ⟨K, PySem.W.Frag.In.keeps hK k, c⟩
theorem obsMG_eq {n : Nat} {chk : List Chk} {fn : List FnD} {g : Addr → Option Obj} {s : Shared} (h : ∀ a, g a = s.heap.get? a) : obsMG n chk fn g = (hookM n chk fn).obs s := by
  have e : g = s.heap.get? := funext h
  rw [e] <;> rfl
section
variable {chk : List Chk} {fn : List FnD} {K : PySem.W.Frag}
theorem SaysM.fact (c : SaysM chk fn K) (i : Nat) {f : Chk} (h : chk[i]? = some f := by rfl) : f K = true := by
  have c1 := (ba (show ((chk.all fun f => f K) && fn.all fun d => (Fa.code d.at_ d.qual).ok K && PySem.W.keepIn K (.ref (fAd K d.at_))) = true from congrArg (fun z : Al => z.1) c)).1
  exact List.all_eq_true.mp c1 f (List.mem_of_getElem? h)
theorem SaysM.def_ (c : SaysM chk fn K) (i : Nat) {x q : Str} {st : Stmt} {p : Str × Option Str} (h : fn[i]? = some ⟨p, x, q, defArgs st, defBody st, defScope st⟩ := by rfl) : ∃ fd, Fun K x q st (fAd K p) fd := by
  have c2 := (ba (show ((chk.all fun f => f K) && fn.all fun d => (Fa.code d.at_ d.qual).ok K && PySem.W.keepIn K (.ref (fAd K d.at_))) = true from congrArg (fun z : Al => z.1) c)).2
  have e : fn.map (fun d => fnObs K d.at_) = fn.map FnD.val := congrArg (fun z : Al => z.2) c
  have e2 : (fn.map fun d => fnObs K d.at_)[i]? = (fn.map FnD.val)[i]? := by rw [e]
  rw [List.getElem?_map, List.getElem?_map, h] at e2
  obtain ⟨k1, k2⟩ := ba (List.all_eq_true.mp c2 _ (List.mem_of_getElem? h))
  obtain ⟨oc, od, osl, kV, doc, pm, an, cdv, ct, lk, hc⟩ := fn_ok (Option.some.inj e2) k1
  exact ⟨_, fun_mk (st := st) lk hc k2⟩
end
/-! ### own errors -/
def xclsB (K : PySem.W.Frag) (C : Addr) (bm : List Value) : Bool := match K.lookup C with
  | some ⟨.type "type", _, .cls cd, sl⟩ => decide (cd.mro = .ref C :: bm) && (cd.hasDict && (!cd.hasDel && (match sl.toList with
    | [_, _, _, _, some (.builtin n), _] => decide (n = "ValueError.__new__")
    | _ => false)))
  | _ => false
theorem xclsB_ok {K : PySem.W.Frag} {C : Addr} {bm : List Value} (h : xclsB K C bm = true) :
    ∃ nm q N bs sn sub ab col dd k0 k1 k2 k3 k5, K.lookup C = some (excClassObj nm q C N bs bm true sn sub ab col dd k0 k1 k2 k3 k5 "ValueError.__new__") := by
  unfold xclsB at h
  split at h
  · rename_i dd cd sl ho
    obtain ⟨h1, h⟩ := ba h
    obtain ⟨h2, h⟩ := ba h
    obtain ⟨h3, h4⟩ := ba h
    split at h4
    · rename_i k0 k1 k2 k3 n k5 hl
      have en := of_decide_eq_true h4
      subst en
      have e1 := of_decide_eq_true h1
      obtain ⟨nm, bs, mro, ns, q, hd, sn, sb, ab, col, del⟩ := cd
      dsimp only at e1 h2 h3
      subst e1 h2
      have e3 : del = false := by cases del <;> first | rfl | cases h3
      subst e3
      obtain ⟨l⟩ := sl
      have hl' : l = [k0, k1, k2, k3, some (.builtin "ValueError.__new__"), k5] := hl
      subst hl'
      exact ⟨nm, q, ns, bs, sn, sb, ab, col, dd, k0, k1, k2, k3, k5, ho⟩
    · cases h4
  · cases h
def errB (K : PySem.W.Frag) (C : Addr) (bm : List Value) : Bool := xclsB K C bm && (PySem.HandSPX.refsVE bm && (eqO (PySem.W.findIn K (.ref C) "__setattr__") (some (some (.builtin "object.__setattr__"))) && (PySem.W.keepIn K (.ref C) && (decide (PySem.W.typeIn K (.ref C) = some (.type "type")) &&
  (xfB K C && (eqO (PySem.W.findIn K (.ref C) "__class__") (some (some (.builtin "object.__class__"))) && (eqO (PySem.W.specialIn K (.builtin "object.__class__") "__get__") (some (some (.builtin "getset_descriptor.__get__"))) &&
  (decide (PySem.W.takesIn K (.builtin "object.__class__") = some true) && decide (PySem.W.mroIn K C (.type "object") = some true)))))))))
theorem errB_ok {K : PySem.W.Frag} {C : Addr} {bm : List Value} (h : errB K C bm = true) : ErrC K C ∧ MroAt K C (.ref C :: bm) := by
  obtain ⟨h1, h⟩ := ba h
  obtain ⟨h2, h⟩ := ba h
  obtain ⟨h3, h⟩ := ba h
  obtain ⟨h4, h⟩ := ba h
  obtain ⟨h5, h⟩ := ba h
  obtain ⟨h6, h⟩ := ba h
  obtain ⟨h7, h⟩ := ba h
  obtain ⟨h8, h⟩ := ba h
  obtain ⟨h9, h10⟩ := ba h
  obtain ⟨nm, q, N, bs, sn, sub, ab, col, dd, k0, k1, k2, k3, k5, lk⟩ := xclsB_ok h1
  have xf := xfB_ok h6
  exact ⟨⟨⟨⟨nm, q, N, bs, _, sn, sub, ab, col, dd, k0, k1, k2, k3, k5, lk, h2⟩, eqO_ok h3, xf.exC, of_decide_eq_true h5, h4⟩, xf, ⟨xf.ga, xf.gg, xf.exC, xf.hdC, eqO_ok h7, eqO_ok h8, of_decide_eq_true h9, of_decide_eq_true h10⟩⟩,
    List.cons_ne_nil _ _, _, cls_of lk, rfl⟩
/-- the classes above -/
def upV (K : PySem.W.Frag) (up : List Str) : List Value := up.map (fun x => .ref (ga K x)) ++ veBase
def ndB (K : PySem.W.Frag) (xs : List Str) : Bool := decide (xs.map (ga K)).Nodup
def fnoB (K : PySem.W.Frag) (x f : Str) : Bool := eqO (PySem.W.findIn K (.ref (ga K x)) f) (some none)
def fatB (K : PySem.W.Frag) (x f : Str) (y : Str) : Bool := eqO (PySem.W.findIn K (.ref (ga K x)) f) (some (some (.ref (ma K (ga K y) f))))
def tyfB (K : PySem.W.Frag) (x f : Str) : Bool := decide (PySem.W.typeIn K (.ref (ma K (ga K x) f)) = some (.type "function"))
def xinB (K : PySem.W.Frag) (x : Str) : Bool := PySem.W.excIn K (ga K x) veBase "ValueError.__new__"
def subB (K : PySem.W.Frag) (x y : Str) : Bool := decide (PySem.W.subIn K (.ref (ga K x)) (.ref (ga K y)) = some true)
/-! ### the end -/
theorem walk_ofGE {l : PySem.W.OpenLaw} {n k : Nat} {q : Program} {loose : List Str} {XP : (Str → Option Value) → Heap → Prop} {YP : World → Heap → Prop} {d : DefRec} {CX : World → CXT}
    (hn : l.most = some n) (hn2 : n ≤ sizeLine) (hdf : d.params.defaults = []) (hr : Room k callerA)
    (F : ∀ (w : World) (mg : Str → Option Value) (fa : Addr) (h : Heap), YP w h → h.Ns mainGlobals mg → mg d.name = some (.ref fa) →
      ∃ (K : PySem.W.Frag) (sp : Sp), K.In h ∧ (∀ (H : Hp) (a : Addr) (ns : List Int), ns.length ≤ n → Only H → SqL K H a (ns.map V.int) → sp [.ref a] H (fun v _ => v = .bl true) fun _ _ _ => False) ∧
        ∀ base : Heap, K.In base → base.Ns mainGlobals mg → FnG l.prog w K mg base (CX w) k fa sp)
    (hCX : ∀ (w : World) (H : Hp) (s : Shared) (e : Value) (s' : Shared), CX w [] H s (fun _ _ _ => False) e s' → False) :
    PySem.W.WalkO q loose XP YP l.row.toRowW d [] (fun f vs => PySem.call f vs) := by
  refine Att.attach_call hn hdf fun w s₀ s₁ mg mb fa o pm cd doc a vs ns G Y ho hd hcd hmg hobj hints hlen hg => ?_
  obtain ⟨K, sp, KX, hsp, hF⟩ := F w mg fa _ Y G.T.g hmg
  obtain ⟨H, EH, hS⟩ := entry_at (P := l.prog) (w := w) KX hobj hints (Nat.le_trans hlen hn2)
  exact entry_run EH KX G.T.g G.T.b G.T.builtins G.T.nolimit hg hobj hr hF (hsp H a ns hlen EH.only hS) fun e s' => hCX w H s₁ e s'
end MyH

/-! Own classes: super() in __init__, the class's name, truth and == by own defs. -/
namespace MyP
open PySem PySem.Spec PySem.Calls PyProof.Rows L2 MyL NdefX

/-- what of the program super() asks -/
structure Prg (P : Program) : Prop where
  file : P.main.file = Str.ofString "/claim/cut.py"
  top : (P.main.scope.names.lookup ("super" : Str)).isSome = false
/-- what the top has written that super() asks -/
structure Sup0 (K : PySem.W.Frag) (mg : Str → Option Value) : Prop where
  gl : mg "super" = none
  op : PySem.W.nsIn K cStatics "thirdparty.any" = some none
/-- a def of the class at D that says super() -/
structure FunC (K : PySem.W.Frag) (x qual : Str) (st : Stmt) (f : Addr) (fd : FuncData) (D : Addr) : Prop where
  ex : ∃ (oc kV doc pm : Value) (od an : Option Addr) (cda cc : Addr) (ct : Value) (osl : Array (Option Value)) (ccl : Value) (cdd : Option Addr) (vs : Array Value) (ccs : Array (Option Value)) (tf : Tok) (cl : Value) (cld : Option Addr) (csl : Array (Option Value)) (cdD : ClassData),
    fd = PySem.W.fnX x qual (defArgs st) (defBody st) (defScope st) [("__class__", cc)] .none kV doc pm an (.ref cda) ct ∧ K.lookup f = some ⟨oc, od, .func fd, osl⟩ ∧ PySem.W.codeIn K (.ref cda) qual = true ∧
    K.lookup cda = some ⟨ccl, cdd, .fields vs, ccs⟩ ∧ vs[2]? = some (.str (Str.ofString "/claim/cut.py") tf) ∧ K.lookup cc = some ⟨cl, cld, .cell (some (.ref D)), csl⟩ ∧ PySem.W.clsIn K D = some cdD
/-- an instance's class C below D: the __init__ above D is at g -/
structure SupC (K : PySem.W.Frag) (C D g : Addr) : Prop where
  sub : PySem.W.mroIn K C (.ref D) = some true
  at_ : PySem.W.ks_superIn K C D "__init__" = some (some (.ref g))
  ty : PySem.W.typeIn K (.ref g) = some (.type "function")
  fn : PySem.W.fnIn K g = true

/-- a promise of a def called where no repr is under way, the arguments bound in any way -/
structure FnA (P : Program) (w : World) (K : PySem.W.Frag) (mg : Str → Option Value) (base : Heap) (CX : CXT) (k : Nat) (f : Addr) (fd : FuncData) (ps : List Str) (sp : Sp) : Prop where
  len : ∀ vs H Q E, sp vs H Q E → vs.length = ps.length
  run : ∀ (A : Around) (outer : List Env) (s : Shared) (H : Hp) (args : Args) (us : List Value) (vs : List V) (Q : VK) (E : XK), Room k A → A.guards = some [] → Env0 P w K mg base A outer s H → BindsTo s fd args (ps.zip us) → Vals vs us → sp vs H Q E →
    codeAny (model P w) A (.call (.ref f) args) (CR CX outer P w H s Q E) s
theorem FnA.fnG {P : Program} {w : World} {K : PySem.W.Frag} {mg : Str → Option Value} {base : Heap} {CX : CXT} {k : Nat} {f : Addr} {fd : FuncData} {ps : List Str} {sp : Sp} (F : FnA P w K mg base CX k f fd ps sp)
    (hb : ∀ us : List Value, us.length = ps.length → bindArgs fd ⟨us, []⟩ = pure (ps.zip us)) : FnG P w K mg base CX k f sp := fun A outer s H us vs Q E hr hg e0 r h =>
  F.run A outer s H ⟨us, []⟩ us vs Q E hr hg e0 (.of_eq (hb us (by rw [← r.length]; exact F.len _ _ _ _ h))) r h
section
variable {P : Program} {w : World} {K : PySem.W.Frag} {mg : Str → Option Value} {base : Heap} {CX : CXT}
/-- a def of a class whose first statement is super().__init__(e, ..) -/
theorem fnc_super {x qual : Str} {st : Stmt} {f g D : Addr} {fd : FuncData} {j k : Nat} {sp spI : Sp} {N ps : List Str} {p0 p1 apos pos pos' : Pos} {e : Expr} {es : List Expr} {rest : List Stmt} {ar : Arg} {EI : XK} {pl : Sem Bool}
    (PF : Prg P) (S0 : Sup0 K mg) (F : FunC K x qual st f fd D) (S : NScope N ps ["__class__"] (defScope st))
    (hst : defBody st = .Expr (.Call (.Attribute (.Call (.Name "super" p0) [] [] p1) "__init__" apos) (e :: es) [] pos) pos' :: rest)
    (har : ((defArgs st).posonlyargs ++ (defArgs st).args).head? = some ar) (hp0 : ps[0]? = some ar.arg)
    (hks : (defScope st).names.lookup ("super" : Str) = some .globalImplicit)
    (ht : ∀ env : Env, eval (.Call (.Attribute (.Call (.Name "super" p0) [] [] p1) "__init__" apos) (e :: es) [] pos) env = (do
      let ov ← attributeBase (.Call (.Name "super" p0) [] [] p1) "__init__" env (eval (.Call (.Name "super" p0) [] [] p1) env)
      standAt apos.atName
      let (f, first) ← holding [ov] (getMethod ov "__init__" pl)
      callWith pos f first (backTo pos (starEach (e :: es) env)) []))
    (hse : ∀ env : Env, starEach (e :: es) env = (false, eval e env) :: starEach es env) (hpl : ∀ env : Env, (backTo pos (starEach es env)).any (·.1) = false)
    (len : ∀ vs H Q E, sp vs H Q E → vs.length = ps.length)
    (G : FnG P w K mg base CX j g spI)
    (hbody : ∀ (NFv : NF) (A : Around) (outer : List Env) (s : Shared) (H : Hp) (vs : List V) (Q : VK) (E : XK), NFv.scope = defScope st → NFv.qual = qual → Room (max j k) (A.deeper (envF NFv f s.heap.objs.size)) → A.guards = some [] → sp vs H Q E →
      ∃ (a C dx : Addr) (fs : List (Str × V)) (vs' : List V) (ta : TA) (tr : TS), vs = .ref a :: vs' ∧ H a = some (.ins C dx fs) ∧ SupC K C D g ∧
        PA (ncx CX P w K mg base N NFv f A outer s H E) (e :: es) ta ∧ PSs (ncx CX P w K mg base N NFv f A outer s H E) rest tr ∧ Passes CX (ncx CX P w K mg base N NFv f A outer s H E) EI ∧
        ta (startF N vs [some (.ref D)]) H fun us H1 => Iv (spI (.ref a :: us) H1 (fun _ H2 => tr { nx := fun _ H' => Q .non H', rt := Q } (startF N vs [some (.ref D)]) H2) EI)) :
    FnA P w K mg base CX (max j k + 1) f fd ps sp := by
  obtain ⟨oc, kV, doc, pm, od, an, cda, cc, ct, osl, ccl, cdd, vcs, ccs, tf, cl, cld, csl, cdD, rfl, lk, hcd, lcode, hfile, lcell, hclsD⟩ := F.ex
  refine ⟨len, fun A outer s H args us vs Q E hr hg e0 hbind r hsp => ?_⟩
  have hl := len _ _ _ _ hsp
  have KX : K.In s.heap := e0.mod.kin.keeps fun b o e => (e0.bs b o e).1
  have lim : s.heap.NoLimit := e0.mod.nolimit.keeps fun b o e => (e0.bs b o e).1
  let NFv : NF := ⟨x, qual, defArgs st, defBody st, defScope st, [("__class__", cc)], cda⟩
  obtain ⟨a, C, dx, fs, vs', ta, tr, ev, ha, SC, pa, pr, hx, q⟩ := hbody NFv A outer s H vs Q E rfl rfl (hr.deeper _) hg hsp
  have X0 := KX
  have CA : CellsAt NFv.cl ["__class__"] [some (V.ref D)] s.heap H := by
    have hc : ∀ y c, List.lookup y [(("__class__" : Str), cc)] = some c → c = cc ∧ y = "__class__" := fun y c h => by
      rw [List.lookup_cons] at h
      split at h
      · rename_i z
        exact ⟨(Option.some.inj h).symm, beq_iff_eq.mp z⟩
      · cases h
    have nH : H cc = none := by
      have hb := e0.mod.kin _ _ lcell
      exact (e0.bs _ _ hb).2
    refine ⟨rfl, fun y c h => ?_, fun y z c h1 h2 => ?_, fun i y h => ?_⟩
    · obtain ⟨rfl, _⟩ := hc y c h
      exact ⟨nH, _, _, X0 _ _ lcell, rfl⟩
    · rw [(hc _ _ h1).2, (hc _ _ h2).2]
    · cases i with
      | zero =>
        obtain rfl : "__class__" = y := Option.some.inj h
        refine ⟨cc, rfl, fun v hv => ?_⟩
        obtain rfl : V.ref D = v := Option.some.inj (Option.some.inj hv)
        exact ⟨_, rfl, _, X0 _ _ lcell, rfl⟩
      | succ i => simp at h
  refine ks_codeAny_call_defAt (prog := P) (w := w) (binds := ps.zip us) hr.depth (KX _ _ lk) rfl lim (PySem.W.codeRec_of KX hcd) rfl hbind (fun y hy => S.nocell y hy) (fun y hy => S.par _ (List.of_mem_zip hy).1) (fun h₁ hns kp => ?_) S.co S.gen S.kind
  have I : Inv (ncx CX P w K mg base N NFv f A outer s H E) [] (startF N vs [some (V.ref D)]) H { s with heap := h₁, toks := s.toks + (ps.zip us).length } := inv_startN (F := NFv) (ws := [some (V.ref D)]) S hr.hd e0 hl r CA hns kp
  have hex : execs (defBody st) (envF NFv f s.heap.objs.size) = execs (.Expr (.Call (.Attribute (.Call (.Name "super" p0) [] [] p1) "__init__" apos) (e :: es) [] pos) pos' :: rest) (envF NFv f s.heap.objs.size) := by rw [hst]
  show PySem.wpAt (model P w) (A.deeper (envF NFv f s.heap.objs.size)) (.func (defBody st) (envF NFv f s.heap.objs.size)) (execs (defBody st) (envF NFv f s.heap.objs.size)) _ _ _
  rw [hex]
  generalize hs1 : ({ s with heap := h₁, toks := s.toks + (ps.zip us).length } : Shared) = s1 at I
  have hns1 : s1.heap.Ns s.heap.objs.size (fun x => (ps.zip us).reverse.lookup x) := by rw [← hs1]; exact hns
  have hint : interactive (envF NFv f s.heap.objs.size) = false := by
    show ((defScope st).kind == .module && _) = false
    rw [S.kind]
    rfl
  refine ks_wpAt_execs_cons (ks_wpAt_Expr_any (ks_wpAt_MethodCall (pl := pl) ?_ (ht _)) hint rfl)
  have X1 : K.In s1.heap := I.kIn
  obtain ⟨mA, OM, _, _, _, _⟩ := ins_get I.hok ha
  obtain ⟨od1, IA, _⟩ := OM.look
  have hself : (ps.zip us).reverse.lookup ar.arg = some (.ref a) := by
    obtain ⟨u, hu, ru⟩ := r.get (i := 0) (x := .ref a) (by rw [ev] <;> rfl)
    cases (show u = Value.ref a from ru)
    have ndP : ps.Nodup := by
      have q := S.nd.sublist (List.take_sublist (ps.length + 1) N)
      have e : N.take (ps.length + 1) = ps ++ ([("__class__" : Str)] : List Str) := S.pre
      rw [e] at q
      exact (List.nodup_append.mp q).1
    exact zip_look ndP hp0 hu
  obtain ⟨oD, hD1, hD2⟩ : ∃ oD, s1.heap.get? D = some oD ∧ oD.data = .cls cdD := by
    have hc := hclsD
    unfold PySem.W.clsIn at hc
    split at hc
    · rename_i c d cd' sl ho
      cases hc
      exact ⟨_, X1 _ _ ho, rfl⟩
    · cases hc
  have ga : s1.heap.Ns mainGlobals mg := I.mod.glob.keeps I.bk
  obtain ⟨mb, gb, hbb⟩ := I.mod.blt
  have gb1 : s1.heap.Ns builtinsNs mb := gb.keeps I.bk
  refine ks_wpAt_super_base (env := envF NFv f s.heap.objs.size) hks (S.frk _ (List.mem_singleton.mpr rfl)) (by decide) rfl (X1 _ _ lk) rfl har rfl (X1 _ _ lcode) rfl hfile (by rw [PF.file]; exact beq_self_eq_true _) PF.top ?_
  refine PySem.W.ks_loadName_global S.kind hks (PySem.Calls.loadGlobal_builtin (env := envF NFv f s.heap.objs.size) ga S0.gl gb1 ((hbb _ (by decide +kernel)).trans (by first | boot_by_name | rfl | decide +kernel)) ⟨rfl, ?_⟩)
  refine wpAny_loadName_free S.kind (S.frk _ (List.mem_singleton.mpr rfl)) rfl ⟨_, X1 _ _ lcell, rfl⟩ ?_
  refine wpAny_loadName_local S.kind (S.par _ (List.mem_of_getElem? hp0)) hns1 hself ?_
  refine ks_wpAny_isType_cls hD1 hD2 ⟨rfl, ?_⟩
  obtain ⟨hh, gg, dd, tt, oos⟩ := s1
  refine ks_wpAny_call_super hD1 hD2 IA.at_ IA.cls (fun c e => ?_) (PySem.W.looks_mroIn X1 SC.sub) (fun h2 e2 k2 => ?_)
  · have := IA.no
    unfold PySem.W.notCls at this
    rw [e] at this
    exact Bool.noConfusion this
  have I2 := I.kept (t' := tt) k2
  have X2 : K.In h2 := I2.kIn
  obtain ⟨mA2, OM2, _, _, _, _⟩ := ins_get I2.hok ha
  obtain ⟨od2, IA2, _⟩ := OM2.look
  cases hcC : PySem.W.clsIn K C with
  | none =>
    have h := SC.at_
    unfold PySem.W.ks_superIn at h
    rw [hcC] at h
    cases h
  | some cdC =>
    have hat := SC.at_
    unfold PySem.W.ks_superIn at hat
    rw [hcC] at hat
    obtain ⟨of, hof, hofc⟩ : ∃ of, h2.get? g = some of ∧ of.cls = .type "function" := by
      have ht' : (K.lookup g).map (·.cls) = some (.type "function") := SC.ty
      cases z : K.lookup g with
      | none => rw [z] at ht'; cases ht'
      | some of => rw [z] at ht'; exact ⟨of, X2 _ _ z, Option.some.inj ht'⟩
    refine ks_wpAny_getMethod_super e2 (PySem.W.looks_opaque X2 S0.op) (l₀ := cdC.mro) ?_ rfl X2 hat hof hofc (PySem.W.ks_ne X2 IA2 hcC) (by decide) ?_
    · exact fun A Q E s k q => wpAny_bind ((PySem.W.looks_clsIn X2 hcC) A _ E s k (wpAny_pure q))
    have I3 := I2.kept (t' := tt + 1) (h' := h2.push { cls := .type "method", data := .fields #[.ref g, .ref a] }) (fun b o e => Heap.get?_push_of_some _ e)
    have hm3 : (h2.push { cls := .type "method", data := .fields #[.ref g, .ref a] }).get? h2.objs.size = some (PySem.W.methodObj (.ref g) (.ref a)) := Heap.get?_push_at rfl rfl
    have I4 := I3.pins_of (pins' := [(h2.objs.size, PySem.W.methodObj (.ref g) (.ref a))]) (fun p hp => by
      rcases List.mem_singleton.mp hp with rfl
      exact ⟨hm3, I2.hok.fresh (Nat.le_refl _), Nat.ne_of_gt I2.lt, I2.nofs (Nat.le_refl _), fun v z => nomatch z⟩)
    refine PySem.W.callWith_of (P := PySem.W.MethP K h2.objs.size g (.ref a)) ?_ (PySem.W.keeps_M SC.fn) ?_
    · rw [hse]
      show ((false || (backTo pos (starEach es _)).any (·.1)) || false) = false
      rw [hpl]
      rfl
    have hpin : ∀ {σ' : L2.St} {H' : Hp} {s' : Shared}, Inv (ncx CX P w K mg base N NFv f A outer s H E) [(h2.objs.size, PySem.W.methodObj (.ref g) (.ref a))] σ' H' s' → s'.heap.get? h2.objs.size = some (PySem.W.methodObj (.ref g) (.ref a)) := fun J => (J.pin (h2.objs.size, PySem.W.methodObj (.ref g) (.ref a)) (List.mem_append.mpr (.inr (List.mem_singleton.mpr rfl)))).1
    rw [hse]
    refine evalArgs_plain ?_
    show wpAny _ _ (spliced (backTo pos ((false, eval e (envF NFv f s.heap.objs.size)) :: starEach es (envF NFv f s.heap.objs.size)))) _ _ _
    rw [← hse]
    refine thn (pa.run pos _ _ _ _ _ I4 q) fun us2 s5 ⟨vs2, H5, I5, r5, q5⟩ => ⟨⟨hpin I5, I5.kIn⟩, ?_⟩
    refine wpAny_call (PySem.W.method_call (hpin I5) (codeAny_mono (G (A.deeper (envF NFv f s.heap.objs.size)) (envF NFv f s.heap.objs.size :: outer) s5 H5 (.ref a :: us2) (.ref a :: vs2) _ EI ((hr.deeper _).mono (Nat.le_max_left _ _)) hg I5.env0 (.cons rfl r5) q5.out) fun r' s' hq => ?_))
    cases r' with
    | error er => exact hx _ _ _ _ er s' I5 hq
    | ok fl =>
      cases fl with
      | next => exact False.elim hq
      | brk => exact False.elim hq
      | cont => exact False.elim hq
      | ret u =>
        obtain ⟨v6, H6, I6, r6, q6⟩ := I5.after hq
        refine wpAt_of_wpAny (wpAny_mono (pr.run _ s' _ H6 _ I6 q6) (fun fl s'' hs => ?_) fun e s'' hs => hs)
        have fin : ∀ {σ' : L2.St} {H' : Hp} {v' : V} {u' : Value}, Inv (ncx CX P w K mg base N NFv f A outer s H E) [(h2.objs.size, PySem.W.methodObj (.ref g) (.ref a))] σ' H' s'' → RelV v' u' → Q v' H' → CE outer P w H s Q u' s'' :=
          fun {σ' H' v' u'} J rv' q => ⟨v', H', J.os, J.bare, J.base, J.hok, rv', q⟩
        cases fl with
        | ret u' =>
          obtain ⟨v', σ', H', J, rv', q⟩ := hs
          exact fin J rv' q
        | next =>
          obtain ⟨σ', H', J, q⟩ := hs
          exact fin (v' := V.non) (u' := Value.none) J rfl q
        | brk =>
          obtain ⟨_, _, _, q⟩ := hs
          exact False.elim q
        | cont =>
          obtain ⟨_, _, _, q⟩ := hs
          exact False.elim q
end

/-! ### the class's name -/
/-- what the top has written of an own class: its name stands in its object -/
structure NmC (K : PySem.W.Frag) (C : Addr) (nm : Str) : Prop where
  ex : ∃ (dd : Option Addr) (cd : ClassData) (tk : Tok) (k0 k1 k3 k4 k5 : Option Value), K.lookup C = some ⟨.type "type", dd, .cls cd, #[k0, k1, some (.str nm tk), k3, k4, k5]⟩
  fc : PySem.W.findCls K (.ref C) (.type "type") "__name__" = some (.get (.builtin "getset_descriptor.__get__") (.builtin "type.__name__") (.ref C) (.type "type"))
section
open PySem.W Builtin Builtin.ObjectAttr Builtin.Getset_descriptor
variable {prog : Program} {w : World} {A : Around} {E : Value → Shared → Prop} {s : Shared} {K : PySem.W.Frag} {R : Result → Shared → Prop} {C : Addr} {nm : Str} {mg : Str → Option Value}
theorem cn_dga {C : Addr} (d tp : Value) : Builtin.Getset_descriptor.descrGetArgs ⟨[d, .ref C, tp], []⟩ = pure (d, some (.ref C), given tp) := by kernel_rfl
theorem cn_get {tp : Value} {dd : Option Addr} {cd : ClassData} {tk : Tok} {k0 k1 k3 k4 k5 : Option Value} (hC : s.heap.get? C = some ⟨.type "type", dd, .cls cd, #[k0, k1, some (.str nm tk), k3, k4, k5]⟩) (h : R (.ok (.ret (.str nm tk))) s) :
    codeAny (model prog w) A (.call (.builtin "getset_descriptor.__get__") ⟨[.builtin "type.__name__", .ref C, tp], []⟩) R s := by
  obtain ⟨hh, g, dr, t, os⟩ := s
  have L0 : Looks (model prog w) hh (typeOf (.ref C)) (.type "type") := (Looks.ld hC).andThen .now
  have L1 : Looks (model prog w) hh (isSubtype (.type "type") (.type "type")) true := Looks.of_pure (by rw [isSubtype_type]; kernel_rfl)
  refine codeAny_call_builtin KF.slot_gs.plain KF.entry_gs (KF.slot_gs.check _ _ _ _ _ _ _ _ ktyn_type (KF.args_gs _ _ _) ?_)
  unfold Builtin.«getset_descriptor.__get__» descrGet
  rw [cn_dga]
  refine wpAny_bind (wpAny_pure ?_)
  unfold descrGetter descrCheckInstance descrNameAndClass isInstance
  simp only [ktyn_owner]
  repeat lk
  refine ⟨Code.quiet_builtin _ (by decide +kernel), codeAny_builtin ktyn_entry ?_⟩
  unfold Builtin.«type.__name__»
  dsimp only
  unfold keptObject PySem.slotAt
  dsimp only
  refine wpAny_bind (wpAny_bind (wpAny_loadPart_at hC ?_))
  refine wpAny_pure ?_
  show wpAny _ _ (ret (.str nm tk)) _ _ _
  exact wpAny_pure h
theorem cn_attr {expr : Bool} {Q : Value → Shared → Prop} (X : K.In s.heap) (op : PySem.W.nsIn K cStatics "thirdparty.any" = some none) (T : NmC K C nm) (h : ∀ tk u, Q (.str nm tk) { s with toks := u }) : wpAny (model prog w) A (getAttr (.ref C) "__name__" expr) Q E s := by
  obtain ⟨dd, cd, tk, k0, k1, k3, k4, k5, lk⟩ := T.ex
  have hC := X _ _ lk
  have L0 : Looks (model prog w) s.heap (typeOf (.ref C)) (.type "type") := (Looks.ld hC).andThen .now
  have LO : Looks (model prog w) s.heap (opaqueClassAbove (.ref C)) none := looks_opaque X op
  have hg : findIn K (.type "type") "__getattribute__" = some (some (.builtin "type.__getattribute__")) := type_tga
  refine cls_open X LO L0 hg (looks_hook X (r := none) (by rfl)) (by show subIn K _ _ = _; rfl) T.fc ?_
  show wpAny _ _ (do ret (← holding [Value.builtin "type.__name__"] (call (.builtin "getset_descriptor.__get__") [.builtin "type.__name__", .ref C, .type "type"]))) _ _ _
  refine wpAny_bind (wpAny_holding (wpAny_call (cn_get (s := { s with toks := s.toks + 1 }) hC ?_)))
  exact wpAny_pure (handed_on rfl (h _ _))
end
/-- an own class -/
structure OwnC (K : PySem.W.Frag) (C : Addr) (nm : Str) : Prop where
  c : Cls K C
  n : NmC K C nm
  ha : PySem.W.findIn K (.ref C) "__class__" = some (some (.builtin "object.__class__"))
  hn : PySem.W.specialIn K (.builtin "object.__class__") "__get__" = some (some (.builtin "getset_descriptor.__get__"))
  ht : PySem.W.takesIn K (.builtin "object.__class__") = some true
  hm : PySem.W.mroIn K C (.type "object") = some true
theorem OwnC.ty {K : PySem.W.Frag} {C a dx : Addr} {nm : Str} {fs : List (Str × V)} {H : Hp} (O : OwnC K C nm) (h : H a = some (.ins C dx fs)) : TyX K H (.ref a) (.ref C) := .base (.ins h O.c O.ha O.hn O.ht O.hm)
/-- e.__class__.__name__ -/
def tClsNm (K : PySem.W.Frag) (ta : TE) : TE := fun σ H Q => ta σ H fun x H1 => ∃ a C dx fs nm, x = .ref a ∧ H1 a = some (.ins C dx fs) ∧ OwnC K C nm ∧ Q (.str nm) H1
section
variable {X : Cx} {e : Expr} {pos pos' : Pos} {ta : TE}
theorem pe_clsNm (op : PySem.W.nsIn X.K cStatics "thirdparty.any" = some none) (he : PE X e ta) (hb : attributeBase e "__class__" X.env (eval e X.env) = eval e X.env := by rfl)
    (hb2 : attributeBase (.Attribute e "__class__" pos) "__name__" X.env (eval (.Attribute e "__class__" pos) X.env) = eval (.Attribute e "__class__" pos) X.env := by rfl) : PE X (.Attribute (.Attribute e "__class__" pos) "__name__" pos') (tClsNm X.K ta) := by
  refine ⟨fun pins s σ H Q I h => ?_⟩
  refine attr_of hb2 (attr_of hb (thn (he.run pins s σ H _ I h) fun u s1 ⟨x, H1, I1, rx, a, C, dx, fs, nm, ex, ea, O, q⟩ => ?_))
  subst ex
  obtain rfl : u = Value.ref a := rx
  obtain ⟨mA, OM, _, _, _, _⟩ := ins_get I1.hok ea
  obtain ⟨od, J, _⟩ := OM.look
  obtain ⟨m, hF⟩ := I1.fr
  refine PySem.W.get_class hF I1.ok.mod.kin J (O.c.get _) O.c.hd O.ha O.hn O.ht O.hm ?_
  refine cn_attr (I1.tok _).kIn op O.n fun tk u => ⟨.str nm, H1, I1.tok _, ⟨_, rfl⟩, q⟩
end

/-! ### truth by an own __bool__ -/
section
variable {prog : Program} {w : World} {A : Around} {E : Value → Shared → Prop} {s : Shared} {K : PySem.W.Frag} {x C L f : Addr} {h₀ : Heap} {m : Str → Option Value} {ox : Obj} {od : Option Obj}
theorem bool_own {Q : Value → Shared → Prop} (F : Fr h₀ L s.heap m) (X₀ : K.In h₀) (I : PySem.W.InstAt s.heap x ox C od) (hs : PySem.W.findIn K (.ref C) "__bool__" = some (some (.ref f))) (hf : PySem.W.isFn K (.ref f) = true)
    (h : wpAny (model prog w) A.in1.in1 (call (.ref f) [.ref x]) (fun r s₁ => ∃ b, r = Value.bool b ∧ Q r s₁) E s) : wpAny (model prog w) A (call (.type "bool") [.ref x]) Q E s := by
  refine callType_codes (T := "bool") (Bi := Builtin.«object.__init__») (Q₁ := fun r s₁ => ∃ b, r = Value.bool b ∧ Q r s₁) PySem.F.called_bool (PySem.F.typeCall_bool_1 _) PySem.F.entry_object_init ?_ ?_
  · refine codeAny_of_tree ?_
    show wpAny _ A.in1.in1 (do checkBuiltinCall "bool.__new__" ⟨[.type "bool", .ref x], []⟩; again (.builtin "bool.__new__" ⟨[.type "bool", .ref x], []⟩)) _ _ s
    refine wpAny_bind (wpAny_of_eq (PySem.F.newCall_bool_1 _) (wpAny_pure ⟨plainId_quiet (by decide +kernel) _, codeAny_builtin PySem.F.entry_bool_new ?_⟩))
    rw [Around.under_plainId (by decide +kernel) _]
    have f1 := PySem.F.conv_sub_bool
    unfold Builtin.«bool.__new__»
    refine wpAny_bind (wpAny_of_eq (a := true) (by rfl) ?_)
    refine PySem.W.KFB.if_not rfl ?_
    refine wpAny_bind (wpAny_of_eq (a := true) f1 ?_)
    refine PySem.W.KFB.if_not rfl ?_
    refine wpAny_bind (wpAny_of_eq (a := [.ref x]) (by rfl) ?_)
    refine wpAny_bind (PySem.W.truthy_K F X₀ I hs hf (wpAny_mono h (fun r s₁ hr => ?_) fun _ _ y => y))
    obtain ⟨b, rfl, hq⟩ := hr
    exact wpAny_pure ⟨b, rfl, hq⟩
  · rintro obj s₁ ⟨b, rfl, hq⟩
    exact ⟨PySem.typeIs_bool _ _, PySem.F.args_object_init_2 _ _, object_init_meets PySem.F.called_bool.init.lookup PySem.F.called_bool.made (by decide) prog w A.in1 _ s₁ ⟨PySem.typeIs_bool _ _, rfl, hq⟩⟩
end
/-- the own __bool__ of the class at C answers b -/
def spB (b : Bool) : Sp := fun vs H Q _ => ∃ a : Addr, vs = [.ref a] ∧ Q (.bl b) H
structure BoolC (P : Program) (w : World) (K : PySem.W.Frag) (mg : Str → Option Value) (base : Heap) (n : Nat) (C : Addr) (b : Bool) : Prop where
  ex : ∃ f : Addr, PySem.W.findIn K (.ref C) "__bool__" = some (some (.ref f)) ∧ PySem.W.isFn K (.ref f) = true ∧ FnG P w K mg base CX0 n f (spB b)
def rBoolO (P : Program) (w : World) (K : PySem.W.Frag) (mg : Str → Option Value) (base : Heap) (n : Nat) : List V → Hp → VK → Prop := fun xs H Q => ∃ a C dx fs b, xs = [V.ref a] ∧ H a = some (.ins C dx fs) ∧ BoolC P w K mg base n C b ∧ Q (.bl b) H
theorem call_boolO {X : Cx} {n : Nat} (hr : Room (n + 2) X.A) (hg : X.A.guards = some []) : CallR X (.type "bool") (rBoolO X.prog X.w X.K X.mg X.base n) := by
  intro pins s σ H xs us Q I r h
  obtain ⟨a, C, dx, fs, b, rfl, ha, B, q⟩ := h
  obtain ⟨u, rfl, ru⟩ := vals1 r
  obtain rfl : u = Value.ref a := ru
  obtain ⟨f, hs, hf, F⟩ := B.ex
  obtain ⟨mA, OM, _, _, _, _⟩ := ins_get I.hok ha
  obtain ⟨od, J, _⟩ := OM.look
  obtain ⟨m, hF⟩ := I.fr
  refine bool_own hF I.ok.mod.kin J hs hf (wpAny_call (codeAny_mono (F X.A.in1.in1 X.stack s H [.ref a] [.ref a] (fun v H' => v = .bl b ∧ Q (.bl b) H') (fun _ _ _ => False) ((show Room (n + 1) X.A.in1 from Room.in1 hr).in1) hg I.env0.in1.in1 (.cons rfl .nil) ⟨a, rfl, rfl, q⟩) fun r' s' hq => ?_))
  cases r' with
  | error er => exact hq.elim
  | ok fl =>
    cases fl with
    | next => exact False.elim hq
    | brk => exact False.elim hq
    | cont => exact False.elim hq
    | ret u =>
      obtain ⟨v, H', I', rv, rfl, q'⟩ := I.after hq
      obtain rfl : u = Value.bool b := rv
      exact ⟨b, rfl, .bl b, H', I', rfl, q'⟩

/-! ### == by an own def -/
section
open PySem.W
variable {prog : Program} {w : World} {A : Around} {E : Value → Shared → Prop} {s : Shared} {K : PySem.W.Frag} {x y C C' L f : Addr} {h₀ : Heap} {m : Str → Option Value} {ox oy : Obj} {od od' : Option Obj}
/-- the right operand's class is below the left one's: it is asked first -/
theorem cmp_KR {op : CmpOp} {Q : Value → Shared → Prop} (hu : A.units < cLine) (F : Fr h₀ L s.heap m) (X₀ : K.In h₀) (I : InstAt s.heap x ox C od) (J : InstAt s.heap y oy C' od') (hne : C' ≠ C) (hsub : subIn K (.ref C') (.ref C) = some true)
    (hs : findIn K (.ref C') (cmpInfo op).2.2 = some (some (.ref f))) (hf : isFn K (.ref f) = true)
    (h : wpAny (model prog w) A (call (.ref f) [.ref y, .ref x]) (PySem.W.CmpBack Q) E s) : wpAny (model prog w) A (richCompare op (.ref x) (.ref y)) Q E s := by
  have X := X₀.keeps F.keep
  have one : wpAny (model prog w) A (tryCompare (.ref y) (cmpInfo op).2.2 (.ref x)) (fun r s' => ∃ v, r = some v ∧ Q v s') E s := by
    unfold tryCompare
    refine wpAny_bind (ifBound_K X J hs hf (wpAny_mono h (fun v s' hv => ?_) fun _ _ e => e))
    cases v <;> first | exact hv.elim | exact wpAny_pure ⟨_, rfl, hv⟩
  unfold richCompare
  simp only [oneThing_ref]
  refine wpAny_holding (wpAny_bind (wpAny_cRoomFor hu ?_))
  refine wpAny_bind (I.type.here (wpAny_bind (J.type.here ?_)))
  split
  · refine wpAny_bind ((looks_subIn X hsub).here ?_)
    simp only [if_true]
    refine wpAny_bind (wpAny_mono one (fun r s' z => ?_) fun _ _ e => e)
    obtain ⟨v, rfl, hq⟩ := z
    exact wpAny_bind (wpAny_rule (wpAny_pure hq))
  · rename_i q
    exact absurd (by simp [hne.symm]) q
end

/-- a value's type at the heap: an instance, a tuple -/
inductive TyL (H : Hp) : V → Value → Prop
  | ins {a C dx : Addr} {fs : List (Str × V)} (h : H a = some (.ins C dx fs)) : TyL H (.ref a) (.ref C)
  | tup {a : Addr} {xs : List V} (h : H a = some (.tup xs)) : TyL H (.ref a) (.type "tuple")
theorem TyL.looks {X : Cx} {pins : List (Addr × Obj)} {σ : L2.St} {H : Hp} {s : Shared} {x : V} {u t : Value} (I : Inv X pins σ H s) (r : RelV x u) (h : TyL H x t) : PySem.W.Looks (model X.prog X.w) s.heap (typeOf u) t := by
  cases h with
  | @ins a C dx fs ea =>
    cases (show u = Value.ref a from r)
    obtain ⟨mA, OM, _, _, _, _⟩ := ins_get I.hok ea
    obtain ⟨od, J, _⟩ := OM.look
    exact J.type
  | @tup a xs ea =>
    cases (show u = Value.ref a from r)
    obtain ⟨_, its, rv, o, ho, hc, n, hd⟩ := (show ObjOk X.prog X.w H s.heap a (.tup xs) from I.hok a _ ea)
    rw [← hc]
    exact (PySem.W.Looks.ld ho).andThen .now
/-- x == y, x an instance whose class has the own __eq__ at f -/
def rOwnEq (K : PySem.W.Frag) (f : Addr) (sp : Sp) : R2 := fun x y H Q => ∃ a C dx fs t, x = .ref a ∧ H a = some (.ins C dx fs) ∧ TyL H y t ∧ PySem.W.findIn K (.ref C) "__eq__" = some (some (.ref f)) ∧
  ((PySem.W.notFirst K C t = true ∧ Iv (sp [x, y] H Q fun _ _ _ => False)) ∨
   (∃ C', t = .ref C' ∧ C' ≠ C ∧ PySem.W.subIn K (.ref C') (.ref C) = some true ∧ PySem.W.findIn K (.ref C') "__eq__" = some (some (.ref f)) ∧ Iv (sp [y, x] H Q fun _ _ _ => False)))
theorem op_ownEq {X : Cx} {n : Nat} {f : Addr} {sp : Sp} (hf : PySem.W.isFn X.K (.ref f) = true) (F : FnG X.prog X.w X.K X.mg X.base CX0 n f sp) (hr : Room n X.A) (hg : X.A.guards = some []) : OpR X (compareOp .Eq) (rOwnEq X.K f sp) := by
  intro pins s σ H x y v u Q I rx ry h
  obtain ⟨a, C, dx, fs, t, rfl, ha, ty, hs, h⟩ := h
  cases (show v = Value.ref a from rx)
  obtain ⟨mA, OM, _, _, _, _⟩ := ins_get I.hok ha
  obtain ⟨od, J, _⟩ := OM.look
  obtain ⟨m, hF⟩ := I.fr
  show wpAny (model X.prog X.w) X.A (richCompare .Eq (.ref a) u) _ _ _
  have run : ∀ {us : List Value} {vs : List V}, Vals vs us → sp vs H Q (fun _ _ _ => False) → wpAny (model X.prog X.w) X.A (call (.ref f) us) (PySem.W.CmpBack (EP X pins σ Q)) X.xe s := by
    intro us vs rv hq
    refine wpAny_call (codeAny_mono (F X.A X.stack s H us vs Q (fun _ _ _ => False) hr hg I.env0 rv hq) fun r' s' hq => ?_)
    cases r' with
    | error er => exact hq.elim
    | ok fl =>
      cases fl with
      | next => exact False.elim hq
      | brk => exact False.elim hq
      | cont => exact False.elim hq
      | ret u =>
        obtain ⟨z', H', I', rz, qz⟩ := I.after hq
        exact SlX.cmpback rz ⟨z', H', I', rz, qz⟩
  rcases h with ⟨hn, hq⟩ | ⟨C', rfl, hne, hsub, hs', hq⟩
  · exact PySem.W.cmp_K (op := .Eq) (tb := t) hr.units0 hF I.ok.mod.kin J (ty.looks I ry) hn hs hf (run (vs := [.ref a, y]) (.cons rfl (.cons ry .nil)) hq.out)
  · cases ty with
    | @ins b _ dy gs eb =>
      cases (show u = Value.ref b from ry)
      obtain ⟨mB, OB, _, _, _, _⟩ := ins_get I.hok eb
      obtain ⟨od', J', _⟩ := OB.look
      exact cmp_KR (op := .Eq) hr.units0 hF I.ok.mod.kin J J' hne hsub hs' hf (run (vs := [.ref b, .ref a]) (.cons rfl (.cons rfl .nil)) hq.out)

/-! ### o.f as a target -/
def gFld (K : PySem.W.Frag) (to : TE) (f : Str) : TG := fun v σ H Q => to σ H fun x H1 => ∃ a C dx fs, x = .ref a ∧ H1 a = some (.ins C dx fs) ∧ Cls K C ∧ NoAttr K C f ∧ fs.length < 1000 ∧ Q σ (upd H1 a (.ins C dx (putF f v fs)))
theorem pg_fld {X : Cx} {o : Expr} {f : Str} {pos : Pos} {to : TE} (ho : PE X o to) : PG X (.Attribute o f pos) (gFld X.K to f) := by
  refine ⟨fun pins s σ H v u Q I r h => ?_⟩
  rw [assign_Attribute]
  refine wpAny_bind (wpAny_holding (thn (ho.run pins s σ H _ I h) fun ov s1 ⟨x, H1, I1, rx, a, C, dx, fs, ex, ea, c, n, l, q⟩ => ?_))
  subst ex
  obtain rfl : ov = Value.ref a := rx
  exact wpAny_bind (wpAny_standAt (wpAny_bind (wpAny_holding (setattr_ok I1 ea c n l r fun s3 I3 => wpAny_release ⟨σ, _, I3, q⟩))))

/-! ### C(..) -/
section
variable {X : Cx} {C f : Addr} {k : Nat} {sp : Sp} {x : Str} {p pos : Pos} {e : Expr} {es : List Expr} {kws : List Keyword} {t tk : TA}
theorem under_type {A : Around} {a : Args} (h : A.guards = some []) : (A.under (.builtin "type.__call__" a)).guards = some [] := by
  show pushGuards (Code.guards (.builtin "type.__call__" a)) A.guards = some []
  rw [h]
  rfl
theorem run_makeG {pins : List (Addr × Obj)} {σ : L2.St} {H : Hp} {s : Shared} {Q : VK} {us : List Value} {kw : List (Str × Value)} {vs : List V} (M : Mk X.K C f) (hr : Room (k + 1) X.A) (hg : X.A.guards = some []) (I : Inv X pins σ H s)
    (run : ∀ (A : Around) (s2 : Shared) (H2 : Hp) (x : Addr) (Q2 : VK), Room k A → A.guards = some [] → Env0 X.prog X.w X.K X.mg X.base A X.stack s2 H2 → sp (.ref x :: vs) H2 Q2 (fun _ _ _ => False) →
      codeAny (model X.prog X.w) A (.call (.ref f) ⟨.ref x :: us, kw⟩) (CR CX0 X.stack X.prog X.w H2 s2 Q2 (fun _ _ _ => False)) s2)
    (h : ∀ x dx, H x = none → H dx = none → dx ≠ x → sp (.ref x :: vs) (upd (upd H dx (.own x)) x (.ins C dx [])) (fun v H2 => v = .non ∧ Q (.ref x) H2) (fun _ _ _ => False)) :
    wpAny (model X.prog X.w) X.A (call (.ref C) us kw) (EP X pins σ Q) X.xe s := by
  have hq := h (s.heap.objs.size + 1) s.heap.objs.size (I.hok.fresh (Nat.le_succ _)) (I.hok.fresh (Nat.le_refl _)) (Nat.ne_of_lt (Nat.lt_succ_self _))
  have I2 := Inv.made (C := C) I
  refine wpAny_call (make_map (f := f) I.kIn M.makes M.init (beq_iff_eq.mp M.fn) (codeAny_mono (run _ _ _ _ _ (hr.make C us kw) (under_type hg) (I2.env0.make C us kw) hq) fun r s' hq' => ?_))
  cases r with
  | error e => exact hq'.elim
  | ok fl =>
    cases fl with
    | ret u =>
      obtain ⟨v, H', I3, rv, ev, q3⟩ := I2.after hq'
      subst ev
      exact ⟨rv, ⟨V.ref (s.heap.objs.size + 1), H', I3, rfl, q3⟩⟩
    | next => exact False.elim hq'
    | brk => exact False.elim hq'
    | cont => exact False.elim hq'
def tMakeG (C : Addr) (sp : Sp) (t : TA) : TE := fun σ H Q => t σ H fun vs H1 => ∀ x dx, H1 x = none → H1 dx = none → dx ≠ x →
  Iv (sp (.ref x :: vs) (upd (upd H1 dx (.own x)) x (.ins C dx [])) (fun v H2 => v = .non ∧ Q (.ref x) H2) (fun _ _ _ => False))
theorem pe_makeG (M : Mk X.K C f) (F : FnG X.prog X.w X.K X.mg X.base CX0 k f sp) (hr : Room (k + 1) X.A) (hgd : X.A.guards = some []) (hg : Gl X x) (hm : X.mg x = some (.ref C)) (ha : PA X (e :: es) t)
    (hdb : (x == ("__debug__" : Str)) = false := by decide) (he : starEach (e :: es) X.env = (false, eval e X.env) :: starEach es X.env := by rfl) (hpl : (backTo pos (starEach es X.env)).any (·.1) = false := by rfl) :
    PE X (.Call (.Name x p) (e :: es) [] pos) (tMakeG C sp t) := by
  refine ⟨fun pins s σ H Q I h => ?_⟩
  refine wpAny_Call_Name_kw (ld_glob I hg hm ?_ hdb)
  refine PySem.W.callWith_K (h₀ := X.base) I.ok.mod.kin M.kp (thn (ha.run pos pins s σ H _ I h) fun us s1 ⟨vs, H1, I1, r, q⟩ => ⟨I1.kIn, ?_⟩) he hpl
  exact run_makeG M hr hgd I1 (fun A s2 H2 x Q2 h1 h2 h3 h4 => F A X.stack s2 H2 (.ref x :: us) (.ref x :: vs) Q2 _ h1 h2 h3 (.cons rfl r) h4) fun x dx h1 h2 h3 => (q x dx h1 h2 h3).out
/-- the keywords' values in the parameters' order -/
def tMakeGK (C : Addr) (sp : Sp) (js : List Nat) (t : TA) : TE := fun σ H Q => t σ H fun zs H1 => zs.length = js.length ∧ ∀ x dx, H1 x = none → H1 dx = none → dx ≠ x →
  Iv (sp (.ref x :: js.map fun j => zs.getD j .non) (upd (upd H1 dx (.own x)) x (.ins C dx [])) (fun v H2 => v = .non ∧ Q (.ref x) H2) (fun _ _ _ => False))
theorem vals_perm {zs : List V} {ws : List Value} (r : Vals zs ws) : ∀ js : List Nat, (∀ j ∈ js, j < zs.length) → Vals (js.map fun j => zs.getD j .non) (js.map fun j => ws.getD j .none)
  | [], _ => .nil
  | j :: js, h => by
    refine .cons ?_ (vals_perm r js fun i hi => h i (List.mem_cons_of_mem _ hi))
    have hj := h j List.mem_cons_self
    obtain ⟨u, hu, ru⟩ := r.get (List.getElem?_eq_getElem hj)
    show RelV (zs.getD j .non) (ws.getD j .none)
    rw [List.getD_eq_getElem?_getD, List.getD_eq_getElem?_getD, hu, List.getElem?_eq_getElem hj]
    exact ru
theorem pe_makeGK {fd : FuncData} {ps ks : List Str} {js : List Nat} (M : Mk X.K C f) (F : FnA X.prog X.w X.K X.mg X.base CX0 k f fd ps sp) (hjs : ∀ j ∈ js, j < js.length)
    (hb : ∀ (s : Shared) (u : Value) (ws : List Value), ws.length = js.length → BindsTo s fd ⟨[u], ks.zip ws⟩ (ps.zip (u :: js.map fun j => ws.getD j .none)))
    (hr : Room (k + 1) X.A) (hgd : X.A.guards = some []) (hg : Gl X x) (hm : X.mg x = some (.ref C)) (hkw : PK X kws tk)
    (hall : (backToKw pos (keywordEach kws X.env)).all (·.1.isSome) = true := by rfl) (hks : (backToKw pos (keywordEach kws X.env)).filterMap (·.1) = ks := by rfl)
    (hdb : (x == ("__debug__" : Str)) = false := by decide) (hpl : ((backTo pos (starEach [] X.env)).any (·.1) || (backToKw pos (keywordEach kws X.env)).any (·.1.isNone)) = false := by rfl) :
    PE X (.Call (.Name x p) [] kws pos) (tMakeGK C sp js tk) := by
  refine ⟨fun pins s σ H Q I h => ?_⟩
  refine wpAny_Call_Name_kw (ld_glob I hg hm ?_ hdb)
  refine PySem.W.callWith_KW0 (h₀ := X.base) I.ok.mod.kin M.kp hall (thn (hkw.run pos pins s σ H _ I h) fun ws s2 ⟨zs, H2, I2, rz, hl, q⟩ => ⟨I2.kIn, ?_⟩) hpl
  rw [hks]
  have hwl : ws.length = js.length := by rw [← rz.length]; exact hl
  exact run_makeG (us := []) (vs := js.map fun j => zs.getD j .non) M hr hgd I2 (fun A s3 H3 x Q2 h1 h2 h3 h4 => F.run A X.stack s3 H3 ⟨[.ref x], ks.zip ws⟩ (.ref x :: js.map fun j => ws.getD j .none) (.ref x :: js.map fun j => zs.getD j .non) Q2 _ h1 h2 h3 (hb s3 _ ws hwl) (.cons rfl (vals_perm rz js fun j hj => by rw [hl]; exact hjs j hj)) h4) fun x dx h1 h2 h3 => (q x dx h1 h2 h3).out
end
/-! ### def f(a, .., *v) -/
section
variable {P : Program} {w : World} {K : PySem.W.Frag} {mg : Str → Option Value} {base : Heap} {CX : CXT} {k : Nat} {f : Addr} {sp : Sp}
theorem Fun_starP {x qual pv : Str} {st : Stmt} {fd : FuncData} {N ps : List Str} {mx : Nat} (hmx : mx ≤ sizeLine) (F : Fun K x qual st f fd) (S : FnScope N (ps ++ [pv]) (defScope st)) (hCX : StX.CXUp CX)
    (hb : ∀ (kV doc pm : Value) (an : Option Addr) (cdv ct : Value) (us rest : List Value), us.length = ps.length → rest.length ≤ mx → bindArgs (PySem.W.fnOf x qual (defArgs st) (defBody st) (defScope st) .none kV doc pm an cdv ct) ⟨us ++ rest, []⟩ = (newTuple rest >>= fun t => pure (ps.zip us ++ [(pv, t)])))
    (hbody : ∀ (cdv : Value) (A : Around) (outer : List Env) (s : Shared) (H : Hp) (vs : List V) (Q : VK) (E : XK), Room k (A.deeper (envOfC qual (defScope st) s.heap.objs.size f cdv)) → A.guards = some [] → sp vs H Q E →
      ∃ t, PSs (cxOf CX P w K mg base N qual (defScope st) f cdv A outer s H E) (defBody st) t ∧ t { nx := fun _ H' => Q .non H', rt := Q } (start N vs) H) :
    FnG P w K mg base CX (k + 1) f (fun vs H Q E => ∃ ws rest, vs = ws ++ rest ∧ ws.length = ps.length ∧ rest.length ≤ mx ∧ ∀ p, H p = none → sp (ws ++ [V.ref p]) (upd H p (.tup rest)) Q E) := by
  obtain ⟨oc, od, kV, doc, pm, an, cdv, ct, osl, rfl, lk, hcd⟩ := F.ex
  intro A outer s H us vs Q E hr hg e0 r hsp
  obtain ⟨ws, rest, ev, hl, hz, hq⟩ := hsp
  subst ev
  obtain ⟨u1, u2, eu, r1, r2⟩ := StX.vals_split r
  subst eu
  have hn : H s.heap.objs.size = Option.none := e0.hok.fresh (Nat.le_refl _)
  have hl1 : u1.length = ps.length := by rw [← r1.length]; exact hl
  have hl3 : u2.length ≤ mx := by rw [← r2.length]; exact hz
  have hl2 : u2.length ≤ sizeLine := Nat.le_trans hl3 hmx
  refine StX.run_bnd lk hcd S hr e0 (G := fun xs H2 => ∃ p, H p = Option.none ∧ xs = ws ++ [V.ref p] ∧ H2 = upd H p (.tup rest)) (fun A' Ex Q' h => ?_) fun s2 H2 xs ⟨p, hp, ex, eH⟩ hr' => ?_
  · rw [hb kV doc pm an cdv ct u1 u2 hl1 hl3]
    refine wpAny_bind (wpAny_newTuple (wpAny_pure ?_) hl2)
    have new : ObjOk P w (upd H s.heap.objs.size (.tup rest)) (s.heap.push ({ cls := .type "tuple", data := .seq u2.toArray } : Obj)) s.heap.objs.size (.tup rest) := ⟨Nat.le_trans hz hmx, u2, r2, ⟨_, Heap.get?_push_size _ rfl, rfl, _, rfl⟩⟩
    have un := StX.un_laid (fs := frs outer) (s := s) (o := ({ cls := .type "tuple", data := .seq u2.toArray } : Obj)) (u := .tup rest) hn
    have z := h _ _ (ws ++ [V.ref s.heap.objs.size]) (u1 ++ [Value.ref s.heap.objs.size]) (StX.env0_laid e0 new) un rfl (fun e s' => hCX outer s H _ _ E e s' un (fun b o q => Heap.get?_push_of_some _ q) rfl) (r1.append (.cons rfl .nil))
      (by rw [List.length_append, List.length_append, hl] <;> rfl) ⟨_, hn, rfl, rfl⟩
    rw [List.zip_append hl1.symm] at z
    exact z
  · subst ex eH
    exact hbody cdv A outer s2 _ _ Q E hr' hg (hq p hp)
end
end MyP

/-! A law's head by one run, with own classes whose defs say super(). -/
namespace MyG
open PySem PySem.Spec PyProof.Rows L2 MyL He MyH MyP
/-- the objects that a value, an object names -/
def refsP (o : Obj) : List Addr := refsO o ++ match o.data with
  | .func fd => fd.closure.map (·.2)
  | .cell (some v) => refV v
  | _ => []
def growP (g : Addr → Option Obj) (as : List Addr) : List Addr := (as ++ as.flatMap fun a => match g a with
  | some o => refsP o
  | none => []).eraseDups
def asP (g : Addr → Option Obj) : Nat → List Addr
  | 0 => [mainGlobals, sysModules, cStatics]
  | n + 1 => growP g (asP g n)
abbrev FnVC : Type := Option (Str × Str × Arguments × FuncBody × Scope × Addr × List Str × Value × Addr)
def fnObsC (K : PySem.W.Frag) (p : Str × Option Str) : FnVC := match K.lookup (fAd K p) with
  | some ⟨_, _, .func fd, _⟩ => some (fd.name, fd.qualname, fd.params, fd.body, fd.scope, fd.globals, fd.closure.map (·.1), fd.defaults, fd.builtins)
  | _ => none
def FnD.valC (d : FnD) : FnVC := some (d.name, d.qual, d.params, .stmts d.body, d.scope, mainGlobals, ["__class__"], .none, builtinsNs)
/-- what a def with a class's cell leans on: D its class -/
def fncB (K : PySem.W.Frag) (p : Str × Option Str) (q : Str) (D : Addr) : Bool := (match K.lookup (fAd K p) with
  | some ⟨_, _, .func fd, _⟩ => PySem.W.codeIn K fd.code q && ((match fd.code with
      | .ref c => (match K.lookup c with
        | some ⟨_, _, .fields vs, _⟩ => (match (vs[2]? : Option Value) with
          | some (.str z _) => decide (z = Str.ofString "/claim/cut.py")
          | _ => false)
        | _ => false)
      | _ => false) && (match fd.closure with
      | [(_, cc)] => (match K.lookup cc with
        | some ⟨_, _, .cell (some (.ref D')), _⟩ => decide (D' = D)
        | _ => false)
      | _ => false))
  | _ => false) && (PySem.W.clsIn K D).isSome
theorem fnc_ok {K : PySem.W.Frag} {p : Str × Option Str} {x q : Str} {st : Stmt} {D : Addr} (e : fnObsC K p = FnD.valC ⟨p, x, q, defArgs st, defBody st, defScope st⟩) (c : fncB K p q D = true) : ∃ fd, FunC K x q st (fAd K p) fd D := by
  unfold fncB at c
  obtain ⟨c0, hcl⟩ := ba c
  clear c
  obtain ⟨cdD, hcd⟩ := Option.isSome_iff_exists.mp hcl
  unfold fnObsC at e
  cases h : K.lookup (fAd K p) with
  | none => rw [h] at c0; cases c0
  | some o =>
    obtain ⟨oc, od, dt, osl⟩ := o
    rw [h] at c0 e
    cases dt with
    | func fd =>
      obtain ⟨c1, c4⟩ := ba c0
      obtain ⟨c2, c3⟩ := ba c4
      clear c0 c4
      obtain ⟨n1, n2, n3, n4, n5, n6, n7, n8, n9, n10, n11, n12, n13, n14, n15⟩ := fd
      have e2 : (some (n1, n2, n3, n4, n5, n6, n7.map (·.1), n8, n15) : FnVC) = (some (x, q, defArgs st, .stmts (defBody st), defScope st, mainGlobals, ["__class__"], .none, builtinsNs) : FnVC) := e
      simp only [Option.some.injEq, Prod.mk.injEq] at e2
      obtain ⟨h1, h2, h3, h4, h5, h6, h7, h8, h9⟩ := e2
      subst h1 h2 h3 h4 h5 h6 h8 h9
      dsimp only at c1 c2 c3
      split at c2
      · rename_i cda
        split at c2
        · rename_i ccl cdd vs ccs lc
          split at c2
          · rename_i z tf hz
            have ez := of_decide_eq_true c2
            subst ez
            split at c3
            · rename_i nm cc
              split at c3
              · rename_i cl cld D' csl lcc
                have eD := of_decide_eq_true c3
                subst eD
                have en : nm = "__class__" := by simpa using h7
                subst en
                exact ⟨_, oc, _, _, _, od, _, cda, cc, _, osl, ccl, cdd, vs, ccs, tf, cl, cld, csl, cdD, rfl, h, c1, lc, hz, lcc, hcd⟩
              · cases c3
            · cases c3
          · cases c2
        · cases c2
      · cases c2
    | _ => cases c0
/-! ### the hook -/
abbrev AlP : Type := Bool × (List FnV × List FnVC)
/-- a def with a class's cell, by its class's name -/
structure FnC where
  d : FnD
  cls : Str
def obsP (chk : List Chk) (fn : List FnD) (fc : List FnC) (K : PySem.W.Frag) : AlP :=
  ((chk.all fun f => f K) && ((fn.all fun d => (Fa.code d.at_ d.qual).ok K && PySem.W.keepIn K (.ref (fAd K d.at_))) && fc.all fun d => fncB K d.d.at_ d.d.qual (ga K d.cls)), (fn.map fun d => fnObs K d.at_, fc.map fun d => fnObsC K d.d.at_))
def valP (fn : List FnD) (fc : List FnC) : AlP := (true, (fn.map FnD.val, fc.map fun d => FnD.valC d.d))
def SaysP (chk : List Chk) (fn : List FnD) (fc : List FnC) (K : PySem.W.Frag) : Prop := obsP chk fn fc K = valP fn fc
def obsPG (n : Nat) (chk : List Chk) (fn : List FnD) (fc : List FnC) (g : Addr → Option Obj) : AlP := obsP chk fn fc (frG g (asP g n))
def hookP (n : Nat) (chk : List Chk) (fn : List FnD) (fc : List FnC) : PySem.W.Hook where
  α := AlP
  obs := fun s => obsPG n chk fn fc s.heap.get?
  val := fun _ => valP fn fc
  says := fun _ h => ∃ K : PySem.W.Frag, K.In h ∧ SaysP chk fn fc K
  of := fun _ _ e => ⟨_, frG_in, e⟩
  keeps := fun _ _ _ ⟨K, hK, c⟩ k => ⟨K, PySem.W.Frag.In.keeps hK k, c⟩
theorem obsPG_eq {n : Nat} {chk : List Chk} {fn : List FnD} {fc : List FnC} {g : Addr → Option Obj} {s : Shared} (h : ∀ a, g a = s.heap.get? a) : obsPG n chk fn fc g = (hookP n chk fn fc).obs s := by
  have e : g = s.heap.get? := funext h
  rw [e] <;> rfl
section
variable {chk : List Chk} {fn : List FnD} {fc : List FnC} {K : PySem.W.Frag}
theorem SaysP.b (c : SaysP chk fn fc K) : ((chk.all fun f => f K) && ((fn.all fun d => (Fa.code d.at_ d.qual).ok K && PySem.W.keepIn K (.ref (fAd K d.at_))) && fc.all fun d => fncB K d.d.at_ d.d.qual (ga K d.cls))) = true := congrArg (fun z : AlP => z.1) c
theorem SaysP.fact (c : SaysP chk fn fc K) (i : Nat) {f : Chk} (h : chk[i]? = some f := by rfl) : f K = true := List.all_eq_true.mp (ba c.b).1 f (List.mem_of_getElem? h)
theorem SaysP.def_ (c : SaysP chk fn fc K) (i : Nat) {x q : Str} {st : Stmt} {p : Str × Option Str} (h : fn[i]? = some ⟨p, x, q, defArgs st, defBody st, defScope st⟩ := by rfl) : ∃ fd, Fun K x q st (fAd K p) fd := by
  have c2 := (ba (ba c.b).2).1
  have e : fn.map (fun d => fnObs K d.at_) = fn.map FnD.val := congrArg (fun z : AlP => z.2.1) c
  have e2 : (fn.map fun d => fnObs K d.at_)[i]? = (fn.map FnD.val)[i]? := by rw [e]
  rw [List.getElem?_map, List.getElem?_map, h] at e2
  obtain ⟨k1, k2⟩ := ba (List.all_eq_true.mp c2 _ (List.mem_of_getElem? h))
  obtain ⟨oc, od, osl, kV, doc, pm, an, cdv, ct, lk, hc⟩ := fn_ok (Option.some.inj e2) k1
  exact ⟨_, fun_mk (st := st) lk hc k2⟩
theorem SaysP.cdef (c : SaysP chk fn fc K) (i : Nat) {x q C : Str} {st : Stmt} {p : Str × Option Str} (h : fc[i]? = some ⟨⟨p, x, q, defArgs st, defBody st, defScope st⟩, C⟩ := by rfl) : ∃ fd, FunC K x q st (fAd K p) fd (ga K C) := by
  have c2 := (ba (ba c.b).2).2
  have e : fc.map (fun d => fnObsC K d.d.at_) = fc.map (fun d => FnD.valC d.d) := congrArg (fun z : AlP => z.2.2) c
  have e2 : (fc.map fun d => fnObsC K d.d.at_)[i]? = (fc.map fun d => FnD.valC d.d)[i]? := by rw [e]
  rw [List.getElem?_map, List.getElem?_map, h] at e2
  exact fnc_ok (Option.some.inj e2) (List.all_eq_true.mp c2 _ (List.mem_of_getElem? h))
end
/-! ### own classes -/
def ownB (K : PySem.W.Frag) (C : Addr) (nm : Str) : Bool := (PySem.W.plainGet K C Str.empty && (PySem.W.hasDictIn K C && (PySem.W.plainOver K C && eqO (PySem.W.findIn K (.ref C) "__setattr__") (some (some (.builtin "object.__setattr__")))))) &&
  ((match K.lookup C with
    | some ⟨.type "type", _, .cls _, sl⟩ => (match sl.toList with
      | [_, _, some (.str x _), _, _, _] => decide (x = nm)
      | _ => false)
    | _ => false) && ((match PySem.W.findCls K (.ref C) (.type "type") "__name__" with
    | some (.get g a o t) => decide (g = .builtin "getset_descriptor.__get__") && (decide (a = .builtin "type.__name__") && (decide (o = .ref C) && decide (t = .type "type")))
    | _ => false) && (eqO (PySem.W.findIn K (.ref C) "__class__") (some (some (.builtin "object.__class__"))) && (eqO (PySem.W.specialIn K (.builtin "object.__class__") "__get__") (some (some (.builtin "getset_descriptor.__get__"))) &&
  (decide (PySem.W.takesIn K (.builtin "object.__class__") = some true) && decide (PySem.W.mroIn K C (.type "object") = some true))))))
theorem ownB_ok {K : PySem.W.Frag} {C : Addr} {nm : Str} (h : ownB K C nm = true) : OwnC K C nm := by
  obtain ⟨h1, h⟩ := ba h
  obtain ⟨a1, h1⟩ := ba h1
  obtain ⟨a2, h1⟩ := ba h1
  obtain ⟨a3, a4⟩ := ba h1
  obtain ⟨h2, h⟩ := ba h
  obtain ⟨h3, h⟩ := ba h
  obtain ⟨h4, h⟩ := ba h
  obtain ⟨h5, h⟩ := ba h
  obtain ⟨h6, h7⟩ := ba h
  refine ⟨⟨a1, a2, a3, eqO_ok a4⟩, ⟨?_, ?_⟩, eqO_ok h4, eqO_ok h5, of_decide_eq_true h6, of_decide_eq_true h7⟩
  · split at h2
    · rename_i dd cd sl lk
      split at h2
      · rename_i k0 k1 x tk k3 k4 k5 hl
        have e := of_decide_eq_true h2
        subst e
        obtain ⟨l⟩ := sl
        have hl' : l = [k0, k1, some (.str x tk), k3, k4, k5] := hl
        subst hl'
        exact ⟨dd, cd, tk, k0, k1, k3, k4, k5, lk⟩
      · cases h2
    · cases h2
  · split at h3
    · rename_i g a o t e
      obtain ⟨b1, h3⟩ := ba h3
      obtain ⟨b2, h3⟩ := ba h3
      obtain ⟨b3, b4⟩ := ba h3
      rw [e, of_decide_eq_true b1, of_decide_eq_true b2, of_decide_eq_true b3, of_decide_eq_true b4]
    · cases h3
/-- C's __init__ is at f -/
def mkB (K : PySem.W.Frag) (C f : Addr) : Bool := PySem.W.makesIn K C && (eqO (PySem.W.findIn K (.ref C) "__init__") (some (some (.ref f))) && (PySem.W.isFn K (.ref f) && PySem.W.keepIn K (.ref C)))
theorem mkB_ok {K : PySem.W.Frag} {C f : Addr} (h : mkB K C f = true) : Mk K C f := by
  obtain ⟨h1, h⟩ := ba h
  obtain ⟨h2, h⟩ := ba h
  obtain ⟨h3, h4⟩ := ba h
  exact ⟨h1, eqO_ok h2, h3, h4⟩
def supB (K : PySem.W.Frag) (C D g : Addr) : Bool := decide (PySem.W.mroIn K C (.ref D) = some true) && (eqO (PySem.W.ks_superIn K C D "__init__") (some (some (.ref g))) && (decide (PySem.W.typeIn K (.ref g) = some (.type "function")) && PySem.W.fnIn K g))
theorem supB_ok {K : PySem.W.Frag} {C D g : Addr} (h : supB K C D g = true) : SupC K C D g := by
  obtain ⟨h1, h⟩ := ba h
  obtain ⟨h2, h⟩ := ba h
  obtain ⟨h3, h4⟩ := ba h
  exact ⟨of_decide_eq_true h1, eqO_ok h2, of_decide_eq_true h3, h4⟩
def fmB (K : PySem.W.Frag) (C : Addr) (m : Str) (f : Addr) : Bool := eqO (PySem.W.findIn K (.ref C) m) (some (some (.ref f))) && PySem.W.isFn K (.ref f)
theorem fmB_ok {K : PySem.W.Frag} {C f : Addr} {m : Str} (h : fmB K C m f = true) : PySem.W.findIn K (.ref C) m = some (some (.ref f)) ∧ PySem.W.isFn K (.ref f) = true := let ⟨a, b⟩ := ba h; ⟨eqO_ok a, b⟩
def noB (K : PySem.W.Frag) (C : Addr) (fs : List Str) : Bool := fs.all fun f => eqO (PySem.W.findIn K (.ref C) f) (some none)
theorem noB_ok {K : PySem.W.Frag} {C : Addr} {fs : List Str} (h : noB K C fs = true) (f : Str) (hf : f ∈ fs) : NoAttr K C f := eqO_ok (List.all_eq_true.mp h f hf)
/-- how x == y goes for instances of two classes -/
def PairOk (K : PySem.W.Frag) (C C' : Addr) : Prop := PySem.W.notFirst K C (.ref C') = true ∨ (C' ≠ C ∧ PySem.W.subIn K (.ref C') (.ref C) = some true)
def pairB (K : PySem.W.Frag) (C C' : Addr) : Bool := PySem.W.notFirst K C (.ref C') || (!decide (C' = C) && decide (PySem.W.subIn K (.ref C') (.ref C) = some true))
theorem pairB_ok {K : PySem.W.Frag} {C C' : Addr} (h : pairB K C C' = true) : PairOk K C C' := by
  rcases Bool.or_eq_true_iff.mp h with h | h
  · exact .inl h
  · obtain ⟨h1, h2⟩ := ba h
    refine .inr ⟨fun e => ?_, of_decide_eq_true h2⟩
    rw [decide_eq_true e] at h1
    cases h1
def pairsB (K : PySem.W.Frag) (cs : List Addr) : Bool := cs.all fun C => cs.all fun C' => pairB K C C'
theorem pairsB_ok {K : PySem.W.Frag} {cs : List Addr} (h : pairsB K cs = true) : ∀ C ∈ cs, ∀ C' ∈ cs, PairOk K C C' := fun C hC C' hC' => pairB_ok (List.all_eq_true.mp (List.all_eq_true.mp h C hC) C' hC')
def smB (K : PySem.W.Frag) : Bool := (K.lookup sysModules).isSome
theorem smB_ok {K : PySem.W.Frag} (h : smB K = true) : ∃ o, K.lookup sysModules = some o := Option.isSome_iff_exists.mp h
def opB (K : PySem.W.Frag) : Bool := eqO (PySem.W.nsIn K cStatics "thirdparty.any") (some none)
end MyG

/-! Nested data: what a value reads as (locked or not), its size, its fixed form. -/
namespace MyD
open PySem PySem.Spec PyProof.Rows L2 MyL
mutual
/-- the value reads as the data; a list, a dict may be locked -/
inductive DpR (H : Hp) : V → PyData → Prop
  | non : DpR H .non .none
  | bl (b : Bool) : DpR H (.bl b) (.bool b)
  | int (i : Int) : DpR H (.int i) (.int i)
  | str (z : Str) : DpR H (.str z) (.str z)
  | lst {a : Addr} {xs : List V} {ds : List PyData} : Rd H a (.lst xs) → DpRs H xs ds → DpR H (.ref a) (.list ds)
  | tup {a : Addr} {xs : List V} {ds : List PyData} : H a = some (.tup xs) → DpRs H xs ds → DpR H (.ref a) (.tuple ds)
  | dct {a : Addr} {kvs : List (Key × V)} {ds : List (PyData × PyData)} : Rd H a (.dK kvs) → DpRp H kvs ds → DpR H (.ref a) (.dict ds)
inductive DpRs (H : Hp) : List V → List PyData → Prop
  | nil : DpRs H [] []
  | cons {v : V} {vs : List V} {d : PyData} {ds : List PyData} : DpR H v d → DpRs H vs ds → DpRs H (v :: vs) (d :: ds)
inductive DpRp (H : Hp) : List (Key × V) → List (PyData × PyData) → Prop
  | nil : DpRp H [] []
  | cons {k : Key} {v : V} {vs : List (Key × V)} {d : PyData} {ds : List (PyData × PyData)} : DpR H v d → DpRp H vs ds → DpRp H ((k, v) :: vs) ((keyD k, d) :: ds)
end
/-- what may be read stays to be read -/
structure Kr (H H' : Hp) : Prop where
  l : ∀ a xs, Rd H a (.lst xs) → Rd H' a (.lst xs)
  t : ∀ a xs, H a = some (.tup xs) → H' a = some (.tup xs)
  d : ∀ a kvs, Rd H a (.dK kvs) → Rd H' a (.dK kvs)
theorem Kr.refl {H : Hp} : Kr H H := ⟨fun _ _ h => h, fun _ _ h => h, fun _ _ h => h⟩
theorem Kr.trans {H H1 H2 : Hp} (a : Kr H H1) (b : Kr H1 H2) : Kr H H2 := ⟨fun _ _ h => b.l _ _ (a.l _ _ h), fun _ _ h => b.t _ _ (a.t _ _ h), fun _ _ h => b.d _ _ (a.d _ _ h)⟩
theorem Kr.of {H H' : Hp} (S : Same H H') : Kr H H' := ⟨fun a xs h => h.elim (fun h => .inl (S _ _ h)) fun ⟨o, h⟩ => .inr ⟨o, S _ _ h⟩, fun a xs h => S _ _ h, fun a xs h => h.elim (fun h => .inl (S _ _ h)) fun ⟨o, h⟩ => .inr ⟨o, S _ _ h⟩⟩
theorem Kr.lock {H : Hp} {a : Addr} {kvs : List (Key × V)} (od : Obj) (h : H a = some (.dK kvs)) : Kr H (upd H a (.frz od (.dK kvs))) := by
  have ne : ∀ b u, H b = some u → u ≠ .dK kvs → b ≠ a := fun b u e n z => n (Option.some.inj (e.symm.trans (by rw [z]; exact h)))
  refine ⟨fun b xs e => ?_, fun b xs e => ?_, fun b ks e => ?_⟩
  · rcases e with e | ⟨o, e⟩
    · exact .inl (by rw [upd_ne (ne b _ e fun z => nomatch z)]; exact e)
    · exact .inr ⟨o, by rw [upd_ne (ne b _ e fun z => nomatch z)]; exact e⟩
  · rw [upd_ne (ne b _ e fun z => nomatch z)]; exact e
  · by_cases hb : b = a
    · subst hb
      rcases e with e | ⟨o, e⟩
      · rw [h] at e
        have e' := HO.dK.inj (Option.some.inj e)
        rw [← e']
        exact .inr ⟨od, upd_same⟩
      · rw [h] at e
        cases e
    · rcases e with e | ⟨o, e⟩
      · exact .inl (by rw [upd_ne hb]; exact e)
      · exact .inr ⟨o, by rw [upd_ne hb]; exact e⟩
theorem Kr.unlock {H : Hp} {a : Addr} {od : Obj} {kvs : List (Key × V)} (h : H a = some (.frz od (.dK kvs))) : Kr H (upd H a (.dK kvs)) := by
  have ne : ∀ b u, H b = some u → u ≠ .frz od (.dK kvs) → b ≠ a := fun b u e n z => n (Option.some.inj (e.symm.trans (by rw [z]; exact h)))
  refine ⟨fun b xs e => ?_, fun b xs e => ?_, fun b ks e => ?_⟩
  · rcases e with e | ⟨o, e⟩
    · exact .inl (by rw [upd_ne (ne b _ e fun z => nomatch z)]; exact e)
    · exact .inr ⟨o, by rw [upd_ne (ne b _ e fun z => nomatch z)]; exact e⟩
  · rw [upd_ne (ne b _ e fun z => nomatch z)]; exact e
  · by_cases hb : b = a
    · subst hb
      rcases e with e | ⟨o, e⟩
      · rw [h] at e
        cases e
      · rw [h] at e
        have e' := HO.dK.inj (HO.frz.inj (Option.some.inj e)).2
        rw [← e']
        exact .inl upd_same
    · rcases e with e | ⟨o, e⟩
      · exact .inl (by rw [upd_ne hb]; exact e)
      · exact .inr ⟨o, by rw [upd_ne hb]; exact e⟩
section
variable {H H' : Hp}
mutual
theorem DpR.kr (S : Kr H H') : ∀ {v : V} {d : PyData}, DpR H v d → DpR H' v d
  | _, _, .non => .non
  | _, _, .bl b => .bl b
  | _, _, .int i => .int i
  | _, _, .str z => .str z
  | _, _, .lst h q => .lst (S.l _ _ h) (DpRs.kr S q)
  | _, _, .tup h q => .tup (S.t _ _ h) (DpRs.kr S q)
  | _, _, .dct h q => .dct (S.d _ _ h) (DpRp.kr S q)
theorem DpRs.kr (S : Kr H H') : ∀ {v : List V} {d : List PyData}, DpRs H v d → DpRs H' v d
  | _, _, .nil => .nil
  | _, _, .cons h q => .cons (DpR.kr S h) (DpRs.kr S q)
theorem DpRp.kr (S : Kr H H') : ∀ {v : List (Key × V)} {d : List (PyData × PyData)}, DpRp H v d → DpRp H' v d
  | _, _, .nil => .nil
  | _, _, .cons h q => .cons (DpR.kr S h) (DpRp.kr S q)
end
theorem DpR.same (S : Same H H') {v : V} {d : PyData} (h : DpR H v d) : DpR H' v d := h.kr (.of S)
theorem DpRs.same (S : Same H H') {v : List V} {d : List PyData} (h : DpRs H v d) : DpRs H' v d := h.kr (.of S)
theorem DpRs.length : ∀ {v : List V} {d : List PyData}, DpRs H v d → v.length = d.length
  | _, _, .nil => rfl
  | _, _, .cons _ q => by rw [List.length_cons, List.length_cons, q.length]
theorem DpRp.length : ∀ {v : List (Key × V)} {d : List (PyData × PyData)}, DpRp H v d → v.length = d.length
  | _, _, .nil => rfl
  | _, _, .cons _ q => by rw [List.length_cons, List.length_cons, q.length]
theorem DpRs.snoc : ∀ {vs : List V} {ds : List PyData} {v : V} {d : PyData}, DpRs H vs ds → DpR H v d → DpRs H (vs ++ [v]) (ds ++ [d])
  | _, _, _, _, .nil, h => .cons h .nil
  | _, _, _, _, .cons a q, h => .cons a (DpRs.snoc q h)
theorem DpRs.app : ∀ {vs ws : List V} {ds es : List PyData}, DpRs H vs ds → DpRs H ws es → DpRs H (vs ++ ws) (ds ++ es)
  | _, _, _, _, .nil, h => h
  | _, _, _, _, .cons a q, h => .cons a (DpRs.app q h)
theorem DpRs.at_ : ∀ {vs : List V} {ds : List PyData} {i : Nat} {v : V}, DpRs H vs ds → vs[i]? = some v → ∃ d, ds[i]? = some d ∧ DpR H v d
  | _, _, 0, _, .cons a q, e => by cases e; exact ⟨_, rfl, a⟩
  | _, _, i + 1, _, .cons a q, e => DpRs.at_ (i := i) q (by simpa using e)
theorem DpRs.at2 : ∀ {vs : List V} {ds : List PyData} {i : Nat} {d : PyData}, DpRs H vs ds → ds[i]? = some d → ∃ v, vs[i]? = some v ∧ DpR H v d
  | _, _, 0, _, .cons a q, e => by cases e; exact ⟨_, rfl, a⟩
  | _, _, i + 1, _, .cons a q, e => DpRs.at2 (i := i) q (by simpa using e)
theorem DpRs.take : ∀ {vs : List V} {ds : List PyData} (n : Nat), DpRs H vs ds → DpRs H (vs.take n) (ds.take n)
  | _, _, 0, _ => .nil
  | _, _, _ + 1, .nil => .nil
  | _, _, n + 1, .cons a q => .cons a (DpRs.take n q)
theorem DpRs.drop : ∀ {vs : List V} {ds : List PyData} (n : Nat), DpRs H vs ds → DpRs H (vs.drop n) (ds.drop n)
  | _, _, 0, h => h
  | _, _, _ + 1, .nil => .nil
  | _, _, n + 1, .cons a q => DpRs.drop n q
theorem DpRp.snoc : ∀ {vs : List (Key × V)} {ds : List (PyData × PyData)} {k : Key} {v : V} {d : PyData}, DpRp H vs ds → DpR H v d → DpRp H (vs ++ [(k, v)]) (ds ++ [(keyD k, d)])
  | _, _, _, _, _, .nil, h => .cons h .nil
  | _, _, _, _, _, .cons a q, h => .cons a (DpRp.snoc q h)
theorem DpRp.keys : ∀ {vs : List (Key × V)} {ds : List (PyData × PyData)}, DpRp H vs ds → ds.map (·.1) = vs.map fun p => keyD p.1
  | _, _, .nil => rfl
  | _, _, .cons a q => by rw [List.map_cons, List.map_cons, q.keys]
theorem DpRp.at_ : ∀ {vs : List (Key × V)} {ds : List (PyData × PyData)} {i : Nat} {p : Key × V}, DpRp H vs ds → vs[i]? = some p → ∃ d, ds[i]? = some (keyD p.1, d) ∧ DpR H p.2 d
  | _, _, 0, _, .cons a q, e => by cases e; exact ⟨_, rfl, a⟩
  | _, _, i + 1, _, .cons a q, e => DpRp.at_ (i := i) q (by simpa using e)
end
section
variable {P : Program} {w : World} {H : Hp} {h : Heap}
mutual
theorem DpR.reads (hok : HOk P w H h) (hm : H sysModules = none) : ∀ {v : V} {d : PyData} {u : Value}, DpR H v d → RelV v u → ∃ as, Reads h u d as ∧ sysModules ∉ as
  | _, _, _, .non, r => by
    cases r
    exact ⟨_, Reads.none, List.not_mem_nil⟩
  | _, _, _, .bl b, r => by
    cases r
    exact ⟨_, Reads.bool b, List.not_mem_nil⟩
  | _, _, _, .int i, r => by
    obtain ⟨t, rfl⟩ := r
    exact ⟨_, Reads.int i t, List.not_mem_nil⟩
  | _, _, _, .str z, r => by
    obtain ⟨t, rfl⟩ := r
    exact ⟨_, Reads.str z t, List.not_mem_nil⟩
  | _, _, _, .lst (a := a) ha q, r => by
    cases r
    obtain ⟨_, its, m, rv, e⟩ := ha.ok hok
    obtain ⟨as, hr, hn⟩ := DpRs.reads hok hm q rv
    refine ⟨_, Reads.list e rfl rfl hr, fun z => (List.mem_cons.mp z).elim (fun y => ?_) hn⟩
    rcases ha with ha | ⟨o, ha⟩ <;> (rw [← y, hm] at ha; cases ha)
  | _, _, _, .tup (a := a) ha q, r => by
    cases r
    obtain ⟨_, its, rv, o, e, c, m, hd⟩ := hok a _ ha
    obtain ⟨as, hr, hn⟩ := DpRs.reads hok hm q rv
    exact ⟨_, Reads.tuple e c hd hr, hn⟩
  | _, _, _, .dct (a := a) ha q, r => by
    cases r
    obtain ⟨_, hne, vs, kv, o, es, ep, e, hx, hd, _, prs, _⟩ := ha.ok hok
    obtain ⟨as, bs, h1, h2, n1, n2⟩ := DpRp.reads hok hm q kv prs
    refine ⟨_, Reads.dict e hx.1 hd h1 h2, fun z => ?_⟩
    rcases List.mem_cons.mp z with y | y
    · rw [← y] at hne
      simp at hne
    · exact (List.mem_append.mp y).elim n1 n2
theorem DpRs.reads (hok : HOk P w H h) (hm : H sysModules = none) : ∀ {v : List V} {d : List PyData} {u : List Value}, DpRs H v d → Vals v u → ∃ as, ReadsAll h u d as ∧ sysModules ∉ as
  | _, _, _, .nil, r => by
    cases r
    exact ⟨_, ReadsAll.nil, List.not_mem_nil⟩
  | _, _, _, .cons p q, r => by
    cases r with
    | cons r1 r2 =>
      obtain ⟨as, h1, n1⟩ := DpR.reads hok hm p r1
      obtain ⟨bs, h2, n2⟩ := DpRs.reads hok hm q r2
      exact ⟨_, ReadsAll.cons h1 h2, fun z => (List.mem_append.mp z).elim n1 n2⟩
theorem DpRp.reads (hok : HOk P w H h) (hm : H sysModules = none) : ∀ {v : List (Key × V)} {d : List (PyData × PyData)} {us : List (Key × Value)} {es : List DictEntry}, DpRp H v d → KV v us → Pairs (mixKind P w) es us →
    ∃ as bs, ReadsAll h (es.map (·.key)) (d.map (·.1)) as ∧ ReadsAll h (es.map (·.val)) (d.map (·.2)) bs ∧ sysModules ∉ as ∧ sysModules ∉ bs
  | _, _, _, _, .nil, kv, prs => by
    cases kv
    cases prs
    exact ⟨[], [], ReadsAll.nil, ReadsAll.nil, List.not_mem_nil, List.not_mem_nil⟩
  | _, _, _, _, .cons p q, kv, prs => by
    cases kv with
    | cons r1 r2 =>
      cases prs with
      | cons k1 v1 prs =>
        obtain ⟨e1, e2⟩ := r1
        obtain ⟨as, h1, n1⟩ := DpR.reads hok hm p e2
        obtain ⟨cs, bs, h2, h3, n2, n3⟩ := DpRp.reads hok hm q r2 prs
        dsimp only at e1 h1
        rw [← e1] at k1
        rw [← v1] at h1
        exact ⟨_, _, ReadsAll.cons (key_reads k1) h2, ReadsAll.cons h1 h3, fun z => (List.mem_append.mp z).elim List.not_mem_nil n2, fun z => (List.mem_append.mp z).elim n1 n3⟩
end
end
/-- repr of a value that reads as data -/
def rReprR (K : PySem.W.Frag) : List V → Hp → VK → Prop := fun xs H Q => ∃ (v : V) (d : PyData), xs = [v] ∧ DpR H v d ∧ d.showable = true ∧ d.depth ≤ 60 ∧ d.shown.length ≤ sizeLine ∧ Q (.str d.shown) H
theorem sysMod {X : Cx} {pins : List (Addr × Obj)} {σ : L2.St} {H : Hp} {s : Shared} (sm : ∃ o, X.K.lookup sysModules = some o) (I : Inv X pins σ H s) : H sysModules = none := by
  obtain ⟨o, ho⟩ := sm
  exact (I.bs _ _ (I.ok.mod.kin _ _ ho)).2
theorem call_reprR {X : Cx} (sm : ∃ o, X.K.lookup sysModules = some o) (hg : X.A.guards = some []) (hu : X.A.units + 64 < cLine) : CallR X (.builtin "repr") (rReprR X.K) := by
  intro pins s σ H xs us Q I r h
  obtain ⟨v, d, rfl, hd, hs, hz, hl, q⟩ := h
  obtain ⟨u, rfl, ru⟩ := vals1 r
  obtain ⟨as, rd, hn⟩ := DpR.reads I.hok (sysMod sm I) hd ru
  cases rd with
  | none =>
    simp only [PyData.shown] at q
    exact PySem.P.repr_of_none ⟨.str _, H, I.tok _, ⟨_, rfl⟩, q⟩
  | bool b =>
    simp only [PyData.shown] at q
    exact PySem.P.repr_of_bool ⟨.str _, H, I.tok _, ⟨_, rfl⟩, q⟩
  | int i t =>
    simp only [PyData.shown] at q
    exact PySem.P.repr_of_int (by simpa [PyData.showable] using hs) ⟨.str _, H, I.tok _, ⟨_, rfl⟩, q⟩
  | str x t =>
    simp only [PyData.shown] at q hl
    exact PySem.P.repr_of_str ⟨.str _, H, I.tok _, ⟨_, rfl⟩, q⟩ hl
  | list h1 h2 h3 h4 => exact repr_of_reads' (Reads.list h1 h2 h3 h4) hs (fun _ => hn) hg (by omega) (fun b o e => e) (fun h' u tk hk => ⟨.str _, H, I.kept (t' := tk) hk, ⟨_, rfl⟩, q⟩) hl
  | tuple h1 h2 h3 h4 => exact repr_of_reads' (Reads.tuple h1 h2 h3 h4) hs (fun _ => hn) hg (by omega) (fun b o e => e) (fun h' u tk hk => ⟨.str _, H, I.kept (t' := tk) hk, ⟨_, rfl⟩, q⟩) hl
  | dict h1 h2 h3 h4 h5 => exact repr_of_reads' (Reads.dict h1 h2 h3 h4 h5) hs (fun _ => hn) hg (by omega) (fun b o e => e) (fun h' u tk hk => ⟨.str _, H, I.kept (t' := tk) hk, ⟨_, rfl⟩, q⟩) hl
/-- == of two values that read as data -/
def rEqR (K : PySem.W.Frag) : R2 := fun x y H Q => ∃ d e, DpR H x d ∧ DpR H y e ∧ SeqAt.shaped d = true ∧ SeqAt.shaped e = true ∧ Q (.bl (PyData.eqv d e)) H
theorem op_eqR {X : Cx} (sm : ∃ o, X.K.lookup sysModules = some o) (hu : X.A.units + 64 < cLine) : OpR X (compareOp .Eq) (rEqR X.K) := by
  intro pins s σ H x y v u Q I rx ry h
  obtain ⟨d, e, hd, he, sd, se, q⟩ := h
  obtain ⟨as, r1, _⟩ := DpR.reads I.hok (sysMod sm I) hd rx
  obtain ⟨bs, r2, _⟩ := DpR.reads I.hok (sysMod sm I) he ry
  exact SeqAt.compareEq_shaped r1 r2 sd se hu ⟨.bl _, H, I, rfl, q⟩
end MyD

/-! Data: leaves, bounded data, the fixed form. -/
namespace MyD
open PySem PySem.Spec PyProof.Rows L2 MyL
/-! ### leaves -/
inductive Flat : PyData → Prop
  | none : Flat .none
  | bool (b : Bool) : Flat (.bool b)
  | int (i : Int) : Flat (.int i)
  | str (x : Str) : Flat (.str x)
structure Leaf (d : PyData) : Prop where
  flat : Flat d
  lay : d.canLay0 = true
  show_ : d.showable = true
  len : d.shown.length ≤ 64
theorem Leaf.depth {d : PyData} (h : Leaf d) : d.depth = 0 := by
  cases h.flat <;> simp only [PyData.depth]
/-! ### keys -/
def keyLt : PyData → PyData → Prop
  | .int a, .int b => a < b
  | .str a, .str b => a.cps.toList < b.cps.toList
  | _, _ => False
theorem keyLt_asymm {a b : PyData} (h : keyLt a b) (k : keyLt b a) : False := by
  cases a <;> cases b <;> first | exact h.elim | skip
  · exact absurd (Int.lt_trans (show _ < _ from h) k) (Int.lt_irrefl _)
  · exact List.lt_asymm (show _ < _ from h) k
def SortedK (ps : List (PyData × PyData)) : Prop := ps.Pairwise fun p q => keyLt p.1 q.1
theorem SortedK.uniq {ps qs : List (PyData × PyData)} (h : ps.Perm qs) (a : SortedK ps) (b : SortedK qs) : ps = qs :=
  h.eq_of_pairwise (fun x y _ _ h1 h2 => (keyLt_asymm h1 h2).elim) a b
/-! ### bounded data -/
inductive Okd : Nat → PyData → Prop
  | leaf {n : Nat} {d : PyData} : Leaf d → Okd n d
  | list {n : Nat} {ds : List PyData} : ds.length ≤ 3 → (∀ x ∈ ds, Okd n x) → Okd (n + 1) (.list ds)
  | tup {n : Nat} {ds : List PyData} : ds.length ≤ 3 → (∀ x ∈ ds, Okd n x) → Okd (n + 1) (.tuple ds)
  | dict {n : Nat} {ps : List (PyData × PyData)} : ps.length ≤ 3 → (ps.map (·.1)).Nodup → ((∃ ks : List Int, ps.map (·.1) = ks.map PyData.int) ∨ ∃ ks : List Str, ps.map (·.1) = ks.map PyData.str) → (∀ p ∈ ps, Leaf p.1) → (∀ p ∈ ps, Okd n p.2) → Okd (n + 1) (.dict ps)
def Ln (n : Nat) : Nat := 400 * 4 ^ n
theorem Ln_succ (n : Nat) : Ln (n + 1) = 4 * Ln n := by unfold Ln; rw [Nat.pow_succ]; omega
theorem Ln_ge (n : Nat) : 400 ≤ Ln n := by
  unfold Ln
  have : 1 ≤ 4 ^ n := Nat.one_le_pow _ _ (by decide)
  omega
theorem listText_len : ∀ (ts : List Str) (k : Nat) (acc : Str), (textFrom k acc ts).length ≤ acc.length + piled ts
  | [], _, _ => Nat.le_add_right _ _
  | t :: ts, k, acc => by
    have h := listText_len ts (k + 1) (acc ++ (if k > 0 then ", " else "" : String) ++ t)
    show (textFrom (k + 1) _ ts).length ≤ _
    rw [strLen_append, strLen_append] at h
    rw [piled_cons]
    have e : ((if k > 0 then ", " else "" : String) : Str).length ≤ 2 := by split <;> decide
    omega
theorem listText_le {ts : List Str} : (listText ts).length ≤ piled ts + 2 := by
  unfold listText
  rw [strLen_append]
  have h := listText_len ts 0 "["
  have e1 : (("[" : String) : Str).length = 1 := rfl
  have e2 : (("]" : String) : Str).length = 1 := rfl
  omega
theorem join_le {ts : List Str} : (Str.join ", " ts).length ≤ piled ts := by
  by_cases h : ts = []
  · subst h; exact Nat.le_refl 0
  · have := join_length_add ts h
    omega
theorem tupleText_le {ts : List Str} : (tupleText ts).length ≤ piled ts + 3 := by
  unfold tupleText
  rw [strLen_append, strLen_append]
  have h := join_le (ts := ts)
  have e1 : (("(" : String) : Str).length = 1 := rfl
  have e2 : ((if ts.length == 1 then ",)" else ")" : String) : Str).length ≤ 2 := by split <;> decide
  omega
theorem dictText_le {ts : List Str} : (dictText ts).length ≤ piled ts + 2 := by
  unfold dictText
  rw [strLen_append, strLen_append]
  have h := join_le (ts := ts)
  have e1 : (("{" : String) : Str).length = 1 := rfl
  have e2 : (("}" : String) : Str).length = 1 := rfl
  omega
theorem piled_le {ts : List Str} {m : Nat} (h : ∀ t ∈ ts, t.length ≤ m) : piled ts ≤ ts.length * (m + 2) := by
  induction ts with
  | nil => exact Nat.zero_le _
  | cons t ts ih =>
    rw [piled_cons, List.length_cons, Nat.succ_mul]
    have h1 := h t List.mem_cons_self
    have h2 := ih fun x hx => h x (List.mem_cons_of_mem _ hx)
    omega
theorem shownAll_map : ∀ ds : List PyData, PyData.shownAll ds = ds.map PyData.shown
  | [] => by simp only [PyData.shownAll, List.map_nil]
  | d :: ds => by simp only [PyData.shownAll, List.map_cons, shownAll_map ds]
theorem shownKv_map : ∀ ps : List (PyData × PyData), PyData.shownKv ps = ps.map fun p => (p.1.shown ++ (": " : String) ++ p.2.shown : Str)
  | [] => by simp only [PyData.shownKv, List.map_nil]
  | (a, b) :: ps => by simp only [PyData.shownKv, List.map_cons, shownKv_map ps]
theorem showableAll_of : ∀ {ds : List PyData}, (∀ d ∈ ds, d.showable = true) → PyData.showableAll ds = true
  | [], _ => by simp only [PyData.showableAll]
  | d :: ds, h => by simp only [PyData.showableAll, h d List.mem_cons_self, showableAll_of fun x hx => h x (List.mem_cons_of_mem _ hx), Bool.and_self]
theorem showableKv_of : ∀ {ps : List (PyData × PyData)}, (∀ p ∈ ps, p.1.showable = true ∧ p.2.showable = true) → PyData.showableKv ps = true
  | [], _ => by simp only [PyData.showableKv]
  | (a, b) :: ps, h => by
    obtain ⟨h1, h2⟩ := h (a, b) List.mem_cons_self
    simp only [PyData.showableKv, h1, h2, showableKv_of fun x hx => h x (List.mem_cons_of_mem _ hx), Bool.and_self]
theorem canLayAll_of : ∀ {ds : List PyData}, (∀ d ∈ ds, d.canLay0 = true) → PyData.canLayAll0 ds = true
  | [], _ => by simp only [PyData.canLayAll0]
  | d :: ds, h => by simp only [PyData.canLayAll0, h d List.mem_cons_self, canLayAll_of fun x hx => h x (List.mem_cons_of_mem _ hx), Bool.and_self]
theorem depthAll_le {n : Nat} : ∀ {ds : List PyData}, (∀ d ∈ ds, d.depth ≤ n) → PyData.depthAll ds ≤ n
  | [], _ => by simp only [PyData.depthAll]; exact Nat.zero_le _
  | d :: ds, h => by
    simp only [PyData.depthAll]
    exact Nat.max_le.mpr ⟨h d List.mem_cons_self, depthAll_le fun x hx => h x (List.mem_cons_of_mem _ hx)⟩
theorem depthKv_le {n : Nat} : ∀ {ps : List (PyData × PyData)}, (∀ p ∈ ps, p.1.depth ≤ n ∧ p.2.depth ≤ n) → PyData.depthKv ps ≤ n
  | [], _ => by simp only [PyData.depthKv]; exact Nat.zero_le _
  | (a, b) :: ps, h => by
    obtain ⟨h1, h2⟩ := h (a, b) List.mem_cons_self
    simp only [PyData.depthKv]
    exact Nat.max_le.mpr ⟨Nat.max_le.mpr ⟨h1, h2⟩, depthKv_le fun x hx => h x (List.mem_cons_of_mem _ hx)⟩
/-- what a repr asks -/
structure Shw (n l : Nat) (x : PyData) : Prop where
  s : x.showable = true
  d : x.depth ≤ n
  l : x.shown.length ≤ l
theorem Okd.shw {n : Nat} {d : PyData} (h : Okd n d) : Shw n (Ln n) d := by
  induction h with
  | @leaf n d h => exact ⟨h.show_, by rw [h.depth]; exact Nat.zero_le _, Nat.le_trans h.len (Nat.le_trans (show 64 ≤ 400 by decide) (Ln_ge n))⟩
  | @list n ds hl _ ih =>
    refine ⟨by simp only [PyData.showable]; exact showableAll_of fun d hd => (ih d hd).s, by simp only [PyData.depth]; exact Nat.succ_le_succ (depthAll_le fun d hd => (ih d hd).d), ?_⟩
    simp only [PyData.shown]
    have h1 := listText_le (ts := PyData.shownAll ds)
    have h2 : piled (PyData.shownAll ds) ≤ (PyData.shownAll ds).length * (Ln n + 2) := piled_le fun t ht => by
      rw [shownAll_map] at ht
      obtain ⟨d, hd, rfl⟩ := List.mem_map.mp ht
      exact (ih d hd).l
    rw [shownAll_map, List.length_map] at h2
    have h3 := Nat.mul_le_mul_right (Ln n + 2) hl
    have h4 := Ln_succ n
    have h5 := Ln_ge n
    rw [shownAll_map] at h1 ⊢
    omega
  | @tup n ds hl _ ih =>
    refine ⟨by simp only [PyData.showable]; exact showableAll_of fun d hd => (ih d hd).s, by simp only [PyData.depth]; exact Nat.succ_le_succ (depthAll_le fun d hd => (ih d hd).d), ?_⟩
    simp only [PyData.shown]
    have h1 := tupleText_le (ts := PyData.shownAll ds)
    have h2 : piled (PyData.shownAll ds) ≤ (PyData.shownAll ds).length * (Ln n + 2) := piled_le fun t ht => by
      rw [shownAll_map] at ht
      obtain ⟨d, hd, rfl⟩ := List.mem_map.mp ht
      exact (ih d hd).l
    rw [shownAll_map, List.length_map] at h2
    have h3 := Nat.mul_le_mul_right (Ln n + 2) hl
    have h4 := Ln_succ n
    have h5 := Ln_ge n
    rw [shownAll_map] at h1 ⊢
    omega
  | @dict n ps hl _ _ hk _ ih =>
    refine ⟨by simp only [PyData.showable]; exact showableKv_of fun p hp => ⟨(hk p hp).show_, (ih p hp).s⟩, by simp only [PyData.depth]; exact Nat.succ_le_succ (depthKv_le fun p hp => ⟨by rw [(hk p hp).depth]; exact Nat.zero_le _, (ih p hp).d⟩), ?_⟩
    simp only [PyData.shown]
    have h1 := dictText_le (ts := PyData.shownKv ps)
    have h2 : piled (PyData.shownKv ps) ≤ (PyData.shownKv ps).length * (Ln n + 66 + 2) := piled_le fun t ht => by
      rw [shownKv_map] at ht
      obtain ⟨p, hp, rfl⟩ := List.mem_map.mp ht
      rw [strLen_append, strLen_append]
      have a := (hk p hp).len
      have b := (ih p hp).l
      have e2 : ((": " : String) : Str).length = 2 := rfl
      omega
    rw [shownKv_map, List.length_map] at h2
    have h3 := Nat.mul_le_mul_right (Ln n + 66 + 2) hl
    have h4 := Ln_succ n
    have h5 := Ln_ge n
    rw [shownKv_map] at h1 ⊢
    omega
/-! ### the fixed form -/
mutual
inductive Fx : PyData → PyData → Prop
  | flat {d : PyData} : Flat d → Fx d d
  | list {ds es : List PyData} : FxAll ds es → Fx (.list ds) (.tuple es)
  | tup {ds es : List PyData} : FxAll ds es → Fx (.tuple ds) (.tuple es)
  | dict {ps qs : List (PyData × PyData)} {es : List PyData} : ps.Perm qs → SortedK qs → FxP qs es → Fx (.dict ps) (.tuple es)
inductive FxAll : List PyData → List PyData → Prop
  | nil : FxAll [] []
  | cons {d e : PyData} {ds es : List PyData} : Fx d e → FxAll ds es → FxAll (d :: ds) (e :: es)
inductive FxP : List (PyData × PyData) → List PyData → Prop
  | nil : FxP [] []
  | cons {k v e : PyData} {ps : List (PyData × PyData)} {es : List PyData} : Fx v e → FxP ps es → FxP ((k, v) :: ps) (.tuple [k, e] :: es)
end
mutual
theorem Fx.det : ∀ {d e e' : PyData}, Fx d e → Fx d e' → e = e'
  | _, _, _, .flat h, k => by
    cases k with
    | flat _ => rfl
    | list _ => cases h
    | tup _ => cases h
    | dict _ _ _ => cases h
  | _, _, _, .list h, k => by
    cases k with
    | flat h => cases h
    | list k => rw [FxAll.det h k]
  | _, _, _, .tup h, k => by
    cases k with
    | flat h => cases h
    | tup k => rw [FxAll.det h k]
  | _, _, _, .dict p s h, k => by
    cases k with
    | flat h => cases h
    | dict p' s' k =>
      have e := SortedK.uniq (p.symm.trans p') s s'
      subst e
      rw [FxP.det h k]
theorem FxAll.det : ∀ {d e e' : List PyData}, FxAll d e → FxAll d e' → e = e'
  | _, _, _, .nil, k => by cases k; rfl
  | _, _, _, .cons h q, k => by
    cases k with
    | cons h' q' => rw [Fx.det h h', FxAll.det q q']
theorem FxP.det : ∀ {d : List (PyData × PyData)} {e e' : List PyData}, FxP d e → FxP d e' → e = e'
  | _, _, _, .nil, k => by cases k; rfl
  | _, _, _, .cons h q, k => by
    cases k with
    | cons h' q' => rw [Fx.det h h', FxP.det q q']
end
theorem FxAll.length : ∀ {d e : List PyData}, FxAll d e → d.length = e.length
  | _, _, .nil => rfl
  | _, _, .cons _ q => by rw [List.length_cons, List.length_cons, q.length]
theorem FxAll.snoc : ∀ {ds es : List PyData} {d e : PyData}, FxAll ds es → Fx d e → FxAll (ds ++ [d]) (es ++ [e])
  | _, _, _, _, .nil, h => .cons h .nil
  | _, _, _, _, .cons a q, h => .cons a (FxAll.snoc q h)
theorem FxP.snoc : ∀ {ps : List (PyData × PyData)} {es : List PyData} {k v e : PyData}, FxP ps es → Fx v e → FxP (ps ++ [(k, v)]) (es ++ [.tuple [k, e]])
  | _, _, _, _, _, .nil, h => .cons h .nil
  | _, _, _, _, _, .cons a q, h => .cons a (FxP.snoc q h)
/-! tuples and leaves alone -/
mutual
inductive Tup : PyData → Prop
  | flat {d : PyData} : Flat d → Tup d
  | tup {ds : List PyData} : TupAll ds → Tup (.tuple ds)
inductive TupAll : List PyData → Prop
  | nil : TupAll []
  | cons {d : PyData} {ds : List PyData} : Tup d → TupAll ds → TupAll (d :: ds)
end
mutual
theorem Fx.tup' : ∀ {d e : PyData}, Fx d e → (∀ n, Okd n d → True) → (∀ k v : PyData, True) → (∃ n, Okd n d) → Tup e
  | _, _, .flat h, _, _, _ => .flat h
  | _, _, .list h, a, b, ⟨n, o⟩ => by
    cases o with
    | leaf l => cases l.flat
    | list _ h' => exact .tup (FxAll.tup' h fun d hd => ⟨_, h' d hd⟩)
  | _, _, .tup h, a, b, ⟨n, o⟩ => by
    cases o with
    | leaf l => cases l.flat
    | tup _ h' => exact .tup (FxAll.tup' h fun d hd => ⟨_, h' d hd⟩)
  | _, _, .dict p s h, a, b, ⟨n, o⟩ => by
    cases o with
    | leaf l => cases l.flat
    | dict _ _ _ hk h' => exact .tup (FxP.tup' h (fun q hq => (hk q (p.symm.subset hq)).flat) fun q hq => ⟨_, h' q (p.symm.subset hq)⟩)
theorem FxAll.tup' : ∀ {d e : List PyData}, FxAll d e → (∀ x ∈ d, ∃ n, Okd n x) → TupAll e
  | _, _, .nil, _ => .nil
  | _, _, .cons h q, o => .cons (Fx.tup' h (fun _ _ => trivial) (fun _ _ => trivial) (o _ List.mem_cons_self)) (FxAll.tup' q fun x hx => o x (List.mem_cons_of_mem _ hx))
theorem FxP.tup' : ∀ {d : List (PyData × PyData)} {e : List PyData}, FxP d e → (∀ x ∈ d, Flat x.1) → (∀ x ∈ d, ∃ n, Okd n x.2) → TupAll e
  | _, _, .nil, _, _ => .nil
  | _, _, .cons h q, f, o => .cons (.tup (.cons (.flat (f _ List.mem_cons_self)) (.cons (Fx.tup' h (fun _ _ => trivial) (fun _ _ => trivial) (o _ List.mem_cons_self)) .nil))) (FxP.tup' q (fun x hx => f x (List.mem_cons_of_mem _ hx)) fun x hx => o x (List.mem_cons_of_mem _ hx))
end
theorem Fx.tupO {d e : PyData} {n : Nat} (h : Fx d e) (o : Okd n d) : Tup e := h.tup' (fun _ _ => trivial) (fun _ _ => trivial) ⟨n, o⟩
theorem FxAll.tupA {d e : List PyData} {n : Nat} (h : FxAll d e) (o : ∀ x ∈ d, Okd n x) : TupAll e := h.tup' fun x hx => ⟨n, o x hx⟩
/-! the fixed form of a fixed form -/
mutual
theorem Tup.fx : ∀ {d : PyData}, Tup d → Fx d d
  | _, .flat h => .flat h
  | _, .tup h => .tup (TupAll.fx h)
theorem TupAll.fx : ∀ {d : List PyData}, TupAll d → FxAll d d
  | _, .nil => .nil
  | _, .cons h q => .cons (Tup.fx h) (TupAll.fx q)
end
/-! equal to itself -/
mutual
theorem Tup.eqv : ∀ {d : PyData}, Tup d → PyData.eqv d d = true
  | _, .flat .none => by simp only [PyData.eqv]
  | _, .flat (.bool b) => by simp only [PyData.eqv, beq_self_eq_true]
  | _, .flat (.int b) => by simp only [PyData.eqv, beq_self_eq_true]
  | _, .flat (.str b) => by simp only [PyData.eqv, beq_self_eq_true]
  | _, .tup h => by
    simp only [PyData.eqv]
    exact TupAll.eqv h
theorem TupAll.eqv : ∀ {d : List PyData}, TupAll d → PyData.eqvAll d d = true
  | _, .nil => by simp only [PyData.eqvAll]
  | _, .cons h q => by simp only [PyData.eqvAll, Tup.eqv h, TupAll.eqv q, Bool.and_self]
end
/-! ### what a fixed form reads as hangs on tuples alone -/
section
variable {H H' : Hp}
mutual
theorem DpR.tups (S : ∀ a xs, H a = some (.tup xs) → H' a = some (.tup xs)) : ∀ {d : PyData} {v : V}, Tup d → DpR H v d → DpR H' v d
  | _, _, .flat .none, .non => .non
  | _, _, .flat (.bool b), .bl _ => .bl b
  | _, _, .flat (.int b), .int _ => .int b
  | _, _, .flat (.str b), .str _ => .str b
  | _, _, .tup t, .tup h q => .tup (S _ _ h) (DpRs.tups S t q)
theorem DpRs.tups (S : ∀ a xs, H a = some (.tup xs) → H' a = some (.tup xs)) : ∀ {d : List PyData} {v : List V}, TupAll d → DpRs H v d → DpRs H' v d
  | _, _, .nil, .nil => .nil
  | _, _, .cons t ts, .cons h q => .cons (DpR.tups S t h) (DpRs.tups S ts q)
end
end
/-! ### the fixed form's size -/
structure Shf (n l : Nat) (x : PyData) : Prop extends Shw n l x where
  lay : x.canLay0 = true
theorem Shf.mono {n m l k : Nat} {d : PyData} (h : Shf n l d) (a : n ≤ m) (b : l ≤ k) : Shf m k d := ⟨⟨h.s, Nat.le_trans h.d a, Nat.le_trans h.l b⟩, h.lay⟩
theorem Shf.tuple {n l m : Nat} {ds : List PyData} (hl : ds.length ≤ m) (h : ∀ d ∈ ds, Shf n l d) : Shf (n + 1) (m * (l + 2) + 3) (.tuple ds) := by
  refine ⟨⟨by simp only [PyData.showable]; exact showableAll_of fun d hd => (h d hd).s, by simp only [PyData.depth]; exact Nat.succ_le_succ (depthAll_le fun d hd => (h d hd).d), ?_⟩, by simp only [PyData.canLay0]; exact canLayAll_of fun d hd => (h d hd).lay⟩
  simp only [PyData.shown]
  have h1 := tupleText_le (ts := PyData.shownAll ds)
  have h2 : piled (PyData.shownAll ds) ≤ (PyData.shownAll ds).length * (l + 2) := piled_le fun t ht => by
    rw [shownAll_map] at ht
    obtain ⟨d, hd, rfl⟩ := List.mem_map.mp ht
    exact (h d hd).l
  rw [shownAll_map, List.length_map] at h2
  have h3 := Nat.mul_le_mul_right (l + 2) hl
  rw [shownAll_map] at h1 ⊢
  omega
theorem Shw.list {n l m : Nat} {ds : List PyData} (hl : ds.length ≤ m) (h : ∀ d ∈ ds, Shw n l d) : Shw (n + 1) (m * (l + 2) + 2) (.list ds) := by
  refine ⟨by simp only [PyData.showable]; exact showableAll_of fun d hd => (h d hd).s, by simp only [PyData.depth]; exact Nat.succ_le_succ (depthAll_le fun d hd => (h d hd).d), ?_⟩
  simp only [PyData.shown]
  have h1 := listText_le (ts := PyData.shownAll ds)
  have h2 : piled (PyData.shownAll ds) ≤ (PyData.shownAll ds).length * (l + 2) := piled_le fun t ht => by
    rw [shownAll_map] at ht
    obtain ⟨d, hd, rfl⟩ := List.mem_map.mp ht
    exact (h d hd).l
  rw [shownAll_map, List.length_map] at h2
  have h3 := Nat.mul_le_mul_right (l + 2) hl
  rw [shownAll_map] at h1 ⊢
  omega
theorem Leaf.shf {n : Nat} {d : PyData} (h : Leaf d) : Shf n 64 d := ⟨⟨h.show_, by rw [h.depth]; exact Nat.zero_le _, h.len⟩, h.lay⟩
mutual
theorem Fx.shf : ∀ {d e : PyData} {n : Nat}, Fx d e → Okd n d → Shf (2 * n) (Ln n) e
  | _, _, n, .flat h, o => by
    cases o with
    | leaf l => exact l.shf.mono (Nat.le_refl _) (Nat.le_trans (show 64 ≤ 400 by decide) (Ln_ge n))
    | list _ _ => cases h
    | tup _ _ => cases h
    | dict _ _ _ _ _ => cases h
  | _, _, n, .list h, o => by
    cases o with
    | leaf l => cases l.flat
    | @list n _ hl h' =>
      refine (Shf.tuple (m := 3) (by rw [← h.length]; exact hl) (FxAll.shf h h')).mono (by omega) ?_
      have h4 := Ln_succ n
      have h5 := Ln_ge n
      omega
  | _, _, n, .tup h, o => by
    cases o with
    | leaf l => cases l.flat
    | @tup n _ hl h' =>
      refine (Shf.tuple (m := 3) (by rw [← h.length]; exact hl) (FxAll.shf h h')).mono (by omega) ?_
      have h4 := Ln_succ n
      have h5 := Ln_ge n
      omega
  | _, _, n, .dict (ps := ps) (qs := qs) p s h, o => by
    cases o with
    | leaf l => cases l.flat
    | @dict n _ hl _ _ hk h' =>
      have q := FxP.shf h (fun x hx => hk x (p.symm.subset hx)) fun x hx => h' x (p.symm.subset hx)
      refine (Shf.tuple (m := 3) (by rw [← q.1, ← p.length_eq]; exact hl) q.2).mono (by omega) ?_
      have h4 := Ln_succ n
      have h5 := Ln_ge n
      omega
theorem FxAll.shf : ∀ {d e : List PyData} {n : Nat}, FxAll d e → (∀ x ∈ d, Okd n x) → ∀ y ∈ e, Shf (2 * n) (Ln n) y
  | _, _, _, .nil, _, y, hy => absurd hy List.not_mem_nil
  | _, _, _, .cons h q, o, y, hy => by
    rcases List.mem_cons.mp hy with hy | hy
    · rw [hy]
      exact Fx.shf h (o _ List.mem_cons_self)
    · exact FxAll.shf q (fun x hx => o x (List.mem_cons_of_mem _ hx)) y hy
theorem FxP.shf : ∀ {d : List (PyData × PyData)} {e : List PyData} {n : Nat}, FxP d e → (∀ x ∈ d, Leaf x.1) → (∀ x ∈ d, Okd n x.2) → d.length = e.length ∧ ∀ y ∈ e, Shf (2 * n + 1) (Ln n + 71) y
  | _, _, _, .nil, _, _ => ⟨rfl, fun y hy => absurd hy List.not_mem_nil⟩
  | _, _, n, .cons (k := k) (e := e) h q, f, o => by
    obtain ⟨q1, q2⟩ := FxP.shf q (fun x hx => f x (List.mem_cons_of_mem _ hx)) fun x hx => o x (List.mem_cons_of_mem _ hx)
    refine ⟨by rw [List.length_cons, List.length_cons, q1], fun y hy => ?_⟩
    rcases List.mem_cons.mp hy with hy | hy
    · rw [hy]
      have a := Leaf.shf (n := 2 * n) (f _ List.mem_cons_self)
      have b := Fx.shf h (o _ List.mem_cons_self)
      refine ⟨⟨by simp only [PyData.showable, PyData.showableAll, a.s, b.s, Bool.and_self], by simp only [PyData.depth, PyData.depthAll]; have a1 : k.depth ≤ 2 * n := a.d; have b1 := b.d; omega, ?_⟩, by simp only [PyData.canLay0, PyData.canLayAll0, a.lay, b.lay, Bool.and_self]⟩
      simp only [PyData.shown]
      have h1 := tupleText_le (ts := PyData.shownAll [k, e])
      have e1 : piled (PyData.shownAll [k, e]) = (k.shown.length + 2) + ((e.shown.length + 2) + 0) := by
        rw [shownAll_map]
        show piled [k.shown, e.shown] = _
        rw [piled_cons, piled_cons, piled_nil]
      have a2 : k.shown.length ≤ 64 := a.l
      have b2 := b.l
      omega
    · exact q2 y hy
end
theorem Shf.shaped {n l : Nat} {d : PyData} (h : Shf n l d) (hn : n ≤ 64) : SeqAt.shaped d = true := by
  unfold SeqAt.shaped
  rw [h.lay, decide_eq_true (Nat.le_trans h.d hn)] <;> rfl

/-! ### rules -/
/-- one of two (the stepper does not choose) -/
inductive Two (a b : Prop) : Prop
  | l (h : a) : Two a b
  | r (h : b) : Two a b
theorem pi_or {X : Cx} {tg e : Expr} {w1 w2 : TI} (h1 : PI X tg e w1) (h2 : PI X tg e w2) : PI X tg e (fun σ H R => Two (w1 σ H R) (w2 σ H R)) :=
  ⟨fun pins s σ H R I h => match h with
    | .l h => h1.run pins s σ H R I h
    | .r h => h2.run pins s σ H R I h⟩
/-- sorted of a list of ints or of texts -/
theorem call_sortedK {X : Cx} : CallR X (.builtin "sorted") (fun xs H Q => Two (rSorted X.K xs H Q) (rSortedS X.K xs H Q)) := fun pins s σ H xs us Q I r h => match h with
  | .l h => cr_sorted pins s σ H xs us Q I r h
  | .r h => cr_sortedS pins s σ H xs us Q I r h
theorem kitAny_lt {K : PySem.W.Frag} {N : String} {a b : Bool} (h1 : PySem.W.kitOne K (.type N) (.type "list") = some a) (h2 : PySem.W.kitOne K (.type N) (.type "tuple") = some b) : PySem.W.kitAny K (.type N) [.type "list", .type "tuple"] = some (a || b) := by
  unfold PySem.W.kitAny
  rw [h1]
  cases a with
  | true => rfl
  | false =>
    dsimp only
    unfold PySem.W.kitAny
    rw [h2]
    cases b <;> rfl
/-- a leaf's value, its kind -/
theorem DpR.flatTy {K : PySem.W.Frag} {H : Hp} {v : V} {d : PyData} (h : DpR H v d) (f : Flat d) : ∃ N, (∀ H' : Hp, TyX K H' v (.type N)) ∧ PySem.W.kitOne K (.type N) (.type "list") = some false ∧ PySem.W.kitOne K (.type N) (.type "tuple") = some false ∧ PySem.W.kitOne K (.type N) (.type "dict") = some false := by
  cases f with
  | none => cases h; exact ⟨_, fun _ => tyx_non, kit_NoneType_list, kit_NoneType_tuple, kit_NoneType_dict⟩
  | bool b => cases h; exact ⟨_, fun _ => tyx_bl, kit_bool_list, kit_bool_tuple, kit_bool_dict⟩
  | int b => cases h; exact ⟨_, fun _ => tyx_int, kit_int_list, kit_int_tuple, kit_int_dict⟩
  | str b => cases h; exact ⟨_, fun _ => tyx_str, kit_str_list, kit_str_tuple, kit_str_dict⟩
theorem tyx_lstR {K : PySem.W.Frag} {H : Hp} {a : Addr} {xs : List V} (h : Rd H a (.lst xs)) : TyX K H (.ref a) (.type "list") := h.elim (fun h => tyx_lst h) fun ⟨o, h⟩ => .base (.frz h)
theorem tyx_dctR {K : PySem.W.Frag} {H : Hp} {a : Addr} {xs : List (Key × V)} (h : Rd H a (.dK xs)) : TyX K H (.ref a) (.type "dict") := h.elim (fun h => tyx_dK h) fun ⟨o, h⟩ => .fDict h
end MyD

/-! Dicts of data: their keys sorted. -/
namespace MyD
open PySem PySem.Spec PyProof.Rows L2 MyL
theorem perm_lift {α β : Type} {f : α → β} {l l' : List β} (h : l.Perm l') : ∀ zs : List α, zs.map f = l → ∃ zs' : List α, zs.Perm zs' ∧ zs'.map f = l' := by
  induction h with
  | nil =>
    intro zs e
    exact ⟨zs, .refl _, e⟩
  | cons x h ih =>
    intro zs e
    cases zs with
    | nil => cases e
    | cons z zs =>
      rw [List.map_cons] at e
      injection e with e1 e2
      obtain ⟨ws, p, q⟩ := ih zs e2
      exact ⟨z :: ws, p.cons z, by rw [List.map_cons, e1, q]⟩
  | swap x y l =>
    intro zs e
    match zs, e with
    | z1 :: z2 :: zs, e =>
      rw [List.map_cons, List.map_cons] at e
      injection e with e1 e2
      injection e2 with e2 e3
      exact ⟨z2 :: z1 :: zs, .swap _ _ _, by rw [List.map_cons, List.map_cons, e1, e2, e3]⟩
  | trans h1 h2 ih1 ih2 =>
    intro zs e
    obtain ⟨ws, p, q⟩ := ih1 zs e
    obtain ⟨us, p', q'⟩ := ih2 ws q
    exact ⟨us, p.trans p', q'⟩
theorem valV_mem : ∀ {kvs : List (Key × V)} {k : Key} {v : V}, (kvs.map (·.1)).Nodup → (k, v) ∈ kvs → valV kvs k = some v
  | [], _, _, _, h => absurd h List.not_mem_nil
  | (k', v') :: kvs, k, v, hn, h => by
    rw [List.map_cons] at hn
    obtain ⟨h1, h2⟩ := List.nodup_cons.mp hn
    unfold valV
    rw [List.find?_cons]
    rcases List.mem_cons.mp h with e | h
    · injection e with e1 e2
      subst e1 e2
      rw [decide_eq_true rfl] <;> rfl
    · have ne : k' ≠ k := fun e => h1 (by rw [e]; exact List.mem_map.mpr ⟨(k, v), h, rfl⟩)
      rw [decide_eq_false ne]
      exact valV_mem h2 h
/-- a dict's entries with their data -/
abbrev Ent := (Key × V) × (PyData × PyData)
theorem DpRp.zip_mem {H : Hp} : ∀ {kvs : List (Key × V)} {ps : List (PyData × PyData)} {t : Ent}, DpRp H kvs ps → t ∈ kvs.zip ps → t.2.1 = keyD t.1.1 ∧ DpR H t.1.2 t.2.2
  | _, _, _, .nil, h => absurd h List.not_mem_nil
  | _, _, _, .cons a q, h => by
    rw [List.zip_cons_cons] at h
    rcases List.mem_cons.mp h with e | h
    · rw [e]
      exact ⟨rfl, a⟩
    · exact DpRp.zip_mem q h
theorem zip_fst {α β : Type} : ∀ {xs : List α} {ys : List β}, xs.length = ys.length → (xs.zip ys).map (·.1) = xs
  | [], [], _ => rfl
  | x :: xs, y :: ys, h => by rw [List.zip_cons_cons, List.map_cons, zip_fst (Nat.succ.inj h)]
theorem zip_snd {α β : Type} : ∀ {xs : List α} {ys : List β}, xs.length = ys.length → (xs.zip ys).map (·.2) = ys
  | [], [], _ => rfl
  | x :: xs, y :: ys, h => by rw [List.zip_cons_cons, List.map_cons, zip_snd (Nat.succ.inj h)]
theorem keyD_inj : ∀ {a b : Key}, keyD a = keyD b → a = b
  | .inl i, .inl j, h => by injection h with h; rw [h]
  | .inr i, .inr j, h => by injection h with h; rw [h]
  | .inl i, .inr j, h => nomatch h
  | .inr i, .inl j, h => nomatch h
theorem keys_int {kvs : List (Key × V)} {ks : List Int} (h : (kvs.map fun p => keyD p.1) = ks.map PyData.int) : kvs.map (·.1) = ks.map Sum.inl := by
  induction kvs generalizing ks with
  | nil =>
    cases ks with
    | nil => rfl
    | cons => cases h
  | cons p kvs ih =>
    cases ks with
    | nil => cases h
    | cons k ks =>
      rw [List.map_cons, List.map_cons] at h
      injection h with h1 h2
      rw [List.map_cons, List.map_cons, ih h2]
      have : p.1 = Sum.inl k := keyD_inj h1
      rw [this]
theorem keys_str {kvs : List (Key × V)} {ks : List Str} (h : (kvs.map fun p => keyD p.1) = ks.map PyData.str) : kvs.map (·.1) = ks.map Sum.inr := by
  induction kvs generalizing ks with
  | nil =>
    cases ks with
    | nil => rfl
    | cons => cases h
  | cons p kvs ih =>
    cases ks with
    | nil => cases h
    | cons k ks =>
      rw [List.map_cons, List.map_cons] at h
      injection h with h1 h2
      rw [List.map_cons, List.map_cons, ih h2]
      have : p.1 = Sum.inr k := keyD_inj h1
      rw [this]
/-- the dict's entries in the order of the sorted keys -/
structure Ordd (H : Hp) (n : Nat) (kvs : List (Key × V)) (ps : List (PyData × PyData)) (zs : List Ent) : Prop where
  perm : ps.Perm (zs.map (·.2))
  srt : SortedK (zs.map (·.2))
  val : ∀ t ∈ zs, valV kvs t.1.1 = some t.1.2 ∧ t.2.1 = keyD t.1.1 ∧ DpR H t.1.2 t.2.2 ∧ Okd n t.2.2 ∧ Leaf t.2.1
theorem ordd_of {H : Hp} {n : Nat} {kvs : List (Key × V)} {ps : List (PyData × PyData)} (hd : DpRp H kvs ps) (hn : (ps.map (·.1)).Nodup) (hk : ∀ p ∈ ps, Leaf p.1) (ho : ∀ p ∈ ps, Okd n p.2) {l : List Key} (h : (kvs.map (·.1)).Perm l)
    (hs : (l.map keyD).Pairwise keyLt) : ∃ zs : List Ent, zs.map (·.1.1) = l ∧ Ordd H n kvs ps zs := by
  have hlen := hd.length
  have nd : (kvs.map (·.1)).Nodup := by
    have e := hd.keys
    rw [e] at hn
    have e2 : (kvs.map fun p => keyD p.1) = (kvs.map (·.1)).map keyD := by rw [List.map_map]; rfl
    rw [e2] at hn
    exact List.Pairwise.of_map (f := keyD) (fun a b (h : keyD a ≠ keyD b) e => h (by rw [e])) hn
  obtain ⟨zs, p, e⟩ := perm_lift (f := fun t : Ent => t.1.1) h (kvs.zip ps) (by
    have e1 : (kvs.zip ps).map (fun t : Ent => t.1.1) = ((kvs.zip ps).map (·.1)).map (·.1) := by rw [List.map_map]; rfl
    rw [e1, zip_fst hlen])
  refine ⟨zs, e, ⟨?_, ?_, fun t ht => ?_⟩⟩
  · have := p.map (fun t : Ent => t.2)
    rwa [zip_snd hlen] at this
  · have mem : ∀ t ∈ zs, t.2.1 = keyD t.1.1 := fun t ht => (hd.zip_mem (p.symm.subset ht)).1
    unfold SortedK
    rw [List.pairwise_map]
    have e2 : l.map keyD = zs.map fun t => keyD t.1.1 := by rw [← e, List.map_map]; rfl
    rw [e2, List.pairwise_map] at hs
    exact hs.imp_of_mem fun {a b} ha hb h => by rw [mem a ha, mem b hb]; exact h
  · have hz := p.symm.subset ht
    obtain ⟨h1, h2⟩ := hd.zip_mem hz
    obtain ⟨m1, m2⟩ := List.of_mem_zip (show (t.1, t.2) ∈ kvs.zip ps from hz)
    exact ⟨valV_mem nd m1, h1, h2, ho _ m2, hk _ m2⟩
theorem int_strict {ks : List Int} (h : ks.Pairwise (· ≤ ·)) (n : ks.Nodup) : ((ks.map Sum.inl : List Key).map keyD).Pairwise keyLt := by
  rw [List.pairwise_map, List.pairwise_map]
  exact (h.and n).imp fun {a b} ⟨h1, h2⟩ => show a < b from by omega
theorem str_lt_of {a b : Str} (h : ¬ b.cps.toList < a.cps.toList) (n : a ≠ b) : a.cps.toList < b.cps.toList := by
  have : b.cps.toList ≠ a.cps.toList := fun e => n (by
    cases a; cases b
    rw [Str.mk.injEq]
    exact Array.toList_inj.mp e.symm)
  rcases Std.lt_trichotomy (a := a.cps.toList) (b := b.cps.toList) with h1 | h1 | h1
  · exact h1
  · exact absurd h1.symm this
  · exact absurd h1 h
end MyD
namespace MyD
open PySem PySem.Spec PyProof.Rows L2 MyL
theorem risingS_all : ∀ {ys : List Str} {p : Str}, risingS p ys = true → (p :: ys).Nodup → (p :: ys).Pairwise fun a b => a.cps.toList < b.cps.toList
  | [], p, _, _ => List.pairwise_singleton _ _
  | x :: r, p, h, n => by
    unfold risingS at h
    obtain ⟨h1, h2⟩ := Bool.and_eq_true_iff.mp h
    obtain ⟨n1, n2⟩ := List.nodup_cons.mp n
    have ih := risingS_all h2 n2
    have lt : p.cps.toList < x.cps.toList := str_lt_of (fun z => by
      rw [ltCps_eq, decide_eq_true z] at h1
      cases h1) fun e => n1 (by rw [e]; exact List.mem_cons_self)
    refine List.pairwise_cons.mpr ⟨fun y hy => ?_, ih⟩
    rcases List.mem_cons.mp hy with e | hy
    · rw [e]; exact lt
    · exact List.lt_trans lt ((List.pairwise_cons.mp ih).1 y hy)
theorem str_strict {ys : List Str} (h : sortedS ys = true) (n : ys.Nodup) : ((ys.map Sum.inr : List Key).map keyD).Pairwise keyLt := by
  rw [List.pairwise_map, List.pairwise_map]
  cases ys with
  | nil => exact List.Pairwise.nil
  | cons x r => exact (risingS_all h n).imp fun {a b} h => h
theorem TupAll.app : ∀ {ds es : List PyData}, TupAll ds → TupAll es → TupAll (ds ++ es)
  | _, _, .nil, h => h
  | _, _, .cons a q, h => .cons a (TupAll.app q h)
theorem dpR_key {H : Hp} : ∀ k : Key, DpR H (kV k) (keyD k)
  | .inl i => .int i
  | .inr x => .str x
/-! ### keys compared -/
def ltK : Key → Key → Bool
  | .inl i, .inl j => decide (i < j)
  | .inr x, .inr y => decide (x.cps.toList < y.cps.toList)
  | _, _ => false
def Kin : Key → Key → Prop
  | .inl _, .inl _ => True
  | .inr _, .inr _ => True
  | _, _ => False
theorem ltK_iff : ∀ {a b : Key}, ltK a b = true ↔ keyLt (keyD a) (keyD b)
  | .inl i, .inl j => by unfold ltK keyD keyLt; exact decide_eq_true_iff
  | .inr i, .inr j => by unfold ltK keyD keyLt; exact decide_eq_true_iff
  | .inl i, .inr j => by unfold ltK keyD keyLt; simp
  | .inr i, .inl j => by unfold ltK keyD keyLt; simp
theorem ltK_or : ∀ {a b : Key}, Kin a b → a ≠ b → ltK a b = false → keyLt (keyD b) (keyD a)
  | .inl i, .inl j, _, n, h => by
    have h1 : ¬ i < j := of_decide_eq_false h
    have h2 : i ≠ j := fun e => n (by rw [e])
    show j < i
    omega
  | .inr i, .inr j, _, n, h => by
    have h1 : ¬ i.cps.toList < j.cps.toList := of_decide_eq_false h
    exact str_lt_of h1 fun e => n (by rw [e])
theorem keyLt_trans {a b c : Key} (h : keyLt (keyD a) (keyD b)) (k : keyLt (keyD b) (keyD c)) : keyLt (keyD a) (keyD c) := by
  cases a <;> cases b <;> cases c <;> first | exact h.elim | exact k.elim | skip
  · exact Int.lt_trans (show _ < _ from h) k
  · exact List.lt_trans (show _ < _ from h) k
def rLtK : R2 := fun x y H Q => ∃ a b : Key, x = kV a ∧ y = kV b ∧ Kin a b ∧ Q (.bl (ltK a b)) H
theorem op_ltK {X : Cx} : OpR X (compareOp .Lt) rLtK := by
  intro pins s σ H x y v u Q I rx ry h
  obtain ⟨a, b, rfl, rfl, k, q⟩ := h
  match a, b, k, q, rx, ry with
  | .inl i, .inl j, _, q, rx, ry => exact op_lt pins s σ H _ _ v u Q I rx ry ⟨i, j, rfl, rfl, q⟩
  | .inr i, .inr j, _, q, rx, ry => exact op_lt_str pins s σ H _ _ v u Q I rx ry ⟨i, j, rfl, rfl, q⟩
theorem ps_two {X : Cx} {st : Stmt} {t u : TS} (h1 : PS X st t) (h2 : PS X st u) : PS X st (fun D σ H => Two (t D σ H) (u D σ H)) :=
  ⟨fun pins s σ H D I h => match h with
    | .l h => h1.run pins s σ H D I h
    | .r h => h2.run pins s σ H D I h⟩
theorem cutV_take {xs : List V} {n : Nat} : cutV xs none (some (n : Int)) = xs.take n := by
  unfold cutV
  rw [HT.sIx_none, HT.sIx_nat, List.drop_zero, Nat.sub_zero]
  by_cases h : n ≤ xs.length
  · rw [Nat.min_eq_left h]
  · rw [Nat.min_eq_right (by omega), List.take_length, List.take_of_length_le (by omega)]
theorem cutV_drop {xs : List V} {n : Nat} (h : n ≤ xs.length) : cutV xs (some (n : Int)) none = xs.drop n := by
  unfold cutV
  rw [HT.sIx_none, HT.sIx_nat, Nat.min_eq_left h]
  exact List.take_of_length_le (by rw [List.length_drop]; exact Nat.le_refl _)
/-! ### a key put in its place -/
theorem FxP.take : ∀ {ps : List (PyData × PyData)} {es : List PyData} (n : Nat), FxP ps es → FxP (ps.take n) (es.take n)
  | _, _, 0, _ => .nil
  | _, _, _ + 1, .nil => .nil
  | _, _, n + 1, .cons a q => .cons a (FxP.take n q)
theorem FxP.drop : ∀ {ps : List (PyData × PyData)} {es : List PyData} (n : Nat), FxP ps es → FxP (ps.drop n) (es.drop n)
  | _, _, 0, h => h
  | _, _, _ + 1, .nil => .nil
  | _, _, n + 1, .cons a q => FxP.drop n q
theorem FxP.app : ∀ {ps qs : List (PyData × PyData)} {es fs : List PyData}, FxP ps es → FxP qs fs → FxP (ps ++ qs) (es ++ fs)
  | _, _, _, _, .nil, h => h
  | _, _, _, _, .cons a q, h => .cons a (FxP.app q h)
theorem FxP.length : ∀ {ps : List (PyData × PyData)} {es : List PyData}, FxP ps es → ps.length = es.length
  | _, _, .nil => rfl
  | _, _, .cons _ q => by rw [List.length_cons, List.length_cons, q.length]
theorem FxP.at_ : ∀ {ps : List (PyData × PyData)} {es : List PyData} {i : Nat} {p : PyData × PyData}, FxP ps es → ps[i]? = some p → ∃ e, es[i]? = some (.tuple [p.1, e])
  | _, _, 0, _, .cons a q, e => by cases e; exact ⟨_, rfl⟩
  | _, _, i + 1, _, .cons a q, e => FxP.at_ (i := i) q (by simpa using e)
/-- the entries by key: a key, its datum -/
abbrev KD := Key × PyData
def kdP (z : KD) : PyData × PyData := (keyD z.1, z.2)
theorem ins_sorted {zs : List KD} {z : KD} {n : Nat} (hs : SortedK (zs.map kdP)) (h1 : ∀ j y, j < n → zs[j]? = some y → keyLt (keyD y.1) (keyD z.1)) (h2 : ∀ y, zs[n]? = some y → keyLt (keyD z.1) (keyD y.1)) :
    SortedK ((zs.take n ++ [z] ++ zs.drop n).map kdP) := by
  unfold SortedK at *
  rw [List.pairwise_map] at *
  have ht : (zs.take n).Pairwise fun a b => keyLt (kdP a).1 (kdP b).1 := hs.sublist (List.take_sublist _ _)
  have hd : (zs.drop n).Pairwise fun a b => keyLt (kdP a).1 (kdP b).1 := hs.sublist (List.drop_sublist _ _)
  have hx : ∀ a ∈ zs.take n, ∀ b ∈ zs.drop n, keyLt (kdP a).1 (kdP b).1 := by
    have : (zs.take n ++ zs.drop n).Pairwise fun a b => keyLt (kdP a).1 (kdP b).1 := by rw [List.take_append_drop]; exact hs
    exact (List.pairwise_append.mp this).2.2
  have lo : ∀ a ∈ zs.take n, keyLt (kdP a).1 (kdP z).1 := fun a ha => by
    obtain ⟨j, hj⟩ := List.mem_iff_getElem?.mp ha
    have hl : j < n := by
      have := (List.getElem?_eq_some_iff.mp hj).1
      rw [List.length_take] at this
      omega
    rw [List.getElem?_take_of_lt hl] at hj
    exact h1 j a hl hj
  have hi : ∀ b ∈ zs.drop n, keyLt (kdP z).1 (kdP b).1 := fun b hb => by
    cases e : zs[n]? with
    | none =>
      have := List.getElem?_eq_none_iff.mp e
      rw [List.drop_of_length_le this] at hb
      exact absurd hb List.not_mem_nil
    | some y =>
      have h3 := h2 y e
      have hn := (List.getElem?_eq_some_iff.mp e)
      obtain ⟨hlt, hy⟩ := hn
      rw [List.drop_eq_getElem_cons hlt, hy] at hb hd
      rcases List.mem_cons.mp hb with e1 | hb
      · rw [e1]; exact h3
      · exact keyLt_trans h3 ((List.pairwise_cons.mp hd).1 b hb)
  rw [List.append_assoc, List.pairwise_append]
  refine ⟨ht, ?_, fun a ha b hb => ?_⟩
  · rw [List.singleton_append, List.pairwise_cons]
    exact ⟨hi, hd⟩
  · rcases List.mem_append.mp hb with hb | hb
    · rw [List.mem_singleton.mp hb]; exact lo a ha
    · exact hx a ha b hb
theorem ins_perm {α : Type} {xs zs : List α} {z : α} {n : Nat} (h : xs.Perm zs) : (xs ++ [z]).Perm (zs.take n ++ [z] ++ zs.drop n) := by
  have e : zs = zs.take n ++ zs.drop n := (List.take_append_drop n zs).symm
  have h1 : (xs ++ [z]).Perm (z :: xs) := List.perm_append_comm
  have h2 : (zs.take n ++ [z] ++ zs.drop n).Perm (z :: (zs.take n ++ zs.drop n)) := by
    rw [List.append_assoc, List.singleton_append]
    exact List.perm_middle
  rw [List.take_append_drop] at h2
  exact h1.trans ((h.cons z).trans h2.symm)
/-! ### a dict that is walked -/
theorem krK {H H' : Hp} {a : Addr} {kvs : List (Key × V)} {od : Obj} (ha : Rd H a (.dK kvs)) (k : Kp a H H') (h : H' a = some (.frz od (.dK kvs))) : Kr H H' := by
  refine ⟨fun b xs e => ?_, fun b xs e => ?_, fun b ks e => ?_⟩
  · by_cases hb : b = a
    · subst hb
      rcases ha with ha | ⟨o, ha⟩ <;> rcases e with e | ⟨o', e⟩ <;> (rw [ha] at e; cases e)
    · exact e.elim (fun e => .inl (k _ _ hb e)) fun ⟨o, e⟩ => .inr ⟨o, k _ _ hb e⟩
  · by_cases hb : b = a
    · subst hb
      rcases ha with ha | ⟨o, ha⟩ <;> (rw [ha] at e; cases e)
    · exact k _ _ hb e
  · by_cases hb : b = a
    · subst hb
      have : ks = kvs := by
        rcases ha with ha | ⟨o, ha⟩ <;> rcases e with e | ⟨o', e⟩ <;> rw [ha] at e <;> first | cases e; rfl | cases e
      rw [this]
      exact .inr ⟨_, h⟩
    · exact e.elim (fun e => .inl (k _ _ hb e)) fun ⟨o, e⟩ => .inr ⟨o, k _ _ hb e⟩
theorem kin_of {ps : List (PyData × PyData)} (h : (∃ ks : List Int, ps.map (·.1) = ks.map PyData.int) ∨ ∃ ks : List Str, ps.map (·.1) = ks.map PyData.str) {a b : Key} (ha : keyD a ∈ ps.map (·.1)) (hb : keyD b ∈ ps.map (·.1)) : Kin a b := by
  rcases h with ⟨ks, h⟩ | ⟨ks, h⟩
  · rw [h] at ha hb
    obtain ⟨i, _, hi⟩ := List.mem_map.mp ha
    obtain ⟨j, _, hj⟩ := List.mem_map.mp hb
    cases a <;> cases b <;> first | trivial | cases hi | cases hj
  · rw [h] at ha hb
    obtain ⟨i, _, hi⟩ := List.mem_map.mp ha
    obtain ⟨j, _, hj⟩ := List.mem_map.mp hb
    cases a <;> cases b <;> first | trivial | cases hi | cases hj
theorem ne_key {ps : List (PyData × PyData)} {i : Nat} {p q : PyData × PyData} (hn : (ps.map (·.1)).Nodup) (hp : p ∈ ps.take i) (hq : ps[i]? = some q) : p.1 ≠ q.1 := by
  obtain ⟨j, hj⟩ := List.mem_iff_getElem?.mp hp
  have hl : j < i := by
    have := (List.getElem?_eq_some_iff.mp hj).1
    rw [List.length_take] at this
    omega
  rw [List.getElem?_take_of_lt hl] at hj
  intro e
  have h1 : (ps.map (·.1))[j]? = some p.1 := by rw [List.getElem?_map, hj]; rfl
  have h2 : (ps.map (·.1))[i]? = some p.1 := by rw [List.getElem?_map, hq, e]; rfl
  obtain ⟨l1, e1⟩ := List.getElem?_eq_some_iff.mp h1
  obtain ⟨l2, e2⟩ := List.getElem?_eq_some_iff.mp h2
  have := (List.getElem_inj hn).mp (e1.trans e2.symm)
  omega
theorem dpR_keyV {H : Hp} : ∀ {k : Key} {v : V}, DpR H v (keyD k) → v = kV k
  | .inl i, _, .int _ => rfl
  | .inr x, _, .str _ => rfl
theorem TupAll.take : ∀ {ds : List PyData} (n : Nat), TupAll ds → TupAll (ds.take n)
  | _, 0, _ => .nil
  | _, _ + 1, .nil => .nil
  | _, n + 1, .cons a q => .cons a (TupAll.take n q)
theorem TupAll.drop : ∀ {ds : List PyData} (n : Nat), TupAll ds → TupAll (ds.drop n)
  | _, 0, h => h
  | _, _ + 1, .nil => .nil
  | _, n + 1, .cons a q => TupAll.drop n q
theorem DpRs.cutT {H : Hp} {ws : List V} {es : List PyData} {n : Nat} (h : DpRs H ws es) : DpRs H (cutV ws none (some (n : Int))) (es.take n) := by
  rw [cutV_take]
  exact h.take n
theorem DpRs.cutD {H : Hp} {ws : List V} {es : List PyData} {n : Nat} (hn : n ≤ ws.length) (h : DpRs H ws es) : DpRs H (cutV ws (some (n : Int)) none) (es.drop n) := by
  rw [cutV_drop hn]
  exact h.drop n
theorem Kr.put {H : Hp} {a C dx : Addr} {fs : List (Str × V)} {o : HO} (h : H a = some (.ins C dx fs)) : Kr H (upd H a o) := by
  have ne : ∀ b u, H b = some u → u ≠ .ins C dx fs → b ≠ a := fun b u e n z => n (Option.some.inj (e.symm.trans (by rw [z]; exact h)))
  refine ⟨fun b xs e => ?_, fun b xs e => ?_, fun b ks e => ?_⟩
  · exact e.elim (fun e => .inl (by rw [upd_ne (ne b _ e fun z => nomatch z)]; exact e)) fun ⟨o, e⟩ => .inr ⟨o, by rw [upd_ne (ne b _ e fun z => nomatch z)]; exact e⟩
  · rw [upd_ne (ne b _ e fun z => nomatch z)]; exact e
  · exact e.elim (fun e => .inl (by rw [upd_ne (ne b _ e fun z => nomatch z)]; exact e)) fun ⟨o, e⟩ => .inr ⟨o, by rw [upd_ne (ne b _ e fun z => nomatch z)]; exact e⟩
end MyD

namespace K56
open PySem PySem.Spec PyProof.Rows L2 MyL
def top (i : Nat) : Stmt := PySem.Challenge.pw_dimkeeper_k56_papers_of_every_class.main.body.getD i (.Pass ⟨0, 0, 0, 0⟩)
abbrev s_fixed : Stmt := top 1
theorem sc_fixed : FnScope ["value", "key", "part"] ["value"] (defScope s_fixed) := ⟨rfl, rfl, rfl, by decide +kernel, rfl, by decide +kernel, by decide +kernel⟩
abbrev s_l_font : Stmt := top 58
theorem sc_l_font : FnScope ["_law_script", "_law_cell"] ["_law_script"] (defScope s_l_font) := ⟨rfl, rfl, rfl, by decide +kernel, rfl, by decide +kernel, by decide +kernel⟩
abbrev s_l_drip : Stmt := top 59
theorem sc_l_drip : FnScope ["_law_font_here", "_law_many", "_law_rest", "_law_turn", "_law_cell", "_law_mixed"] ["_law_font_here", "_law_many"] (defScope s_l_drip) := ⟨rfl, rfl, rfl, by decide +kernel, rfl, by decide +kernel, by decide +kernel⟩
abbrev s_l_fill : Stmt := top 60
theorem sc_l_fill : FnScope ["_law_font_here", "_law_some"] ["_law_font_here", "_law_some"] (defScope s_l_fill) := ⟨rfl, rfl, rfl, by decide +kernel, rfl, by decide +kernel, by decide +kernel⟩
abbrev s_l_value : Stmt := top 61
theorem sc_l_value : FnScope ["_law_font_here", "_law_depth", "_law_way", "_law_plain", "_law_pairs", "_law_turn", "_law_due", "_law_pair", "_law_made", "_law_keys", "_law_at", "_law_key"] ["_law_font_here", "_law_depth"] (defScope s_l_value) := ⟨rfl, rfl, rfl, by decide +kernel, rfl, by decide +kernel, by decide +kernel⟩
abbrev s_l_ones : Stmt := top 62
theorem sc_l_ones : FnScope ["_law_a", "_law_rows", "_law_place", "_law_named", "_law_told", "_law_word"] ["_law_a"] (defScope s_l_ones) := ⟨rfl, rfl, rfl, by decide +kernel, rfl, by decide +kernel, by decide +kernel⟩
abbrev s_l_twos : Stmt := top 63
theorem sc_l_twos : FnScope ["_law_a", "_law_b", "_law_one", "_law_two", "_law_three", "_law_rows"] ["_law_a", "_law_b"] (defScope s_l_twos) := ⟨rfl, rfl, rfl, by decide +kernel, rfl, by decide +kernel, by decide +kernel⟩
abbrev s_l_threes : Stmt := top 64
theorem sc_l_threes : FnScope ["_law_a", "_law_b", "_law_c", "_law_one", "_law_two", "_law_three", "_law_rows"] ["_law_a", "_law_b", "_law_c"] (defScope s_l_threes) := ⟨rfl, rfl, rfl, by decide +kernel, rfl, by decide +kernel, by decide +kernel⟩
abbrev s_l_more : Stmt := top 65
theorem sc_l_more : FnScope ["_law_a", "_law_b", "_law_c", "_law_d", "_law_e", "_law_one", "_law_two", "_law_rows", "_law_told"] ["_law_a", "_law_b", "_law_c", "_law_d", "_law_e"] (defScope s_l_more) := ⟨rfl, rfl, rfl, by decide +kernel, rfl, by decide +kernel, by decide +kernel⟩
abbrev s_l_rows_right : Stmt := top 66
theorem sc_l_rows_right : FnScope ["_law_rows", "_law_due", "_law_denials", "_law_at", "_law_row", "_law_place", "_law_named", "_law_told", "_law_word", "_law_spot", "_law_other"] ["_law_rows", "_law_due"] (defScope s_l_rows_right) := ⟨rfl, rfl, rfl, by decide +kernel, rfl, by decide +kernel, by decide +kernel⟩
abbrev s_l_unlike_right : Stmt := top 67
theorem sc_l_unlike_right : FnScope ["_law_font_here", "_law_parts", "_law_spot", "_law_more_here", "_law_rows", "_law_others", "_law_at", "_law_row"] ["_law_font_here", "_law_parts"] (defScope s_l_unlike_right) := ⟨rfl, rfl, rfl, by decide +kernel, rfl, by decide +kernel, by decide +kernel⟩
abbrev s_law : Stmt := top 68
theorem sc_law : FnScope ["_law_script", "_law_font_here", "_law_pairs", "_law_turn", "_law_a", "_law_b", "_law_c", "_law_d", "_law_e", "_law_pair", "_law_due", "_law_more_here"] ["_law_script"] (defScope s_law) := ⟨rfl, rfl, rfl, by decide +kernel, rfl, by decide +kernel, by decide +kernel⟩
abbrev s_Paper_init : Stmt := inClass (top 2) 0
theorem sc_Paper_init : FnScope ["self", "word", "parts"] ["self", "word", "parts"] (defScope s_Paper_init) := ⟨rfl, rfl, rfl, by decide +kernel, rfl, by decide +kernel, by decide +kernel⟩
abbrev s_Paper_bool : Stmt := inClass (top 2) 1
theorem sc_Paper_bool : FnScope ["self"] ["self"] (defScope s_Paper_bool) := ⟨rfl, rfl, rfl, by decide +kernel, rfl, by decide +kernel, by decide +kernel⟩
abbrev s_Paper_eq : Stmt := inClass (top 2) 2
theorem sc_Paper_eq : FnScope ["self", "other"] ["self", "other"] (defScope s_Paper_eq) := ⟨rfl, rfl, rfl, by decide +kernel, rfl, by decide +kernel, by decide +kernel⟩
abbrev s_Denial_bool : Stmt := inClass (top 3) 0
theorem sc_Denial_bool : FnScope ["self"] ["self"] (defScope s_Denial_bool) := ⟨rfl, rfl, rfl, by decide +kernel, rfl, by decide +kernel, by decide +kernel⟩
abbrev s_Safe_init : Stmt := inClass (top 5) 0
theorem sc_Safe_init : NdefX.NScope ["self", "stands", "__class__"] ["self", "stands"] ["__class__"] (defScope s_Safe_init) := NdefX.nscope_by (by decide +kernel)
abbrev s_Unsafe_init : Stmt := inClass (top 6) 0
theorem sc_Unsafe_init : NdefX.NScope ["self", "states", "deeds", "__class__"] ["self", "states", "deeds"] ["__class__"] (defScope s_Unsafe_init) := NdefX.nscope_by (by decide +kernel)
abbrev s_Held_init : Stmt := inClass (top 8) 0
theorem sc_Held_init : NdefX.NScope ["self", "pages", "entries", "__class__"] ["self", "pages", "entries"] ["__class__"] (defScope s_Held_init) := NdefX.nscope_by (by decide +kernel)
abbrev s_Lost_init : Stmt := inClass (top 9) 0
theorem sc_Lost_init : NdefX.NScope ["self", "number", "ranked", "kept", "__class__"] ["self", "number", "ranked", "kept"] ["__class__"] (defScope s_Lost_init) := NdefX.nscope_by (by decide +kernel)
abbrev s_Shared_init : Stmt := inClass (top 11) 0
theorem sc_Shared_init : NdefX.NScope ["self", "pairs", "__class__"] ["self", "pairs"] ["__class__"] (defScope s_Shared_init) := NdefX.nscope_by (by decide +kernel)
abbrev s_Parting_init : Stmt := inClass (top 12) 0
theorem sc_Parting_init : NdefX.NScope ["self", "row", "way", "sets", "__class__"] ["self", "row", "way", "sets"] ["__class__"] (defScope s_Parting_init) := NdefX.nscope_by (by decide +kernel)
abbrev s_Serves_init : Stmt := inClass (top 14) 0
theorem sc_Serves_init : NdefX.NScope ["self", "spots", "__class__"] ["self", "spots"] ["__class__"] (defScope s_Serves_init) := NdefX.nscope_by (by decide +kernel)
abbrev s_Lacks_init : Stmt := inClass (top 15) 0
theorem sc_Lacks_init : NdefX.NScope ["self", "page", "sight", "states", "__class__"] ["self", "page", "sight", "states"] ["__class__"] (defScope s_Lacks_init) := NdefX.nscope_by (by decide +kernel)
abbrev s_Holds_init : Stmt := inClass (top 16) 0
theorem sc_Holds_init : NdefX.NScope ["self", "triples", "__class__"] ["self", "triples"] ["__class__"] (defScope s_Holds_init) := NdefX.nscope_by (by decide +kernel)
abbrev s_Broken_init : Stmt := inClass (top 17) 0
theorem sc_Broken_init : NdefX.NScope ["self", "first", "states", "__class__"] ["self", "first", "states"] ["__class__"] (defScope s_Broken_init) := NdefX.nscope_by (by decide +kernel)
abbrev s_Uncovered_init : Stmt := inClass (top 19) 0
theorem sc_Uncovered_init : NdefX.NScope ["self", "page", "sight", "__class__"] ["self", "page", "sight"] ["__class__"] (defScope s_Uncovered_init) := NdefX.nscope_by (by decide +kernel)
abbrev s_Delay_init : Stmt := inClass (top 21) 0
theorem sc_Delay_init : NdefX.NScope ["self", "number", "heights", "play", "__class__"] ["self", "number", "heights", "play"] ["__class__"] (defScope s_Delay_init) := NdefX.nscope_by (by decide +kernel)
abbrev s_Ring_init : Stmt := inClass (top 22) 0
theorem sc_Ring_init : NdefX.NScope ["self", "play", "at", "__class__"] ["self", "play", "at"] ["__class__"] (defScope s_Ring_init) := NdefX.nscope_by (by decide +kernel)
abbrev s_Refusal_init : Stmt := inClass (top 24) 0
theorem sc_Refusal_init : NdefX.NScope ["self", "pages", "tree", "__class__"] ["self", "pages", "tree"] ["__class__"] (defScope s_Refusal_init) := NdefX.nscope_by (by decide +kernel)
abbrev s_Patience_init : Stmt := inClass (top 26) 0
theorem sc_Patience_init : NdefX.NScope ["self", "number", "table", "delay", "tree", "__class__"] ["self", "number", "table", "delay", "tree"] ["__class__"] (defScope s_Patience_init) := NdefX.nscope_by (by decide +kernel)
abbrev s_Never_init : Stmt := inClass (top 27) 0
theorem sc_Never_init : NdefX.NScope ["self", "tree", "__class__"] ["self", "tree"] ["__class__"] (defScope s_Never_init) := NdefX.nscope_by (by decide +kernel)
abbrev s_DelayFront_init : Stmt := inClass (top 29) 0
theorem sc_DelayFront_init : NdefX.NScope ["self", "points", "never", "steps", "__class__"] ["self", "points", "never", "steps"] ["__class__"] (defScope s_DelayFront_init) := NdefX.nscope_by (by decide +kernel)
abbrev s_Handed_init : Stmt := inClass (top 31) 0
theorem sc_Handed_init : NdefX.NScope ["self", "closed", "__class__"] ["self", "closed"] ["__class__"] (defScope s_Handed_init) := NdefX.nscope_by (by decide +kernel)
abbrev s_Dropped_init : Stmt := inClass (top 32) 0
theorem sc_Dropped_init : NdefX.NScope ["self", "first", "states", "places", "__class__"] ["self", "first", "states", "places"] ["__class__"] (defScope s_Dropped_init) := NdefX.nscope_by (by decide +kernel)
abbrev s_Implied_init : Stmt := inClass (top 34) 0
theorem sc_Implied_init : NdefX.NScope ["self", "pairs", "__class__"] ["self", "pairs"] ["__class__"] (defScope s_Implied_init) := NdefX.nscope_by (by decide +kernel)
abbrev s_Apart_init : Stmt := inClass (top 35) 0
theorem sc_Apart_init : NdefX.NScope ["self", "reading", "ring", "__class__"] ["self", "reading", "ring"] ["__class__"] (defScope s_Apart_init) := NdefX.nscope_by (by decide +kernel)
abbrev s_Kept_init : Stmt := inClass (top 37) 0
theorem sc_Kept_init : NdefX.NScope ["self", "pages", "entries", "triples", "__class__"] ["self", "pages", "entries", "triples"] ["__class__"] (defScope s_Kept_init) := NdefX.nscope_by (by decide +kernel)
abbrev s_Least_init : Stmt := inClass (top 39) 0
theorem sc_Least_init : NdefX.NScope ["self", "number", "kept", "refusal", "__class__"] ["self", "number", "kept", "refusal"] ["__class__"] (defScope s_Least_init) := NdefX.nscope_by (by decide +kernel)
abbrev s_Losing_init : Stmt := inClass (top 41) 0
theorem sc_Losing_init : NdefX.NScope ["self", "first", "states", "pages", "deeds", "places", "__class__"] ["self", "first", "states", "pages", "deeds", "places"] ["__class__"] (defScope s_Losing_init) := NdefX.nscope_by (by decide +kernel)
abbrev s_SureTime_init : Stmt := inClass (top 43) 0
theorem sc_SureTime_init : NdefX.NScope ["self", "number", "table", "tree", "__class__"] ["self", "number", "table", "tree"] ["__class__"] (defScope s_SureTime_init) := NdefX.nscope_by (by decide +kernel)
abbrev s_MomentFront_init : Stmt := inClass (top 45) 0
theorem sc_MomentFront_init : NdefX.NScope ["self", "points", "steps", "kept", "__class__"] ["self", "points", "steps", "kept"] ["__class__"] (defScope s_MomentFront_init) := NdefX.nscope_by (by decide +kernel)
abbrev s_PromiseFront_init : Stmt := inClass (top 47) 0
theorem sc_PromiseFront_init : NdefX.NScope ["self", "held", "short", "__class__"] ["self", "held", "short"] ["__class__"] (defScope s_PromiseFront_init) := NdefX.nscope_by (by decide +kernel)
abbrev s_SightFront_init : Stmt := inClass (top 49) 0
theorem sc_SightFront_init : NdefX.NScope ["self", "enough", "short", "__class__"] ["self", "enough", "short"] ["__class__"] (defScope s_SightFront_init) := NdefX.nscope_by (by decide +kernel)
abbrev s_Stays_init : Stmt := inClass (top 51) 0
theorem sc_Stays_init : NdefX.NScope ["self", "cases", "__class__"] ["self", "cases"] ["__class__"] (defScope s_Stays_init) := NdefX.nscope_by (by decide +kernel)
abbrev s_Slips_init : Stmt := inClass (top 52) 0
theorem sc_Slips_init : NdefX.NScope ["self", "first", "states", "pages", "__class__"] ["self", "first", "states", "pages"] ["__class__"] (defScope s_Slips_init) := NdefX.nscope_by (by decide +kernel)
abbrev s_Firm_init : Stmt := inClass (top 54) 0
theorem sc_Firm_init : NdefX.NScope ["self", "pages", "entries", "cases", "__class__"] ["self", "pages", "entries", "cases"] ["__class__"] (defScope s_Firm_init) := NdefX.nscope_by (by decide +kernel)
abbrev s_Unfirm_init : Stmt := inClass (top 55) 0
theorem sc_Unfirm_init : NdefX.NScope ["self", "pages", "lines", "__class__"] ["self", "pages", "lines"] ["__class__"] (defScope s_Unfirm_init) := NdefX.nscope_by (by decide +kernel)
abbrev s_Steady_init : Stmt := inClass (top 56) 0
theorem sc_Steady_init : NdefX.NScope ["self", "number", "firm", "unfirm", "__class__"] ["self", "number", "firm", "unfirm"] ["__class__"] (defScope s_Steady_init) := NdefX.nscope_by (by decide +kernel)
structure Adr where
  (fixed l_font l_drip l_fill l_value l_ones l_twos l_threes l_more l_rows_right l_unlike_right law c_Paper c_Denial c_Safe c_Unsafe c_Held c_Lost c_Shared c_Parting c_Serves c_Lacks c_Holds c_Broken c_Uncovered c_Delay c_Ring c_Refusal c_Patience c_Never c_DelayFront c_Handed c_Dropped c_Implied c_Apart c_Kept c_Least c_Losing c_SureTime c_MomentFront c_PromiseFront c_SightFront c_Stays c_Slips c_Firm c_Unfirm c_Steady i_Paper i_Safe i_Unsafe i_Held i_Lost i_Shared i_Parting i_Serves i_Lacks i_Holds i_Broken i_Uncovered i_Delay i_Ring i_Refusal i_Patience i_Never i_DelayFront i_Handed i_Dropped i_Implied i_Apart i_Kept i_Least i_Losing i_SureTime i_MomentFront i_PromiseFront i_SightFront i_Stays i_Slips i_Firm i_Unfirm i_Steady q b_Paper b_Denial : Addr)
structure Txt (K : PySem.W.Frag) (mg : Str → Option Value) (A : Adr) : Prop where
  m_fixed : mg "fixed" = some (.ref A.fixed)
  k_fixed : PySem.W.keepIn K (.ref A.fixed) = true
  F_fixed : ∃ fd, Fun K "fixed" "fixed" s_fixed A.fixed fd
  m_l_font : mg "_law_font" = some (.ref A.l_font)
  k_l_font : PySem.W.keepIn K (.ref A.l_font) = true
  F_l_font : ∃ fd, Fun K "_law_font" "_law_font" s_l_font A.l_font fd
  m_l_drip : mg "_law_drip" = some (.ref A.l_drip)
  k_l_drip : PySem.W.keepIn K (.ref A.l_drip) = true
  F_l_drip : ∃ fd, Fun K "_law_drip" "_law_drip" s_l_drip A.l_drip fd
  m_l_fill : mg "_law_fill" = some (.ref A.l_fill)
  k_l_fill : PySem.W.keepIn K (.ref A.l_fill) = true
  F_l_fill : ∃ fd, Fun K "_law_fill" "_law_fill" s_l_fill A.l_fill fd
  m_l_value : mg "_law_value" = some (.ref A.l_value)
  k_l_value : PySem.W.keepIn K (.ref A.l_value) = true
  F_l_value : ∃ fd, Fun K "_law_value" "_law_value" s_l_value A.l_value fd
  m_l_ones : mg "_law_ones" = some (.ref A.l_ones)
  k_l_ones : PySem.W.keepIn K (.ref A.l_ones) = true
  F_l_ones : ∃ fd, Fun K "_law_ones" "_law_ones" s_l_ones A.l_ones fd
  m_l_twos : mg "_law_twos" = some (.ref A.l_twos)
  k_l_twos : PySem.W.keepIn K (.ref A.l_twos) = true
  F_l_twos : ∃ fd, Fun K "_law_twos" "_law_twos" s_l_twos A.l_twos fd
  m_l_threes : mg "_law_threes" = some (.ref A.l_threes)
  k_l_threes : PySem.W.keepIn K (.ref A.l_threes) = true
  F_l_threes : ∃ fd, Fun K "_law_threes" "_law_threes" s_l_threes A.l_threes fd
  m_l_more : mg "_law_more" = some (.ref A.l_more)
  k_l_more : PySem.W.keepIn K (.ref A.l_more) = true
  F_l_more : ∃ fd, Fun K "_law_more" "_law_more" s_l_more A.l_more fd
  m_l_rows_right : mg "_law_rows_right" = some (.ref A.l_rows_right)
  k_l_rows_right : PySem.W.keepIn K (.ref A.l_rows_right) = true
  F_l_rows_right : ∃ fd, Fun K "_law_rows_right" "_law_rows_right" s_l_rows_right A.l_rows_right fd
  m_l_unlike_right : mg "_law_unlike_right" = some (.ref A.l_unlike_right)
  k_l_unlike_right : PySem.W.keepIn K (.ref A.l_unlike_right) = true
  F_l_unlike_right : ∃ fd, Fun K "_law_unlike_right" "_law_unlike_right" s_l_unlike_right A.l_unlike_right fd
  m_law : mg "law" = some (.ref A.law)
  k_law : PySem.W.keepIn K (.ref A.law) = true
  F_law : ∃ fd, Fun K "law" "law" s_law A.law fd
  m_Paper : mg "Paper" = some (.ref A.c_Paper)
  O_Paper : MyP.OwnC K A.c_Paper "Paper"
  Mk_Paper : Mk K A.c_Paper A.i_Paper
  n_Paper : ∀ f ∈ (["word", "parts"] : List PySem.Str), NoAttr K A.c_Paper f
  q_Paper : PySem.W.findIn K (.ref A.c_Paper) "__eq__" = some (some (.ref A.q))
  b_Paper : PySem.W.findIn K (.ref A.c_Paper) "__bool__" = some (some (.ref A.b_Paper)) ∧ PySem.W.isFn K (.ref A.b_Paper) = true
  kP_Paper : PySem.W.kitOne K (.ref A.c_Paper) (.ref A.c_Paper) = some true
  kD_Paper : PySem.W.kitOne K (.ref A.c_Paper) (.ref A.c_Denial) = some false
  tn_Paper : PySem.W.notFirst K A.c_Paper (.type "tuple") = true
  m_Denial : mg "Denial" = some (.ref A.c_Denial)
  O_Denial : MyP.OwnC K A.c_Denial "Denial"
  Mk_Denial : Mk K A.c_Denial A.i_Paper
  n_Denial : ∀ f ∈ (["word", "parts"] : List PySem.Str), NoAttr K A.c_Denial f
  q_Denial : PySem.W.findIn K (.ref A.c_Denial) "__eq__" = some (some (.ref A.q))
  b_Denial : PySem.W.findIn K (.ref A.c_Denial) "__bool__" = some (some (.ref A.b_Denial)) ∧ PySem.W.isFn K (.ref A.b_Denial) = true
  kP_Denial : PySem.W.kitOne K (.ref A.c_Denial) (.ref A.c_Paper) = some true
  kD_Denial : PySem.W.kitOne K (.ref A.c_Denial) (.ref A.c_Denial) = some true
  tn_Denial : PySem.W.notFirst K A.c_Denial (.type "tuple") = true
  m_Safe : mg "Safe" = some (.ref A.c_Safe)
  O_Safe : MyP.OwnC K A.c_Safe "Safe"
  Mk_Safe : Mk K A.c_Safe A.i_Safe
  n_Safe : ∀ f ∈ (["word", "parts", "stands"] : List PySem.Str), NoAttr K A.c_Safe f
  q_Safe : PySem.W.findIn K (.ref A.c_Safe) "__eq__" = some (some (.ref A.q))
  b_Safe : PySem.W.findIn K (.ref A.c_Safe) "__bool__" = some (some (.ref A.b_Paper)) ∧ PySem.W.isFn K (.ref A.b_Paper) = true
  S_Safe : MyP.SupC K A.c_Safe A.c_Safe A.i_Paper
  FC_Safe : ∃ fd, MyP.FunC K "__init__" "Safe.__init__" s_Safe_init A.i_Safe fd A.c_Safe
  kP_Safe : PySem.W.kitOne K (.ref A.c_Safe) (.ref A.c_Paper) = some true
  kD_Safe : PySem.W.kitOne K (.ref A.c_Safe) (.ref A.c_Denial) = some false
  tn_Safe : PySem.W.notFirst K A.c_Safe (.type "tuple") = true
  m_Unsafe : mg "Unsafe" = some (.ref A.c_Unsafe)
  O_Unsafe : MyP.OwnC K A.c_Unsafe "Unsafe"
  Mk_Unsafe : Mk K A.c_Unsafe A.i_Unsafe
  n_Unsafe : ∀ f ∈ (["word", "parts", "states", "deeds"] : List PySem.Str), NoAttr K A.c_Unsafe f
  q_Unsafe : PySem.W.findIn K (.ref A.c_Unsafe) "__eq__" = some (some (.ref A.q))
  b_Unsafe : PySem.W.findIn K (.ref A.c_Unsafe) "__bool__" = some (some (.ref A.b_Denial)) ∧ PySem.W.isFn K (.ref A.b_Denial) = true
  S_Unsafe : MyP.SupC K A.c_Unsafe A.c_Unsafe A.i_Paper
  FC_Unsafe : ∃ fd, MyP.FunC K "__init__" "Unsafe.__init__" s_Unsafe_init A.i_Unsafe fd A.c_Unsafe
  kP_Unsafe : PySem.W.kitOne K (.ref A.c_Unsafe) (.ref A.c_Paper) = some true
  kD_Unsafe : PySem.W.kitOne K (.ref A.c_Unsafe) (.ref A.c_Denial) = some true
  tn_Unsafe : PySem.W.notFirst K A.c_Unsafe (.type "tuple") = true
  m_Held : mg "Held" = some (.ref A.c_Held)
  O_Held : MyP.OwnC K A.c_Held "Held"
  Mk_Held : Mk K A.c_Held A.i_Held
  n_Held : ∀ f ∈ (["word", "parts", "pages", "entries"] : List PySem.Str), NoAttr K A.c_Held f
  q_Held : PySem.W.findIn K (.ref A.c_Held) "__eq__" = some (some (.ref A.q))
  b_Held : PySem.W.findIn K (.ref A.c_Held) "__bool__" = some (some (.ref A.b_Paper)) ∧ PySem.W.isFn K (.ref A.b_Paper) = true
  S_Held : MyP.SupC K A.c_Held A.c_Held A.i_Paper
  FC_Held : ∃ fd, MyP.FunC K "__init__" "Held.__init__" s_Held_init A.i_Held fd A.c_Held
  kP_Held : PySem.W.kitOne K (.ref A.c_Held) (.ref A.c_Paper) = some true
  kD_Held : PySem.W.kitOne K (.ref A.c_Held) (.ref A.c_Denial) = some false
  tn_Held : PySem.W.notFirst K A.c_Held (.type "tuple") = true
  m_Lost : mg "Lost" = some (.ref A.c_Lost)
  O_Lost : MyP.OwnC K A.c_Lost "Lost"
  Mk_Lost : Mk K A.c_Lost A.i_Lost
  n_Lost : ∀ f ∈ (["word", "parts", "number", "ranked", "kept"] : List PySem.Str), NoAttr K A.c_Lost f
  q_Lost : PySem.W.findIn K (.ref A.c_Lost) "__eq__" = some (some (.ref A.q))
  b_Lost : PySem.W.findIn K (.ref A.c_Lost) "__bool__" = some (some (.ref A.b_Denial)) ∧ PySem.W.isFn K (.ref A.b_Denial) = true
  S_Lost : MyP.SupC K A.c_Lost A.c_Lost A.i_Paper
  FC_Lost : ∃ fd, MyP.FunC K "__init__" "Lost.__init__" s_Lost_init A.i_Lost fd A.c_Lost
  kP_Lost : PySem.W.kitOne K (.ref A.c_Lost) (.ref A.c_Paper) = some true
  kD_Lost : PySem.W.kitOne K (.ref A.c_Lost) (.ref A.c_Denial) = some true
  tn_Lost : PySem.W.notFirst K A.c_Lost (.type "tuple") = true
  m_Shared : mg "Shared" = some (.ref A.c_Shared)
  O_Shared : MyP.OwnC K A.c_Shared "Shared"
  Mk_Shared : Mk K A.c_Shared A.i_Shared
  n_Shared : ∀ f ∈ (["word", "parts", "pairs"] : List PySem.Str), NoAttr K A.c_Shared f
  q_Shared : PySem.W.findIn K (.ref A.c_Shared) "__eq__" = some (some (.ref A.q))
  b_Shared : PySem.W.findIn K (.ref A.c_Shared) "__bool__" = some (some (.ref A.b_Paper)) ∧ PySem.W.isFn K (.ref A.b_Paper) = true
  S_Shared : MyP.SupC K A.c_Shared A.c_Shared A.i_Paper
  FC_Shared : ∃ fd, MyP.FunC K "__init__" "Shared.__init__" s_Shared_init A.i_Shared fd A.c_Shared
  kP_Shared : PySem.W.kitOne K (.ref A.c_Shared) (.ref A.c_Paper) = some true
  kD_Shared : PySem.W.kitOne K (.ref A.c_Shared) (.ref A.c_Denial) = some false
  tn_Shared : PySem.W.notFirst K A.c_Shared (.type "tuple") = true
  m_Parting : mg "Parting" = some (.ref A.c_Parting)
  O_Parting : MyP.OwnC K A.c_Parting "Parting"
  Mk_Parting : Mk K A.c_Parting A.i_Parting
  n_Parting : ∀ f ∈ (["word", "parts", "row", "way", "sets"] : List PySem.Str), NoAttr K A.c_Parting f
  q_Parting : PySem.W.findIn K (.ref A.c_Parting) "__eq__" = some (some (.ref A.q))
  b_Parting : PySem.W.findIn K (.ref A.c_Parting) "__bool__" = some (some (.ref A.b_Denial)) ∧ PySem.W.isFn K (.ref A.b_Denial) = true
  S_Parting : MyP.SupC K A.c_Parting A.c_Parting A.i_Paper
  FC_Parting : ∃ fd, MyP.FunC K "__init__" "Parting.__init__" s_Parting_init A.i_Parting fd A.c_Parting
  kP_Parting : PySem.W.kitOne K (.ref A.c_Parting) (.ref A.c_Paper) = some true
  kD_Parting : PySem.W.kitOne K (.ref A.c_Parting) (.ref A.c_Denial) = some true
  tn_Parting : PySem.W.notFirst K A.c_Parting (.type "tuple") = true
  m_Serves : mg "Serves" = some (.ref A.c_Serves)
  O_Serves : MyP.OwnC K A.c_Serves "Serves"
  Mk_Serves : Mk K A.c_Serves A.i_Serves
  n_Serves : ∀ f ∈ (["word", "parts", "spots"] : List PySem.Str), NoAttr K A.c_Serves f
  q_Serves : PySem.W.findIn K (.ref A.c_Serves) "__eq__" = some (some (.ref A.q))
  b_Serves : PySem.W.findIn K (.ref A.c_Serves) "__bool__" = some (some (.ref A.b_Paper)) ∧ PySem.W.isFn K (.ref A.b_Paper) = true
  S_Serves : MyP.SupC K A.c_Serves A.c_Serves A.i_Paper
  FC_Serves : ∃ fd, MyP.FunC K "__init__" "Serves.__init__" s_Serves_init A.i_Serves fd A.c_Serves
  kP_Serves : PySem.W.kitOne K (.ref A.c_Serves) (.ref A.c_Paper) = some true
  kD_Serves : PySem.W.kitOne K (.ref A.c_Serves) (.ref A.c_Denial) = some false
  tn_Serves : PySem.W.notFirst K A.c_Serves (.type "tuple") = true
  m_Lacks : mg "Lacks" = some (.ref A.c_Lacks)
  O_Lacks : MyP.OwnC K A.c_Lacks "Lacks"
  Mk_Lacks : Mk K A.c_Lacks A.i_Lacks
  n_Lacks : ∀ f ∈ (["word", "parts", "page", "sight", "states"] : List PySem.Str), NoAttr K A.c_Lacks f
  q_Lacks : PySem.W.findIn K (.ref A.c_Lacks) "__eq__" = some (some (.ref A.q))
  b_Lacks : PySem.W.findIn K (.ref A.c_Lacks) "__bool__" = some (some (.ref A.b_Denial)) ∧ PySem.W.isFn K (.ref A.b_Denial) = true
  S_Lacks : MyP.SupC K A.c_Lacks A.c_Lacks A.i_Paper
  FC_Lacks : ∃ fd, MyP.FunC K "__init__" "Lacks.__init__" s_Lacks_init A.i_Lacks fd A.c_Lacks
  kP_Lacks : PySem.W.kitOne K (.ref A.c_Lacks) (.ref A.c_Paper) = some true
  kD_Lacks : PySem.W.kitOne K (.ref A.c_Lacks) (.ref A.c_Denial) = some true
  tn_Lacks : PySem.W.notFirst K A.c_Lacks (.type "tuple") = true
  m_Holds : mg "Holds" = some (.ref A.c_Holds)
  O_Holds : MyP.OwnC K A.c_Holds "Holds"
  Mk_Holds : Mk K A.c_Holds A.i_Holds
  n_Holds : ∀ f ∈ (["word", "parts", "triples"] : List PySem.Str), NoAttr K A.c_Holds f
  q_Holds : PySem.W.findIn K (.ref A.c_Holds) "__eq__" = some (some (.ref A.q))
  b_Holds : PySem.W.findIn K (.ref A.c_Holds) "__bool__" = some (some (.ref A.b_Paper)) ∧ PySem.W.isFn K (.ref A.b_Paper) = true
  S_Holds : MyP.SupC K A.c_Holds A.c_Holds A.i_Paper
  FC_Holds : ∃ fd, MyP.FunC K "__init__" "Holds.__init__" s_Holds_init A.i_Holds fd A.c_Holds
  kP_Holds : PySem.W.kitOne K (.ref A.c_Holds) (.ref A.c_Paper) = some true
  kD_Holds : PySem.W.kitOne K (.ref A.c_Holds) (.ref A.c_Denial) = some false
  tn_Holds : PySem.W.notFirst K A.c_Holds (.type "tuple") = true
  m_Broken : mg "Broken" = some (.ref A.c_Broken)
  O_Broken : MyP.OwnC K A.c_Broken "Broken"
  Mk_Broken : Mk K A.c_Broken A.i_Broken
  n_Broken : ∀ f ∈ (["word", "parts", "first", "states"] : List PySem.Str), NoAttr K A.c_Broken f
  q_Broken : PySem.W.findIn K (.ref A.c_Broken) "__eq__" = some (some (.ref A.q))
  b_Broken : PySem.W.findIn K (.ref A.c_Broken) "__bool__" = some (some (.ref A.b_Denial)) ∧ PySem.W.isFn K (.ref A.b_Denial) = true
  S_Broken : MyP.SupC K A.c_Broken A.c_Broken A.i_Paper
  FC_Broken : ∃ fd, MyP.FunC K "__init__" "Broken.__init__" s_Broken_init A.i_Broken fd A.c_Broken
  kP_Broken : PySem.W.kitOne K (.ref A.c_Broken) (.ref A.c_Paper) = some true
  kD_Broken : PySem.W.kitOne K (.ref A.c_Broken) (.ref A.c_Denial) = some true
  tn_Broken : PySem.W.notFirst K A.c_Broken (.type "tuple") = true
  m_Uncovered : mg "Uncovered" = some (.ref A.c_Uncovered)
  O_Uncovered : MyP.OwnC K A.c_Uncovered "Uncovered"
  Mk_Uncovered : Mk K A.c_Uncovered A.i_Uncovered
  n_Uncovered : ∀ f ∈ (["word", "parts", "page", "sight"] : List PySem.Str), NoAttr K A.c_Uncovered f
  q_Uncovered : PySem.W.findIn K (.ref A.c_Uncovered) "__eq__" = some (some (.ref A.q))
  b_Uncovered : PySem.W.findIn K (.ref A.c_Uncovered) "__bool__" = some (some (.ref A.b_Denial)) ∧ PySem.W.isFn K (.ref A.b_Denial) = true
  S_Uncovered : MyP.SupC K A.c_Uncovered A.c_Uncovered A.i_Paper
  FC_Uncovered : ∃ fd, MyP.FunC K "__init__" "Uncovered.__init__" s_Uncovered_init A.i_Uncovered fd A.c_Uncovered
  kP_Uncovered : PySem.W.kitOne K (.ref A.c_Uncovered) (.ref A.c_Paper) = some true
  kD_Uncovered : PySem.W.kitOne K (.ref A.c_Uncovered) (.ref A.c_Denial) = some true
  tn_Uncovered : PySem.W.notFirst K A.c_Uncovered (.type "tuple") = true
  m_Delay : mg "Delay" = some (.ref A.c_Delay)
  O_Delay : MyP.OwnC K A.c_Delay "Delay"
  Mk_Delay : Mk K A.c_Delay A.i_Delay
  n_Delay : ∀ f ∈ (["word", "parts", "number", "heights", "play"] : List PySem.Str), NoAttr K A.c_Delay f
  q_Delay : PySem.W.findIn K (.ref A.c_Delay) "__eq__" = some (some (.ref A.q))
  b_Delay : PySem.W.findIn K (.ref A.c_Delay) "__bool__" = some (some (.ref A.b_Paper)) ∧ PySem.W.isFn K (.ref A.b_Paper) = true
  S_Delay : MyP.SupC K A.c_Delay A.c_Delay A.i_Paper
  FC_Delay : ∃ fd, MyP.FunC K "__init__" "Delay.__init__" s_Delay_init A.i_Delay fd A.c_Delay
  kP_Delay : PySem.W.kitOne K (.ref A.c_Delay) (.ref A.c_Paper) = some true
  kD_Delay : PySem.W.kitOne K (.ref A.c_Delay) (.ref A.c_Denial) = some false
  tn_Delay : PySem.W.notFirst K A.c_Delay (.type "tuple") = true
  m_Ring : mg "Ring" = some (.ref A.c_Ring)
  O_Ring : MyP.OwnC K A.c_Ring "Ring"
  Mk_Ring : Mk K A.c_Ring A.i_Ring
  n_Ring : ∀ f ∈ (["word", "parts", "play", "at"] : List PySem.Str), NoAttr K A.c_Ring f
  q_Ring : PySem.W.findIn K (.ref A.c_Ring) "__eq__" = some (some (.ref A.q))
  b_Ring : PySem.W.findIn K (.ref A.c_Ring) "__bool__" = some (some (.ref A.b_Denial)) ∧ PySem.W.isFn K (.ref A.b_Denial) = true
  S_Ring : MyP.SupC K A.c_Ring A.c_Ring A.i_Paper
  FC_Ring : ∃ fd, MyP.FunC K "__init__" "Ring.__init__" s_Ring_init A.i_Ring fd A.c_Ring
  kP_Ring : PySem.W.kitOne K (.ref A.c_Ring) (.ref A.c_Paper) = some true
  kD_Ring : PySem.W.kitOne K (.ref A.c_Ring) (.ref A.c_Denial) = some true
  tn_Ring : PySem.W.notFirst K A.c_Ring (.type "tuple") = true
  m_Refusal : mg "Refusal" = some (.ref A.c_Refusal)
  O_Refusal : MyP.OwnC K A.c_Refusal "Refusal"
  Mk_Refusal : Mk K A.c_Refusal A.i_Refusal
  n_Refusal : ∀ f ∈ (["word", "parts", "pages", "tree"] : List PySem.Str), NoAttr K A.c_Refusal f
  q_Refusal : PySem.W.findIn K (.ref A.c_Refusal) "__eq__" = some (some (.ref A.q))
  b_Refusal : PySem.W.findIn K (.ref A.c_Refusal) "__bool__" = some (some (.ref A.b_Denial)) ∧ PySem.W.isFn K (.ref A.b_Denial) = true
  S_Refusal : MyP.SupC K A.c_Refusal A.c_Refusal A.i_Paper
  FC_Refusal : ∃ fd, MyP.FunC K "__init__" "Refusal.__init__" s_Refusal_init A.i_Refusal fd A.c_Refusal
  kP_Refusal : PySem.W.kitOne K (.ref A.c_Refusal) (.ref A.c_Paper) = some true
  kD_Refusal : PySem.W.kitOne K (.ref A.c_Refusal) (.ref A.c_Denial) = some true
  tn_Refusal : PySem.W.notFirst K A.c_Refusal (.type "tuple") = true
  m_Patience : mg "Patience" = some (.ref A.c_Patience)
  O_Patience : MyP.OwnC K A.c_Patience "Patience"
  Mk_Patience : Mk K A.c_Patience A.i_Patience
  n_Patience : ∀ f ∈ (["word", "parts", "number", "table", "delay", "tree"] : List PySem.Str), NoAttr K A.c_Patience f
  q_Patience : PySem.W.findIn K (.ref A.c_Patience) "__eq__" = some (some (.ref A.q))
  b_Patience : PySem.W.findIn K (.ref A.c_Patience) "__bool__" = some (some (.ref A.b_Paper)) ∧ PySem.W.isFn K (.ref A.b_Paper) = true
  S_Patience : MyP.SupC K A.c_Patience A.c_Patience A.i_Paper
  FC_Patience : ∃ fd, MyP.FunC K "__init__" "Patience.__init__" s_Patience_init A.i_Patience fd A.c_Patience
  kP_Patience : PySem.W.kitOne K (.ref A.c_Patience) (.ref A.c_Paper) = some true
  kD_Patience : PySem.W.kitOne K (.ref A.c_Patience) (.ref A.c_Denial) = some false
  tn_Patience : PySem.W.notFirst K A.c_Patience (.type "tuple") = true
  m_Never : mg "Never" = some (.ref A.c_Never)
  O_Never : MyP.OwnC K A.c_Never "Never"
  Mk_Never : Mk K A.c_Never A.i_Never
  n_Never : ∀ f ∈ (["word", "parts", "tree"] : List PySem.Str), NoAttr K A.c_Never f
  q_Never : PySem.W.findIn K (.ref A.c_Never) "__eq__" = some (some (.ref A.q))
  b_Never : PySem.W.findIn K (.ref A.c_Never) "__bool__" = some (some (.ref A.b_Denial)) ∧ PySem.W.isFn K (.ref A.b_Denial) = true
  S_Never : MyP.SupC K A.c_Never A.c_Never A.i_Paper
  FC_Never : ∃ fd, MyP.FunC K "__init__" "Never.__init__" s_Never_init A.i_Never fd A.c_Never
  kP_Never : PySem.W.kitOne K (.ref A.c_Never) (.ref A.c_Paper) = some true
  kD_Never : PySem.W.kitOne K (.ref A.c_Never) (.ref A.c_Denial) = some true
  tn_Never : PySem.W.notFirst K A.c_Never (.type "tuple") = true
  m_DelayFront : mg "DelayFront" = some (.ref A.c_DelayFront)
  O_DelayFront : MyP.OwnC K A.c_DelayFront "DelayFront"
  Mk_DelayFront : Mk K A.c_DelayFront A.i_DelayFront
  n_DelayFront : ∀ f ∈ (["word", "parts", "points", "never", "steps"] : List PySem.Str), NoAttr K A.c_DelayFront f
  q_DelayFront : PySem.W.findIn K (.ref A.c_DelayFront) "__eq__" = some (some (.ref A.q))
  b_DelayFront : PySem.W.findIn K (.ref A.c_DelayFront) "__bool__" = some (some (.ref A.b_Paper)) ∧ PySem.W.isFn K (.ref A.b_Paper) = true
  S_DelayFront : MyP.SupC K A.c_DelayFront A.c_DelayFront A.i_Paper
  FC_DelayFront : ∃ fd, MyP.FunC K "__init__" "DelayFront.__init__" s_DelayFront_init A.i_DelayFront fd A.c_DelayFront
  kP_DelayFront : PySem.W.kitOne K (.ref A.c_DelayFront) (.ref A.c_Paper) = some true
  kD_DelayFront : PySem.W.kitOne K (.ref A.c_DelayFront) (.ref A.c_Denial) = some false
  tn_DelayFront : PySem.W.notFirst K A.c_DelayFront (.type "tuple") = true
  m_Handed : mg "Handed" = some (.ref A.c_Handed)
  O_Handed : MyP.OwnC K A.c_Handed "Handed"
  Mk_Handed : Mk K A.c_Handed A.i_Handed
  n_Handed : ∀ f ∈ (["word", "parts", "closed"] : List PySem.Str), NoAttr K A.c_Handed f
  q_Handed : PySem.W.findIn K (.ref A.c_Handed) "__eq__" = some (some (.ref A.q))
  b_Handed : PySem.W.findIn K (.ref A.c_Handed) "__bool__" = some (some (.ref A.b_Paper)) ∧ PySem.W.isFn K (.ref A.b_Paper) = true
  S_Handed : MyP.SupC K A.c_Handed A.c_Handed A.i_Paper
  FC_Handed : ∃ fd, MyP.FunC K "__init__" "Handed.__init__" s_Handed_init A.i_Handed fd A.c_Handed
  kP_Handed : PySem.W.kitOne K (.ref A.c_Handed) (.ref A.c_Paper) = some true
  kD_Handed : PySem.W.kitOne K (.ref A.c_Handed) (.ref A.c_Denial) = some false
  tn_Handed : PySem.W.notFirst K A.c_Handed (.type "tuple") = true
  m_Dropped : mg "Dropped" = some (.ref A.c_Dropped)
  O_Dropped : MyP.OwnC K A.c_Dropped "Dropped"
  Mk_Dropped : Mk K A.c_Dropped A.i_Dropped
  n_Dropped : ∀ f ∈ (["word", "parts", "first", "states", "places"] : List PySem.Str), NoAttr K A.c_Dropped f
  q_Dropped : PySem.W.findIn K (.ref A.c_Dropped) "__eq__" = some (some (.ref A.q))
  b_Dropped : PySem.W.findIn K (.ref A.c_Dropped) "__bool__" = some (some (.ref A.b_Denial)) ∧ PySem.W.isFn K (.ref A.b_Denial) = true
  S_Dropped : MyP.SupC K A.c_Dropped A.c_Dropped A.i_Paper
  FC_Dropped : ∃ fd, MyP.FunC K "__init__" "Dropped.__init__" s_Dropped_init A.i_Dropped fd A.c_Dropped
  kP_Dropped : PySem.W.kitOne K (.ref A.c_Dropped) (.ref A.c_Paper) = some true
  kD_Dropped : PySem.W.kitOne K (.ref A.c_Dropped) (.ref A.c_Denial) = some true
  tn_Dropped : PySem.W.notFirst K A.c_Dropped (.type "tuple") = true
  m_Implied : mg "Implied" = some (.ref A.c_Implied)
  O_Implied : MyP.OwnC K A.c_Implied "Implied"
  Mk_Implied : Mk K A.c_Implied A.i_Implied
  n_Implied : ∀ f ∈ (["word", "parts", "pairs"] : List PySem.Str), NoAttr K A.c_Implied f
  q_Implied : PySem.W.findIn K (.ref A.c_Implied) "__eq__" = some (some (.ref A.q))
  b_Implied : PySem.W.findIn K (.ref A.c_Implied) "__bool__" = some (some (.ref A.b_Paper)) ∧ PySem.W.isFn K (.ref A.b_Paper) = true
  S_Implied : MyP.SupC K A.c_Implied A.c_Implied A.i_Paper
  FC_Implied : ∃ fd, MyP.FunC K "__init__" "Implied.__init__" s_Implied_init A.i_Implied fd A.c_Implied
  kP_Implied : PySem.W.kitOne K (.ref A.c_Implied) (.ref A.c_Paper) = some true
  kD_Implied : PySem.W.kitOne K (.ref A.c_Implied) (.ref A.c_Denial) = some false
  tn_Implied : PySem.W.notFirst K A.c_Implied (.type "tuple") = true
  m_Apart : mg "Apart" = some (.ref A.c_Apart)
  O_Apart : MyP.OwnC K A.c_Apart "Apart"
  Mk_Apart : Mk K A.c_Apart A.i_Apart
  n_Apart : ∀ f ∈ (["word", "parts", "reading", "ring"] : List PySem.Str), NoAttr K A.c_Apart f
  q_Apart : PySem.W.findIn K (.ref A.c_Apart) "__eq__" = some (some (.ref A.q))
  b_Apart : PySem.W.findIn K (.ref A.c_Apart) "__bool__" = some (some (.ref A.b_Denial)) ∧ PySem.W.isFn K (.ref A.b_Denial) = true
  S_Apart : MyP.SupC K A.c_Apart A.c_Apart A.i_Paper
  FC_Apart : ∃ fd, MyP.FunC K "__init__" "Apart.__init__" s_Apart_init A.i_Apart fd A.c_Apart
  kP_Apart : PySem.W.kitOne K (.ref A.c_Apart) (.ref A.c_Paper) = some true
  kD_Apart : PySem.W.kitOne K (.ref A.c_Apart) (.ref A.c_Denial) = some true
  tn_Apart : PySem.W.notFirst K A.c_Apart (.type "tuple") = true
  m_Kept : mg "Kept" = some (.ref A.c_Kept)
  O_Kept : MyP.OwnC K A.c_Kept "Kept"
  Mk_Kept : Mk K A.c_Kept A.i_Kept
  n_Kept : ∀ f ∈ (["word", "parts", "pages", "entries", "triples"] : List PySem.Str), NoAttr K A.c_Kept f
  q_Kept : PySem.W.findIn K (.ref A.c_Kept) "__eq__" = some (some (.ref A.q))
  b_Kept : PySem.W.findIn K (.ref A.c_Kept) "__bool__" = some (some (.ref A.b_Paper)) ∧ PySem.W.isFn K (.ref A.b_Paper) = true
  S_Kept : MyP.SupC K A.c_Kept A.c_Kept A.i_Paper
  FC_Kept : ∃ fd, MyP.FunC K "__init__" "Kept.__init__" s_Kept_init A.i_Kept fd A.c_Kept
  kP_Kept : PySem.W.kitOne K (.ref A.c_Kept) (.ref A.c_Paper) = some true
  kD_Kept : PySem.W.kitOne K (.ref A.c_Kept) (.ref A.c_Denial) = some false
  tn_Kept : PySem.W.notFirst K A.c_Kept (.type "tuple") = true
  m_Least : mg "Least" = some (.ref A.c_Least)
  O_Least : MyP.OwnC K A.c_Least "Least"
  Mk_Least : Mk K A.c_Least A.i_Least
  n_Least : ∀ f ∈ (["word", "parts", "number", "kept", "refusal"] : List PySem.Str), NoAttr K A.c_Least f
  q_Least : PySem.W.findIn K (.ref A.c_Least) "__eq__" = some (some (.ref A.q))
  b_Least : PySem.W.findIn K (.ref A.c_Least) "__bool__" = some (some (.ref A.b_Paper)) ∧ PySem.W.isFn K (.ref A.b_Paper) = true
  S_Least : MyP.SupC K A.c_Least A.c_Least A.i_Paper
  FC_Least : ∃ fd, MyP.FunC K "__init__" "Least.__init__" s_Least_init A.i_Least fd A.c_Least
  kP_Least : PySem.W.kitOne K (.ref A.c_Least) (.ref A.c_Paper) = some true
  kD_Least : PySem.W.kitOne K (.ref A.c_Least) (.ref A.c_Denial) = some false
  tn_Least : PySem.W.notFirst K A.c_Least (.type "tuple") = true
  m_Losing : mg "Losing" = some (.ref A.c_Losing)
  O_Losing : MyP.OwnC K A.c_Losing "Losing"
  Mk_Losing : Mk K A.c_Losing A.i_Losing
  n_Losing : ∀ f ∈ (["word", "parts", "first", "states", "pages", "deeds", "places"] : List PySem.Str), NoAttr K A.c_Losing f
  q_Losing : PySem.W.findIn K (.ref A.c_Losing) "__eq__" = some (some (.ref A.q))
  b_Losing : PySem.W.findIn K (.ref A.c_Losing) "__bool__" = some (some (.ref A.b_Paper)) ∧ PySem.W.isFn K (.ref A.b_Paper) = true
  S_Losing : MyP.SupC K A.c_Losing A.c_Losing A.i_Paper
  FC_Losing : ∃ fd, MyP.FunC K "__init__" "Losing.__init__" s_Losing_init A.i_Losing fd A.c_Losing
  kP_Losing : PySem.W.kitOne K (.ref A.c_Losing) (.ref A.c_Paper) = some true
  kD_Losing : PySem.W.kitOne K (.ref A.c_Losing) (.ref A.c_Denial) = some false
  tn_Losing : PySem.W.notFirst K A.c_Losing (.type "tuple") = true
  m_SureTime : mg "SureTime" = some (.ref A.c_SureTime)
  O_SureTime : MyP.OwnC K A.c_SureTime "SureTime"
  Mk_SureTime : Mk K A.c_SureTime A.i_SureTime
  n_SureTime : ∀ f ∈ (["word", "parts", "number", "table", "tree"] : List PySem.Str), NoAttr K A.c_SureTime f
  q_SureTime : PySem.W.findIn K (.ref A.c_SureTime) "__eq__" = some (some (.ref A.q))
  b_SureTime : PySem.W.findIn K (.ref A.c_SureTime) "__bool__" = some (some (.ref A.b_Paper)) ∧ PySem.W.isFn K (.ref A.b_Paper) = true
  S_SureTime : MyP.SupC K A.c_SureTime A.c_SureTime A.i_Paper
  FC_SureTime : ∃ fd, MyP.FunC K "__init__" "SureTime.__init__" s_SureTime_init A.i_SureTime fd A.c_SureTime
  kP_SureTime : PySem.W.kitOne K (.ref A.c_SureTime) (.ref A.c_Paper) = some true
  kD_SureTime : PySem.W.kitOne K (.ref A.c_SureTime) (.ref A.c_Denial) = some false
  tn_SureTime : PySem.W.notFirst K A.c_SureTime (.type "tuple") = true
  m_MomentFront : mg "MomentFront" = some (.ref A.c_MomentFront)
  O_MomentFront : MyP.OwnC K A.c_MomentFront "MomentFront"
  Mk_MomentFront : Mk K A.c_MomentFront A.i_MomentFront
  n_MomentFront : ∀ f ∈ (["word", "parts", "points", "steps", "kept"] : List PySem.Str), NoAttr K A.c_MomentFront f
  q_MomentFront : PySem.W.findIn K (.ref A.c_MomentFront) "__eq__" = some (some (.ref A.q))
  b_MomentFront : PySem.W.findIn K (.ref A.c_MomentFront) "__bool__" = some (some (.ref A.b_Paper)) ∧ PySem.W.isFn K (.ref A.b_Paper) = true
  S_MomentFront : MyP.SupC K A.c_MomentFront A.c_MomentFront A.i_Paper
  FC_MomentFront : ∃ fd, MyP.FunC K "__init__" "MomentFront.__init__" s_MomentFront_init A.i_MomentFront fd A.c_MomentFront
  kP_MomentFront : PySem.W.kitOne K (.ref A.c_MomentFront) (.ref A.c_Paper) = some true
  kD_MomentFront : PySem.W.kitOne K (.ref A.c_MomentFront) (.ref A.c_Denial) = some false
  tn_MomentFront : PySem.W.notFirst K A.c_MomentFront (.type "tuple") = true
  m_PromiseFront : mg "PromiseFront" = some (.ref A.c_PromiseFront)
  O_PromiseFront : MyP.OwnC K A.c_PromiseFront "PromiseFront"
  Mk_PromiseFront : Mk K A.c_PromiseFront A.i_PromiseFront
  n_PromiseFront : ∀ f ∈ (["word", "parts", "held", "short"] : List PySem.Str), NoAttr K A.c_PromiseFront f
  q_PromiseFront : PySem.W.findIn K (.ref A.c_PromiseFront) "__eq__" = some (some (.ref A.q))
  b_PromiseFront : PySem.W.findIn K (.ref A.c_PromiseFront) "__bool__" = some (some (.ref A.b_Paper)) ∧ PySem.W.isFn K (.ref A.b_Paper) = true
  S_PromiseFront : MyP.SupC K A.c_PromiseFront A.c_PromiseFront A.i_Paper
  FC_PromiseFront : ∃ fd, MyP.FunC K "__init__" "PromiseFront.__init__" s_PromiseFront_init A.i_PromiseFront fd A.c_PromiseFront
  kP_PromiseFront : PySem.W.kitOne K (.ref A.c_PromiseFront) (.ref A.c_Paper) = some true
  kD_PromiseFront : PySem.W.kitOne K (.ref A.c_PromiseFront) (.ref A.c_Denial) = some false
  tn_PromiseFront : PySem.W.notFirst K A.c_PromiseFront (.type "tuple") = true
  m_SightFront : mg "SightFront" = some (.ref A.c_SightFront)
  O_SightFront : MyP.OwnC K A.c_SightFront "SightFront"
  Mk_SightFront : Mk K A.c_SightFront A.i_SightFront
  n_SightFront : ∀ f ∈ (["word", "parts", "enough", "short"] : List PySem.Str), NoAttr K A.c_SightFront f
  q_SightFront : PySem.W.findIn K (.ref A.c_SightFront) "__eq__" = some (some (.ref A.q))
  b_SightFront : PySem.W.findIn K (.ref A.c_SightFront) "__bool__" = some (some (.ref A.b_Paper)) ∧ PySem.W.isFn K (.ref A.b_Paper) = true
  S_SightFront : MyP.SupC K A.c_SightFront A.c_SightFront A.i_Paper
  FC_SightFront : ∃ fd, MyP.FunC K "__init__" "SightFront.__init__" s_SightFront_init A.i_SightFront fd A.c_SightFront
  kP_SightFront : PySem.W.kitOne K (.ref A.c_SightFront) (.ref A.c_Paper) = some true
  kD_SightFront : PySem.W.kitOne K (.ref A.c_SightFront) (.ref A.c_Denial) = some false
  tn_SightFront : PySem.W.notFirst K A.c_SightFront (.type "tuple") = true
  m_Stays : mg "Stays" = some (.ref A.c_Stays)
  O_Stays : MyP.OwnC K A.c_Stays "Stays"
  Mk_Stays : Mk K A.c_Stays A.i_Stays
  n_Stays : ∀ f ∈ (["word", "parts", "cases"] : List PySem.Str), NoAttr K A.c_Stays f
  q_Stays : PySem.W.findIn K (.ref A.c_Stays) "__eq__" = some (some (.ref A.q))
  b_Stays : PySem.W.findIn K (.ref A.c_Stays) "__bool__" = some (some (.ref A.b_Paper)) ∧ PySem.W.isFn K (.ref A.b_Paper) = true
  S_Stays : MyP.SupC K A.c_Stays A.c_Stays A.i_Paper
  FC_Stays : ∃ fd, MyP.FunC K "__init__" "Stays.__init__" s_Stays_init A.i_Stays fd A.c_Stays
  kP_Stays : PySem.W.kitOne K (.ref A.c_Stays) (.ref A.c_Paper) = some true
  kD_Stays : PySem.W.kitOne K (.ref A.c_Stays) (.ref A.c_Denial) = some false
  tn_Stays : PySem.W.notFirst K A.c_Stays (.type "tuple") = true
  m_Slips : mg "Slips" = some (.ref A.c_Slips)
  O_Slips : MyP.OwnC K A.c_Slips "Slips"
  Mk_Slips : Mk K A.c_Slips A.i_Slips
  n_Slips : ∀ f ∈ (["word", "parts", "first", "states", "pages"] : List PySem.Str), NoAttr K A.c_Slips f
  q_Slips : PySem.W.findIn K (.ref A.c_Slips) "__eq__" = some (some (.ref A.q))
  b_Slips : PySem.W.findIn K (.ref A.c_Slips) "__bool__" = some (some (.ref A.b_Denial)) ∧ PySem.W.isFn K (.ref A.b_Denial) = true
  S_Slips : MyP.SupC K A.c_Slips A.c_Slips A.i_Paper
  FC_Slips : ∃ fd, MyP.FunC K "__init__" "Slips.__init__" s_Slips_init A.i_Slips fd A.c_Slips
  kP_Slips : PySem.W.kitOne K (.ref A.c_Slips) (.ref A.c_Paper) = some true
  kD_Slips : PySem.W.kitOne K (.ref A.c_Slips) (.ref A.c_Denial) = some true
  tn_Slips : PySem.W.notFirst K A.c_Slips (.type "tuple") = true
  m_Firm : mg "Firm" = some (.ref A.c_Firm)
  O_Firm : MyP.OwnC K A.c_Firm "Firm"
  Mk_Firm : Mk K A.c_Firm A.i_Firm
  n_Firm : ∀ f ∈ (["word", "parts", "pages", "entries", "cases"] : List PySem.Str), NoAttr K A.c_Firm f
  q_Firm : PySem.W.findIn K (.ref A.c_Firm) "__eq__" = some (some (.ref A.q))
  b_Firm : PySem.W.findIn K (.ref A.c_Firm) "__bool__" = some (some (.ref A.b_Paper)) ∧ PySem.W.isFn K (.ref A.b_Paper) = true
  S_Firm : MyP.SupC K A.c_Firm A.c_Firm A.i_Paper
  FC_Firm : ∃ fd, MyP.FunC K "__init__" "Firm.__init__" s_Firm_init A.i_Firm fd A.c_Firm
  kP_Firm : PySem.W.kitOne K (.ref A.c_Firm) (.ref A.c_Paper) = some true
  kD_Firm : PySem.W.kitOne K (.ref A.c_Firm) (.ref A.c_Denial) = some false
  tn_Firm : PySem.W.notFirst K A.c_Firm (.type "tuple") = true
  m_Unfirm : mg "Unfirm" = some (.ref A.c_Unfirm)
  O_Unfirm : MyP.OwnC K A.c_Unfirm "Unfirm"
  Mk_Unfirm : Mk K A.c_Unfirm A.i_Unfirm
  n_Unfirm : ∀ f ∈ (["word", "parts", "pages", "lines"] : List PySem.Str), NoAttr K A.c_Unfirm f
  q_Unfirm : PySem.W.findIn K (.ref A.c_Unfirm) "__eq__" = some (some (.ref A.q))
  b_Unfirm : PySem.W.findIn K (.ref A.c_Unfirm) "__bool__" = some (some (.ref A.b_Denial)) ∧ PySem.W.isFn K (.ref A.b_Denial) = true
  S_Unfirm : MyP.SupC K A.c_Unfirm A.c_Unfirm A.i_Paper
  FC_Unfirm : ∃ fd, MyP.FunC K "__init__" "Unfirm.__init__" s_Unfirm_init A.i_Unfirm fd A.c_Unfirm
  kP_Unfirm : PySem.W.kitOne K (.ref A.c_Unfirm) (.ref A.c_Paper) = some true
  kD_Unfirm : PySem.W.kitOne K (.ref A.c_Unfirm) (.ref A.c_Denial) = some true
  tn_Unfirm : PySem.W.notFirst K A.c_Unfirm (.type "tuple") = true
  m_Steady : mg "Steady" = some (.ref A.c_Steady)
  O_Steady : MyP.OwnC K A.c_Steady "Steady"
  Mk_Steady : Mk K A.c_Steady A.i_Steady
  n_Steady : ∀ f ∈ (["word", "parts", "number", "firm", "unfirm"] : List PySem.Str), NoAttr K A.c_Steady f
  q_Steady : PySem.W.findIn K (.ref A.c_Steady) "__eq__" = some (some (.ref A.q))
  b_Steady : PySem.W.findIn K (.ref A.c_Steady) "__bool__" = some (some (.ref A.b_Paper)) ∧ PySem.W.isFn K (.ref A.b_Paper) = true
  S_Steady : MyP.SupC K A.c_Steady A.c_Steady A.i_Paper
  FC_Steady : ∃ fd, MyP.FunC K "__init__" "Steady.__init__" s_Steady_init A.i_Steady fd A.c_Steady
  kP_Steady : PySem.W.kitOne K (.ref A.c_Steady) (.ref A.c_Paper) = some true
  kD_Steady : PySem.W.kitOne K (.ref A.c_Steady) (.ref A.c_Denial) = some false
  tn_Steady : PySem.W.notFirst K A.c_Steady (.type "tuple") = true
  isq : PySem.W.isFn K (.ref A.q) = true
  FQ : ∃ fd, Fun K "__eq__" "Paper.__eq__" s_Paper_eq A.q fd
  FI : ∃ fd, Fun K "__init__" "Paper.__init__" s_Paper_init A.i_Paper fd
  FBP : ∃ fd, Fun K "__bool__" "Paper.__bool__" s_Paper_bool A.b_Paper fd
  FBD : ∃ fd, Fun K "__bool__" "Denial.__bool__" s_Denial_bool A.b_Denial fd
  pair : ∀ C ∈ [A.c_Paper, A.c_Denial, A.c_Safe, A.c_Unsafe, A.c_Held, A.c_Lost, A.c_Shared, A.c_Parting, A.c_Serves, A.c_Lacks, A.c_Holds, A.c_Broken, A.c_Uncovered, A.c_Delay, A.c_Ring, A.c_Refusal, A.c_Patience, A.c_Never, A.c_DelayFront, A.c_Handed, A.c_Dropped, A.c_Implied, A.c_Apart, A.c_Kept, A.c_Least, A.c_Losing, A.c_SureTime, A.c_MomentFront, A.c_PromiseFront, A.c_SightFront, A.c_Stays, A.c_Slips, A.c_Firm, A.c_Unfirm, A.c_Steady], ∀ C2 ∈ [A.c_Paper, A.c_Denial, A.c_Safe, A.c_Unsafe, A.c_Held, A.c_Lost, A.c_Shared, A.c_Parting, A.c_Serves, A.c_Lacks, A.c_Holds, A.c_Broken, A.c_Uncovered, A.c_Delay, A.c_Ring, A.c_Refusal, A.c_Patience, A.c_Never, A.c_DelayFront, A.c_Handed, A.c_Dropped, A.c_Implied, A.c_Apart, A.c_Kept, A.c_Least, A.c_Losing, A.c_SureTime, A.c_MomentFront, A.c_PromiseFront, A.c_SightFront, A.c_Stays, A.c_Slips, A.c_Firm, A.c_Unfirm, A.c_Steady], MyG.PairOk K C C2
  kT : PySem.W.kitOne K (.type "tuple") (.ref A.c_Paper) = some false
  sm : ∃ o, K.lookup sysModules = some o
  S0 : MyP.Sup0 K mg
  n_len : mg "len" = none
  n_int : mg "int" = none
  n_abs : mg "abs" = none
  n_isinstance : mg "isinstance" = none
  n_range : mg "range" = none
  n_repr : mg "repr" = none
  n_tuple : mg "tuple" = none
  n_list : mg "list" = none
  n_sorted : mg "sorted" = none
  n_bool : mg "bool" = none
  n_dict : mg "dict" = none
  n_enumerate : mg "enumerate" = none
end K56

namespace K56
open PySem PySem.Spec PyProof.Rows L2 MyL MyH He
def chk : List MyH.Chk := [fun K => (Fa.glo "fixed").ok K,
  fun K => (Fa.glo "_law_font").ok K,
  fun K => (Fa.glo "_law_drip").ok K,
  fun K => (Fa.glo "_law_fill").ok K,
  fun K => (Fa.glo "_law_value").ok K,
  fun K => (Fa.glo "_law_ones").ok K,
  fun K => (Fa.glo "_law_twos").ok K,
  fun K => (Fa.glo "_law_threes").ok K,
  fun K => (Fa.glo "_law_more").ok K,
  fun K => (Fa.glo "_law_rows_right").ok K,
  fun K => (Fa.glo "_law_unlike_right").ok K,
  fun K => (Fa.glo "law").ok K,
  fun K => (Fa.free "len").ok K,
  fun K => (Fa.free "int").ok K,
  fun K => (Fa.free "abs").ok K,
  fun K => (Fa.free "isinstance").ok K,
  fun K => (Fa.free "range").ok K,
  fun K => (Fa.free "repr").ok K,
  fun K => (Fa.free "tuple").ok K,
  fun K => (Fa.free "list").ok K,
  fun K => (Fa.free "sorted").ok K,
  fun K => (Fa.free "bool").ok K,
  fun K => (Fa.free "dict").ok K,
  fun K => (Fa.free "enumerate").ok K,
  fun K => (Fa.glo "Paper").ok K,
  fun K => MyG.ownB K (ga K "Paper") "Paper",
  fun K => MyG.mkB K (ga K "Paper") (ma K (ga K "Paper") "__init__"),
  fun K => MyG.noB K (ga K "Paper") ["word", "parts"],
  fun K => MyG.fmB K (ga K "Paper") "__eq__" (ma K (ga K "Paper") "__eq__"),
  fun K => MyG.fmB K (ga K "Paper") "__bool__" (ma K (ga K "Paper") "__bool__"),
  fun K => decide (PySem.W.kitOne K (.ref (ga K "Paper")) (.ref (ga K "Paper")) = some true),
  fun K => decide (PySem.W.kitOne K (.ref (ga K "Paper")) (.ref (ga K "Denial")) = some false),
  fun K => PySem.W.notFirst K (ga K "Paper") (.type "tuple"),
  fun K => (Fa.glo "Denial").ok K,
  fun K => MyG.ownB K (ga K "Denial") "Denial",
  fun K => MyG.mkB K (ga K "Denial") (ma K (ga K "Paper") "__init__"),
  fun K => MyG.noB K (ga K "Denial") ["word", "parts"],
  fun K => MyG.fmB K (ga K "Denial") "__eq__" (ma K (ga K "Paper") "__eq__"),
  fun K => MyG.fmB K (ga K "Denial") "__bool__" (ma K (ga K "Denial") "__bool__"),
  fun K => decide (PySem.W.kitOne K (.ref (ga K "Denial")) (.ref (ga K "Paper")) = some true),
  fun K => decide (PySem.W.kitOne K (.ref (ga K "Denial")) (.ref (ga K "Denial")) = some true),
  fun K => PySem.W.notFirst K (ga K "Denial") (.type "tuple"),
  fun K => (Fa.glo "Safe").ok K,
  fun K => MyG.ownB K (ga K "Safe") "Safe",
  fun K => MyG.mkB K (ga K "Safe") (ma K (ga K "Safe") "__init__"),
  fun K => MyG.noB K (ga K "Safe") ["word", "parts", "stands"],
  fun K => MyG.fmB K (ga K "Safe") "__eq__" (ma K (ga K "Paper") "__eq__"),
  fun K => MyG.fmB K (ga K "Safe") "__bool__" (ma K (ga K "Paper") "__bool__"),
  fun K => MyG.supB K (ga K "Safe") (ga K "Safe") (ma K (ga K "Paper") "__init__"),
  fun K => decide (PySem.W.kitOne K (.ref (ga K "Safe")) (.ref (ga K "Paper")) = some true),
  fun K => decide (PySem.W.kitOne K (.ref (ga K "Safe")) (.ref (ga K "Denial")) = some false),
  fun K => PySem.W.notFirst K (ga K "Safe") (.type "tuple"),
  fun K => (Fa.glo "Unsafe").ok K,
  fun K => MyG.ownB K (ga K "Unsafe") "Unsafe",
  fun K => MyG.mkB K (ga K "Unsafe") (ma K (ga K "Unsafe") "__init__"),
  fun K => MyG.noB K (ga K "Unsafe") ["word", "parts", "states", "deeds"],
  fun K => MyG.fmB K (ga K "Unsafe") "__eq__" (ma K (ga K "Paper") "__eq__"),
  fun K => MyG.fmB K (ga K "Unsafe") "__bool__" (ma K (ga K "Denial") "__bool__"),
  fun K => MyG.supB K (ga K "Unsafe") (ga K "Unsafe") (ma K (ga K "Paper") "__init__"),
  fun K => decide (PySem.W.kitOne K (.ref (ga K "Unsafe")) (.ref (ga K "Paper")) = some true),
  fun K => decide (PySem.W.kitOne K (.ref (ga K "Unsafe")) (.ref (ga K "Denial")) = some true),
  fun K => PySem.W.notFirst K (ga K "Unsafe") (.type "tuple"),
  fun K => (Fa.glo "Held").ok K,
  fun K => MyG.ownB K (ga K "Held") "Held",
  fun K => MyG.mkB K (ga K "Held") (ma K (ga K "Held") "__init__"),
  fun K => MyG.noB K (ga K "Held") ["word", "parts", "pages", "entries"],
  fun K => MyG.fmB K (ga K "Held") "__eq__" (ma K (ga K "Paper") "__eq__"),
  fun K => MyG.fmB K (ga K "Held") "__bool__" (ma K (ga K "Paper") "__bool__"),
  fun K => MyG.supB K (ga K "Held") (ga K "Held") (ma K (ga K "Paper") "__init__"),
  fun K => decide (PySem.W.kitOne K (.ref (ga K "Held")) (.ref (ga K "Paper")) = some true),
  fun K => decide (PySem.W.kitOne K (.ref (ga K "Held")) (.ref (ga K "Denial")) = some false),
  fun K => PySem.W.notFirst K (ga K "Held") (.type "tuple"),
  fun K => (Fa.glo "Lost").ok K,
  fun K => MyG.ownB K (ga K "Lost") "Lost",
  fun K => MyG.mkB K (ga K "Lost") (ma K (ga K "Lost") "__init__"),
  fun K => MyG.noB K (ga K "Lost") ["word", "parts", "number", "ranked", "kept"],
  fun K => MyG.fmB K (ga K "Lost") "__eq__" (ma K (ga K "Paper") "__eq__"),
  fun K => MyG.fmB K (ga K "Lost") "__bool__" (ma K (ga K "Denial") "__bool__"),
  fun K => MyG.supB K (ga K "Lost") (ga K "Lost") (ma K (ga K "Paper") "__init__"),
  fun K => decide (PySem.W.kitOne K (.ref (ga K "Lost")) (.ref (ga K "Paper")) = some true),
  fun K => decide (PySem.W.kitOne K (.ref (ga K "Lost")) (.ref (ga K "Denial")) = some true),
  fun K => PySem.W.notFirst K (ga K "Lost") (.type "tuple"),
  fun K => (Fa.glo "Shared").ok K,
  fun K => MyG.ownB K (ga K "Shared") "Shared",
  fun K => MyG.mkB K (ga K "Shared") (ma K (ga K "Shared") "__init__"),
  fun K => MyG.noB K (ga K "Shared") ["word", "parts", "pairs"],
  fun K => MyG.fmB K (ga K "Shared") "__eq__" (ma K (ga K "Paper") "__eq__"),
  fun K => MyG.fmB K (ga K "Shared") "__bool__" (ma K (ga K "Paper") "__bool__"),
  fun K => MyG.supB K (ga K "Shared") (ga K "Shared") (ma K (ga K "Paper") "__init__"),
  fun K => decide (PySem.W.kitOne K (.ref (ga K "Shared")) (.ref (ga K "Paper")) = some true),
  fun K => decide (PySem.W.kitOne K (.ref (ga K "Shared")) (.ref (ga K "Denial")) = some false),
  fun K => PySem.W.notFirst K (ga K "Shared") (.type "tuple"),
  fun K => (Fa.glo "Parting").ok K,
  fun K => MyG.ownB K (ga K "Parting") "Parting",
  fun K => MyG.mkB K (ga K "Parting") (ma K (ga K "Parting") "__init__"),
  fun K => MyG.noB K (ga K "Parting") ["word", "parts", "row", "way", "sets"],
  fun K => MyG.fmB K (ga K "Parting") "__eq__" (ma K (ga K "Paper") "__eq__"),
  fun K => MyG.fmB K (ga K "Parting") "__bool__" (ma K (ga K "Denial") "__bool__"),
  fun K => MyG.supB K (ga K "Parting") (ga K "Parting") (ma K (ga K "Paper") "__init__"),
  fun K => decide (PySem.W.kitOne K (.ref (ga K "Parting")) (.ref (ga K "Paper")) = some true),
  fun K => decide (PySem.W.kitOne K (.ref (ga K "Parting")) (.ref (ga K "Denial")) = some true),
  fun K => PySem.W.notFirst K (ga K "Parting") (.type "tuple"),
  fun K => (Fa.glo "Serves").ok K,
  fun K => MyG.ownB K (ga K "Serves") "Serves",
  fun K => MyG.mkB K (ga K "Serves") (ma K (ga K "Serves") "__init__"),
  fun K => MyG.noB K (ga K "Serves") ["word", "parts", "spots"],
  fun K => MyG.fmB K (ga K "Serves") "__eq__" (ma K (ga K "Paper") "__eq__"),
  fun K => MyG.fmB K (ga K "Serves") "__bool__" (ma K (ga K "Paper") "__bool__"),
  fun K => MyG.supB K (ga K "Serves") (ga K "Serves") (ma K (ga K "Paper") "__init__"),
  fun K => decide (PySem.W.kitOne K (.ref (ga K "Serves")) (.ref (ga K "Paper")) = some true),
  fun K => decide (PySem.W.kitOne K (.ref (ga K "Serves")) (.ref (ga K "Denial")) = some false),
  fun K => PySem.W.notFirst K (ga K "Serves") (.type "tuple"),
  fun K => (Fa.glo "Lacks").ok K,
  fun K => MyG.ownB K (ga K "Lacks") "Lacks",
  fun K => MyG.mkB K (ga K "Lacks") (ma K (ga K "Lacks") "__init__"),
  fun K => MyG.noB K (ga K "Lacks") ["word", "parts", "page", "sight", "states"],
  fun K => MyG.fmB K (ga K "Lacks") "__eq__" (ma K (ga K "Paper") "__eq__"),
  fun K => MyG.fmB K (ga K "Lacks") "__bool__" (ma K (ga K "Denial") "__bool__"),
  fun K => MyG.supB K (ga K "Lacks") (ga K "Lacks") (ma K (ga K "Paper") "__init__"),
  fun K => decide (PySem.W.kitOne K (.ref (ga K "Lacks")) (.ref (ga K "Paper")) = some true),
  fun K => decide (PySem.W.kitOne K (.ref (ga K "Lacks")) (.ref (ga K "Denial")) = some true),
  fun K => PySem.W.notFirst K (ga K "Lacks") (.type "tuple"),
  fun K => (Fa.glo "Holds").ok K,
  fun K => MyG.ownB K (ga K "Holds") "Holds",
  fun K => MyG.mkB K (ga K "Holds") (ma K (ga K "Holds") "__init__"),
  fun K => MyG.noB K (ga K "Holds") ["word", "parts", "triples"],
  fun K => MyG.fmB K (ga K "Holds") "__eq__" (ma K (ga K "Paper") "__eq__"),
  fun K => MyG.fmB K (ga K "Holds") "__bool__" (ma K (ga K "Paper") "__bool__"),
  fun K => MyG.supB K (ga K "Holds") (ga K "Holds") (ma K (ga K "Paper") "__init__"),
  fun K => decide (PySem.W.kitOne K (.ref (ga K "Holds")) (.ref (ga K "Paper")) = some true),
  fun K => decide (PySem.W.kitOne K (.ref (ga K "Holds")) (.ref (ga K "Denial")) = some false),
  fun K => PySem.W.notFirst K (ga K "Holds") (.type "tuple"),
  fun K => (Fa.glo "Broken").ok K,
  fun K => MyG.ownB K (ga K "Broken") "Broken",
  fun K => MyG.mkB K (ga K "Broken") (ma K (ga K "Broken") "__init__"),
  fun K => MyG.noB K (ga K "Broken") ["word", "parts", "first", "states"],
  fun K => MyG.fmB K (ga K "Broken") "__eq__" (ma K (ga K "Paper") "__eq__"),
  fun K => MyG.fmB K (ga K "Broken") "__bool__" (ma K (ga K "Denial") "__bool__"),
  fun K => MyG.supB K (ga K "Broken") (ga K "Broken") (ma K (ga K "Paper") "__init__"),
  fun K => decide (PySem.W.kitOne K (.ref (ga K "Broken")) (.ref (ga K "Paper")) = some true),
  fun K => decide (PySem.W.kitOne K (.ref (ga K "Broken")) (.ref (ga K "Denial")) = some true),
  fun K => PySem.W.notFirst K (ga K "Broken") (.type "tuple"),
  fun K => (Fa.glo "Uncovered").ok K,
  fun K => MyG.ownB K (ga K "Uncovered") "Uncovered",
  fun K => MyG.mkB K (ga K "Uncovered") (ma K (ga K "Uncovered") "__init__"),
  fun K => MyG.noB K (ga K "Uncovered") ["word", "parts", "page", "sight"],
  fun K => MyG.fmB K (ga K "Uncovered") "__eq__" (ma K (ga K "Paper") "__eq__"),
  fun K => MyG.fmB K (ga K "Uncovered") "__bool__" (ma K (ga K "Denial") "__bool__"),
  fun K => MyG.supB K (ga K "Uncovered") (ga K "Uncovered") (ma K (ga K "Paper") "__init__"),
  fun K => decide (PySem.W.kitOne K (.ref (ga K "Uncovered")) (.ref (ga K "Paper")) = some true),
  fun K => decide (PySem.W.kitOne K (.ref (ga K "Uncovered")) (.ref (ga K "Denial")) = some true),
  fun K => PySem.W.notFirst K (ga K "Uncovered") (.type "tuple"),
  fun K => (Fa.glo "Delay").ok K,
  fun K => MyG.ownB K (ga K "Delay") "Delay",
  fun K => MyG.mkB K (ga K "Delay") (ma K (ga K "Delay") "__init__"),
  fun K => MyG.noB K (ga K "Delay") ["word", "parts", "number", "heights", "play"],
  fun K => MyG.fmB K (ga K "Delay") "__eq__" (ma K (ga K "Paper") "__eq__"),
  fun K => MyG.fmB K (ga K "Delay") "__bool__" (ma K (ga K "Paper") "__bool__"),
  fun K => MyG.supB K (ga K "Delay") (ga K "Delay") (ma K (ga K "Paper") "__init__"),
  fun K => decide (PySem.W.kitOne K (.ref (ga K "Delay")) (.ref (ga K "Paper")) = some true),
  fun K => decide (PySem.W.kitOne K (.ref (ga K "Delay")) (.ref (ga K "Denial")) = some false),
  fun K => PySem.W.notFirst K (ga K "Delay") (.type "tuple"),
  fun K => (Fa.glo "Ring").ok K,
  fun K => MyG.ownB K (ga K "Ring") "Ring",
  fun K => MyG.mkB K (ga K "Ring") (ma K (ga K "Ring") "__init__"),
  fun K => MyG.noB K (ga K "Ring") ["word", "parts", "play", "at"],
  fun K => MyG.fmB K (ga K "Ring") "__eq__" (ma K (ga K "Paper") "__eq__"),
  fun K => MyG.fmB K (ga K "Ring") "__bool__" (ma K (ga K "Denial") "__bool__"),
  fun K => MyG.supB K (ga K "Ring") (ga K "Ring") (ma K (ga K "Paper") "__init__"),
  fun K => decide (PySem.W.kitOne K (.ref (ga K "Ring")) (.ref (ga K "Paper")) = some true),
  fun K => decide (PySem.W.kitOne K (.ref (ga K "Ring")) (.ref (ga K "Denial")) = some true),
  fun K => PySem.W.notFirst K (ga K "Ring") (.type "tuple"),
  fun K => (Fa.glo "Refusal").ok K,
  fun K => MyG.ownB K (ga K "Refusal") "Refusal",
  fun K => MyG.mkB K (ga K "Refusal") (ma K (ga K "Refusal") "__init__"),
  fun K => MyG.noB K (ga K "Refusal") ["word", "parts", "pages", "tree"],
  fun K => MyG.fmB K (ga K "Refusal") "__eq__" (ma K (ga K "Paper") "__eq__"),
  fun K => MyG.fmB K (ga K "Refusal") "__bool__" (ma K (ga K "Denial") "__bool__"),
  fun K => MyG.supB K (ga K "Refusal") (ga K "Refusal") (ma K (ga K "Paper") "__init__"),
  fun K => decide (PySem.W.kitOne K (.ref (ga K "Refusal")) (.ref (ga K "Paper")) = some true),
  fun K => decide (PySem.W.kitOne K (.ref (ga K "Refusal")) (.ref (ga K "Denial")) = some true),
  fun K => PySem.W.notFirst K (ga K "Refusal") (.type "tuple"),
  fun K => (Fa.glo "Patience").ok K,
  fun K => MyG.ownB K (ga K "Patience") "Patience",
  fun K => MyG.mkB K (ga K "Patience") (ma K (ga K "Patience") "__init__"),
  fun K => MyG.noB K (ga K "Patience") ["word", "parts", "number", "table", "delay", "tree"],
  fun K => MyG.fmB K (ga K "Patience") "__eq__" (ma K (ga K "Paper") "__eq__"),
  fun K => MyG.fmB K (ga K "Patience") "__bool__" (ma K (ga K "Paper") "__bool__"),
  fun K => MyG.supB K (ga K "Patience") (ga K "Patience") (ma K (ga K "Paper") "__init__"),
  fun K => decide (PySem.W.kitOne K (.ref (ga K "Patience")) (.ref (ga K "Paper")) = some true),
  fun K => decide (PySem.W.kitOne K (.ref (ga K "Patience")) (.ref (ga K "Denial")) = some false),
  fun K => PySem.W.notFirst K (ga K "Patience") (.type "tuple"),
  fun K => (Fa.glo "Never").ok K,
  fun K => MyG.ownB K (ga K "Never") "Never",
  fun K => MyG.mkB K (ga K "Never") (ma K (ga K "Never") "__init__"),
  fun K => MyG.noB K (ga K "Never") ["word", "parts", "tree"],
  fun K => MyG.fmB K (ga K "Never") "__eq__" (ma K (ga K "Paper") "__eq__"),
  fun K => MyG.fmB K (ga K "Never") "__bool__" (ma K (ga K "Denial") "__bool__"),
  fun K => MyG.supB K (ga K "Never") (ga K "Never") (ma K (ga K "Paper") "__init__"),
  fun K => decide (PySem.W.kitOne K (.ref (ga K "Never")) (.ref (ga K "Paper")) = some true),
  fun K => decide (PySem.W.kitOne K (.ref (ga K "Never")) (.ref (ga K "Denial")) = some true),
  fun K => PySem.W.notFirst K (ga K "Never") (.type "tuple"),
  fun K => (Fa.glo "DelayFront").ok K,
  fun K => MyG.ownB K (ga K "DelayFront") "DelayFront",
  fun K => MyG.mkB K (ga K "DelayFront") (ma K (ga K "DelayFront") "__init__"),
  fun K => MyG.noB K (ga K "DelayFront") ["word", "parts", "points", "never", "steps"],
  fun K => MyG.fmB K (ga K "DelayFront") "__eq__" (ma K (ga K "Paper") "__eq__"),
  fun K => MyG.fmB K (ga K "DelayFront") "__bool__" (ma K (ga K "Paper") "__bool__"),
  fun K => MyG.supB K (ga K "DelayFront") (ga K "DelayFront") (ma K (ga K "Paper") "__init__"),
  fun K => decide (PySem.W.kitOne K (.ref (ga K "DelayFront")) (.ref (ga K "Paper")) = some true),
  fun K => decide (PySem.W.kitOne K (.ref (ga K "DelayFront")) (.ref (ga K "Denial")) = some false),
  fun K => PySem.W.notFirst K (ga K "DelayFront") (.type "tuple"),
  fun K => (Fa.glo "Handed").ok K,
  fun K => MyG.ownB K (ga K "Handed") "Handed",
  fun K => MyG.mkB K (ga K "Handed") (ma K (ga K "Handed") "__init__"),
  fun K => MyG.noB K (ga K "Handed") ["word", "parts", "closed"],
  fun K => MyG.fmB K (ga K "Handed") "__eq__" (ma K (ga K "Paper") "__eq__"),
  fun K => MyG.fmB K (ga K "Handed") "__bool__" (ma K (ga K "Paper") "__bool__"),
  fun K => MyG.supB K (ga K "Handed") (ga K "Handed") (ma K (ga K "Paper") "__init__"),
  fun K => decide (PySem.W.kitOne K (.ref (ga K "Handed")) (.ref (ga K "Paper")) = some true),
  fun K => decide (PySem.W.kitOne K (.ref (ga K "Handed")) (.ref (ga K "Denial")) = some false),
  fun K => PySem.W.notFirst K (ga K "Handed") (.type "tuple"),
  fun K => (Fa.glo "Dropped").ok K,
  fun K => MyG.ownB K (ga K "Dropped") "Dropped",
  fun K => MyG.mkB K (ga K "Dropped") (ma K (ga K "Dropped") "__init__"),
  fun K => MyG.noB K (ga K "Dropped") ["word", "parts", "first", "states", "places"],
  fun K => MyG.fmB K (ga K "Dropped") "__eq__" (ma K (ga K "Paper") "__eq__"),
  fun K => MyG.fmB K (ga K "Dropped") "__bool__" (ma K (ga K "Denial") "__bool__"),
  fun K => MyG.supB K (ga K "Dropped") (ga K "Dropped") (ma K (ga K "Paper") "__init__"),
  fun K => decide (PySem.W.kitOne K (.ref (ga K "Dropped")) (.ref (ga K "Paper")) = some true),
  fun K => decide (PySem.W.kitOne K (.ref (ga K "Dropped")) (.ref (ga K "Denial")) = some true),
  fun K => PySem.W.notFirst K (ga K "Dropped") (.type "tuple"),
  fun K => (Fa.glo "Implied").ok K,
  fun K => MyG.ownB K (ga K "Implied") "Implied",
  fun K => MyG.mkB K (ga K "Implied") (ma K (ga K "Implied") "__init__"),
  fun K => MyG.noB K (ga K "Implied") ["word", "parts", "pairs"],
  fun K => MyG.fmB K (ga K "Implied") "__eq__" (ma K (ga K "Paper") "__eq__"),
  fun K => MyG.fmB K (ga K "Implied") "__bool__" (ma K (ga K "Paper") "__bool__"),
  fun K => MyG.supB K (ga K "Implied") (ga K "Implied") (ma K (ga K "Paper") "__init__"),
  fun K => decide (PySem.W.kitOne K (.ref (ga K "Implied")) (.ref (ga K "Paper")) = some true),
  fun K => decide (PySem.W.kitOne K (.ref (ga K "Implied")) (.ref (ga K "Denial")) = some false),
  fun K => PySem.W.notFirst K (ga K "Implied") (.type "tuple"),
  fun K => (Fa.glo "Apart").ok K,
  fun K => MyG.ownB K (ga K "Apart") "Apart",
  fun K => MyG.mkB K (ga K "Apart") (ma K (ga K "Apart") "__init__"),
  fun K => MyG.noB K (ga K "Apart") ["word", "parts", "reading", "ring"],
  fun K => MyG.fmB K (ga K "Apart") "__eq__" (ma K (ga K "Paper") "__eq__"),
  fun K => MyG.fmB K (ga K "Apart") "__bool__" (ma K (ga K "Denial") "__bool__"),
  fun K => MyG.supB K (ga K "Apart") (ga K "Apart") (ma K (ga K "Paper") "__init__"),
  fun K => decide (PySem.W.kitOne K (.ref (ga K "Apart")) (.ref (ga K "Paper")) = some true),
  fun K => decide (PySem.W.kitOne K (.ref (ga K "Apart")) (.ref (ga K "Denial")) = some true),
  fun K => PySem.W.notFirst K (ga K "Apart") (.type "tuple"),
  fun K => (Fa.glo "Kept").ok K,
  fun K => MyG.ownB K (ga K "Kept") "Kept",
  fun K => MyG.mkB K (ga K "Kept") (ma K (ga K "Kept") "__init__"),
  fun K => MyG.noB K (ga K "Kept") ["word", "parts", "pages", "entries", "triples"],
  fun K => MyG.fmB K (ga K "Kept") "__eq__" (ma K (ga K "Paper") "__eq__"),
  fun K => MyG.fmB K (ga K "Kept") "__bool__" (ma K (ga K "Paper") "__bool__"),
  fun K => MyG.supB K (ga K "Kept") (ga K "Kept") (ma K (ga K "Paper") "__init__"),
  fun K => decide (PySem.W.kitOne K (.ref (ga K "Kept")) (.ref (ga K "Paper")) = some true),
  fun K => decide (PySem.W.kitOne K (.ref (ga K "Kept")) (.ref (ga K "Denial")) = some false),
  fun K => PySem.W.notFirst K (ga K "Kept") (.type "tuple"),
  fun K => (Fa.glo "Least").ok K,
  fun K => MyG.ownB K (ga K "Least") "Least",
  fun K => MyG.mkB K (ga K "Least") (ma K (ga K "Least") "__init__"),
  fun K => MyG.noB K (ga K "Least") ["word", "parts", "number", "kept", "refusal"],
  fun K => MyG.fmB K (ga K "Least") "__eq__" (ma K (ga K "Paper") "__eq__"),
  fun K => MyG.fmB K (ga K "Least") "__bool__" (ma K (ga K "Paper") "__bool__"),
  fun K => MyG.supB K (ga K "Least") (ga K "Least") (ma K (ga K "Paper") "__init__"),
  fun K => decide (PySem.W.kitOne K (.ref (ga K "Least")) (.ref (ga K "Paper")) = some true),
  fun K => decide (PySem.W.kitOne K (.ref (ga K "Least")) (.ref (ga K "Denial")) = some false),
  fun K => PySem.W.notFirst K (ga K "Least") (.type "tuple"),
  fun K => (Fa.glo "Losing").ok K,
  fun K => MyG.ownB K (ga K "Losing") "Losing",
  fun K => MyG.mkB K (ga K "Losing") (ma K (ga K "Losing") "__init__"),
  fun K => MyG.noB K (ga K "Losing") ["word", "parts", "first", "states", "pages", "deeds", "places"],
  fun K => MyG.fmB K (ga K "Losing") "__eq__" (ma K (ga K "Paper") "__eq__"),
  fun K => MyG.fmB K (ga K "Losing") "__bool__" (ma K (ga K "Paper") "__bool__"),
  fun K => MyG.supB K (ga K "Losing") (ga K "Losing") (ma K (ga K "Paper") "__init__"),
  fun K => decide (PySem.W.kitOne K (.ref (ga K "Losing")) (.ref (ga K "Paper")) = some true),
  fun K => decide (PySem.W.kitOne K (.ref (ga K "Losing")) (.ref (ga K "Denial")) = some false),
  fun K => PySem.W.notFirst K (ga K "Losing") (.type "tuple"),
  fun K => (Fa.glo "SureTime").ok K,
  fun K => MyG.ownB K (ga K "SureTime") "SureTime",
  fun K => MyG.mkB K (ga K "SureTime") (ma K (ga K "SureTime") "__init__"),
  fun K => MyG.noB K (ga K "SureTime") ["word", "parts", "number", "table", "tree"],
  fun K => MyG.fmB K (ga K "SureTime") "__eq__" (ma K (ga K "Paper") "__eq__"),
  fun K => MyG.fmB K (ga K "SureTime") "__bool__" (ma K (ga K "Paper") "__bool__"),
  fun K => MyG.supB K (ga K "SureTime") (ga K "SureTime") (ma K (ga K "Paper") "__init__"),
  fun K => decide (PySem.W.kitOne K (.ref (ga K "SureTime")) (.ref (ga K "Paper")) = some true),
  fun K => decide (PySem.W.kitOne K (.ref (ga K "SureTime")) (.ref (ga K "Denial")) = some false),
  fun K => PySem.W.notFirst K (ga K "SureTime") (.type "tuple"),
  fun K => (Fa.glo "MomentFront").ok K,
  fun K => MyG.ownB K (ga K "MomentFront") "MomentFront",
  fun K => MyG.mkB K (ga K "MomentFront") (ma K (ga K "MomentFront") "__init__"),
  fun K => MyG.noB K (ga K "MomentFront") ["word", "parts", "points", "steps", "kept"],
  fun K => MyG.fmB K (ga K "MomentFront") "__eq__" (ma K (ga K "Paper") "__eq__"),
  fun K => MyG.fmB K (ga K "MomentFront") "__bool__" (ma K (ga K "Paper") "__bool__"),
  fun K => MyG.supB K (ga K "MomentFront") (ga K "MomentFront") (ma K (ga K "Paper") "__init__"),
  fun K => decide (PySem.W.kitOne K (.ref (ga K "MomentFront")) (.ref (ga K "Paper")) = some true),
  fun K => decide (PySem.W.kitOne K (.ref (ga K "MomentFront")) (.ref (ga K "Denial")) = some false),
  fun K => PySem.W.notFirst K (ga K "MomentFront") (.type "tuple"),
  fun K => (Fa.glo "PromiseFront").ok K,
  fun K => MyG.ownB K (ga K "PromiseFront") "PromiseFront",
  fun K => MyG.mkB K (ga K "PromiseFront") (ma K (ga K "PromiseFront") "__init__"),
  fun K => MyG.noB K (ga K "PromiseFront") ["word", "parts", "held", "short"],
  fun K => MyG.fmB K (ga K "PromiseFront") "__eq__" (ma K (ga K "Paper") "__eq__"),
  fun K => MyG.fmB K (ga K "PromiseFront") "__bool__" (ma K (ga K "Paper") "__bool__"),
  fun K => MyG.supB K (ga K "PromiseFront") (ga K "PromiseFront") (ma K (ga K "Paper") "__init__"),
  fun K => decide (PySem.W.kitOne K (.ref (ga K "PromiseFront")) (.ref (ga K "Paper")) = some true),
  fun K => decide (PySem.W.kitOne K (.ref (ga K "PromiseFront")) (.ref (ga K "Denial")) = some false),
  fun K => PySem.W.notFirst K (ga K "PromiseFront") (.type "tuple"),
  fun K => (Fa.glo "SightFront").ok K,
  fun K => MyG.ownB K (ga K "SightFront") "SightFront",
  fun K => MyG.mkB K (ga K "SightFront") (ma K (ga K "SightFront") "__init__"),
  fun K => MyG.noB K (ga K "SightFront") ["word", "parts", "enough", "short"],
  fun K => MyG.fmB K (ga K "SightFront") "__eq__" (ma K (ga K "Paper") "__eq__"),
  fun K => MyG.fmB K (ga K "SightFront") "__bool__" (ma K (ga K "Paper") "__bool__"),
  fun K => MyG.supB K (ga K "SightFront") (ga K "SightFront") (ma K (ga K "Paper") "__init__"),
  fun K => decide (PySem.W.kitOne K (.ref (ga K "SightFront")) (.ref (ga K "Paper")) = some true),
  fun K => decide (PySem.W.kitOne K (.ref (ga K "SightFront")) (.ref (ga K "Denial")) = some false),
  fun K => PySem.W.notFirst K (ga K "SightFront") (.type "tuple"),
  fun K => (Fa.glo "Stays").ok K,
  fun K => MyG.ownB K (ga K "Stays") "Stays",
  fun K => MyG.mkB K (ga K "Stays") (ma K (ga K "Stays") "__init__"),
  fun K => MyG.noB K (ga K "Stays") ["word", "parts", "cases"],
  fun K => MyG.fmB K (ga K "Stays") "__eq__" (ma K (ga K "Paper") "__eq__"),
  fun K => MyG.fmB K (ga K "Stays") "__bool__" (ma K (ga K "Paper") "__bool__"),
  fun K => MyG.supB K (ga K "Stays") (ga K "Stays") (ma K (ga K "Paper") "__init__"),
  fun K => decide (PySem.W.kitOne K (.ref (ga K "Stays")) (.ref (ga K "Paper")) = some true),
  fun K => decide (PySem.W.kitOne K (.ref (ga K "Stays")) (.ref (ga K "Denial")) = some false),
  fun K => PySem.W.notFirst K (ga K "Stays") (.type "tuple"),
  fun K => (Fa.glo "Slips").ok K,
  fun K => MyG.ownB K (ga K "Slips") "Slips",
  fun K => MyG.mkB K (ga K "Slips") (ma K (ga K "Slips") "__init__"),
  fun K => MyG.noB K (ga K "Slips") ["word", "parts", "first", "states", "pages"],
  fun K => MyG.fmB K (ga K "Slips") "__eq__" (ma K (ga K "Paper") "__eq__"),
  fun K => MyG.fmB K (ga K "Slips") "__bool__" (ma K (ga K "Denial") "__bool__"),
  fun K => MyG.supB K (ga K "Slips") (ga K "Slips") (ma K (ga K "Paper") "__init__"),
  fun K => decide (PySem.W.kitOne K (.ref (ga K "Slips")) (.ref (ga K "Paper")) = some true),
  fun K => decide (PySem.W.kitOne K (.ref (ga K "Slips")) (.ref (ga K "Denial")) = some true),
  fun K => PySem.W.notFirst K (ga K "Slips") (.type "tuple"),
  fun K => (Fa.glo "Firm").ok K,
  fun K => MyG.ownB K (ga K "Firm") "Firm",
  fun K => MyG.mkB K (ga K "Firm") (ma K (ga K "Firm") "__init__"),
  fun K => MyG.noB K (ga K "Firm") ["word", "parts", "pages", "entries", "cases"],
  fun K => MyG.fmB K (ga K "Firm") "__eq__" (ma K (ga K "Paper") "__eq__"),
  fun K => MyG.fmB K (ga K "Firm") "__bool__" (ma K (ga K "Paper") "__bool__"),
  fun K => MyG.supB K (ga K "Firm") (ga K "Firm") (ma K (ga K "Paper") "__init__"),
  fun K => decide (PySem.W.kitOne K (.ref (ga K "Firm")) (.ref (ga K "Paper")) = some true),
  fun K => decide (PySem.W.kitOne K (.ref (ga K "Firm")) (.ref (ga K "Denial")) = some false),
  fun K => PySem.W.notFirst K (ga K "Firm") (.type "tuple"),
  fun K => (Fa.glo "Unfirm").ok K,
  fun K => MyG.ownB K (ga K "Unfirm") "Unfirm",
  fun K => MyG.mkB K (ga K "Unfirm") (ma K (ga K "Unfirm") "__init__"),
  fun K => MyG.noB K (ga K "Unfirm") ["word", "parts", "pages", "lines"],
  fun K => MyG.fmB K (ga K "Unfirm") "__eq__" (ma K (ga K "Paper") "__eq__"),
  fun K => MyG.fmB K (ga K "Unfirm") "__bool__" (ma K (ga K "Denial") "__bool__"),
  fun K => MyG.supB K (ga K "Unfirm") (ga K "Unfirm") (ma K (ga K "Paper") "__init__"),
  fun K => decide (PySem.W.kitOne K (.ref (ga K "Unfirm")) (.ref (ga K "Paper")) = some true),
  fun K => decide (PySem.W.kitOne K (.ref (ga K "Unfirm")) (.ref (ga K "Denial")) = some true),
  fun K => PySem.W.notFirst K (ga K "Unfirm") (.type "tuple"),
  fun K => (Fa.glo "Steady").ok K,
  fun K => MyG.ownB K (ga K "Steady") "Steady",
  fun K => MyG.mkB K (ga K "Steady") (ma K (ga K "Steady") "__init__"),
  fun K => MyG.noB K (ga K "Steady") ["word", "parts", "number", "firm", "unfirm"],
  fun K => MyG.fmB K (ga K "Steady") "__eq__" (ma K (ga K "Paper") "__eq__"),
  fun K => MyG.fmB K (ga K "Steady") "__bool__" (ma K (ga K "Paper") "__bool__"),
  fun K => MyG.supB K (ga K "Steady") (ga K "Steady") (ma K (ga K "Paper") "__init__"),
  fun K => decide (PySem.W.kitOne K (.ref (ga K "Steady")) (.ref (ga K "Paper")) = some true),
  fun K => decide (PySem.W.kitOne K (.ref (ga K "Steady")) (.ref (ga K "Denial")) = some false),
  fun K => PySem.W.notFirst K (ga K "Steady") (.type "tuple"),
  fun K => MyG.fmB K (ga K "Paper") "__eq__" (ma K (ga K "Paper") "__eq__"),
  fun K => MyG.pairsB K [ga K "Paper", ga K "Denial", ga K "Safe", ga K "Unsafe", ga K "Held", ga K "Lost", ga K "Shared", ga K "Parting", ga K "Serves", ga K "Lacks", ga K "Holds", ga K "Broken", ga K "Uncovered", ga K "Delay", ga K "Ring", ga K "Refusal", ga K "Patience", ga K "Never", ga K "DelayFront", ga K "Handed", ga K "Dropped", ga K "Implied", ga K "Apart", ga K "Kept", ga K "Least", ga K "Losing", ga K "SureTime", ga K "MomentFront", ga K "PromiseFront", ga K "SightFront", ga K "Stays", ga K "Slips", ga K "Firm", ga K "Unfirm", ga K "Steady"],
  fun K => decide (PySem.W.kitOne K (.type "tuple") (.ref (ga K "Paper")) = some false),
  fun K => MyG.smB K,
  fun K => (Fa.free "super").ok K,
  fun K => MyG.opB K]
def fns : List He.FnD := [⟨("fixed", none), "fixed", "fixed", defArgs s_fixed, defBody s_fixed, defScope s_fixed⟩,
  ⟨("_law_font", none), "_law_font", "_law_font", defArgs s_l_font, defBody s_l_font, defScope s_l_font⟩,
  ⟨("_law_drip", none), "_law_drip", "_law_drip", defArgs s_l_drip, defBody s_l_drip, defScope s_l_drip⟩,
  ⟨("_law_fill", none), "_law_fill", "_law_fill", defArgs s_l_fill, defBody s_l_fill, defScope s_l_fill⟩,
  ⟨("_law_value", none), "_law_value", "_law_value", defArgs s_l_value, defBody s_l_value, defScope s_l_value⟩,
  ⟨("_law_ones", none), "_law_ones", "_law_ones", defArgs s_l_ones, defBody s_l_ones, defScope s_l_ones⟩,
  ⟨("_law_twos", none), "_law_twos", "_law_twos", defArgs s_l_twos, defBody s_l_twos, defScope s_l_twos⟩,
  ⟨("_law_threes", none), "_law_threes", "_law_threes", defArgs s_l_threes, defBody s_l_threes, defScope s_l_threes⟩,
  ⟨("_law_more", none), "_law_more", "_law_more", defArgs s_l_more, defBody s_l_more, defScope s_l_more⟩,
  ⟨("_law_rows_right", none), "_law_rows_right", "_law_rows_right", defArgs s_l_rows_right, defBody s_l_rows_right, defScope s_l_rows_right⟩,
  ⟨("_law_unlike_right", none), "_law_unlike_right", "_law_unlike_right", defArgs s_l_unlike_right, defBody s_l_unlike_right, defScope s_l_unlike_right⟩,
  ⟨("law", none), "law", "law", defArgs s_law, defBody s_law, defScope s_law⟩,
  ⟨("Paper", some "__eq__"), "__eq__", "Paper.__eq__", defArgs s_Paper_eq, defBody s_Paper_eq, defScope s_Paper_eq⟩,
  ⟨("Paper", some "__init__"), "__init__", "Paper.__init__", defArgs s_Paper_init, defBody s_Paper_init, defScope s_Paper_init⟩,
  ⟨("Paper", some "__bool__"), "__bool__", "Paper.__bool__", defArgs s_Paper_bool, defBody s_Paper_bool, defScope s_Paper_bool⟩,
  ⟨("Denial", some "__bool__"), "__bool__", "Denial.__bool__", defArgs s_Denial_bool, defBody s_Denial_bool, defScope s_Denial_bool⟩]
def adr (K : PySem.W.Frag) : Adr := ⟨ga K "fixed", ga K "_law_font", ga K "_law_drip", ga K "_law_fill", ga K "_law_value", ga K "_law_ones", ga K "_law_twos", ga K "_law_threes", ga K "_law_more", ga K "_law_rows_right", ga K "_law_unlike_right", ga K "law", ga K "Paper", ga K "Denial", ga K "Safe", ga K "Unsafe", ga K "Held", ga K "Lost", ga K "Shared", ga K "Parting", ga K "Serves", ga K "Lacks", ga K "Holds", ga K "Broken", ga K "Uncovered", ga K "Delay", ga K "Ring", ga K "Refusal", ga K "Patience", ga K "Never", ga K "DelayFront", ga K "Handed", ga K "Dropped", ga K "Implied", ga K "Apart", ga K "Kept", ga K "Least", ga K "Losing", ga K "SureTime", ga K "MomentFront", ga K "PromiseFront", ga K "SightFront", ga K "Stays", ga K "Slips", ga K "Firm", ga K "Unfirm", ga K "Steady", ma K (ga K "Paper") "__init__", ma K (ga K "Safe") "__init__", ma K (ga K "Unsafe") "__init__", ma K (ga K "Held") "__init__", ma K (ga K "Lost") "__init__", ma K (ga K "Shared") "__init__", ma K (ga K "Parting") "__init__", ma K (ga K "Serves") "__init__", ma K (ga K "Lacks") "__init__", ma K (ga K "Holds") "__init__", ma K (ga K "Broken") "__init__", ma K (ga K "Uncovered") "__init__", ma K (ga K "Delay") "__init__", ma K (ga K "Ring") "__init__", ma K (ga K "Refusal") "__init__", ma K (ga K "Patience") "__init__", ma K (ga K "Never") "__init__", ma K (ga K "DelayFront") "__init__", ma K (ga K "Handed") "__init__", ma K (ga K "Dropped") "__init__", ma K (ga K "Implied") "__init__", ma K (ga K "Apart") "__init__", ma K (ga K "Kept") "__init__", ma K (ga K "Least") "__init__", ma K (ga K "Losing") "__init__", ma K (ga K "SureTime") "__init__", ma K (ga K "MomentFront") "__init__", ma K (ga K "PromiseFront") "__init__", ma K (ga K "SightFront") "__init__", ma K (ga K "Stays") "__init__", ma K (ga K "Slips") "__init__", ma K (ga K "Firm") "__init__", ma K (ga K "Unfirm") "__init__", ma K (ga K "Steady") "__init__", ma K (ga K "Paper") "__eq__", ma K (ga K "Paper") "__bool__", ma K (ga K "Denial") "__bool__"⟩
def fcs : List MyG.FnC := [⟨⟨("Safe", some "__init__"), "__init__", "Safe.__init__", defArgs s_Safe_init, defBody s_Safe_init, defScope s_Safe_init⟩, "Safe"⟩,
  ⟨⟨("Unsafe", some "__init__"), "__init__", "Unsafe.__init__", defArgs s_Unsafe_init, defBody s_Unsafe_init, defScope s_Unsafe_init⟩, "Unsafe"⟩,
  ⟨⟨("Held", some "__init__"), "__init__", "Held.__init__", defArgs s_Held_init, defBody s_Held_init, defScope s_Held_init⟩, "Held"⟩,
  ⟨⟨("Lost", some "__init__"), "__init__", "Lost.__init__", defArgs s_Lost_init, defBody s_Lost_init, defScope s_Lost_init⟩, "Lost"⟩,
  ⟨⟨("Shared", some "__init__"), "__init__", "Shared.__init__", defArgs s_Shared_init, defBody s_Shared_init, defScope s_Shared_init⟩, "Shared"⟩,
  ⟨⟨("Parting", some "__init__"), "__init__", "Parting.__init__", defArgs s_Parting_init, defBody s_Parting_init, defScope s_Parting_init⟩, "Parting"⟩,
  ⟨⟨("Serves", some "__init__"), "__init__", "Serves.__init__", defArgs s_Serves_init, defBody s_Serves_init, defScope s_Serves_init⟩, "Serves"⟩,
  ⟨⟨("Lacks", some "__init__"), "__init__", "Lacks.__init__", defArgs s_Lacks_init, defBody s_Lacks_init, defScope s_Lacks_init⟩, "Lacks"⟩,
  ⟨⟨("Holds", some "__init__"), "__init__", "Holds.__init__", defArgs s_Holds_init, defBody s_Holds_init, defScope s_Holds_init⟩, "Holds"⟩,
  ⟨⟨("Broken", some "__init__"), "__init__", "Broken.__init__", defArgs s_Broken_init, defBody s_Broken_init, defScope s_Broken_init⟩, "Broken"⟩,
  ⟨⟨("Uncovered", some "__init__"), "__init__", "Uncovered.__init__", defArgs s_Uncovered_init, defBody s_Uncovered_init, defScope s_Uncovered_init⟩, "Uncovered"⟩,
  ⟨⟨("Delay", some "__init__"), "__init__", "Delay.__init__", defArgs s_Delay_init, defBody s_Delay_init, defScope s_Delay_init⟩, "Delay"⟩,
  ⟨⟨("Ring", some "__init__"), "__init__", "Ring.__init__", defArgs s_Ring_init, defBody s_Ring_init, defScope s_Ring_init⟩, "Ring"⟩,
  ⟨⟨("Refusal", some "__init__"), "__init__", "Refusal.__init__", defArgs s_Refusal_init, defBody s_Refusal_init, defScope s_Refusal_init⟩, "Refusal"⟩,
  ⟨⟨("Patience", some "__init__"), "__init__", "Patience.__init__", defArgs s_Patience_init, defBody s_Patience_init, defScope s_Patience_init⟩, "Patience"⟩,
  ⟨⟨("Never", some "__init__"), "__init__", "Never.__init__", defArgs s_Never_init, defBody s_Never_init, defScope s_Never_init⟩, "Never"⟩,
  ⟨⟨("DelayFront", some "__init__"), "__init__", "DelayFront.__init__", defArgs s_DelayFront_init, defBody s_DelayFront_init, defScope s_DelayFront_init⟩, "DelayFront"⟩,
  ⟨⟨("Handed", some "__init__"), "__init__", "Handed.__init__", defArgs s_Handed_init, defBody s_Handed_init, defScope s_Handed_init⟩, "Handed"⟩,
  ⟨⟨("Dropped", some "__init__"), "__init__", "Dropped.__init__", defArgs s_Dropped_init, defBody s_Dropped_init, defScope s_Dropped_init⟩, "Dropped"⟩,
  ⟨⟨("Implied", some "__init__"), "__init__", "Implied.__init__", defArgs s_Implied_init, defBody s_Implied_init, defScope s_Implied_init⟩, "Implied"⟩,
  ⟨⟨("Apart", some "__init__"), "__init__", "Apart.__init__", defArgs s_Apart_init, defBody s_Apart_init, defScope s_Apart_init⟩, "Apart"⟩,
  ⟨⟨("Kept", some "__init__"), "__init__", "Kept.__init__", defArgs s_Kept_init, defBody s_Kept_init, defScope s_Kept_init⟩, "Kept"⟩,
  ⟨⟨("Least", some "__init__"), "__init__", "Least.__init__", defArgs s_Least_init, defBody s_Least_init, defScope s_Least_init⟩, "Least"⟩,
  ⟨⟨("Losing", some "__init__"), "__init__", "Losing.__init__", defArgs s_Losing_init, defBody s_Losing_init, defScope s_Losing_init⟩, "Losing"⟩,
  ⟨⟨("SureTime", some "__init__"), "__init__", "SureTime.__init__", defArgs s_SureTime_init, defBody s_SureTime_init, defScope s_SureTime_init⟩, "SureTime"⟩,
  ⟨⟨("MomentFront", some "__init__"), "__init__", "MomentFront.__init__", defArgs s_MomentFront_init, defBody s_MomentFront_init, defScope s_MomentFront_init⟩, "MomentFront"⟩,
  ⟨⟨("PromiseFront", some "__init__"), "__init__", "PromiseFront.__init__", defArgs s_PromiseFront_init, defBody s_PromiseFront_init, defScope s_PromiseFront_init⟩, "PromiseFront"⟩,
  ⟨⟨("SightFront", some "__init__"), "__init__", "SightFront.__init__", defArgs s_SightFront_init, defBody s_SightFront_init, defScope s_SightFront_init⟩, "SightFront"⟩,
  ⟨⟨("Stays", some "__init__"), "__init__", "Stays.__init__", defArgs s_Stays_init, defBody s_Stays_init, defScope s_Stays_init⟩, "Stays"⟩,
  ⟨⟨("Slips", some "__init__"), "__init__", "Slips.__init__", defArgs s_Slips_init, defBody s_Slips_init, defScope s_Slips_init⟩, "Slips"⟩,
  ⟨⟨("Firm", some "__init__"), "__init__", "Firm.__init__", defArgs s_Firm_init, defBody s_Firm_init, defScope s_Firm_init⟩, "Firm"⟩,
  ⟨⟨("Unfirm", some "__init__"), "__init__", "Unfirm.__init__", defArgs s_Unfirm_init, defBody s_Unfirm_init, defScope s_Unfirm_init⟩, "Unfirm"⟩,
  ⟨⟨("Steady", some "__init__"), "__init__", "Steady.__init__", defArgs s_Steady_init, defBody s_Steady_init, defScope s_Steady_init⟩, "Steady"⟩]
theorem txt_of {K : PySem.W.Frag} {h : Heap} {mg : Str → Option Value} (X : K.In h) (G : h.Ns mainGlobals mg) (c : MyG.SaysP chk fns fcs K) : Txt K mg (adr K) where
  m_fixed := glo_ok X G (c.fact 0)
  k_fixed := by
    obtain ⟨_, F⟩ := c.def_ 0 (st := s_fixed)
    exact F.kp
  F_fixed := c.def_ 0 (st := s_fixed)
  m_l_font := glo_ok X G (c.fact 1)
  k_l_font := by
    obtain ⟨_, F⟩ := c.def_ 1 (st := s_l_font)
    exact F.kp
  F_l_font := c.def_ 1 (st := s_l_font)
  m_l_drip := glo_ok X G (c.fact 2)
  k_l_drip := by
    obtain ⟨_, F⟩ := c.def_ 2 (st := s_l_drip)
    exact F.kp
  F_l_drip := c.def_ 2 (st := s_l_drip)
  m_l_fill := glo_ok X G (c.fact 3)
  k_l_fill := by
    obtain ⟨_, F⟩ := c.def_ 3 (st := s_l_fill)
    exact F.kp
  F_l_fill := c.def_ 3 (st := s_l_fill)
  m_l_value := glo_ok X G (c.fact 4)
  k_l_value := by
    obtain ⟨_, F⟩ := c.def_ 4 (st := s_l_value)
    exact F.kp
  F_l_value := c.def_ 4 (st := s_l_value)
  m_l_ones := glo_ok X G (c.fact 5)
  k_l_ones := by
    obtain ⟨_, F⟩ := c.def_ 5 (st := s_l_ones)
    exact F.kp
  F_l_ones := c.def_ 5 (st := s_l_ones)
  m_l_twos := glo_ok X G (c.fact 6)
  k_l_twos := by
    obtain ⟨_, F⟩ := c.def_ 6 (st := s_l_twos)
    exact F.kp
  F_l_twos := c.def_ 6 (st := s_l_twos)
  m_l_threes := glo_ok X G (c.fact 7)
  k_l_threes := by
    obtain ⟨_, F⟩ := c.def_ 7 (st := s_l_threes)
    exact F.kp
  F_l_threes := c.def_ 7 (st := s_l_threes)
  m_l_more := glo_ok X G (c.fact 8)
  k_l_more := by
    obtain ⟨_, F⟩ := c.def_ 8 (st := s_l_more)
    exact F.kp
  F_l_more := c.def_ 8 (st := s_l_more)
  m_l_rows_right := glo_ok X G (c.fact 9)
  k_l_rows_right := by
    obtain ⟨_, F⟩ := c.def_ 9 (st := s_l_rows_right)
    exact F.kp
  F_l_rows_right := c.def_ 9 (st := s_l_rows_right)
  m_l_unlike_right := glo_ok X G (c.fact 10)
  k_l_unlike_right := by
    obtain ⟨_, F⟩ := c.def_ 10 (st := s_l_unlike_right)
    exact F.kp
  F_l_unlike_right := c.def_ 10 (st := s_l_unlike_right)
  m_law := glo_ok X G (c.fact 11)
  k_law := by
    obtain ⟨_, F⟩ := c.def_ 11 (st := s_law)
    exact F.kp
  F_law := c.def_ 11 (st := s_law)
  n_len := free_ok X G (c.fact 12)
  n_int := free_ok X G (c.fact 13)
  n_abs := free_ok X G (c.fact 14)
  n_isinstance := free_ok X G (c.fact 15)
  n_range := free_ok X G (c.fact 16)
  n_repr := free_ok X G (c.fact 17)
  n_tuple := free_ok X G (c.fact 18)
  n_list := free_ok X G (c.fact 19)
  n_sorted := free_ok X G (c.fact 20)
  n_bool := free_ok X G (c.fact 21)
  n_dict := free_ok X G (c.fact 22)
  n_enumerate := free_ok X G (c.fact 23)
  m_Paper := glo_ok X G (c.fact 24)
  O_Paper := MyG.ownB_ok (c.fact 25)
  Mk_Paper := MyG.mkB_ok (c.fact 26)
  n_Paper := MyG.noB_ok (c.fact 27)
  q_Paper := (MyG.fmB_ok (c.fact 28)).1
  b_Paper := MyG.fmB_ok (c.fact 29)
  kP_Paper := of_decide_eq_true (c.fact 30)
  kD_Paper := of_decide_eq_true (c.fact 31)
  tn_Paper := (c.fact 32)
  m_Denial := glo_ok X G (c.fact 33)
  O_Denial := MyG.ownB_ok (c.fact 34)
  Mk_Denial := MyG.mkB_ok (c.fact 35)
  n_Denial := MyG.noB_ok (c.fact 36)
  q_Denial := (MyG.fmB_ok (c.fact 37)).1
  b_Denial := MyG.fmB_ok (c.fact 38)
  kP_Denial := of_decide_eq_true (c.fact 39)
  kD_Denial := of_decide_eq_true (c.fact 40)
  tn_Denial := (c.fact 41)
  m_Safe := glo_ok X G (c.fact 42)
  O_Safe := MyG.ownB_ok (c.fact 43)
  Mk_Safe := MyG.mkB_ok (c.fact 44)
  n_Safe := MyG.noB_ok (c.fact 45)
  q_Safe := (MyG.fmB_ok (c.fact 46)).1
  b_Safe := MyG.fmB_ok (c.fact 47)
  S_Safe := MyG.supB_ok (c.fact 48)
  FC_Safe := c.cdef 0 (st := s_Safe_init)
  kP_Safe := of_decide_eq_true (c.fact 49)
  kD_Safe := of_decide_eq_true (c.fact 50)
  tn_Safe := (c.fact 51)
  m_Unsafe := glo_ok X G (c.fact 52)
  O_Unsafe := MyG.ownB_ok (c.fact 53)
  Mk_Unsafe := MyG.mkB_ok (c.fact 54)
  n_Unsafe := MyG.noB_ok (c.fact 55)
  q_Unsafe := (MyG.fmB_ok (c.fact 56)).1
  b_Unsafe := MyG.fmB_ok (c.fact 57)
  S_Unsafe := MyG.supB_ok (c.fact 58)
  FC_Unsafe := c.cdef 1 (st := s_Unsafe_init)
  kP_Unsafe := of_decide_eq_true (c.fact 59)
  kD_Unsafe := of_decide_eq_true (c.fact 60)
  tn_Unsafe := (c.fact 61)
  m_Held := glo_ok X G (c.fact 62)
  O_Held := MyG.ownB_ok (c.fact 63)
  Mk_Held := MyG.mkB_ok (c.fact 64)
  n_Held := MyG.noB_ok (c.fact 65)
  q_Held := (MyG.fmB_ok (c.fact 66)).1
  b_Held := MyG.fmB_ok (c.fact 67)
  S_Held := MyG.supB_ok (c.fact 68)
  FC_Held := c.cdef 2 (st := s_Held_init)
  kP_Held := of_decide_eq_true (c.fact 69)
  kD_Held := of_decide_eq_true (c.fact 70)
  tn_Held := (c.fact 71)
  m_Lost := glo_ok X G (c.fact 72)
  O_Lost := MyG.ownB_ok (c.fact 73)
  Mk_Lost := MyG.mkB_ok (c.fact 74)
  n_Lost := MyG.noB_ok (c.fact 75)
  q_Lost := (MyG.fmB_ok (c.fact 76)).1
  b_Lost := MyG.fmB_ok (c.fact 77)
  S_Lost := MyG.supB_ok (c.fact 78)
  FC_Lost := c.cdef 3 (st := s_Lost_init)
  kP_Lost := of_decide_eq_true (c.fact 79)
  kD_Lost := of_decide_eq_true (c.fact 80)
  tn_Lost := (c.fact 81)
  m_Shared := glo_ok X G (c.fact 82)
  O_Shared := MyG.ownB_ok (c.fact 83)
  Mk_Shared := MyG.mkB_ok (c.fact 84)
  n_Shared := MyG.noB_ok (c.fact 85)
  q_Shared := (MyG.fmB_ok (c.fact 86)).1
  b_Shared := MyG.fmB_ok (c.fact 87)
  S_Shared := MyG.supB_ok (c.fact 88)
  FC_Shared := c.cdef 4 (st := s_Shared_init)
  kP_Shared := of_decide_eq_true (c.fact 89)
  kD_Shared := of_decide_eq_true (c.fact 90)
  tn_Shared := (c.fact 91)
  m_Parting := glo_ok X G (c.fact 92)
  O_Parting := MyG.ownB_ok (c.fact 93)
  Mk_Parting := MyG.mkB_ok (c.fact 94)
  n_Parting := MyG.noB_ok (c.fact 95)
  q_Parting := (MyG.fmB_ok (c.fact 96)).1
  b_Parting := MyG.fmB_ok (c.fact 97)
  S_Parting := MyG.supB_ok (c.fact 98)
  FC_Parting := c.cdef 5 (st := s_Parting_init)
  kP_Parting := of_decide_eq_true (c.fact 99)
  kD_Parting := of_decide_eq_true (c.fact 100)
  tn_Parting := (c.fact 101)
  m_Serves := glo_ok X G (c.fact 102)
  O_Serves := MyG.ownB_ok (c.fact 103)
  Mk_Serves := MyG.mkB_ok (c.fact 104)
  n_Serves := MyG.noB_ok (c.fact 105)
  q_Serves := (MyG.fmB_ok (c.fact 106)).1
  b_Serves := MyG.fmB_ok (c.fact 107)
  S_Serves := MyG.supB_ok (c.fact 108)
  FC_Serves := c.cdef 6 (st := s_Serves_init)
  kP_Serves := of_decide_eq_true (c.fact 109)
  kD_Serves := of_decide_eq_true (c.fact 110)
  tn_Serves := (c.fact 111)
  m_Lacks := glo_ok X G (c.fact 112)
  O_Lacks := MyG.ownB_ok (c.fact 113)
  Mk_Lacks := MyG.mkB_ok (c.fact 114)
  n_Lacks := MyG.noB_ok (c.fact 115)
  q_Lacks := (MyG.fmB_ok (c.fact 116)).1
  b_Lacks := MyG.fmB_ok (c.fact 117)
  S_Lacks := MyG.supB_ok (c.fact 118)
  FC_Lacks := c.cdef 7 (st := s_Lacks_init)
  kP_Lacks := of_decide_eq_true (c.fact 119)
  kD_Lacks := of_decide_eq_true (c.fact 120)
  tn_Lacks := (c.fact 121)
  m_Holds := glo_ok X G (c.fact 122)
  O_Holds := MyG.ownB_ok (c.fact 123)
  Mk_Holds := MyG.mkB_ok (c.fact 124)
  n_Holds := MyG.noB_ok (c.fact 125)
  q_Holds := (MyG.fmB_ok (c.fact 126)).1
  b_Holds := MyG.fmB_ok (c.fact 127)
  S_Holds := MyG.supB_ok (c.fact 128)
  FC_Holds := c.cdef 8 (st := s_Holds_init)
  kP_Holds := of_decide_eq_true (c.fact 129)
  kD_Holds := of_decide_eq_true (c.fact 130)
  tn_Holds := (c.fact 131)
  m_Broken := glo_ok X G (c.fact 132)
  O_Broken := MyG.ownB_ok (c.fact 133)
  Mk_Broken := MyG.mkB_ok (c.fact 134)
  n_Broken := MyG.noB_ok (c.fact 135)
  q_Broken := (MyG.fmB_ok (c.fact 136)).1
  b_Broken := MyG.fmB_ok (c.fact 137)
  S_Broken := MyG.supB_ok (c.fact 138)
  FC_Broken := c.cdef 9 (st := s_Broken_init)
  kP_Broken := of_decide_eq_true (c.fact 139)
  kD_Broken := of_decide_eq_true (c.fact 140)
  tn_Broken := (c.fact 141)
  m_Uncovered := glo_ok X G (c.fact 142)
  O_Uncovered := MyG.ownB_ok (c.fact 143)
  Mk_Uncovered := MyG.mkB_ok (c.fact 144)
  n_Uncovered := MyG.noB_ok (c.fact 145)
  q_Uncovered := (MyG.fmB_ok (c.fact 146)).1
  b_Uncovered := MyG.fmB_ok (c.fact 147)
  S_Uncovered := MyG.supB_ok (c.fact 148)
  FC_Uncovered := c.cdef 10 (st := s_Uncovered_init)
  kP_Uncovered := of_decide_eq_true (c.fact 149)
  kD_Uncovered := of_decide_eq_true (c.fact 150)
  tn_Uncovered := (c.fact 151)
  m_Delay := glo_ok X G (c.fact 152)
  O_Delay := MyG.ownB_ok (c.fact 153)
  Mk_Delay := MyG.mkB_ok (c.fact 154)
  n_Delay := MyG.noB_ok (c.fact 155)
  q_Delay := (MyG.fmB_ok (c.fact 156)).1
  b_Delay := MyG.fmB_ok (c.fact 157)
  S_Delay := MyG.supB_ok (c.fact 158)
  FC_Delay := c.cdef 11 (st := s_Delay_init)
  kP_Delay := of_decide_eq_true (c.fact 159)
  kD_Delay := of_decide_eq_true (c.fact 160)
  tn_Delay := (c.fact 161)
  m_Ring := glo_ok X G (c.fact 162)
  O_Ring := MyG.ownB_ok (c.fact 163)
  Mk_Ring := MyG.mkB_ok (c.fact 164)
  n_Ring := MyG.noB_ok (c.fact 165)
  q_Ring := (MyG.fmB_ok (c.fact 166)).1
  b_Ring := MyG.fmB_ok (c.fact 167)
  S_Ring := MyG.supB_ok (c.fact 168)
  FC_Ring := c.cdef 12 (st := s_Ring_init)
  kP_Ring := of_decide_eq_true (c.fact 169)
  kD_Ring := of_decide_eq_true (c.fact 170)
  tn_Ring := (c.fact 171)
  m_Refusal := glo_ok X G (c.fact 172)
  O_Refusal := MyG.ownB_ok (c.fact 173)
  Mk_Refusal := MyG.mkB_ok (c.fact 174)
  n_Refusal := MyG.noB_ok (c.fact 175)
  q_Refusal := (MyG.fmB_ok (c.fact 176)).1
  b_Refusal := MyG.fmB_ok (c.fact 177)
  S_Refusal := MyG.supB_ok (c.fact 178)
  FC_Refusal := c.cdef 13 (st := s_Refusal_init)
  kP_Refusal := of_decide_eq_true (c.fact 179)
  kD_Refusal := of_decide_eq_true (c.fact 180)
  tn_Refusal := (c.fact 181)
  m_Patience := glo_ok X G (c.fact 182)
  O_Patience := MyG.ownB_ok (c.fact 183)
  Mk_Patience := MyG.mkB_ok (c.fact 184)
  n_Patience := MyG.noB_ok (c.fact 185)
  q_Patience := (MyG.fmB_ok (c.fact 186)).1
  b_Patience := MyG.fmB_ok (c.fact 187)
  S_Patience := MyG.supB_ok (c.fact 188)
  FC_Patience := c.cdef 14 (st := s_Patience_init)
  kP_Patience := of_decide_eq_true (c.fact 189)
  kD_Patience := of_decide_eq_true (c.fact 190)
  tn_Patience := (c.fact 191)
  m_Never := glo_ok X G (c.fact 192)
  O_Never := MyG.ownB_ok (c.fact 193)
  Mk_Never := MyG.mkB_ok (c.fact 194)
  n_Never := MyG.noB_ok (c.fact 195)
  q_Never := (MyG.fmB_ok (c.fact 196)).1
  b_Never := MyG.fmB_ok (c.fact 197)
  S_Never := MyG.supB_ok (c.fact 198)
  FC_Never := c.cdef 15 (st := s_Never_init)
  kP_Never := of_decide_eq_true (c.fact 199)
  kD_Never := of_decide_eq_true (c.fact 200)
  tn_Never := (c.fact 201)
  m_DelayFront := glo_ok X G (c.fact 202)
  O_DelayFront := MyG.ownB_ok (c.fact 203)
  Mk_DelayFront := MyG.mkB_ok (c.fact 204)
  n_DelayFront := MyG.noB_ok (c.fact 205)
  q_DelayFront := (MyG.fmB_ok (c.fact 206)).1
  b_DelayFront := MyG.fmB_ok (c.fact 207)
  S_DelayFront := MyG.supB_ok (c.fact 208)
  FC_DelayFront := c.cdef 16 (st := s_DelayFront_init)
  kP_DelayFront := of_decide_eq_true (c.fact 209)
  kD_DelayFront := of_decide_eq_true (c.fact 210)
  tn_DelayFront := (c.fact 211)
  m_Handed := glo_ok X G (c.fact 212)
  O_Handed := MyG.ownB_ok (c.fact 213)
  Mk_Handed := MyG.mkB_ok (c.fact 214)
  n_Handed := MyG.noB_ok (c.fact 215)
  q_Handed := (MyG.fmB_ok (c.fact 216)).1
  b_Handed := MyG.fmB_ok (c.fact 217)
  S_Handed := MyG.supB_ok (c.fact 218)
  FC_Handed := c.cdef 17 (st := s_Handed_init)
  kP_Handed := of_decide_eq_true (c.fact 219)
  kD_Handed := of_decide_eq_true (c.fact 220)
  tn_Handed := (c.fact 221)
  m_Dropped := glo_ok X G (c.fact 222)
  O_Dropped := MyG.ownB_ok (c.fact 223)
  Mk_Dropped := MyG.mkB_ok (c.fact 224)
  n_Dropped := MyG.noB_ok (c.fact 225)
  q_Dropped := (MyG.fmB_ok (c.fact 226)).1
  b_Dropped := MyG.fmB_ok (c.fact 227)
  S_Dropped := MyG.supB_ok (c.fact 228)
  FC_Dropped := c.cdef 18 (st := s_Dropped_init)
  kP_Dropped := of_decide_eq_true (c.fact 229)
  kD_Dropped := of_decide_eq_true (c.fact 230)
  tn_Dropped := (c.fact 231)
  m_Implied := glo_ok X G (c.fact 232)
  O_Implied := MyG.ownB_ok (c.fact 233)
  Mk_Implied := MyG.mkB_ok (c.fact 234)
  n_Implied := MyG.noB_ok (c.fact 235)
  q_Implied := (MyG.fmB_ok (c.fact 236)).1
  b_Implied := MyG.fmB_ok (c.fact 237)
  S_Implied := MyG.supB_ok (c.fact 238)
  FC_Implied := c.cdef 19 (st := s_Implied_init)
  kP_Implied := of_decide_eq_true (c.fact 239)
  kD_Implied := of_decide_eq_true (c.fact 240)
  tn_Implied := (c.fact 241)
  m_Apart := glo_ok X G (c.fact 242)
  O_Apart := MyG.ownB_ok (c.fact 243)
  Mk_Apart := MyG.mkB_ok (c.fact 244)
  n_Apart := MyG.noB_ok (c.fact 245)
  q_Apart := (MyG.fmB_ok (c.fact 246)).1
  b_Apart := MyG.fmB_ok (c.fact 247)
  S_Apart := MyG.supB_ok (c.fact 248)
  FC_Apart := c.cdef 20 (st := s_Apart_init)
  kP_Apart := of_decide_eq_true (c.fact 249)
  kD_Apart := of_decide_eq_true (c.fact 250)
  tn_Apart := (c.fact 251)
  m_Kept := glo_ok X G (c.fact 252)
  O_Kept := MyG.ownB_ok (c.fact 253)
  Mk_Kept := MyG.mkB_ok (c.fact 254)
  n_Kept := MyG.noB_ok (c.fact 255)
  q_Kept := (MyG.fmB_ok (c.fact 256)).1
  b_Kept := MyG.fmB_ok (c.fact 257)
  S_Kept := MyG.supB_ok (c.fact 258)
  FC_Kept := c.cdef 21 (st := s_Kept_init)
  kP_Kept := of_decide_eq_true (c.fact 259)
  kD_Kept := of_decide_eq_true (c.fact 260)
  tn_Kept := (c.fact 261)
  m_Least := glo_ok X G (c.fact 262)
  O_Least := MyG.ownB_ok (c.fact 263)
  Mk_Least := MyG.mkB_ok (c.fact 264)
  n_Least := MyG.noB_ok (c.fact 265)
  q_Least := (MyG.fmB_ok (c.fact 266)).1
  b_Least := MyG.fmB_ok (c.fact 267)
  S_Least := MyG.supB_ok (c.fact 268)
  FC_Least := c.cdef 22 (st := s_Least_init)
  kP_Least := of_decide_eq_true (c.fact 269)
  kD_Least := of_decide_eq_true (c.fact 270)
  tn_Least := (c.fact 271)
  m_Losing := glo_ok X G (c.fact 272)
  O_Losing := MyG.ownB_ok (c.fact 273)
  Mk_Losing := MyG.mkB_ok (c.fact 274)
  n_Losing := MyG.noB_ok (c.fact 275)
  q_Losing := (MyG.fmB_ok (c.fact 276)).1
  b_Losing := MyG.fmB_ok (c.fact 277)
  S_Losing := MyG.supB_ok (c.fact 278)
  FC_Losing := c.cdef 23 (st := s_Losing_init)
  kP_Losing := of_decide_eq_true (c.fact 279)
  kD_Losing := of_decide_eq_true (c.fact 280)
  tn_Losing := (c.fact 281)
  m_SureTime := glo_ok X G (c.fact 282)
  O_SureTime := MyG.ownB_ok (c.fact 283)
  Mk_SureTime := MyG.mkB_ok (c.fact 284)
  n_SureTime := MyG.noB_ok (c.fact 285)
  q_SureTime := (MyG.fmB_ok (c.fact 286)).1
  b_SureTime := MyG.fmB_ok (c.fact 287)
  S_SureTime := MyG.supB_ok (c.fact 288)
  FC_SureTime := c.cdef 24 (st := s_SureTime_init)
  kP_SureTime := of_decide_eq_true (c.fact 289)
  kD_SureTime := of_decide_eq_true (c.fact 290)
  tn_SureTime := (c.fact 291)
  m_MomentFront := glo_ok X G (c.fact 292)
  O_MomentFront := MyG.ownB_ok (c.fact 293)
  Mk_MomentFront := MyG.mkB_ok (c.fact 294)
  n_MomentFront := MyG.noB_ok (c.fact 295)
  q_MomentFront := (MyG.fmB_ok (c.fact 296)).1
  b_MomentFront := MyG.fmB_ok (c.fact 297)
  S_MomentFront := MyG.supB_ok (c.fact 298)
  FC_MomentFront := c.cdef 25 (st := s_MomentFront_init)
  kP_MomentFront := of_decide_eq_true (c.fact 299)
  kD_MomentFront := of_decide_eq_true (c.fact 300)
  tn_MomentFront := (c.fact 301)
  m_PromiseFront := glo_ok X G (c.fact 302)
  O_PromiseFront := MyG.ownB_ok (c.fact 303)
  Mk_PromiseFront := MyG.mkB_ok (c.fact 304)
  n_PromiseFront := MyG.noB_ok (c.fact 305)
  q_PromiseFront := (MyG.fmB_ok (c.fact 306)).1
  b_PromiseFront := MyG.fmB_ok (c.fact 307)
  S_PromiseFront := MyG.supB_ok (c.fact 308)
  FC_PromiseFront := c.cdef 26 (st := s_PromiseFront_init)
  kP_PromiseFront := of_decide_eq_true (c.fact 309)
  kD_PromiseFront := of_decide_eq_true (c.fact 310)
  tn_PromiseFront := (c.fact 311)
  m_SightFront := glo_ok X G (c.fact 312)
  O_SightFront := MyG.ownB_ok (c.fact 313)
  Mk_SightFront := MyG.mkB_ok (c.fact 314)
  n_SightFront := MyG.noB_ok (c.fact 315)
  q_SightFront := (MyG.fmB_ok (c.fact 316)).1
  b_SightFront := MyG.fmB_ok (c.fact 317)
  S_SightFront := MyG.supB_ok (c.fact 318)
  FC_SightFront := c.cdef 27 (st := s_SightFront_init)
  kP_SightFront := of_decide_eq_true (c.fact 319)
  kD_SightFront := of_decide_eq_true (c.fact 320)
  tn_SightFront := (c.fact 321)
  m_Stays := glo_ok X G (c.fact 322)
  O_Stays := MyG.ownB_ok (c.fact 323)
  Mk_Stays := MyG.mkB_ok (c.fact 324)
  n_Stays := MyG.noB_ok (c.fact 325)
  q_Stays := (MyG.fmB_ok (c.fact 326)).1
  b_Stays := MyG.fmB_ok (c.fact 327)
  S_Stays := MyG.supB_ok (c.fact 328)
  FC_Stays := c.cdef 28 (st := s_Stays_init)
  kP_Stays := of_decide_eq_true (c.fact 329)
  kD_Stays := of_decide_eq_true (c.fact 330)
  tn_Stays := (c.fact 331)
  m_Slips := glo_ok X G (c.fact 332)
  O_Slips := MyG.ownB_ok (c.fact 333)
  Mk_Slips := MyG.mkB_ok (c.fact 334)
  n_Slips := MyG.noB_ok (c.fact 335)
  q_Slips := (MyG.fmB_ok (c.fact 336)).1
  b_Slips := MyG.fmB_ok (c.fact 337)
  S_Slips := MyG.supB_ok (c.fact 338)
  FC_Slips := c.cdef 29 (st := s_Slips_init)
  kP_Slips := of_decide_eq_true (c.fact 339)
  kD_Slips := of_decide_eq_true (c.fact 340)
  tn_Slips := (c.fact 341)
  m_Firm := glo_ok X G (c.fact 342)
  O_Firm := MyG.ownB_ok (c.fact 343)
  Mk_Firm := MyG.mkB_ok (c.fact 344)
  n_Firm := MyG.noB_ok (c.fact 345)
  q_Firm := (MyG.fmB_ok (c.fact 346)).1
  b_Firm := MyG.fmB_ok (c.fact 347)
  S_Firm := MyG.supB_ok (c.fact 348)
  FC_Firm := c.cdef 30 (st := s_Firm_init)
  kP_Firm := of_decide_eq_true (c.fact 349)
  kD_Firm := of_decide_eq_true (c.fact 350)
  tn_Firm := (c.fact 351)
  m_Unfirm := glo_ok X G (c.fact 352)
  O_Unfirm := MyG.ownB_ok (c.fact 353)
  Mk_Unfirm := MyG.mkB_ok (c.fact 354)
  n_Unfirm := MyG.noB_ok (c.fact 355)
  q_Unfirm := (MyG.fmB_ok (c.fact 356)).1
  b_Unfirm := MyG.fmB_ok (c.fact 357)
  S_Unfirm := MyG.supB_ok (c.fact 358)
  FC_Unfirm := c.cdef 31 (st := s_Unfirm_init)
  kP_Unfirm := of_decide_eq_true (c.fact 359)
  kD_Unfirm := of_decide_eq_true (c.fact 360)
  tn_Unfirm := (c.fact 361)
  m_Steady := glo_ok X G (c.fact 362)
  O_Steady := MyG.ownB_ok (c.fact 363)
  Mk_Steady := MyG.mkB_ok (c.fact 364)
  n_Steady := MyG.noB_ok (c.fact 365)
  q_Steady := (MyG.fmB_ok (c.fact 366)).1
  b_Steady := MyG.fmB_ok (c.fact 367)
  S_Steady := MyG.supB_ok (c.fact 368)
  FC_Steady := c.cdef 32 (st := s_Steady_init)
  kP_Steady := of_decide_eq_true (c.fact 369)
  kD_Steady := of_decide_eq_true (c.fact 370)
  tn_Steady := (c.fact 371)
  isq := (MyG.fmB_ok (c.fact 372)).2
  FQ := c.def_ 12 (st := s_Paper_eq)
  FI := c.def_ 13 (st := s_Paper_init)
  FBP := c.def_ 14 (st := s_Paper_bool)
  FBD := c.def_ 15 (st := s_Denial_bool)
  pair := MyG.pairsB_ok (c.fact 373)
  kT := of_decide_eq_true (c.fact 374)
  sm := MyG.smB_ok (c.fact 375)
  S0 := ⟨free_ok X G (c.fact 376), eqO_ok (c.fact 377)⟩
def loose0 : List PySem.Str := ["fixed", "Paper", "Denial", "Safe", "Unsafe", "Held", "Lost", "Shared", "Parting", "Serves", "Lacks", "Holds", "Broken", "Uncovered", "Delay", "Ring", "Refusal", "Patience", "Never", "DelayFront", "Handed", "Dropped", "Implied", "Apart", "Kept", "Least", "Losing", "SureTime", "MomentFront", "PromiseFront"]
def loose1 : List PySem.Str := ["SightFront", "Stays", "Slips", "Firm", "Unfirm", "Steady", "_law_font", "_law_drip", "_law_fill", "_law_value", "_law_ones", "_law_twos", "_law_threes", "_law_more", "_law_rows_right", "_law_unlike_right"]
def loose : List PySem.Str := loose0 ++ loose1
abbrev lawAt : Nat := 68
abbrev R : PySem.W.OpenRow := PySem.W.OpenLaw.row PySem.Challenge.rw_dimkeeper_k56_papers_of_every_class
abbrev hk : PySem.W.Hook := MyG.hookP 5 chk fns fcs
def ob (s : PySem.W.SharedT) : MyG.AlP := MyG.obsPG 5 chk fns fcs (HandSHeadRun.getT s)
theorem ob_eq (s : PySem.W.SharedT) : ob s = hk.obs s.abs := MyG.obsPG_eq (HandSHeadRun.getT_eq s)
theorem run (w : World) : HandSHeadRun.RunEq R (PySem.W.view R.prog [lawAt]) hk ob 20000 loose w := by
  intro os
  kernel_rfl
end K56

namespace K56
open PySem PySem.Spec PyProof.Rows L2 MyL
section
variable {P : Program} {w : World} {K : PySem.W.Frag} {mg : Str → Option Value} {base : Heap} {A : Adr}
local macro_rules | `(tactic| walk_at "sames") => `(tactic| repeat (first
  | exact Same.refl _
  | refine Same.new ?_ (by assumption)
  | refine Same.trans ?_ (by assumption)))
local macro_rules | `(tactic| walk_at "ne") => `(tactic| first
  | assumption
  | exact Ne.symm (by assumption)
  | exact ne_new (by assumption) (by walk_at "look")
  | exact ne_new' (by assumption) (by walk_at "look")
  | exact ne_of (by walk_at "look") (by walk_at "look") (by intro z; cases z))
local macro_rules | `(tactic| walk_at "look") => `(tactic| first
  | assumption
  | exact upd_same
  | (refine upd_new (by assumption) ?_
     walk_at "look")
  | (refine (upd_ne ?_).trans ?_
     · walk_at "ne"
     · walk_at "look")
  | (refine Kp.get (by assumption) ?_ ?_
     · walk_at "ne"
     · walk_at "look")
  | (refine Same.get (by assumption) ?_
     walk_at "look"))
local macro_rules | `(tactic| walk_at "lenv") => `(tactic| first
  | exact Or.inl ⟨_, SqL.of (by walk_at "look"), rfl⟩
  | exact Or.inr ⟨_, SqT.of (by walk_at "look"), rfl⟩
  | exact ⟨line_le (by omega), rfl⟩)
local macro_rules | `(tactic| walk_at "cond") => `(tactic| first
  | assumption
  | rfl
  | exact Nat.zero_le _
  | exact Nat.le_of_ble_eq_true rfl
  | decide
  | omega
  | exact line_lt (by (try simp only [List.length_map, List.length_append, List.length_cons, List.length_nil]); omega)
  | exact line_le (by (try simp only [List.length_map, List.length_append, List.length_cons, List.length_nil]); omega)
  | (dsimp only; omega)
  | exact ⟨by decide, by decide⟩
  | exact ⟨by decide, by decide, by decide⟩
  | exact Or.inl ⟨by decide, by decide⟩
  | exact Or.inl ⟨by omega, by omega⟩
  | exact Or.inr ⟨by omega, by omega⟩)
local macro_rules | `(tactic| walk_at "kit") => `(tactic| first | assumption | exact kit_NoneType_int | exact kit_NoneType_bool | exact kit_NoneType_str | exact kit_NoneType_list | exact kit_NoneType_tuple | exact kit_NoneType_dict | exact kit_bool_int | exact kit_bool_bool | exact kit_bool_str | exact kit_bool_list | exact kit_bool_tuple | exact kit_bool_dict | exact kit_int_int | exact kit_int_bool | exact kit_int_str | exact kit_int_list | exact kit_int_tuple | exact kit_int_dict | exact kit_str_int | exact kit_str_bool | exact kit_str_str | exact kit_str_list | exact kit_str_tuple | exact kit_str_dict | exact kit_list_int | exact kit_list_bool | exact kit_list_str | exact kit_list_list | exact kit_list_tuple | exact kit_list_dict | exact kit_tuple_int | exact kit_tuple_bool | exact kit_tuple_str | exact kit_tuple_list | exact kit_tuple_tuple | exact kit_tuple_dict | exact kit_dict_int | exact kit_dict_bool | exact kit_dict_str | exact kit_dict_list | exact kit_dict_tuple | exact kit_dict_dict)
local macro_rules | `(tactic| walk_at "ty") => `(tactic| first | assumption | exact tyx_str | exact tyx_int | exact tyx_bl | exact tyx_non | exact tyx_lst (by walk_at "look") | exact tyx_tup (by walk_at "look") | exact tyx_dK (by walk_at "look"))
local macro_rules | `(tactic| walk_at "s") => `(tactic| first
  | refine ⟨_, rfl, ?_⟩
  | refine ⟨_, _, rfl, rfl, ?_⟩
  | refine ⟨_, _, _, _, rfl, rfl, SqL.of (by walk_at "look"), by rfl, ?_⟩
  | refine ⟨_, _, _, _, rfl, rfl, SqT.of (by walk_at "look"), by rfl, ?_⟩
  | refine ⟨_, _, _, _, rfl, rfl, by walk_at "look", by rfl, ?_⟩
  | refine ⟨_, _, rfl, by walk_at "lenv", ?_⟩
  | refine Or.inl ⟨_, rfl, ?_⟩
  | refine ⟨_, _, _, _, _, rfl, ClsV.ty _, by walk_at "ty", by walk_at "kit", ?_⟩
  | refine And.intro (by walk_at "cond") ?_
  | refine ⟨_, _, rfl, SqT.of (by walk_at "look"), rfl, ?_⟩
  | refine ⟨_, _, rfl, SqL.of (by walk_at "look"), rfl, ?_⟩
  | refine And.intro (Or.inl ⟨rfl, _, SqL.of (by walk_at "look")⟩) ?_
  | refine ⟨_, _, _, rfl, rfl, by walk_at "look", by walk_at "cond", ?_⟩
  | refine ⟨_, _, _, _, rfl, rfl, by walk_at "look", by walk_at "look", by walk_at "cond", ?_⟩
  | refine And.intro ⟨_, rfl⟩ ?_
  | refine And.intro ⟨_, SqL.of (by walk_at "look")⟩ ?_
  | refine ⟨_, _, rfl, SqL.of (by walk_at "look"), ?_⟩
  | refine ⟨_, _, rfl, (by assumption : SqL _ _ _ _), ?_⟩
  | refine ⟨_, by walk_at "look", by walk_at "cond", ?_⟩
  | refine ⟨_, _, rfl, Or.inr (SqT.of (by walk_at "look")), ?_⟩
  | refine ⟨_, _, rfl, Or.inl (SqL.of (by walk_at "look")), ?_⟩
  | refine ⟨_, _, rfl, ?_⟩
  | refine ⟨_, _, _, rfl, by walk_at "look", by assumption, ?_⟩
  | refine ⟨_, _, true, _, _, rfl, rfl, ClsV.own _, kit_own (by assumption) (by assumption), rfl, by walk_at "look", ?_⟩
  | refine ⟨_, _, _, _, rfl, ErAt.same (by assumption) (by walk_at "sames"), by assumption, by assumption, ?_⟩
  | refine ⟨_, _, _, _, rfl, ErAt.same (by assumption) (by walk_at "sames"), by assumption, by assumption, by assumption, ?_⟩
  | refine if_t (by first | rfl | assumption | decide) ?_
  | refine if_f (by assumption) ?_
  | refine if_f (by first | decide | exact Bool.false_ne_true) ?_
  | refine fun (_ : _ ≠ sysModules) => ?_
  | refine fun (_ : ErAt _ _ _ _) => ?_
  | refine fun _ _ => ?_)

theorem ok_l_drip (T : Txt K mg A) : FnG P w K mg base CX0 1 A.l_drip spDip := by
  obtain ⟨fd, F⟩ := T.F_l_drip
  refine Fun_okN F sc_l_drip (fun vs H Q E h => ?_) (fun _ _ _ _ _ _ us hl => match us, hl with | [_, _], _ => rfl) (fun cdv A' outer s H vs Q E hr hg h => ?_)
  · obtain ⟨_, _, _, rfl, _⟩ := h
    rfl
  obtain ⟨⟨a, c, cs⟩, many, n, rfl, ⟨b, r, ha, hc, hne, hlen, hb0, hbn⟩, hn, hm0, hm1, q⟩ := h
  dsimp only at ha hc hne hlen q ⊢
  refine ⟨_, ((pss_cons (ps_if (pt_cmpR op_gt (pe_ix ix_list (pv 0) pe_int (fun _ _ => rfl)) pe_int (nomark _)) (pss_cons (ps_set (i := 2) sc_l_drip.nd rfl (Or.inl rfl) (pe_ix ix_list (pv 0) pe_int (fun _ _ => rfl)))
    (pss_cons (ps_asg (pe_op op_fdivW (pe_callTy call_int1 (by rfl) T.n_int (by decide +kernel) (pa_cons (pv 2) pa_nil)) (pv 1)) (pg_sub (pv 0) pe_int set_list))
    (pss_one (ps_ret (pe_op op_mod (pe_callTy call_int1 (by rfl) T.n_int (by decide +kernel) (pa_cons (pv 2) pa_nil)) (pv 1)))))) pss_nil)
    (pss_cons (ps_set (i := 3) sc_l_drip.nd rfl (Or.inl rfl) (pe_ix ix_list (pv 0) pe_int (fun _ _ => rfl)))
    (pss_cons (ps_asg (pe_op op_add (pv 3) pe_int) (pg_sub (pv 0) pe_int set_list))
    (pss_cons (ps_set (i := 4) sc_l_drip.nd rfl (Or.inl rfl) (pe_op op_add (pe_op op_mul pe_int (pv 3)) pe_int))
    (pss_cons (ps_if (pt_cmpR (op_neD hr.units) (pe_ix ix_list (pv 0) pe_int (fun _ _ => rfl)) (pe_lst pa_nil) (nomark _)) (pss_one (ps_set (i := 4) sc_l_drip.nd rfl (Or.inl rfl) (pe_ix ix_list (pe_ix ix_list (pv 0) pe_int (fun _ _ => rfl)) (pe_op op_mod (pe_callTy call_int1 (by rfl) T.n_int (by decide +kernel) (pa_cons (pv 3) pa_nil)) (pe_callB call_len (by rfl) T.n_len (by decide +kernel) (pa_cons (pe_ix ix_list (pv 0) pe_int (fun _ _ => rfl)) pa_nil))) (fun _ _ => rfl)))) pss_nil)
    (pss_cons (ps_if (PW.pt (pw_and (pt_cmpR op_lt (pv 3) (pe_callB call_len (by rfl) T.n_len (by decide +kernel) (pa_cons (pe_ix ix_list (pv 0) pe_int (fun _ _ => rfl)) pa_nil)) (nomark _)) (pw_and1 (pt_cmpR op_ge (pe_callB call_abs (by rfl) T.n_abs (by decide +kernel) (pa_cons (pv 4) pa_nil)) (pe_op op_pow pe_int pe_int) (nomark _))))) (pss_cons (ps_set (i := 2) sc_l_drip.nd rfl (Or.inl rfl) (pe_op op_sub (pe_callB call_abs (by rfl) T.n_abs (by decide +kernel) (pa_cons (pv 4) pa_nil)) (pe_op op_pow pe_int pe_int)))
    (pss_cons (ps_asg (pe_op op_fdivW (pe_callTy call_int1 (by rfl) T.n_int (by decide +kernel) (pa_cons (pv 2) pa_nil)) (pv 1)) (pg_sub (pv 0) pe_int set_list))
    (pss_one (ps_ret (pe_op op_mod (pe_callTy call_int1 (by rfl) T.n_int (by decide +kernel) (pa_cons (pv 2) pa_nil)) (pv 1)))))) pss_nil)
    (pss_cons (ps_set (i := 5) sc_l_drip.nd rfl (Or.inl rfl) (pe_op op_mod (pe_callTy call_int1 (by rfl) T.n_int (by decide +kernel) (pa_cons (pe_op op_pow (pe_op op_add (pe_op op_add (pe_op op_mod (pe_callTy call_int1 (by rfl) T.n_int (by decide +kernel) (pa_cons (pv 4) pa_nil)) pe_int) (pe_op op_mul pe_int (pv 3))) pe_int) pe_int) pa_nil)) pe_int))
    (pss_cons (ps_set (i := 5) sc_l_drip.nd rfl (Or.inl rfl) (pe_op op_mod (pe_callTy call_int1 (by rfl) T.n_int (by decide +kernel) (pa_cons (pe_op op_pow (pe_op op_add (pe_op op_add (pe_op op_mul (pv 5) (pe_op op_add (pe_op op_mul pe_int (pv 3)) pe_int)) (pe_op op_mul (pe_op op_mul pe_int (pv 3)) (pv 3))) pe_int) pe_int) pa_nil)) pe_int))
    (pss_one (ps_ret (pe_op op_mod (pe_callTy call_int1 (by rfl) T.n_int (by decide +kernel) (pa_cons (pe_op op_fdivW (pv 5) pe_int) pa_nil)) (pv 1))))))))))))), ?_⟩
  have hw : CDivW r many := wide_div hm0 hm1 (by decide) (by decide)
  repeat walk_at "s"
  refine ite2 (fun c1 => ?_) (fun c1 => ?_)
  · repeat walk_at "s"
    exact q _ _ (Int.emod_nonneg _ (by omega)) (Int.emod_lt_of_pos _ hm0) ⟨b, _, upd_same, by walk_at "look", hne, hlen, hb0, by omega⟩ (Kp.refl _ _).put
  · repeat walk_at "s"
    refine ⟨.list (cs.map PyData.int), .list [], .lst (SqL.of (by walk_at "look")) (dpAll_ints cs), .lst (SqL.of upd_same) .nil, shaped_ints cs, shaped_nil, ?_⟩
    rw [eqv_nil]
    repeat walk_at "s"
    refine ite2 (fun c2 => ?_) (fun c2 => ?_)
    · have hp : 0 < (cs.map V.int).length := by
        rw [List.length_map]
        cases cs with
        | nil => simp at c2
        | cons _ _ => exact Nat.succ_pos _
      have hp' : (0 : Int) < ((cs.map V.int).length : Int) := by omega
      obtain ⟨j, x, hj, hx⟩ := at_mod_ints (cs := cs) b (by simpa using hp)
      repeat walk_at "s"
      refine ⟨_, _, _, _, rfl, rfl, SqL.of (by walk_at "look"), hx, ?_⟩
      have hp5 : CPow (x % 2147483543 + 42701 * b + 1511) 5 := ⟨by decide, by decide, draw_one (by omega) (by omega) hb0 (by omega) (by decide) (by decide) (by decide) (by decide)⟩
      have hp3 : CPow ((x % 2147483543 + 42701 * b + 1511) ^ (5 : Int).toNat % 2147483647 * (2 * b + 1301) + 36913 * b * b + 1511) 3 := ⟨by decide, by decide, draw_two (by omega) (by omega) hb0 (by omega) (by decide) (by decide) (by decide) (by decide)⟩
      repeat walk_at "s"
      refine ite2 (fun c3 => ?_) (fun c3 => ?_)
      · repeat walk_at "s"
        refine ite2 (fun c4 => ?_) (fun c4 => ?_)
        · have hw2 : CDivW ((if x < 0 then -x else x) - 10 ^ (18 : Int).toNat) many := wide_div hm0 hm1 (by decide) (by decide)
          repeat walk_at "s"
          exact q _ _ (Int.emod_nonneg _ (by omega)) (Int.emod_lt_of_pos _ hm0) ⟨b + 1, _, upd_same, by walk_at "look", hne, hlen, by omega, by omega⟩ (((Kp.refl _ _).put.new (by assumption)).put)
        · repeat walk_at "s"
          exact q _ _ (Int.emod_nonneg _ (by omega)) (Int.emod_lt_of_pos _ hm0) ⟨b + 1, _, by walk_at "look", by walk_at "look", hne, hlen, by omega, by omega⟩ ((Kp.refl _ _).put.new (by assumption))
      · repeat walk_at "s"
        exact q _ _ (Int.emod_nonneg _ (by omega)) (Int.emod_lt_of_pos _ hm0) ⟨b + 1, _, by walk_at "look", by walk_at "look", hne, hlen, by omega, by omega⟩ ((Kp.refl _ _).put.new (by assumption))
    · have hp0 : (cs.map V.int).length = 0 := by
        cases cs with
        | nil => rfl
        | cons _ _ => simp at c2
      repeat walk_at "s"
      refine ite2 (fun c3 => ?_) (fun c3 => ?_)
      · exfalso
        have := of_decide_eq_true c3
        omega
      · have hp5 : CPow ((36913 * b + 1511) % 2147483543 + 42701 * b + 1511) 5 := ⟨by decide, by decide, draw_one (by omega) (by omega) hb0 (by omega) (by decide) (by decide) (by decide) (by decide)⟩
        have hp3 : CPow (((36913 * b + 1511) % 2147483543 + 42701 * b + 1511) ^ (5 : Int).toNat % 2147483647 * (2 * b + 1301) + 36913 * b * b + 1511) 3 := ⟨by decide, by decide, draw_two (by omega) (by omega) hb0 (by omega) (by decide) (by decide) (by decide) (by decide)⟩
        repeat walk_at "s"
        exact q _ _ (Int.emod_nonneg _ (by omega)) (Int.emod_lt_of_pos _ hm0) ⟨b + 1, _, by walk_at "look", by walk_at "look", hne, hlen, by omega, by omega⟩ ((Kp.refl _ _).put.new (by assumption))
end
end K56

namespace K56
open PySem PySem.Spec PyProof.Rows L2 MyL
def spWell (K : PySem.W.Frag) : Sp := fun vs H Q _ => ∃ (a : Addr) (ns : List Int), vs = [.ref a] ∧ SqL K H a (ns.map V.int) ∧ ns.length ≤ 63 ∧ ∀ H' p, Same H H' → H p = none → (∃ c cs, WellAt H' ⟨p, c, cs⟩ 0) → Q (.ref p) H'
section
variable {P : Program} {w : World} {K : PySem.W.Frag} {mg : Str → Option Value} {base : Heap} {A : Adr}
local macro_rules | `(tactic| walk_at "sames") => `(tactic| repeat (first
  | exact Same.refl _
  | refine Same.new ?_ (by assumption)
  | refine Same.trans ?_ (by assumption)))
local macro_rules | `(tactic| walk_at "ne") => `(tactic| first
  | assumption
  | exact Ne.symm (by assumption)
  | exact ne_new (by assumption) (by walk_at "look")
  | exact ne_new' (by assumption) (by walk_at "look")
  | exact ne_of (by walk_at "look") (by walk_at "look") (by intro z; cases z))
local macro_rules | `(tactic| walk_at "look") => `(tactic| first
  | assumption
  | exact upd_same
  | (refine upd_new (by assumption) ?_
     walk_at "look")
  | (refine (upd_ne ?_).trans ?_
     · walk_at "ne"
     · walk_at "look")
  | (refine Kp.get (by assumption) ?_ ?_
     · walk_at "ne"
     · walk_at "look")
  | (refine Same.get (by assumption) ?_
     walk_at "look"))
local macro_rules | `(tactic| walk_at "lenv") => `(tactic| first
  | exact Or.inl ⟨_, SqL.of (by walk_at "look"), rfl⟩
  | exact Or.inr ⟨_, SqT.of (by walk_at "look"), rfl⟩
  | exact ⟨line_le (by omega), rfl⟩)
local macro_rules | `(tactic| walk_at "cond") => `(tactic| first
  | assumption
  | rfl
  | exact Nat.zero_le _
  | exact Nat.le_of_ble_eq_true rfl
  | decide
  | omega
  | exact line_lt (by (try simp only [List.length_map, List.length_append, List.length_cons, List.length_nil]); omega)
  | exact line_le (by (try simp only [List.length_map, List.length_append, List.length_cons, List.length_nil]); omega)
  | (dsimp only; omega)
  | exact ⟨by decide, by decide⟩
  | exact ⟨by decide, by decide, by decide⟩
  | exact Or.inl ⟨by decide, by decide⟩
  | exact Or.inl ⟨by omega, by omega⟩
  | exact Or.inr ⟨by omega, by omega⟩)
local macro_rules | `(tactic| walk_at "kit") => `(tactic| first | assumption | exact kit_NoneType_int | exact kit_NoneType_bool | exact kit_NoneType_str | exact kit_NoneType_list | exact kit_NoneType_tuple | exact kit_NoneType_dict | exact kit_bool_int | exact kit_bool_bool | exact kit_bool_str | exact kit_bool_list | exact kit_bool_tuple | exact kit_bool_dict | exact kit_int_int | exact kit_int_bool | exact kit_int_str | exact kit_int_list | exact kit_int_tuple | exact kit_int_dict | exact kit_str_int | exact kit_str_bool | exact kit_str_str | exact kit_str_list | exact kit_str_tuple | exact kit_str_dict | exact kit_list_int | exact kit_list_bool | exact kit_list_str | exact kit_list_list | exact kit_list_tuple | exact kit_list_dict | exact kit_tuple_int | exact kit_tuple_bool | exact kit_tuple_str | exact kit_tuple_list | exact kit_tuple_tuple | exact kit_tuple_dict | exact kit_dict_int | exact kit_dict_bool | exact kit_dict_str | exact kit_dict_list | exact kit_dict_tuple | exact kit_dict_dict)
local macro_rules | `(tactic| walk_at "ty") => `(tactic| first | assumption | exact tyx_str | exact tyx_int | exact tyx_bl | exact tyx_non | exact tyx_lst (by walk_at "look") | exact tyx_tup (by walk_at "look") | exact tyx_dK (by walk_at "look"))
local macro_rules | `(tactic| walk_at "s") => `(tactic| first
  | refine ⟨_, rfl, ?_⟩
  | refine ⟨_, _, rfl, rfl, ?_⟩
  | refine ⟨_, _, _, _, rfl, rfl, SqL.of (by walk_at "look"), by rfl, ?_⟩
  | refine ⟨_, _, _, _, rfl, rfl, SqT.of (by walk_at "look"), by rfl, ?_⟩
  | refine ⟨_, _, _, _, rfl, rfl, by walk_at "look", by rfl, ?_⟩
  | refine ⟨_, _, rfl, by walk_at "lenv", ?_⟩
  | refine Or.inl ⟨_, rfl, ?_⟩
  | refine ⟨_, _, _, _, _, rfl, ClsV.ty _, by walk_at "ty", by walk_at "kit", ?_⟩
  | refine And.intro (by walk_at "cond") ?_
  | refine ⟨_, _, rfl, SqT.of (by walk_at "look"), rfl, ?_⟩
  | refine ⟨_, _, rfl, SqL.of (by walk_at "look"), rfl, ?_⟩
  | refine And.intro (Or.inl ⟨rfl, _, SqL.of (by walk_at "look")⟩) ?_
  | refine ⟨_, _, _, rfl, rfl, by walk_at "look", by walk_at "cond", ?_⟩
  | refine ⟨_, _, _, _, rfl, rfl, by walk_at "look", by walk_at "look", by walk_at "cond", ?_⟩
  | refine And.intro ⟨_, rfl⟩ ?_
  | refine And.intro ⟨_, SqL.of (by walk_at "look")⟩ ?_
  | refine ⟨_, _, rfl, SqL.of (by walk_at "look"), ?_⟩
  | refine ⟨_, _, rfl, (by assumption : SqL _ _ _ _), ?_⟩
  | refine ⟨_, by walk_at "look", by walk_at "cond", ?_⟩
  | refine ⟨_, _, rfl, Or.inr (SqT.of (by walk_at "look")), ?_⟩
  | refine ⟨_, _, rfl, Or.inl (SqL.of (by walk_at "look")), ?_⟩
  | refine ⟨_, _, rfl, ?_⟩
  | refine ⟨_, _, _, rfl, by walk_at "look", by assumption, ?_⟩
  | refine ⟨_, _, true, _, _, rfl, rfl, ClsV.own _, kit_own (by assumption) (by assumption), rfl, by walk_at "look", ?_⟩
  | refine ⟨_, _, _, _, rfl, ErAt.same (by assumption) (by walk_at "sames"), by assumption, by assumption, ?_⟩
  | refine ⟨_, _, _, _, rfl, ErAt.same (by assumption) (by walk_at "sames"), by assumption, by assumption, by assumption, ?_⟩
  | refine if_t (by first | rfl | assumption | decide) ?_
  | refine if_f (by assumption) ?_
  | refine if_f (by first | decide | exact Bool.false_ne_true) ?_
  | refine fun (_ : _ ≠ sysModules) => ?_
  | refine fun (_ : ErAt _ _ _ _) => ?_
  | refine fun _ _ => ?_)

theorem ok_l_font (T : Txt K mg A) : FnG P w K mg base CX0 1 A.l_font (spWell K) := by
  obtain ⟨fd, F⟩ := T.F_l_font
  refine Fun_okN F sc_l_font (fun vs H Q E h => ?_) (fun _ _ _ _ _ _ us hl => match us, hl with | [_], _ => rfl) (fun cdv A' outer s H vs Q E hr hg h => ?_)
  · obtain ⟨_, _, rfl, _⟩ := h
    rfl
  obtain ⟨a, ns, rfl, hS, hn, q⟩ := h
  refine ⟨_, ((pss_one (ps_ret (pe_lst (pa_cons (pe_lc (own := [(("_law_cell" : PySem.Str), 1)]) rfl sc_l_font.nd (pi_list (pe_slice sl_list (pv 0) po_none (po_some pe_int))) (blkOk_by (own := [(("_law_cell" : PySem.Str), 1)]) (N := [("_law_script" : PySem.Str), ("_law_cell" : PySem.Str)]) (sc := defScope s_l_font) (by decide +kernel)) (fun _ _ _ _ _ => (pg_name (i := 1) sc_l_font.nd rfl (Or.inl rfl))) (fun _ _ _ _ _ => pts_nil) (fun _ _ _ _ _ => (pe_callTy call_int1 (by rfl) T.n_int (by decide +kernel) (pa_cons (pv 1) pa_nil)))) (pa_cons pe_int (pa_cons pe_int pa_nil))))))), ?_⟩
  repeat walk_at "s"
  rename_i p hp D hD
  obtain ⟨cs, ec, lc⟩ := cutV_ints ns none (some 63)
  rw [ec] at hD ⊢
  refine lc_it (walk_list (xs := cs.map V.int)) (fun i H' => Iv (Same H H' ∧ H' p = some (.lst (cs.map V.int)) ∧ H' D = some (.lst ((cs.take i).map V.int)))) (Iv.mk ⟨Same.new (Same.new (Same.refl H) hp) hD, by walk_at "look", upd_same⟩) (fun i H' _ h => SqL.of h.out.2.1) ?_ ?_
  · rintro i x H1 H2 hi hI ⟨rfl, hx⟩
    obtain ⟨sm, hpl, hDl⟩ := hI.out
    obtain ⟨c, hc, rfl⟩ : ∃ c, cs[i]? = some c ∧ x = V.int c := by
      rw [List.getElem?_map] at hx
      cases e : cs[i]? with
      | none => rw [e] at hx; cases hx
      | some s => rw [e] at hx; exact ⟨s, rfl, (Option.some.inj hx).symm⟩
    have lt : (List.map V.int (cs.take i)).length < sizeLine := line_lt (by rw [List.length_map, List.length_take]; omega)
    repeat walk_at "s"
    refine Iv.mk ⟨Same.put sm (Same.free (Same.new (Same.refl H) hp) hD), by walk_at "look", ?_⟩
    rw [upd_same, List.take_add_one, hc, List.map_append]
    rfl
  · intro H1 hI
    obtain ⟨sm, hpl, hDl⟩ := hI.out
    repeat walk_at "s"
    rename_i r hr2
    have el : (cs.take (cs.map V.int).length) = cs := by rw [List.length_map, List.take_length]
    rw [el] at hDl
    refine q _ r (Same.new sm hr2) (Same.free sm hr2) ⟨D, cs, 0, 0, upd_same, (by show upd H1 r _ D = _; walk_at "look"), (by show D ≠ r; walk_at "ne"), (by show cs.length ≤ 63; omega), Int.le_refl _, Int.le_refl _⟩
end
end K56

namespace K56
open PySem PySem.Spec PyProof.Rows L2 MyL
/-- a draw from a list that nobody else holds -/
def spTake : Sp := fun vs H Q _ => ∃ (W : Wl) (p : Addr) (xs : List V) (n : Nat), vs = [.ref W.w, .ref p] ∧ WellAt H W n ∧ n < 1000000 ∧ p ≠ W.w ∧ H p = some (.lst xs) ∧ 0 < xs.length ∧ xs.length ≤ 1000 ∧ ∀ H' v, v ∈ xs → WellAt H' W (n + 1) → Kp W.w H H' → Q v H'
section
variable {P : Program} {w : World} {K : PySem.W.Frag} {mg : Str → Option Value} {base : Heap} {A : Adr}
local macro_rules | `(tactic| walk_at "sames") => `(tactic| repeat (first
  | exact Same.refl _
  | refine Same.new ?_ (by assumption)
  | refine Same.trans ?_ (by assumption)))
local macro_rules | `(tactic| walk_at "ne") => `(tactic| first
  | assumption
  | exact Ne.symm (by assumption)
  | exact ne_new (by assumption) (by walk_at "look")
  | exact ne_new' (by assumption) (by walk_at "look")
  | exact ne_of (by walk_at "look") (by walk_at "look") (by intro z; cases z))
local macro_rules | `(tactic| walk_at "look") => `(tactic| first
  | assumption
  | exact upd_same
  | (refine upd_new (by assumption) ?_
     walk_at "look")
  | (refine (upd_ne ?_).trans ?_
     · walk_at "ne"
     · walk_at "look")
  | (refine Kp.get (by assumption) ?_ ?_
     · walk_at "ne"
     · walk_at "look")
  | (refine Same.get (by assumption) ?_
     walk_at "look"))
local macro_rules | `(tactic| walk_at "lenv") => `(tactic| first
  | exact Or.inl ⟨_, SqL.of (by walk_at "look"), rfl⟩
  | exact Or.inr ⟨_, SqT.of (by walk_at "look"), rfl⟩
  | exact ⟨line_le (by omega), rfl⟩)
local macro_rules | `(tactic| walk_at "cond") => `(tactic| first
  | assumption
  | rfl
  | exact Nat.zero_le _
  | exact Nat.le_of_ble_eq_true rfl
  | decide
  | omega
  | exact line_lt (by (try simp only [List.length_map, List.length_append, List.length_cons, List.length_nil]); omega)
  | exact line_le (by (try simp only [List.length_map, List.length_append, List.length_cons, List.length_nil]); omega)
  | (dsimp only; omega)
  | exact ⟨by decide, by decide⟩
  | exact ⟨by decide, by decide, by decide⟩
  | exact Or.inl ⟨by decide, by decide⟩
  | exact Or.inl ⟨by omega, by omega⟩
  | exact Or.inr ⟨by omega, by omega⟩)
local macro_rules | `(tactic| walk_at "kit") => `(tactic| first | assumption | exact kit_NoneType_int | exact kit_NoneType_bool | exact kit_NoneType_str | exact kit_NoneType_list | exact kit_NoneType_tuple | exact kit_NoneType_dict | exact kit_bool_int | exact kit_bool_bool | exact kit_bool_str | exact kit_bool_list | exact kit_bool_tuple | exact kit_bool_dict | exact kit_int_int | exact kit_int_bool | exact kit_int_str | exact kit_int_list | exact kit_int_tuple | exact kit_int_dict | exact kit_str_int | exact kit_str_bool | exact kit_str_str | exact kit_str_list | exact kit_str_tuple | exact kit_str_dict | exact kit_list_int | exact kit_list_bool | exact kit_list_str | exact kit_list_list | exact kit_list_tuple | exact kit_list_dict | exact kit_tuple_int | exact kit_tuple_bool | exact kit_tuple_str | exact kit_tuple_list | exact kit_tuple_tuple | exact kit_tuple_dict | exact kit_dict_int | exact kit_dict_bool | exact kit_dict_str | exact kit_dict_list | exact kit_dict_tuple | exact kit_dict_dict)
local macro_rules | `(tactic| walk_at "ty") => `(tactic| first | assumption | exact tyx_str | exact tyx_int | exact tyx_bl | exact tyx_non | exact tyx_lst (by walk_at "look") | exact tyx_tup (by walk_at "look") | exact tyx_dK (by walk_at "look"))
local macro_rules | `(tactic| walk_at "s") => `(tactic| first
  | refine ⟨_, rfl, ?_⟩
  | refine ⟨_, _, rfl, rfl, ?_⟩
  | refine ⟨_, _, _, _, rfl, rfl, SqL.of (by walk_at "look"), by rfl, ?_⟩
  | refine ⟨_, _, _, _, rfl, rfl, SqT.of (by walk_at "look"), by rfl, ?_⟩
  | refine ⟨_, _, _, _, rfl, rfl, by walk_at "look", by rfl, ?_⟩
  | refine ⟨_, _, rfl, by walk_at "lenv", ?_⟩
  | refine Or.inl ⟨_, rfl, ?_⟩
  | refine ⟨_, _, _, _, _, rfl, ClsV.ty _, by walk_at "ty", by walk_at "kit", ?_⟩
  | refine And.intro (by walk_at "cond") ?_
  | refine ⟨_, _, rfl, SqT.of (by walk_at "look"), rfl, ?_⟩
  | refine ⟨_, _, rfl, SqL.of (by walk_at "look"), rfl, ?_⟩
  | refine And.intro (Or.inl ⟨rfl, _, SqL.of (by walk_at "look")⟩) ?_
  | refine ⟨_, _, _, rfl, rfl, by walk_at "look", by walk_at "cond", ?_⟩
  | refine ⟨_, _, _, _, rfl, rfl, by walk_at "look", by walk_at "look", by walk_at "cond", ?_⟩
  | refine And.intro ⟨_, rfl⟩ ?_
  | refine And.intro ⟨_, SqL.of (by walk_at "look")⟩ ?_
  | refine ⟨_, _, rfl, SqL.of (by walk_at "look"), ?_⟩
  | refine ⟨_, _, rfl, (by assumption : SqL _ _ _ _), ?_⟩
  | refine ⟨_, by walk_at "look", by walk_at "cond", ?_⟩
  | refine ⟨_, _, rfl, Or.inr (SqT.of (by walk_at "look")), ?_⟩
  | refine ⟨_, _, rfl, Or.inl (SqL.of (by walk_at "look")), ?_⟩
  | refine ⟨_, _, rfl, ?_⟩
  | refine ⟨_, _, _, rfl, by walk_at "look", by assumption, ?_⟩
  | refine ⟨_, _, true, _, _, rfl, rfl, ClsV.own _, kit_own (by assumption) (by assumption), rfl, by walk_at "look", ?_⟩
  | refine ⟨_, _, _, _, rfl, ErAt.same (by assumption) (by walk_at "sames"), by assumption, by assumption, ?_⟩
  | refine ⟨_, _, _, _, rfl, ErAt.same (by assumption) (by walk_at "sames"), by assumption, by assumption, by assumption, ?_⟩
  | refine if_t (by first | rfl | assumption | decide) ?_
  | refine if_f (by assumption) ?_
  | refine if_f (by first | decide | exact Bool.false_ne_true) ?_
  | refine fun (_ : _ ≠ sysModules) => ?_
  | refine fun (_ : ErAt _ _ _ _) => ?_
  | refine fun _ _ => ?_)

theorem ok_l_fill (T : Txt K mg A) : FnG P w K mg base CX0 2 A.l_fill spTake := by
  obtain ⟨fd, F⟩ := T.F_l_fill
  refine Fun_okN F sc_l_fill (fun vs H Q E h => ?_) (fun _ _ _ _ _ _ us hl => match us, hl with | [_, _], _ => rfl) (fun cdv A' outer s H vs Q E hr hg h => ?_)
  · obtain ⟨_, _, _, _, rfl, _⟩ := h
    rfl
  obtain ⟨a, p, xs, n, rfl, W, hn, hpw, hp, h0, h1, q⟩ := h
  refine ⟨_, ((pss_one (ps_ret (pe_ix ix_list (pv 1) (pe_callGd (ok_l_drip T) (hr.mono (by decide)) hg rfl T.m_l_drip T.k_l_drip pass0 (pa_cons (pv 0) (pa_cons (pe_callB call_len (by rfl) T.n_len (by decide +kernel) (pa_cons (pv 1) pa_nil)) pa_nil))) (fun _ _ => rfl))))), ?_⟩
  repeat walk_at "s"
  refine Iv.mk ⟨a, _, n, rfl, W, hn, by omega, natAbs_small (n := 1000) (by omega) (by omega) (by decide), fun H' r r0 r1 W1 K1 => ?_⟩
  obtain ⟨v, hv, hm⟩ := atI_of r0 r1
  exact ⟨_, _, _, _, rfl, rfl, SqL.of (K1 p _ hpw hp), hv, q H' v hm W1 K1⟩
end
end K56

namespace K56
open PySem PySem.Spec PyProof.Rows L2 MyL MyD
def spFixed (n : Nat) : Sp := fun vs H Q _ => ∃ (v : V) (d : PyData), vs = [v] ∧ DpR H v d ∧ Okd n d ∧ ∀ H' v' e, Same H H' → Fx d e → DpR H' v' e → Q v' H'
def spFixedT (n : Nat) : Sp := fun vs H Q _ => ∃ (a : Addr) (xs : List V) (ds : List PyData), vs = [.ref a] ∧ H a = some (.tup xs) ∧ DpRs H xs ds ∧ (∀ d ∈ ds, Okd n d) ∧ ds.length ≤ 5 ∧ ∀ H' r ws es, Same H H' → FxAll ds es → H' r = some (.tup ws) → DpRs H' ws es → Q (.ref r) H'
section
variable {P : Program} {w : World} {K : PySem.W.Frag} {mg : Str → Option Value} {base : Heap} {A : Adr}
local macro_rules | `(tactic| walk_at "sames") => `(tactic| repeat (first
  | exact Same.refl _
  | refine Same.new ?_ (by assumption)
  | refine Same.trans ?_ (by assumption)))
local macro_rules | `(tactic| walk_at "ne") => `(tactic| first
  | assumption
  | exact Ne.symm (by assumption)
  | exact ne_new (by assumption) (by walk_at "look")
  | exact ne_new' (by assumption) (by walk_at "look")
  | exact ne_of (by walk_at "look") (by walk_at "look") (by intro z; cases z))
local macro_rules | `(tactic| walk_at "look") => `(tactic| first
  | assumption
  | exact upd_same
  | (refine upd_new (by assumption) ?_
     walk_at "look")
  | (refine (upd_ne ?_).trans ?_
     · walk_at "ne"
     · walk_at "look")
  | (refine Kp.get (by assumption) ?_ ?_
     · walk_at "ne"
     · walk_at "look")
  | (refine Same.get (by assumption) ?_
     walk_at "look"))
local macro_rules | `(tactic| walk_at "lenv") => `(tactic| first
  | exact Or.inl ⟨_, SqL.of (by walk_at "look"), rfl⟩
  | exact Or.inr ⟨_, SqT.of (by walk_at "look"), rfl⟩
  | exact ⟨line_le (by omega), rfl⟩)
local macro_rules | `(tactic| walk_at "cond") => `(tactic| first
  | assumption
  | rfl
  | exact Nat.zero_le _
  | exact Nat.le_of_ble_eq_true rfl
  | decide
  | omega
  | exact line_lt (by (try simp only [List.length_map, List.length_append, List.length_cons, List.length_nil]); omega)
  | exact line_le (by (try simp only [List.length_map, List.length_append, List.length_cons, List.length_nil]); omega)
  | (dsimp only; omega)
  | exact ⟨by decide, by decide⟩
  | exact ⟨by decide, by decide, by decide⟩
  | exact Or.inl ⟨by decide, by decide⟩
  | exact Or.inl ⟨by omega, by omega⟩
  | exact Or.inr ⟨by omega, by omega⟩)
local macro_rules | `(tactic| walk_at "kit") => `(tactic| first | assumption | exact kit_NoneType_int | exact kit_NoneType_bool | exact kit_NoneType_str | exact kit_NoneType_list | exact kit_NoneType_tuple | exact kit_NoneType_dict | exact kit_bool_int | exact kit_bool_bool | exact kit_bool_str | exact kit_bool_list | exact kit_bool_tuple | exact kit_bool_dict | exact kit_int_int | exact kit_int_bool | exact kit_int_str | exact kit_int_list | exact kit_int_tuple | exact kit_int_dict | exact kit_str_int | exact kit_str_bool | exact kit_str_str | exact kit_str_list | exact kit_str_tuple | exact kit_str_dict | exact kit_list_int | exact kit_list_bool | exact kit_list_str | exact kit_list_list | exact kit_list_tuple | exact kit_list_dict | exact kit_tuple_int | exact kit_tuple_bool | exact kit_tuple_str | exact kit_tuple_list | exact kit_tuple_tuple | exact kit_tuple_dict | exact kit_dict_int | exact kit_dict_bool | exact kit_dict_str | exact kit_dict_list | exact kit_dict_tuple | exact kit_dict_dict)
local macro_rules | `(tactic| walk_at "ty") => `(tactic| first | assumption | exact tyx_str | exact tyx_int | exact tyx_bl | exact tyx_non | exact tyx_lst (by walk_at "look") | exact tyx_tup (by walk_at "look") | exact tyx_dK (by walk_at "look"))
local macro_rules | `(tactic| walk_at "s") => `(tactic| first
  | refine ⟨_, rfl, ?_⟩
  | refine ⟨_, _, rfl, rfl, ?_⟩
  | refine ⟨_, _, _, _, rfl, rfl, SqL.of (by walk_at "look"), by rfl, ?_⟩
  | refine ⟨_, _, _, _, rfl, rfl, SqT.of (by walk_at "look"), by rfl, ?_⟩
  | refine ⟨_, _, _, _, rfl, rfl, by walk_at "look", by rfl, ?_⟩
  | refine ⟨_, _, rfl, by walk_at "lenv", ?_⟩
  | refine Or.inl ⟨_, rfl, ?_⟩
  | refine ⟨_, _, _, _, _, rfl, ClsV.ty _, by walk_at "ty", by walk_at "kit", ?_⟩
  | refine And.intro (by walk_at "cond") ?_
  | refine ⟨_, _, rfl, SqT.of (by walk_at "look"), rfl, ?_⟩
  | refine ⟨_, _, rfl, SqL.of (by walk_at "look"), rfl, ?_⟩
  | refine And.intro (Or.inl ⟨rfl, _, SqL.of (by walk_at "look")⟩) ?_
  | refine ⟨_, _, _, rfl, rfl, by walk_at "look", by walk_at "cond", ?_⟩
  | refine ⟨_, _, _, _, rfl, rfl, by walk_at "look", by walk_at "look", by walk_at "cond", ?_⟩
  | refine And.intro ⟨_, rfl⟩ ?_
  | refine And.intro ⟨_, SqL.of (by walk_at "look")⟩ ?_
  | refine ⟨_, _, rfl, SqL.of (by walk_at "look"), ?_⟩
  | refine ⟨_, _, rfl, (by assumption : SqL _ _ _ _), ?_⟩
  | refine ⟨_, by walk_at "look", by walk_at "cond", ?_⟩
  | refine ⟨_, _, rfl, Or.inr (SqT.of (by walk_at "look")), ?_⟩
  | refine ⟨_, _, rfl, Or.inl (SqL.of (by walk_at "look")), ?_⟩
  | refine ⟨_, _, rfl, ?_⟩
  | refine ⟨_, _, _, rfl, by walk_at "look", by assumption, ?_⟩
  | refine ⟨_, _, true, _, _, rfl, rfl, ClsV.own _, kit_own (by assumption) (by assumption), rfl, by walk_at "look", ?_⟩
  | refine ⟨_, _, _, _, rfl, ErAt.same (by assumption) (by walk_at "sames"), by assumption, by assumption, ?_⟩
  | refine ⟨_, _, _, _, rfl, ErAt.same (by assumption) (by walk_at "sames"), by assumption, by assumption, by assumption, ?_⟩
  | refine if_t (by first | rfl | assumption | decide) ?_
  | refine if_f (by assumption) ?_
  | refine if_f (by first | decide | exact Bool.false_ne_true) ?_
  | refine fun (_ : _ ≠ sysModules) => ?_
  | refine fun (_ : ErAt _ _ _ _) => ?_
  | refine fun _ _ => ?_)

theorem fixed_step (T : Txt K mg A) {n k : Nat} {spI : Sp} (FI : FnG P w K mg base CX0 k A.fixed spI) (hI : ∀ m, n = m + 1 → ∀ vs H Q E, spFixed m vs H Q E → spI vs H Q E) : FnG P w K mg base CX0 (k + 1) A.fixed (spFixed n) := by
  obtain ⟨fd, F⟩ := T.F_fixed
  refine Fun_okN F sc_fixed (fun vs H Q E h => ?_) (fun _ _ _ _ _ _ us hl => match us, hl with | [_], _ => rfl) (fun cdv A' outer s H vs Q E hr hg h => ?_)
  · obtain ⟨_, _, rfl, _⟩ := h
    rfl
  obtain ⟨v, d, rfl, hd, ok, q⟩ := h
  refine ⟨_, ((pss_cons (ps_if (pt_val (pe_callB call_isi (by rfl) T.n_isinstance (by decide +kernel) (pa_cons (pv 0) (pa_cons (pe_bltn (v := .ty "dict") (u := .type "dict") (by rfl) T.n_dict (by decide +kernel) rfl) pa_nil)))) (pss_one (ps_ret (pe_callTy call_tuple_of (by rfl) T.n_tuple (by decide +kernel) (pa_cons (pe_lc (own := [(("key" : PySem.Str), 1)]) rfl sc_fixed.nd (pi_list (pe_callB MyD.call_sortedK (by rfl) T.n_sorted (by decide +kernel) (pa_cons (pe_callTy (call_listD rfl) (by rfl) T.n_list (by decide +kernel) (pa_cons (pv 0) pa_nil)) pa_nil))) (blkOk_by (own := [(("key" : PySem.Str), 1)]) (N := [("value" : PySem.Str), ("key" : PySem.Str), ("part" : PySem.Str)]) (sc := defScope s_fixed) (by decide +kernel)) (fun _ _ _ _ _ => (pg_name (i := 1) sc_fixed.nd rfl (Or.inl rfl))) (fun _ _ _ _ _ => pts_nil) (fun _ _ _ _ _ => (pe_tup (pa_cons (pv 1) (pa_cons (pe_callGd FI hr hg rfl T.m_fixed T.k_fixed pass0 (pa_cons (pe_dget (hu_of hr) (pv 0) (pv 1) (fun _ _ => rfl)) pa_nil)) pa_nil))))) pa_nil)))) pss_nil)
    (pss_cons (ps_if (pt_val (pe_callB call_isiT (by rfl) T.n_isinstance (by decide +kernel) (pa_cons (pv 0) (pa_cons (pe_tup (pa_cons (pe_bltn (v := .ty "list") (u := .type "list") (by rfl) T.n_list (by decide +kernel) rfl) (pa_cons (pe_bltn (v := .ty "tuple") (u := .type "tuple") (by rfl) T.n_tuple (by decide +kernel) rfl) pa_nil))) pa_nil)))) (pss_one (ps_ret (pe_callTy call_tuple_of (by rfl) T.n_tuple (by decide +kernel) (pa_cons (pe_lc (own := [(("part" : PySem.Str), 2)]) rfl sc_fixed.nd (MyD.pi_or (pi_list (pv 0)) (pi_tup (pv 0))) (blkOk_by (own := [(("part" : PySem.Str), 2)]) (N := [("value" : PySem.Str), ("key" : PySem.Str), ("part" : PySem.Str)]) (sc := defScope s_fixed) (by decide +kernel)) (fun _ _ _ _ _ => (pg_name (i := 2) sc_fixed.nd rfl (Or.inl rfl))) (fun _ _ _ _ _ => pts_nil) (fun _ _ _ _ _ => (pe_callGd FI hr hg rfl T.m_fixed T.k_fixed pass0 (pa_cons (pv 2) pa_nil)))) pa_nil)))) pss_nil)
    (pss_one (ps_ret (pv 0)))))), ?_⟩
  cases ok with
  | leaf l =>
    obtain ⟨N, ty, k1, k2, k3⟩ := hd.flatTy (K := K) l.flat
    have ty0 := ty H
    repeat walk_at "s"
    refine ⟨_, _, _, _, _, _, rfl, upd_same, .cons (ClsV.ty _) (.cons (ClsV.ty _) .nil), ty _, kitAny_lt k1 k2, ?_⟩
    repeat walk_at "s"
    exact q _ _ _ (Same.new (Same.refl _) (by assumption)) (.flat l.flat) (hd.same (Same.new (Same.refl _) (by assumption)))
  | @list n ds hl hok =>
    cases hd with
    | @lst a xs _ ha hds =>
      have ty0 := tyx_lstR (K := K) ha
      repeat walk_at "s"
      rename_i tp htp
      have S1 := Same.new (o := .tup [.ty "list", .ty "tuple"]) (Same.refl H) htp
      have ha1 := (Kr.of S1).l _ _ ha
      refine ⟨_, _, _, _, _, _, rfl, upd_same, .cons (ClsV.ty _) (.cons (ClsV.ty _) .nil), tyx_lstR ha1, kitAny_lt kit_list_list kit_list_tuple, ?_⟩
      repeat walk_at "s"
      refine .l ⟨_, rfl, _, rfl, ⟨xs, .inl ha1⟩, ?_⟩
      intro D hD
      refine lc_it (walk_list (xs := xs)) (fun i H2 => Iv (Same (upd H tp (.tup [.ty "list", .ty "tuple"])) H2 ∧ ∃ ws es, H2 D = some (.lst ws) ∧ ws.length = i ∧ DpRs H2 ws es ∧ FxAll (ds.take i) es))
        (Iv.mk ⟨Same.new (Same.refl _) hD, [], [], upd_same, rfl, .nil, .nil⟩) (fun i H2 _ h => .inl ((Kr.of (show Same _ H2 from h.out.1)).l _ _ ha1)) ?_ ?_
      · rintro i x H1 H2 hi hI2 ⟨rfl, hx⟩
        obtain ⟨sm, ws, es, hDl, hw, hd1, hf⟩ := hI2.out
        obtain ⟨d, hdi, hdr⟩ := DpRs.at_ hds hx
        have okd := hok d (List.mem_of_getElem? hdi)
        have SH : Same H H2 := fun b o e => sm b o (S1 b o e)
        repeat walk_at "s"
        refine Iv.mk (hI _ rfl _ _ _ _ ⟨x, d, rfl, hdr.same SH, okd, fun H3 v3 e3 sm3 fx3 dp3 => ?_⟩)
        have hD3 := sm3 _ _ hDl
        have lt : ws.length < sizeLine := line_lt (by have := hds.length; have := DpRs.length hds; omega)
        refine ⟨ws, hD3, lt, Iv.mk ⟨Same.put (fun b o e => sm3 b o (sm b o e)) hD, ws ++ [v3], es ++ [e3], upd_same, by rw [List.length_append, hw]; rfl, ?_, by rw [take_one hdi]; exact hf.snoc fx3⟩⟩
        have tupA := (hf.snoc fx3).tupA (n := n) fun y hy => by
          rcases List.mem_append.mp hy with hy | hy
          · exact hok y (List.mem_of_mem_take hy)
          · rw [List.mem_singleton.mp hy]; exact okd
        exact DpRs.tups (fun b xs e => by rw [upd_ne (ne_of e hD3 (fun z => nomatch z))]; exact e) tupA ((hd1.same sm3).snoc dp3)
      · intro H2 hI2
        obtain ⟨sm, ws, es, hDl, hw, hd1, hf⟩ := hI2.out
        have el : ds.take xs.length = ds := by rw [hds.length, List.take_length]
        rw [el] at hf
        refine ⟨_, _, rfl, .inl ⟨SqL.of hDl, fun l hl2 => ?_⟩⟩
        exact q _ _ _ (Same.new (fun b o e => sm b o (S1 b o e)) hl2) (.list hf) (.tup upd_same (hd1.same (Same.new (Same.refl _) hl2)))
  | @tup n ds hl hok =>
    cases hd with
    | @tup a xs _ ha hds =>
      have ty0 := tyx_tup (K := K) ha
      repeat walk_at "s"
      rename_i tp htp
      have S1 := Same.new (o := .tup [.ty "list", .ty "tuple"]) (Same.refl H) htp
      have ha1 := S1 _ _ ha
      refine ⟨_, _, _, _, _, _, rfl, upd_same, .cons (ClsV.ty _) (.cons (ClsV.ty _) .nil), tyx_tup ha1, kitAny_lt kit_tuple_list kit_tuple_tuple, ?_⟩
      repeat walk_at "s"
      refine .r ⟨_, rfl, _, rfl, ⟨xs, .inl (.inl ha1)⟩, ?_⟩
      intro D hD
      refine lc_it (walk_tup (xs := xs)) (fun i H2 => Iv (Same (upd H tp (.tup [.ty "list", .ty "tuple"])) H2 ∧ ∃ ws es, H2 D = some (.lst ws) ∧ ws.length = i ∧ DpRs H2 ws es ∧ FxAll (ds.take i) es))
        (Iv.mk ⟨Same.new (Same.refl _) hD, [], [], upd_same, rfl, .nil, .nil⟩) (fun i H2 _ h => .inl (.inl ((show Same _ H2 from h.out.1) _ _ ha1))) ?_ ?_
      · rintro i x H1 H2 hi hI2 ⟨rfl, hx⟩
        obtain ⟨sm, ws, es, hDl, hw, hd1, hf⟩ := hI2.out
        obtain ⟨d, hdi, hdr⟩ := DpRs.at_ hds hx
        have okd := hok d (List.mem_of_getElem? hdi)
        have SH : Same H H2 := fun b o e => sm b o (S1 b o e)
        repeat walk_at "s"
        refine Iv.mk (hI _ rfl _ _ _ _ ⟨x, d, rfl, hdr.same SH, okd, fun H3 v3 e3 sm3 fx3 dp3 => ?_⟩)
        have hD3 := sm3 _ _ hDl
        have lt : ws.length < sizeLine := line_lt (by have := hds.length; have := DpRs.length hds; omega)
        refine ⟨ws, hD3, lt, Iv.mk ⟨Same.put (fun b o e => sm3 b o (sm b o e)) hD, ws ++ [v3], es ++ [e3], upd_same, by rw [List.length_append, hw]; rfl, ?_, by rw [take_one hdi]; exact hf.snoc fx3⟩⟩
        have tupA := (hf.snoc fx3).tupA (n := n) fun y hy => by
          rcases List.mem_append.mp hy with hy | hy
          · exact hok y (List.mem_of_mem_take hy)
          · rw [List.mem_singleton.mp hy]; exact okd
        exact DpRs.tups (fun b xs e => by rw [upd_ne (ne_of e hD3 (fun z => nomatch z))]; exact e) tupA ((hd1.same sm3).snoc dp3)
      · intro H2 hI2
        obtain ⟨sm, ws, es, hDl, hw, hd1, hf⟩ := hI2.out
        have el : ds.take xs.length = ds := by rw [hds.length, List.take_length]
        rw [el] at hf
        refine ⟨_, _, rfl, .inl ⟨SqL.of hDl, fun l hl2 => ?_⟩⟩
        exact q _ _ _ (Same.new (fun b o e => sm b o (S1 b o e)) hl2) (.tup hf) (.tup upd_same (hd1.same (Same.new (Same.refl _) hl2)))
  | @dict n ps hl hnd hks hlf hok =>
    cases hd with
    | @dct a kvs _ ha hds =>
      have ty0 := tyx_dctR (K := K) ha
      repeat walk_at "s"
      rename_i p1 hp1
      rcases hks with ⟨ks, hks⟩ | ⟨ks, hks⟩
      · have ek := keys_int (hds.keys.symm.trans hks)
        have el : (kvs.map fun kv => kV kv.1) = ks.map V.int := by
          have e1 : (kvs.map fun kv => kV kv.1) = (kvs.map (·.1)).map kV := by rw [List.map_map]; rfl
          rw [e1, ek, List.map_map]
          rfl
        have lk : ks.length = ps.length := by
          have := congrArg List.length hks
          rwa [List.length_map, List.length_map, eq_comm] at this
        refine .l ⟨p1, ks, rfl, .inl (.inl (by rw [← el]; exact upd_same)), by omega, fun ys p2 hpm hst hp2 => ?_⟩
        have nd1 : ks.Nodup := by
          have h0 := hnd
          rw [hks] at h0
          exact List.Pairwise.of_map (f := PyData.int) (fun a b (h : PyData.int a ≠ PyData.int b) e => h (by rw [e])) h0
        have nd2 : ys.Nodup := hpm.symm.nodup nd1
        obtain ⟨zs, ez, OD⟩ := ordd_of (n := n) hds hnd hlf hok (l := ys.map Sum.inl) (by rw [ek]; exact (hpm.symm.map _)) (int_strict hst nd2)
        have S2 : Same H (upd (upd H p1 (.lst (kvs.map fun kv => kV kv.1))) p2 (.lst (ys.map V.int))) := Same.new (Same.new (Same.refl H) hp1) hp2
        have ey : ys.map V.int = zs.map fun t => kV t.1.1 := by
          have e1 : (zs.map fun t : Ent => kV t.1.1) = (zs.map (·.1.1)).map kV := by rw [List.map_map]; rfl
          rw [e1, ez, List.map_map]
          rfl
        rw [ey] at S2 ⊢
        have lz : zs.length ≤ 3 := by
          have := OD.perm.length_eq
          rw [List.length_map] at this
          omega
        repeat walk_at "s"
        rename_i D hD
        refine lc_it (walk_list (xs := zs.map fun t : Ent => kV t.1.1)) (fun i H2 => Iv (Same (upd (upd H p1 (.lst (kvs.map fun kv => kV kv.1))) p2 (.lst (zs.map fun t : Ent => kV t.1.1))) H2 ∧ ∃ ws es, H2 D = some (.lst ws) ∧ ws.length = i ∧ DpRs H2 ws es ∧ FxP ((zs.map (·.2)).take i) es ∧ TupAll es))
          (Iv.mk ⟨Same.new (Same.refl _) hD, [], [], upd_same, rfl, .nil, .nil, .nil⟩) (fun i H2 _ h => .inl (.inl ((show Same _ H2 from h.out.1) _ _ upd_same))) ?_ ?_
        · rintro i x H1 H2 hi hI2 ⟨rfl, hx⟩
          obtain ⟨sm, ws, es, hDl, hw, hd1, hf, htu⟩ := hI2.out
          obtain ⟨t, ht, rfl⟩ : ∃ t, zs[i]? = some t ∧ x = kV t.1.1 := by
            rw [List.getElem?_map] at hx
            cases e : zs[i]? with
            | none => rw [e] at hx; cases hx
            | some s => rw [e] at hx; exact ⟨s, rfl, (Option.some.inj hx).symm⟩
          obtain ⟨hv, hkd, hdr, okd, lf⟩ := OD.val t (List.mem_of_getElem? ht)
          have SH : Same H H2 := fun b o e => sm b o (S2 b o e)
          repeat walk_at "s"
          refine ⟨_, _, rfl, .inl ⟨kvs, t.1.1, (Kr.of SH).d _ _ ha, rfl, hv.symm⟩, ?_⟩
          refine Iv.mk (hI _ rfl _ _ _ _ ⟨t.1.2, t.2.2, rfl, hdr.same SH, okd, fun H3 v3 e3 sm3 fx3 dp3 => ?_⟩)
          have hD3 := sm3 _ _ hDl
          repeat walk_at "s"
          rename_i tp3 htp3
          have lt : ws.length < sizeLine := line_lt (by rw [hw]; rw [List.length_map] at hi; omega)
          refine ⟨ws, by walk_at "look", lt, Iv.mk ⟨Same.put (Same.new (fun b o e => sm3 b o (sm b o e)) htp3) hD, ws ++ [.ref tp3], es ++ [.tuple [t.2.1, e3]], upd_same, by rw [List.length_append, hw]; rfl, ?_, ?_, ?_⟩⟩
          · have tu3 : TupAll (es ++ [.tuple [t.2.1, e3]]) := htu.app (.cons (.tup (.cons (.flat lf.flat) (.cons (fx3.tupO okd) .nil))) .nil)
            refine DpRs.tups (H := upd H3 tp3 (.tup [kV t.1.1, v3])) (fun b xs e => by rw [upd_ne (ne_of e (show upd H3 tp3 (.tup [kV t.1.1, v3]) D = some (.lst ws) by walk_at "look") (fun z => nomatch z))]; exact e) tu3 ?_
            refine ((hd1.same sm3).same (Same.new (Same.refl _) htp3)).snoc (.tup upd_same (.cons ?_ (.cons (dp3.same (Same.new (Same.refl _) htp3)) .nil)))
            rw [hkd]
            exact dpR_key _
          · have e4 : (zs.map (·.2))[i]? = some (t.2.1, t.2.2) := by rw [List.getElem?_map, ht]; rfl
            rw [take_one e4]
            exact hf.snoc fx3
          · exact htu.app (.cons (.tup (.cons (.flat lf.flat) (.cons (fx3.tupO okd) .nil))) .nil)
        · intro H2 hI2
          obtain ⟨sm, ws, es, hDl, hw, hd1, hf, htu⟩ := hI2.out
          have el : (zs.map (·.2)).take (zs.map fun t : Ent => kV t.1.1).length = zs.map (·.2) := by rw [List.length_map, ← List.length_map (f := fun t : Ent => t.2), List.take_length]
          rw [el] at hf
          refine ⟨_, _, rfl, .inl ⟨SqL.of hDl, fun l hl2 => ?_⟩⟩
          exact q _ _ _ (Same.new (fun b o e => sm b o (S2 b o e)) hl2) (.dict OD.perm OD.srt hf) (.tup upd_same (hd1.same (Same.new (Same.refl _) hl2)))
      · have ek := keys_str (hds.keys.symm.trans hks)
        have el : (kvs.map fun kv => kV kv.1) = ks.map V.str := by
          have e1 : (kvs.map fun kv => kV kv.1) = (kvs.map (·.1)).map kV := by rw [List.map_map]; rfl
          rw [e1, ek, List.map_map]
          rfl
        have lk : ks.length = ps.length := by
          have := congrArg List.length hks
          rwa [List.length_map, List.length_map, eq_comm] at this
        refine .r ⟨p1, ks, rfl, .inl (.inl (by rw [← el]; exact upd_same)), by omega, fun ys p2 hpm hst hp2 => ?_⟩
        have nd1 : ks.Nodup := by
          have h0 := hnd
          rw [hks] at h0
          exact List.Pairwise.of_map (f := PyData.str) (fun a b (h : PyData.str a ≠ PyData.str b) e => h (by rw [e])) h0
        have nd2 : ys.Nodup := hpm.symm.nodup nd1
        obtain ⟨zs, ez, OD⟩ := ordd_of (n := n) hds hnd hlf hok (l := ys.map Sum.inr) (by rw [ek]; exact (hpm.symm.map _)) (str_strict hst nd2)
        have S2 : Same H (upd (upd H p1 (.lst (kvs.map fun kv => kV kv.1))) p2 (.lst (ys.map V.str))) := Same.new (Same.new (Same.refl H) hp1) hp2
        have ey : ys.map V.str = zs.map fun t => kV t.1.1 := by
          have e1 : (zs.map fun t : Ent => kV t.1.1) = (zs.map (·.1.1)).map kV := by rw [List.map_map]; rfl
          rw [e1, ez, List.map_map]
          rfl
        rw [ey] at S2 ⊢
        have lz : zs.length ≤ 3 := by
          have := OD.perm.length_eq
          rw [List.length_map] at this
          omega
        repeat walk_at "s"
        rename_i D hD
        refine lc_it (walk_list (xs := zs.map fun t : Ent => kV t.1.1)) (fun i H2 => Iv (Same (upd (upd H p1 (.lst (kvs.map fun kv => kV kv.1))) p2 (.lst (zs.map fun t : Ent => kV t.1.1))) H2 ∧ ∃ ws es, H2 D = some (.lst ws) ∧ ws.length = i ∧ DpRs H2 ws es ∧ FxP ((zs.map (·.2)).take i) es ∧ TupAll es))
          (Iv.mk ⟨Same.new (Same.refl _) hD, [], [], upd_same, rfl, .nil, .nil, .nil⟩) (fun i H2 _ h => .inl (.inl ((show Same _ H2 from h.out.1) _ _ upd_same))) ?_ ?_
        · rintro i x H1 H2 hi hI2 ⟨rfl, hx⟩
          obtain ⟨sm, ws, es, hDl, hw, hd1, hf, htu⟩ := hI2.out
          obtain ⟨t, ht, rfl⟩ : ∃ t, zs[i]? = some t ∧ x = kV t.1.1 := by
            rw [List.getElem?_map] at hx
            cases e : zs[i]? with
            | none => rw [e] at hx; cases hx
            | some s => rw [e] at hx; exact ⟨s, rfl, (Option.some.inj hx).symm⟩
          obtain ⟨hv, hkd, hdr, okd, lf⟩ := OD.val t (List.mem_of_getElem? ht)
          have SH : Same H H2 := fun b o e => sm b o (S2 b o e)
          repeat walk_at "s"
          refine ⟨_, _, rfl, .inl ⟨kvs, t.1.1, (Kr.of SH).d _ _ ha, rfl, hv.symm⟩, ?_⟩
          refine Iv.mk (hI _ rfl _ _ _ _ ⟨t.1.2, t.2.2, rfl, hdr.same SH, okd, fun H3 v3 e3 sm3 fx3 dp3 => ?_⟩)
          have hD3 := sm3 _ _ hDl
          repeat walk_at "s"
          rename_i tp3 htp3
          have lt : ws.length < sizeLine := line_lt (by rw [hw]; rw [List.length_map] at hi; omega)
          refine ⟨ws, by walk_at "look", lt, Iv.mk ⟨Same.put (Same.new (fun b o e => sm3 b o (sm b o e)) htp3) hD, ws ++ [.ref tp3], es ++ [.tuple [t.2.1, e3]], upd_same, by rw [List.length_append, hw]; rfl, ?_, ?_, ?_⟩⟩
          · have tu3 : TupAll (es ++ [.tuple [t.2.1, e3]]) := htu.app (.cons (.tup (.cons (.flat lf.flat) (.cons (fx3.tupO okd) .nil))) .nil)
            refine DpRs.tups (H := upd H3 tp3 (.tup [kV t.1.1, v3])) (fun b xs e => by rw [upd_ne (ne_of e (show upd H3 tp3 (.tup [kV t.1.1, v3]) D = some (.lst ws) by walk_at "look") (fun z => nomatch z))]; exact e) tu3 ?_
            refine ((hd1.same sm3).same (Same.new (Same.refl _) htp3)).snoc (.tup upd_same (.cons ?_ (.cons (dp3.same (Same.new (Same.refl _) htp3)) .nil)))
            rw [hkd]
            exact dpR_key _
          · have e4 : (zs.map (·.2))[i]? = some (t.2.1, t.2.2) := by rw [List.getElem?_map, ht]; rfl
            rw [take_one e4]
            exact hf.snoc fx3
          · exact htu.app (.cons (.tup (.cons (.flat lf.flat) (.cons (fx3.tupO okd) .nil))) .nil)
        · intro H2 hI2
          obtain ⟨sm, ws, es, hDl, hw, hd1, hf, htu⟩ := hI2.out
          have el : (zs.map (·.2)).take (zs.map fun t : Ent => kV t.1.1).length = zs.map (·.2) := by rw [List.length_map, ← List.length_map (f := fun t : Ent => t.2), List.take_length]
          rw [el] at hf
          refine ⟨_, _, rfl, .inl ⟨SqL.of hDl, fun l hl2 => ?_⟩⟩
          exact q _ _ _ (Same.new (fun b o e => sm b o (S2 b o e)) hl2) (.dict OD.perm OD.srt hf) (.tup upd_same (hd1.same (Same.new (Same.refl _) hl2)))
theorem ok_fixed (T : Txt K mg A) : ∀ n, FnG P w K mg base CX0 (n + 1) A.fixed (spFixed n)
  | 0 => fixed_step T (k := 0) (spI := fun _ _ _ _ => False) (fun _ _ _ _ _ _ _ _ _ _ _ _ h => h.elim) (fun m e => nomatch e)
  | n + 1 => fixed_step T (ok_fixed T n) (fun m e vs H Q E h => by cases e; exact h)
theorem ok_fixedT (T : Txt K mg A) (n : Nat) : FnG P w K mg base CX0 (n + 2) A.fixed (spFixedT n) := by
  obtain ⟨fd, F⟩ := T.F_fixed
  have FI := ok_fixed (P := P) (w := w) (base := base) T n
  refine Fun_okN F sc_fixed (fun vs H Q E h => ?_) (fun _ _ _ _ _ _ us hl => match us, hl with | [_], _ => rfl) (fun cdv A' outer s H vs Q E hr hg h => ?_)
  · obtain ⟨_, _, _, rfl, _⟩ := h
    rfl
  obtain ⟨a, xs, ds, rfl, ha, hds, hok, hl, q⟩ := h
  refine ⟨_, ((pss_cons (ps_if (pt_val (pe_callB call_isi (by rfl) T.n_isinstance (by decide +kernel) (pa_cons (pv 0) (pa_cons (pe_bltn (v := .ty "dict") (u := .type "dict") (by rfl) T.n_dict (by decide +kernel) rfl) pa_nil)))) (pss_one (ps_ret (pe_callTy call_tuple_of (by rfl) T.n_tuple (by decide +kernel) (pa_cons (pe_lc (own := [(("key" : PySem.Str), 1)]) rfl sc_fixed.nd (pi_list (pe_callB MyD.call_sortedK (by rfl) T.n_sorted (by decide +kernel) (pa_cons (pe_callTy (call_listD rfl) (by rfl) T.n_list (by decide +kernel) (pa_cons (pv 0) pa_nil)) pa_nil))) (blkOk_by (own := [(("key" : PySem.Str), 1)]) (N := [("value" : PySem.Str), ("key" : PySem.Str), ("part" : PySem.Str)]) (sc := defScope s_fixed) (by decide +kernel)) (fun _ _ _ _ _ => (pg_name (i := 1) sc_fixed.nd rfl (Or.inl rfl))) (fun _ _ _ _ _ => pts_nil) (fun _ _ _ _ _ => (pe_tup (pa_cons (pv 1) (pa_cons (pe_callGd FI hr hg rfl T.m_fixed T.k_fixed pass0 (pa_cons (pe_dget (hu_of hr) (pv 0) (pv 1) (fun _ _ => rfl)) pa_nil)) pa_nil))))) pa_nil)))) pss_nil)
    (pss_cons (ps_if (pt_val (pe_callB call_isiT (by rfl) T.n_isinstance (by decide +kernel) (pa_cons (pv 0) (pa_cons (pe_tup (pa_cons (pe_bltn (v := .ty "list") (u := .type "list") (by rfl) T.n_list (by decide +kernel) rfl) (pa_cons (pe_bltn (v := .ty "tuple") (u := .type "tuple") (by rfl) T.n_tuple (by decide +kernel) rfl) pa_nil))) pa_nil)))) (pss_one (ps_ret (pe_callTy call_tuple_of (by rfl) T.n_tuple (by decide +kernel) (pa_cons (pe_lc (own := [(("part" : PySem.Str), 2)]) rfl sc_fixed.nd (MyD.pi_or (pi_list (pv 0)) (pi_tup (pv 0))) (blkOk_by (own := [(("part" : PySem.Str), 2)]) (N := [("value" : PySem.Str), ("key" : PySem.Str), ("part" : PySem.Str)]) (sc := defScope s_fixed) (by decide +kernel)) (fun _ _ _ _ _ => (pg_name (i := 2) sc_fixed.nd rfl (Or.inl rfl))) (fun _ _ _ _ _ => pts_nil) (fun _ _ _ _ _ => (pe_callGd FI hr hg rfl T.m_fixed T.k_fixed pass0 (pa_cons (pv 2) pa_nil)))) pa_nil)))) pss_nil)
    (pss_one (ps_ret (pv 0)))))), ?_⟩
  have ty0 := tyx_tup (K := K) ha
  repeat walk_at "s"
  rename_i tp htp
  have S1 := Same.new (o := .tup [.ty "list", .ty "tuple"]) (Same.refl H) htp
  have ha1 := S1 _ _ ha
  refine ⟨_, _, _, _, _, _, rfl, upd_same, .cons (ClsV.ty _) (.cons (ClsV.ty _) .nil), tyx_tup ha1, kitAny_lt kit_tuple_list kit_tuple_tuple, ?_⟩
  repeat walk_at "s"
  refine .r ⟨_, rfl, _, rfl, ⟨xs, .inl (.inl ha1)⟩, ?_⟩
  intro D hD
  refine lc_it (walk_tup (xs := xs)) (fun i H2 => Iv (Same (upd H tp (.tup [.ty "list", .ty "tuple"])) H2 ∧ ∃ ws es, H2 D = some (.lst ws) ∧ ws.length = i ∧ DpRs H2 ws es ∧ FxAll (ds.take i) es))
    (Iv.mk ⟨Same.new (Same.refl _) hD, [], [], upd_same, rfl, .nil, .nil⟩) (fun i H2 _ h => .inl (.inl ((show Same _ H2 from h.out.1) _ _ ha1))) ?_ ?_
  · rintro i x H1 H2 hi hI2 ⟨rfl, hx⟩
    obtain ⟨sm, ws, es, hDl, hw, hd1, hf⟩ := hI2.out
    obtain ⟨d, hdi, hdr⟩ := DpRs.at_ hds hx
    have okd := hok d (List.mem_of_getElem? hdi)
    have SH : Same H H2 := fun b o e => sm b o (S1 b o e)
    repeat walk_at "s"
    refine Iv.mk ⟨x, d, rfl, hdr.same SH, okd, fun H3 v3 e3 sm3 fx3 dp3 => ?_⟩
    have hD3 := sm3 _ _ hDl
    have lt : ws.length < sizeLine := line_lt (by have := hds.length; have := DpRs.length hds; omega)
    refine ⟨ws, hD3, lt, Iv.mk ⟨Same.put (fun b o e => sm3 b o (sm b o e)) hD, ws ++ [v3], es ++ [e3], upd_same, by rw [List.length_append, hw]; rfl, ?_, by rw [take_one hdi]; exact hf.snoc fx3⟩⟩
    have tupA := (hf.snoc fx3).tupA (n := n) fun y hy => by
      rcases List.mem_append.mp hy with hy | hy
      · exact hok y (List.mem_of_mem_take hy)
      · rw [List.mem_singleton.mp hy]; exact okd
    exact DpRs.tups (fun b xs e => by rw [upd_ne (ne_of e hD3 (fun z => nomatch z))]; exact e) tupA ((hd1.same sm3).snoc dp3)
  · intro H2 hI2
    obtain ⟨sm, ws, es, hDl, hw, hd1, hf⟩ := hI2.out
    have el : ds.take xs.length = ds := by rw [hds.length, List.take_length]
    rw [el] at hf
    refine ⟨_, _, rfl, .inl ⟨SqL.of hDl, fun l hl2 => ?_⟩⟩
    exact q _ _ _ _ (Same.new (fun b o e => sm b o (S1 b o e)) hl2) hf upd_same (hd1.same (Same.new (Same.refl _) hl2))
end
end K56

namespace K56
open PySem PySem.Spec PyProof.Rows L2 MyL MyD MyP
abbrev fld (fs : List (Str × V)) (f : Str) : Option V := List.lookup f fs
/-- at a: a paper of the class at C, its word, its fixed parts, its own fields -/
def PapAt (H : Hp) (a C : Addr) (z : Str) (es : List PyData) (fl : List Str) : Prop := ∃ (dx : Addr) (fs : List (Str × V)) (p : Addr) (vs : List V), H a = some (.ins C dx fs) ∧ fld fs "word" = some (.str z) ∧ fld fs "parts" = some (.ref p) ∧ H p = some (.tup vs) ∧ DpRs H vs es ∧ TupAll es ∧
  ∀ (i : Nat) (f : Str), fl[i]? = some f → ∃ v, fld fs f = some v ∧ vs[i]? = some v
/-- what of a class the makers lean on -/
structure PCls (K : PySem.W.Frag) (C : Addr) : Prop where
  c : Cls K C
  w : NoAttr K C "word"
  p : NoAttr K C "parts"
def spPInit (K : PySem.W.Frag) : Sp := fun vs H Q _ => ∃ (a C dx : Addr) (z : Str) (xs : List V) (ds : List PyData), vs = .ref a :: .str z :: xs ∧ H a = some (.ins C dx []) ∧ PCls K C ∧ DpRs H xs ds ∧ (∀ d ∈ ds, Okd 4 d) ∧ ds.length ≤ 5 ∧
  ∀ H' es p ws, Kp a H H' → H' a = some (.ins C dx [("word", .str z), ("parts", .ref p)]) → H' p = some (.tup ws) → DpRs H' ws es → FxAll ds es → Q .non H'
def spPI0 (K : PySem.W.Frag) : Sp := fun vs H Q _ => ∃ (a C dx p : Addr) (z : Str) (xs : List V) (ds : List PyData), vs = [.ref a, .str z, .ref p] ∧ H a = some (.ins C dx []) ∧ p ≠ a ∧ H p = some (.tup xs) ∧ PCls K C ∧ DpRs H xs ds ∧ (∀ d ∈ ds, Okd 4 d) ∧ ds.length ≤ 5 ∧
  ∀ H' es q ws, Kp a H H' → H' a = some (.ins C dx [("word", .str z), ("parts", .ref q)]) → H' q = some (.tup ws) → DpRs H' ws es → FxAll ds es → Q .non H'
section
variable {P : Program} {w : World} {K : PySem.W.Frag} {mg : Str → Option Value} {base : Heap} {A : Adr}
local macro_rules | `(tactic| walk_at "sames") => `(tactic| repeat (first
  | exact Same.refl _
  | refine Same.new ?_ (by assumption)
  | refine Same.trans ?_ (by assumption)))
local macro_rules | `(tactic| walk_at "ne") => `(tactic| first
  | assumption
  | exact Ne.symm (by assumption)
  | exact ne_new (by assumption) (by walk_at "look")
  | exact ne_new' (by assumption) (by walk_at "look")
  | exact ne_of (by walk_at "look") (by walk_at "look") (by intro z; cases z))
local macro_rules | `(tactic| walk_at "look") => `(tactic| first
  | assumption
  | exact upd_same
  | (refine upd_new (by assumption) ?_
     walk_at "look")
  | (refine (upd_ne ?_).trans ?_
     · walk_at "ne"
     · walk_at "look")
  | (refine Kp.get (by assumption) ?_ ?_
     · walk_at "ne"
     · walk_at "look")
  | (refine Same.get (by assumption) ?_
     walk_at "look"))
local macro_rules | `(tactic| walk_at "lenv") => `(tactic| first
  | exact Or.inl ⟨_, SqL.of (by walk_at "look"), rfl⟩
  | exact Or.inr ⟨_, SqT.of (by walk_at "look"), rfl⟩
  | exact ⟨line_le (by omega), rfl⟩)
local macro_rules | `(tactic| walk_at "cond") => `(tactic| first
  | assumption
  | rfl
  | exact Nat.zero_le _
  | exact Nat.le_of_ble_eq_true rfl
  | decide
  | omega
  | exact line_lt (by (try simp only [List.length_map, List.length_append, List.length_cons, List.length_nil]); omega)
  | exact line_le (by (try simp only [List.length_map, List.length_append, List.length_cons, List.length_nil]); omega)
  | (dsimp only; omega)
  | exact ⟨by decide, by decide⟩
  | exact ⟨by decide, by decide, by decide⟩
  | exact Or.inl ⟨by decide, by decide⟩
  | exact Or.inl ⟨by omega, by omega⟩
  | exact Or.inr ⟨by omega, by omega⟩)
local macro_rules | `(tactic| walk_at "kit") => `(tactic| first | assumption | exact kit_NoneType_int | exact kit_NoneType_bool | exact kit_NoneType_str | exact kit_NoneType_list | exact kit_NoneType_tuple | exact kit_NoneType_dict | exact kit_bool_int | exact kit_bool_bool | exact kit_bool_str | exact kit_bool_list | exact kit_bool_tuple | exact kit_bool_dict | exact kit_int_int | exact kit_int_bool | exact kit_int_str | exact kit_int_list | exact kit_int_tuple | exact kit_int_dict | exact kit_str_int | exact kit_str_bool | exact kit_str_str | exact kit_str_list | exact kit_str_tuple | exact kit_str_dict | exact kit_list_int | exact kit_list_bool | exact kit_list_str | exact kit_list_list | exact kit_list_tuple | exact kit_list_dict | exact kit_tuple_int | exact kit_tuple_bool | exact kit_tuple_str | exact kit_tuple_list | exact kit_tuple_tuple | exact kit_tuple_dict | exact kit_dict_int | exact kit_dict_bool | exact kit_dict_str | exact kit_dict_list | exact kit_dict_tuple | exact kit_dict_dict)
local macro_rules | `(tactic| walk_at "ty") => `(tactic| first | assumption | exact tyx_str | exact tyx_int | exact tyx_bl | exact tyx_non | exact tyx_lst (by walk_at "look") | exact tyx_tup (by walk_at "look") | exact tyx_dK (by walk_at "look"))
local macro_rules | `(tactic| walk_at "s") => `(tactic| first
  | refine ⟨_, rfl, ?_⟩
  | refine ⟨_, _, rfl, rfl, ?_⟩
  | refine ⟨_, _, _, _, rfl, rfl, SqL.of (by walk_at "look"), by rfl, ?_⟩
  | refine ⟨_, _, _, _, rfl, rfl, SqT.of (by walk_at "look"), by rfl, ?_⟩
  | refine ⟨_, _, _, _, rfl, rfl, by walk_at "look", by rfl, ?_⟩
  | refine ⟨_, _, rfl, by walk_at "lenv", ?_⟩
  | refine Or.inl ⟨_, rfl, ?_⟩
  | refine ⟨_, _, _, _, _, rfl, ClsV.ty _, by walk_at "ty", by walk_at "kit", ?_⟩
  | refine And.intro (by walk_at "cond") ?_
  | refine ⟨_, _, rfl, SqT.of (by walk_at "look"), rfl, ?_⟩
  | refine ⟨_, _, rfl, SqL.of (by walk_at "look"), rfl, ?_⟩
  | refine And.intro (Or.inl ⟨rfl, _, SqL.of (by walk_at "look")⟩) ?_
  | refine ⟨_, _, _, rfl, rfl, by walk_at "look", by walk_at "cond", ?_⟩
  | refine ⟨_, _, _, _, rfl, rfl, by walk_at "look", by walk_at "look", by walk_at "cond", ?_⟩
  | refine And.intro ⟨_, rfl⟩ ?_
  | refine And.intro ⟨_, SqL.of (by walk_at "look")⟩ ?_
  | refine ⟨_, _, rfl, SqL.of (by walk_at "look"), ?_⟩
  | refine ⟨_, _, rfl, (by assumption : SqL _ _ _ _), ?_⟩
  | refine ⟨_, by walk_at "look", by walk_at "cond", ?_⟩
  | refine ⟨_, _, rfl, Or.inr (SqT.of (by walk_at "look")), ?_⟩
  | refine ⟨_, _, rfl, Or.inl (SqL.of (by walk_at "look")), ?_⟩
  | refine ⟨_, _, rfl, ?_⟩
  | refine ⟨_, _, _, rfl, by walk_at "look", by assumption, ?_⟩
  | refine ⟨_, _, true, _, _, rfl, rfl, ClsV.own _, kit_own (by assumption) (by assumption), rfl, by walk_at "look", ?_⟩
  | refine ⟨_, _, _, _, rfl, ErAt.same (by assumption) (by walk_at "sames"), by assumption, by assumption, ?_⟩
  | refine ⟨_, _, _, _, rfl, ErAt.same (by assumption) (by walk_at "sames"), by assumption, by assumption, by assumption, ?_⟩
  | refine if_t (by first | rfl | assumption | decide) ?_
  | refine if_f (by assumption) ?_
  | refine if_f (by first | decide | exact Bool.false_ne_true) ?_
  | refine fun (_ : _ ≠ sysModules) => ?_
  | refine fun (_ : ErAt _ _ _ _) => ?_
  | refine fun _ _ => ?_)

theorem fn_Paper_init (T : Txt K mg A) : FnG P w K mg base CX0 7 A.i_Paper (spPInit K) := by
  obtain ⟨fd, F⟩ := T.FI
  have G : FnG P w K mg base CX0 7 A.i_Paper (fun vs H Q E => ∃ ws rest, vs = ws ++ rest ∧ ws.length = (["self", "word"] : List PySem.Str).length ∧ rest.length ≤ 5 ∧ ∀ p, H p = none → spPI0 K (ws ++ [V.ref p]) (upd H p (.tup rest)) Q E) := by
    refine Fun_starP (sp := spPI0 K) (mx := 5) (pv := "parts") (ps := ["self", "word"]) (by decide) F sc_Paper_init StX.cxUp_none (fun kV doc pm an cdv ct us rest hl hl2 => match us, hl, rest, hl2 with | [_, _], _, [], _ => rfl | [_, _], _, [_], _ => rfl | [_, _], _, [_, _], _ => rfl | [_, _], _, [_, _, _], _ => rfl | [_, _], _, [_, _, _, _], _ => rfl | [_, _], _, [_, _, _, _, _], _ => rfl) (fun cdv A' outer s H vs Q E hr hg h => ?_)
    obtain ⟨a, C, dx, p, z, xs, ds, rfl, ha, hpa, hp, pc, hd, hok, hl3, q⟩ := h
    refine ⟨_, PSs.nox ((pss_cons (ps_fld (pv 0) (pv 1) rfl)
    (pss_one (ps_fld (pv 0) (pe_callGd (ok_fixedT T 4) (hr.mono (by decide)) hg rfl T.m_fixed T.k_fixed pass0 (pa_cons (pv 2) pa_nil)) rfl)))), ?_⟩
    refine ⟨_, rfl, _, rfl, a, C, dx, _, rfl, ha, pc.c, pc.w, (by show 0 < 1000; decide), ?_⟩
    have K1 := Kr.put (o := .ins C dx (putF "word" (.str z) [])) ha
    refine ⟨_, rfl, Iv.mk ⟨p, xs, ds, rfl, K1.t _ _ hp, hd.kr K1, hok, hl3, fun H' r ws es sm fa hr2 dws => ?_⟩⟩
    have ha' := sm _ _ (upd_same (H := H) (a := a) (o := .ins C dx (putF "word" (.str z) [])))
    have K2 := Kr.put (o := .ins C dx (putF "parts" (.ref r) (putF "word" (.str z) []))) ha'
    refine ⟨_, rfl, a, C, dx, _, rfl, ha', pc.c, pc.p, (by show 1 < 1000; decide), ?_⟩
    exact q _ es r ws (fun b o nb e => by
          rw [upd_ne nb]
          exact sm _ _ (by rw [upd_ne nb]; exact e)) upd_same (K2.t _ _ hr2) (dws.kr K2) fa
  intro A' outer s H us vs Q E hr hg e0 r h
  refine G A' outer s H us vs Q E hr hg e0 r ?_
  obtain ⟨a, C, dx, z, xs, ds, rfl, ha, pc, hd, hok, hl3, q⟩ := h
  refine ⟨[.ref a, .str z], xs, rfl, rfl, by rw [hd.length]; exact hl3, fun p hp => ⟨a, C, dx, p, z, xs, ds, rfl, by rw [upd_ne (ne_of_none ha hp)]; exact ha, Ne.symm (ne_of_none ha hp), upd_same, pc, hd.same (Same.new (Same.refl _) hp), hok, hl3, fun H' es q' ws k h1 h5 h6 h7 => ?_⟩⟩
  exact q H' es q' ws (fun b o nb e => k b o nb (by rw [upd_ne (ne_of_none e hp)]; exact e)) h1 h5 h6 h7
end
end K56

namespace K56
open PySem PySem.Spec PyProof.Rows L2 MyL MyD MyP NdefX
/-- C(..)'s __init__ of a class with fields of its own -/
def spC (C : Addr) (z : Str) (fl : List Str) : Sp := fun vs H Q _ => ∃ (a dx : Addr) (xs : List V) (ds : List PyData), vs = .ref a :: xs ∧ H a = some (.ins C dx []) ∧ DpRs H xs ds ∧ (∀ d ∈ ds, Okd 4 d) ∧ xs.length = fl.length ∧
  ∀ H' es, Kp a H H' → PapAt H' a C z es fl → FxAll ds es → Q .non H'
section
variable {P : Program} {w : World} {K : PySem.W.Frag} {mg : Str → Option Value} {base : Heap} {A : Adr}
theorem ini_Safe (PF : Prg P) (T : Txt K mg A) : ∃ fd, FnA P w K mg base CX0 8 A.i_Safe fd ["self", "stands"] (spC A.c_Safe "safe" ["stands"]) ∧ (∀ us : List Value, us.length = 2 → bindArgs fd ⟨us, []⟩ = pure ((["self", "stands"] : List PySem.Str).zip us)) ∧ ∀ (s : Shared) (u : Value) (ws : List Value), ws.length = 1 → BindsTo s fd ⟨[u], (["stands"] : List PySem.Str).zip ws⟩ ((["self", "stands"] : List PySem.Str).zip (u :: ([0] : List Nat).map fun j => ws.getD j .none)) := by
  obtain ⟨fd, F⟩ := T.FC_Safe
  refine ⟨fd, ?_, ?_⟩
  · refine fnc_super (j := 7) (k := 0) (EI := fun _ _ _ => False) PF T.S0 F sc_Safe_init rfl rfl rfl rfl (fun _ => rfl) (fun _ => rfl) (fun _ => rfl) (fun vs H Q E h => ?_) (fn_Paper_init T) (fun NFv A' outer s H vs Q E e1 e2 hr hg h => ?_)
    · obtain ⟨a, dx, xs, ds, rfl, _, _, _, hl, _⟩ := h
      show xs.length + 1 = _
      rw [hl]
      rfl
    · obtain ⟨a, dx, xs, ds, rfl, ha, hd, hok, hl, q⟩ := h
      obtain ⟨nm, ql, pm, bd, sc, cl, cd⟩ := NFv
      dsimp only at e1 e2
      subst e1 e2
      match xs, hl with
      | [x1], _ =>
      refine ⟨a, _, dx, [], [x1], _, _, rfl, ha, T.S_Safe, (pa_cons pe_str (pa_cons (pv 1) pa_nil)), PSs.nox (pss_one (ps_fld (pv 0) (pe_ix ix_tup (pe_fld (pv 0) rfl) pe_int (fun _ _ => rfl)) rfl)), pass0, ?_⟩
      refine ⟨_, rfl, Iv.mk ⟨a, A.c_Safe, dx, "safe", [x1], ds, rfl, ha, ⟨T.O_Safe.c, T.n_Safe _ (by decide), T.n_Safe _ (by decide)⟩, hd, hok, by rw [← hd.length]; exact Nat.le_of_ble_eq_true rfl, fun H' es p ws kp ha' hp' dws fa => ?_⟩⟩
      have hle : ws.length = 1 := by rw [dws.length, ← fa.length, ← hd.length]; rfl
      have tu := fa.tupA hok
      match ws, hle with
      | [v1], _ =>
      refine ⟨_, rfl, a, A.c_Safe, dx, _, .ref p, rfl, ha', T.O_Safe.c, T.n_Safe _ (by decide), rfl, _, _, _, v1, rfl, rfl, SqT.of hp', rfl, _, rfl, a, A.c_Safe, dx, _, rfl, ha', T.O_Safe.c, T.n_Safe _ (by decide), (by show 2 < 1000; decide), ?_⟩
      refine q _ es ?_ ⟨dx, _, p, [v1], upd_same, rfl, rfl, ?_, ?_, tu, fun i f h => ?_⟩ fa
      · intro b o nb e
        rw [upd_ne nb]
        exact kp b o nb e
      · rw [upd_ne (ne_of hp' ha' (fun z => nomatch z))]
        exact hp'
      · exact dws.tups (fun b xs e => by rw [upd_ne (ne_of e ha' (fun z => nomatch z))]; exact e) tu
      · match i, h with
        | 0, h => cases h; exact ⟨v1, rfl, rfl⟩
        | i + 1, h => simp at h
  · obtain ⟨oc, kV, doc, pm, od, an, cda, cc, ct, osl, ccl, cdd, vcs, ccs, tf, cl, cld, csl, cdD, rfl, _⟩ := F.ex
    exact ⟨fun us h => match us, h with | [_, _], _ => rfl, fun s u ws h => match ws, h with | [_], _ => .of_eq rfl⟩
theorem fn_Safe_init (PF : Prg P) (T : Txt K mg A) : FnG P w K mg base CX0 8 A.i_Safe (spC A.c_Safe "safe" ["stands"]) := by
  obtain ⟨fd, F, b, _⟩ := ini_Safe (w := w) (base := base) PF T
  exact F.fnG b
theorem ini_Unsafe (PF : Prg P) (T : Txt K mg A) : ∃ fd, FnA P w K mg base CX0 8 A.i_Unsafe fd ["self", "states", "deeds"] (spC A.c_Unsafe "unsafe" ["states", "deeds"]) ∧ (∀ us : List Value, us.length = 3 → bindArgs fd ⟨us, []⟩ = pure ((["self", "states", "deeds"] : List PySem.Str).zip us)) ∧ ∀ (s : Shared) (u : Value) (ws : List Value), ws.length = 2 → BindsTo s fd ⟨[u], (["deeds", "states"] : List PySem.Str).zip ws⟩ ((["self", "states", "deeds"] : List PySem.Str).zip (u :: ([1, 0] : List Nat).map fun j => ws.getD j .none)) := by
  obtain ⟨fd, F⟩ := T.FC_Unsafe
  refine ⟨fd, ?_, ?_⟩
  · refine fnc_super (j := 7) (k := 0) (EI := fun _ _ _ => False) PF T.S0 F sc_Unsafe_init rfl rfl rfl rfl (fun _ => rfl) (fun _ => rfl) (fun _ => rfl) (fun vs H Q E h => ?_) (fn_Paper_init T) (fun NFv A' outer s H vs Q E e1 e2 hr hg h => ?_)
    · obtain ⟨a, dx, xs, ds, rfl, _, _, _, hl, _⟩ := h
      show xs.length + 1 = _
      rw [hl]
      rfl
    · obtain ⟨a, dx, xs, ds, rfl, ha, hd, hok, hl, q⟩ := h
      obtain ⟨nm, ql, pm, bd, sc, cl, cd⟩ := NFv
      dsimp only at e1 e2
      subst e1 e2
      match xs, hl with
      | [x1, x2], _ =>
      refine ⟨a, _, dx, [], [x1, x2], _, _, rfl, ha, T.S_Unsafe, (pa_cons pe_str (pa_cons (pv 1) (pa_cons (pv 2) pa_nil))), PSs.nox (pss_cons (ps_fld (pv 0) (pe_ix ix_tup (pe_fld (pv 0) rfl) pe_int (fun _ _ => rfl)) rfl) (pss_one (ps_fld (pv 0) (pe_ix ix_tup (pe_fld (pv 0) rfl) pe_int (fun _ _ => rfl)) rfl))), pass0, ?_⟩
      refine ⟨_, rfl, _, rfl, Iv.mk ⟨a, A.c_Unsafe, dx, "unsafe", [x1, x2], ds, rfl, ha, ⟨T.O_Unsafe.c, T.n_Unsafe _ (by decide), T.n_Unsafe _ (by decide)⟩, hd, hok, by rw [← hd.length]; exact Nat.le_of_ble_eq_true rfl, fun H' es p ws kp ha' hp' dws fa => ?_⟩⟩
      have hle : ws.length = 2 := by rw [dws.length, ← fa.length, ← hd.length]; rfl
      have tu := fa.tupA hok
      match ws, hle with
      | [v1, v2], _ =>
      refine ⟨_, rfl, a, A.c_Unsafe, dx, _, .ref p, rfl, ha', T.O_Unsafe.c, T.n_Unsafe _ (by decide), rfl, _, _, _, v1, rfl, rfl, SqT.of hp', rfl, _, rfl, a, A.c_Unsafe, dx, _, rfl, ha', T.O_Unsafe.c, T.n_Unsafe _ (by decide), (by show 2 < 1000; decide), ?_⟩
      refine ⟨_, rfl, a, A.c_Unsafe, dx, _, .ref p, rfl, upd_same, T.O_Unsafe.c, T.n_Unsafe _ (by decide), rfl, _, _, _, v2, rfl, rfl, SqT.of (by rw [upd_ne (ne_of hp' ha' (fun z => nomatch z))]; exact hp'), rfl, _, rfl, a, A.c_Unsafe, dx, _, rfl, upd_same, T.O_Unsafe.c, T.n_Unsafe _ (by decide), (by show 3 < 1000; decide), ?_⟩
      refine q _ es ?_ ⟨dx, _, p, [v1, v2], upd_same, rfl, rfl, ?_, ?_, tu, fun i f h => ?_⟩ fa
      · intro b o nb e
        rw [upd_ne nb, upd_ne nb]
        exact kp b o nb e
      · rw [upd_ne (ne_of hp' ha' (fun z => nomatch z)), upd_ne (ne_of hp' ha' (fun z => nomatch z))]
        exact hp'
      · exact dws.tups (fun b xs e => by rw [upd_ne (ne_of e ha' (fun z => nomatch z)), upd_ne (ne_of e ha' (fun z => nomatch z))]; exact e) tu
      · match i, h with
        | 0, h => cases h; exact ⟨v1, rfl, rfl⟩
        | 1, h => cases h; exact ⟨v2, rfl, rfl⟩
        | i + 2, h => simp at h
  · obtain ⟨oc, kV, doc, pm, od, an, cda, cc, ct, osl, ccl, cdd, vcs, ccs, tf, cl, cld, csl, cdD, rfl, _⟩ := F.ex
    exact ⟨fun us h => match us, h with | [_, _, _], _ => rfl, fun s u ws h => match ws, h with | [_, _], _ => .of_eq rfl⟩
theorem fn_Unsafe_init (PF : Prg P) (T : Txt K mg A) : FnG P w K mg base CX0 8 A.i_Unsafe (spC A.c_Unsafe "unsafe" ["states", "deeds"]) := by
  obtain ⟨fd, F, b, _⟩ := ini_Unsafe (w := w) (base := base) PF T
  exact F.fnG b
theorem ini_Held (PF : Prg P) (T : Txt K mg A) : ∃ fd, FnA P w K mg base CX0 8 A.i_Held fd ["self", "pages", "entries"] (spC A.c_Held "held" ["pages", "entries"]) ∧ (∀ us : List Value, us.length = 3 → bindArgs fd ⟨us, []⟩ = pure ((["self", "pages", "entries"] : List PySem.Str).zip us)) ∧ ∀ (s : Shared) (u : Value) (ws : List Value), ws.length = 2 → BindsTo s fd ⟨[u], (["entries", "pages"] : List PySem.Str).zip ws⟩ ((["self", "pages", "entries"] : List PySem.Str).zip (u :: ([1, 0] : List Nat).map fun j => ws.getD j .none)) := by
  obtain ⟨fd, F⟩ := T.FC_Held
  refine ⟨fd, ?_, ?_⟩
  · refine fnc_super (j := 7) (k := 0) (EI := fun _ _ _ => False) PF T.S0 F sc_Held_init rfl rfl rfl rfl (fun _ => rfl) (fun _ => rfl) (fun _ => rfl) (fun vs H Q E h => ?_) (fn_Paper_init T) (fun NFv A' outer s H vs Q E e1 e2 hr hg h => ?_)
    · obtain ⟨a, dx, xs, ds, rfl, _, _, _, hl, _⟩ := h
      show xs.length + 1 = _
      rw [hl]
      rfl
    · obtain ⟨a, dx, xs, ds, rfl, ha, hd, hok, hl, q⟩ := h
      obtain ⟨nm, ql, pm, bd, sc, cl, cd⟩ := NFv
      dsimp only at e1 e2
      subst e1 e2
      match xs, hl with
      | [x1, x2], _ =>
      refine ⟨a, _, dx, [], [x1, x2], _, _, rfl, ha, T.S_Held, (pa_cons pe_str (pa_cons (pv 1) (pa_cons (pv 2) pa_nil))), PSs.nox (pss_one (ps_asg (pe_fld (pv 0) rfl) (pg_tup rfl (pgs_cons (pg_fld (pv 0)) (pgs_cons (pg_fld (pv 0)) pgs_nil))))), pass0, ?_⟩
      refine ⟨_, rfl, _, rfl, Iv.mk ⟨a, A.c_Held, dx, "held", [x1, x2], ds, rfl, ha, ⟨T.O_Held.c, T.n_Held _ (by decide), T.n_Held _ (by decide)⟩, hd, hok, by rw [← hd.length]; exact Nat.le_of_ble_eq_true rfl, fun H' es p ws kp ha' hp' dws fa => ?_⟩⟩
      have hle : ws.length = 2 := by rw [dws.length, ← fa.length, ← hd.length]; rfl
      have tu := fa.tupA hok
      match ws, hle with
      | [v1, v2], _ =>
      refine ⟨_, rfl, a, A.c_Held, dx, _, .ref p, rfl, ha', T.O_Held.c, T.n_Held _ (by decide), rfl, p, _, rfl, SqT.of hp', rfl, ?_⟩
      refine ⟨v1, _, rfl, _, rfl, a, A.c_Held, dx, _, rfl, ha', T.O_Held.c, T.n_Held _ (by decide), (by show 2 < 1000; decide), ?_⟩
      refine ⟨v2, _, rfl, _, rfl, a, A.c_Held, dx, _, rfl, upd_same, T.O_Held.c, T.n_Held _ (by decide), (by show 3 < 1000; decide), ?_⟩
      refine ⟨rfl, ?_⟩
      refine q _ es ?_ ⟨dx, _, p, [v1, v2], upd_same, rfl, rfl, ?_, ?_, tu, fun i f h => ?_⟩ fa
      · intro b o nb e
        rw [upd_ne nb, upd_ne nb]
        exact kp b o nb e
      · rw [upd_ne (ne_of hp' ha' (fun z => nomatch z)), upd_ne (ne_of hp' ha' (fun z => nomatch z))]
        exact hp'
      · exact dws.tups (fun b xs e => by rw [upd_ne (ne_of e ha' (fun z => nomatch z)), upd_ne (ne_of e ha' (fun z => nomatch z))]; exact e) tu
      · match i, h with
        | 0, h => cases h; exact ⟨v1, rfl, rfl⟩
        | 1, h => cases h; exact ⟨v2, rfl, rfl⟩
        | i + 2, h => simp at h
  · obtain ⟨oc, kV, doc, pm, od, an, cda, cc, ct, osl, ccl, cdd, vcs, ccs, tf, cl, cld, csl, cdD, rfl, _⟩ := F.ex
    exact ⟨fun us h => match us, h with | [_, _, _], _ => rfl, fun s u ws h => match ws, h with | [_, _], _ => .of_eq rfl⟩
theorem fn_Held_init (PF : Prg P) (T : Txt K mg A) : FnG P w K mg base CX0 8 A.i_Held (spC A.c_Held "held" ["pages", "entries"]) := by
  obtain ⟨fd, F, b, _⟩ := ini_Held (w := w) (base := base) PF T
  exact F.fnG b
theorem ini_Lost (PF : Prg P) (T : Txt K mg A) : ∃ fd, FnA P w K mg base CX0 8 A.i_Lost fd ["self", "number", "ranked", "kept"] (spC A.c_Lost "lost" ["number", "ranked", "kept"]) ∧ (∀ us : List Value, us.length = 4 → bindArgs fd ⟨us, []⟩ = pure ((["self", "number", "ranked", "kept"] : List PySem.Str).zip us)) ∧ ∀ (s : Shared) (u : Value) (ws : List Value), ws.length = 3 → BindsTo s fd ⟨[u], (["kept", "number", "ranked"] : List PySem.Str).zip ws⟩ ((["self", "number", "ranked", "kept"] : List PySem.Str).zip (u :: ([1, 2, 0] : List Nat).map fun j => ws.getD j .none)) := by
  obtain ⟨fd, F⟩ := T.FC_Lost
  refine ⟨fd, ?_, ?_⟩
  · refine fnc_super (j := 7) (k := 0) (EI := fun _ _ _ => False) PF T.S0 F sc_Lost_init rfl rfl rfl rfl (fun _ => rfl) (fun _ => rfl) (fun _ => rfl) (fun vs H Q E h => ?_) (fn_Paper_init T) (fun NFv A' outer s H vs Q E e1 e2 hr hg h => ?_)
    · obtain ⟨a, dx, xs, ds, rfl, _, _, _, hl, _⟩ := h
      show xs.length + 1 = _
      rw [hl]
      rfl
    · obtain ⟨a, dx, xs, ds, rfl, ha, hd, hok, hl, q⟩ := h
      obtain ⟨nm, ql, pm, bd, sc, cl, cd⟩ := NFv
      dsimp only at e1 e2
      subst e1 e2
      match xs, hl with
      | [x1, x2, x3], _ =>
      refine ⟨a, _, dx, [], [x1, x2, x3], _, _, rfl, ha, T.S_Lost, (pa_cons pe_str (pa_cons (pv 1) (pa_cons (pv 2) (pa_cons (pv 3) pa_nil)))), PSs.nox (pss_one (ps_asg (pe_fld (pv 0) rfl) (pg_tup rfl (pgs_cons (pg_fld (pv 0)) (pgs_cons (pg_fld (pv 0)) (pgs_cons (pg_fld (pv 0)) pgs_nil)))))), pass0, ?_⟩
      refine ⟨_, rfl, _, rfl, _, rfl, Iv.mk ⟨a, A.c_Lost, dx, "lost", [x1, x2, x3], ds, rfl, ha, ⟨T.O_Lost.c, T.n_Lost _ (by decide), T.n_Lost _ (by decide)⟩, hd, hok, by rw [← hd.length]; exact Nat.le_of_ble_eq_true rfl, fun H' es p ws kp ha' hp' dws fa => ?_⟩⟩
      have hle : ws.length = 3 := by rw [dws.length, ← fa.length, ← hd.length]; rfl
      have tu := fa.tupA hok
      match ws, hle with
      | [v1, v2, v3], _ =>
      refine ⟨_, rfl, a, A.c_Lost, dx, _, .ref p, rfl, ha', T.O_Lost.c, T.n_Lost _ (by decide), rfl, p, _, rfl, SqT.of hp', rfl, ?_⟩
      refine ⟨v1, _, rfl, _, rfl, a, A.c_Lost, dx, _, rfl, ha', T.O_Lost.c, T.n_Lost _ (by decide), (by show 2 < 1000; decide), ?_⟩
      refine ⟨v2, _, rfl, _, rfl, a, A.c_Lost, dx, _, rfl, upd_same, T.O_Lost.c, T.n_Lost _ (by decide), (by show 3 < 1000; decide), ?_⟩
      refine ⟨v3, _, rfl, _, rfl, a, A.c_Lost, dx, _, rfl, upd_same, T.O_Lost.c, T.n_Lost _ (by decide), (by show 4 < 1000; decide), ?_⟩
      refine ⟨rfl, ?_⟩
      refine q _ es ?_ ⟨dx, _, p, [v1, v2, v3], upd_same, rfl, rfl, ?_, ?_, tu, fun i f h => ?_⟩ fa
      · intro b o nb e
        rw [upd_ne nb, upd_ne nb, upd_ne nb]
        exact kp b o nb e
      · rw [upd_ne (ne_of hp' ha' (fun z => nomatch z)), upd_ne (ne_of hp' ha' (fun z => nomatch z)), upd_ne (ne_of hp' ha' (fun z => nomatch z))]
        exact hp'
      · exact dws.tups (fun b xs e => by rw [upd_ne (ne_of e ha' (fun z => nomatch z)), upd_ne (ne_of e ha' (fun z => nomatch z)), upd_ne (ne_of e ha' (fun z => nomatch z))]; exact e) tu
      · match i, h with
        | 0, h => cases h; exact ⟨v1, rfl, rfl⟩
        | 1, h => cases h; exact ⟨v2, rfl, rfl⟩
        | 2, h => cases h; exact ⟨v3, rfl, rfl⟩
        | i + 3, h => simp at h
  · obtain ⟨oc, kV, doc, pm, od, an, cda, cc, ct, osl, ccl, cdd, vcs, ccs, tf, cl, cld, csl, cdD, rfl, _⟩ := F.ex
    exact ⟨fun us h => match us, h with | [_, _, _, _], _ => rfl, fun s u ws h => match ws, h with | [_, _, _], _ => .of_eq rfl⟩
theorem fn_Lost_init (PF : Prg P) (T : Txt K mg A) : FnG P w K mg base CX0 8 A.i_Lost (spC A.c_Lost "lost" ["number", "ranked", "kept"]) := by
  obtain ⟨fd, F, b, _⟩ := ini_Lost (w := w) (base := base) PF T
  exact F.fnG b
theorem ini_Shared (PF : Prg P) (T : Txt K mg A) : ∃ fd, FnA P w K mg base CX0 8 A.i_Shared fd ["self", "pairs"] (spC A.c_Shared "shared" ["pairs"]) ∧ (∀ us : List Value, us.length = 2 → bindArgs fd ⟨us, []⟩ = pure ((["self", "pairs"] : List PySem.Str).zip us)) ∧ ∀ (s : Shared) (u : Value) (ws : List Value), ws.length = 1 → BindsTo s fd ⟨[u], (["pairs"] : List PySem.Str).zip ws⟩ ((["self", "pairs"] : List PySem.Str).zip (u :: ([0] : List Nat).map fun j => ws.getD j .none)) := by
  obtain ⟨fd, F⟩ := T.FC_Shared
  refine ⟨fd, ?_, ?_⟩
  · refine fnc_super (j := 7) (k := 0) (EI := fun _ _ _ => False) PF T.S0 F sc_Shared_init rfl rfl rfl rfl (fun _ => rfl) (fun _ => rfl) (fun _ => rfl) (fun vs H Q E h => ?_) (fn_Paper_init T) (fun NFv A' outer s H vs Q E e1 e2 hr hg h => ?_)
    · obtain ⟨a, dx, xs, ds, rfl, _, _, _, hl, _⟩ := h
      show xs.length + 1 = _
      rw [hl]
      rfl
    · obtain ⟨a, dx, xs, ds, rfl, ha, hd, hok, hl, q⟩ := h
      obtain ⟨nm, ql, pm, bd, sc, cl, cd⟩ := NFv
      dsimp only at e1 e2
      subst e1 e2
      match xs, hl with
      | [x1], _ =>
      refine ⟨a, _, dx, [], [x1], _, _, rfl, ha, T.S_Shared, (pa_cons pe_str (pa_cons (pv 1) pa_nil)), PSs.nox (pss_one (ps_fld (pv 0) (pe_ix ix_tup (pe_fld (pv 0) rfl) pe_int (fun _ _ => rfl)) rfl)), pass0, ?_⟩
      refine ⟨_, rfl, Iv.mk ⟨a, A.c_Shared, dx, "shared", [x1], ds, rfl, ha, ⟨T.O_Shared.c, T.n_Shared _ (by decide), T.n_Shared _ (by decide)⟩, hd, hok, by rw [← hd.length]; exact Nat.le_of_ble_eq_true rfl, fun H' es p ws kp ha' hp' dws fa => ?_⟩⟩
      have hle : ws.length = 1 := by rw [dws.length, ← fa.length, ← hd.length]; rfl
      have tu := fa.tupA hok
      match ws, hle with
      | [v1], _ =>
      refine ⟨_, rfl, a, A.c_Shared, dx, _, .ref p, rfl, ha', T.O_Shared.c, T.n_Shared _ (by decide), rfl, _, _, _, v1, rfl, rfl, SqT.of hp', rfl, _, rfl, a, A.c_Shared, dx, _, rfl, ha', T.O_Shared.c, T.n_Shared _ (by decide), (by show 2 < 1000; decide), ?_⟩
      refine q _ es ?_ ⟨dx, _, p, [v1], upd_same, rfl, rfl, ?_, ?_, tu, fun i f h => ?_⟩ fa
      · intro b o nb e
        rw [upd_ne nb]
        exact kp b o nb e
      · rw [upd_ne (ne_of hp' ha' (fun z => nomatch z))]
        exact hp'
      · exact dws.tups (fun b xs e => by rw [upd_ne (ne_of e ha' (fun z => nomatch z))]; exact e) tu
      · match i, h with
        | 0, h => cases h; exact ⟨v1, rfl, rfl⟩
        | i + 1, h => simp at h
  · obtain ⟨oc, kV, doc, pm, od, an, cda, cc, ct, osl, ccl, cdd, vcs, ccs, tf, cl, cld, csl, cdD, rfl, _⟩ := F.ex
    exact ⟨fun us h => match us, h with | [_, _], _ => rfl, fun s u ws h => match ws, h with | [_], _ => .of_eq rfl⟩
theorem fn_Shared_init (PF : Prg P) (T : Txt K mg A) : FnG P w K mg base CX0 8 A.i_Shared (spC A.c_Shared "shared" ["pairs"]) := by
  obtain ⟨fd, F, b, _⟩ := ini_Shared (w := w) (base := base) PF T
  exact F.fnG b
theorem ini_Parting (PF : Prg P) (T : Txt K mg A) : ∃ fd, FnA P w K mg base CX0 8 A.i_Parting fd ["self", "row", "way", "sets"] (spC A.c_Parting "parting" ["row", "way", "sets"]) ∧ (∀ us : List Value, us.length = 4 → bindArgs fd ⟨us, []⟩ = pure ((["self", "row", "way", "sets"] : List PySem.Str).zip us)) ∧ ∀ (s : Shared) (u : Value) (ws : List Value), ws.length = 3 → BindsTo s fd ⟨[u], (["sets", "way", "row"] : List PySem.Str).zip ws⟩ ((["self", "row", "way", "sets"] : List PySem.Str).zip (u :: ([2, 1, 0] : List Nat).map fun j => ws.getD j .none)) := by
  obtain ⟨fd, F⟩ := T.FC_Parting
  refine ⟨fd, ?_, ?_⟩
  · refine fnc_super (j := 7) (k := 0) (EI := fun _ _ _ => False) PF T.S0 F sc_Parting_init rfl rfl rfl rfl (fun _ => rfl) (fun _ => rfl) (fun _ => rfl) (fun vs H Q E h => ?_) (fn_Paper_init T) (fun NFv A' outer s H vs Q E e1 e2 hr hg h => ?_)
    · obtain ⟨a, dx, xs, ds, rfl, _, _, _, hl, _⟩ := h
      show xs.length + 1 = _
      rw [hl]
      rfl
    · obtain ⟨a, dx, xs, ds, rfl, ha, hd, hok, hl, q⟩ := h
      obtain ⟨nm, ql, pm, bd, sc, cl, cd⟩ := NFv
      dsimp only at e1 e2
      subst e1 e2
      match xs, hl with
      | [x1, x2, x3], _ =>
      refine ⟨a, _, dx, [], [x1, x2, x3], _, _, rfl, ha, T.S_Parting, (pa_cons pe_str (pa_cons (pv 1) (pa_cons (pv 2) (pa_cons (pv 3) pa_nil)))), PSs.nox (pss_cons (ps_fld (pv 0) (pe_ix ix_tup (pe_fld (pv 0) rfl) pe_int (fun _ _ => rfl)) rfl) (pss_cons (ps_fld (pv 0) (pe_ix ix_tup (pe_fld (pv 0) rfl) pe_int (fun _ _ => rfl)) rfl) (pss_one (ps_fld (pv 0) (pe_ix ix_tup (pe_fld (pv 0) rfl) pe_int (fun _ _ => rfl)) rfl)))), pass0, ?_⟩
      refine ⟨_, rfl, _, rfl, _, rfl, Iv.mk ⟨a, A.c_Parting, dx, "parting", [x1, x2, x3], ds, rfl, ha, ⟨T.O_Parting.c, T.n_Parting _ (by decide), T.n_Parting _ (by decide)⟩, hd, hok, by rw [← hd.length]; exact Nat.le_of_ble_eq_true rfl, fun H' es p ws kp ha' hp' dws fa => ?_⟩⟩
      have hle : ws.length = 3 := by rw [dws.length, ← fa.length, ← hd.length]; rfl
      have tu := fa.tupA hok
      match ws, hle with
      | [v1, v2, v3], _ =>
      refine ⟨_, rfl, a, A.c_Parting, dx, _, .ref p, rfl, ha', T.O_Parting.c, T.n_Parting _ (by decide), rfl, _, _, _, v1, rfl, rfl, SqT.of hp', rfl, _, rfl, a, A.c_Parting, dx, _, rfl, ha', T.O_Parting.c, T.n_Parting _ (by decide), (by show 2 < 1000; decide), ?_⟩
      refine ⟨_, rfl, a, A.c_Parting, dx, _, .ref p, rfl, upd_same, T.O_Parting.c, T.n_Parting _ (by decide), rfl, _, _, _, v2, rfl, rfl, SqT.of (by rw [upd_ne (ne_of hp' ha' (fun z => nomatch z))]; exact hp'), rfl, _, rfl, a, A.c_Parting, dx, _, rfl, upd_same, T.O_Parting.c, T.n_Parting _ (by decide), (by show 3 < 1000; decide), ?_⟩
      refine ⟨_, rfl, a, A.c_Parting, dx, _, .ref p, rfl, upd_same, T.O_Parting.c, T.n_Parting _ (by decide), rfl, _, _, _, v3, rfl, rfl, SqT.of (by rw [upd_ne (ne_of hp' ha' (fun z => nomatch z)), upd_ne (ne_of hp' ha' (fun z => nomatch z))]; exact hp'), rfl, _, rfl, a, A.c_Parting, dx, _, rfl, upd_same, T.O_Parting.c, T.n_Parting _ (by decide), (by show 4 < 1000; decide), ?_⟩
      refine q _ es ?_ ⟨dx, _, p, [v1, v2, v3], upd_same, rfl, rfl, ?_, ?_, tu, fun i f h => ?_⟩ fa
      · intro b o nb e
        rw [upd_ne nb, upd_ne nb, upd_ne nb]
        exact kp b o nb e
      · rw [upd_ne (ne_of hp' ha' (fun z => nomatch z)), upd_ne (ne_of hp' ha' (fun z => nomatch z)), upd_ne (ne_of hp' ha' (fun z => nomatch z))]
        exact hp'
      · exact dws.tups (fun b xs e => by rw [upd_ne (ne_of e ha' (fun z => nomatch z)), upd_ne (ne_of e ha' (fun z => nomatch z)), upd_ne (ne_of e ha' (fun z => nomatch z))]; exact e) tu
      · match i, h with
        | 0, h => cases h; exact ⟨v1, rfl, rfl⟩
        | 1, h => cases h; exact ⟨v2, rfl, rfl⟩
        | 2, h => cases h; exact ⟨v3, rfl, rfl⟩
        | i + 3, h => simp at h
  · obtain ⟨oc, kV, doc, pm, od, an, cda, cc, ct, osl, ccl, cdd, vcs, ccs, tf, cl, cld, csl, cdD, rfl, _⟩ := F.ex
    exact ⟨fun us h => match us, h with | [_, _, _, _], _ => rfl, fun s u ws h => match ws, h with | [_, _, _], _ => .of_eq rfl⟩
theorem fn_Parting_init (PF : Prg P) (T : Txt K mg A) : FnG P w K mg base CX0 8 A.i_Parting (spC A.c_Parting "parting" ["row", "way", "sets"]) := by
  obtain ⟨fd, F, b, _⟩ := ini_Parting (w := w) (base := base) PF T
  exact F.fnG b
theorem ini_Serves (PF : Prg P) (T : Txt K mg A) : ∃ fd, FnA P w K mg base CX0 8 A.i_Serves fd ["self", "spots"] (spC A.c_Serves "serves" ["spots"]) ∧ (∀ us : List Value, us.length = 2 → bindArgs fd ⟨us, []⟩ = pure ((["self", "spots"] : List PySem.Str).zip us)) ∧ ∀ (s : Shared) (u : Value) (ws : List Value), ws.length = 1 → BindsTo s fd ⟨[u], (["spots"] : List PySem.Str).zip ws⟩ ((["self", "spots"] : List PySem.Str).zip (u :: ([0] : List Nat).map fun j => ws.getD j .none)) := by
  obtain ⟨fd, F⟩ := T.FC_Serves
  refine ⟨fd, ?_, ?_⟩
  · refine fnc_super (j := 7) (k := 0) (EI := fun _ _ _ => False) PF T.S0 F sc_Serves_init rfl rfl rfl rfl (fun _ => rfl) (fun _ => rfl) (fun _ => rfl) (fun vs H Q E h => ?_) (fn_Paper_init T) (fun NFv A' outer s H vs Q E e1 e2 hr hg h => ?_)
    · obtain ⟨a, dx, xs, ds, rfl, _, _, _, hl, _⟩ := h
      show xs.length + 1 = _
      rw [hl]
      rfl
    · obtain ⟨a, dx, xs, ds, rfl, ha, hd, hok, hl, q⟩ := h
      obtain ⟨nm, ql, pm, bd, sc, cl, cd⟩ := NFv
      dsimp only at e1 e2
      subst e1 e2
      match xs, hl with
      | [x1], _ =>
      refine ⟨a, _, dx, [], [x1], _, _, rfl, ha, T.S_Serves, (pa_cons pe_str (pa_cons (pv 1) pa_nil)), PSs.nox (pss_one (ps_fld (pv 0) (pe_ix ix_tup (pe_fld (pv 0) rfl) pe_int (fun _ _ => rfl)) rfl)), pass0, ?_⟩
      refine ⟨_, rfl, Iv.mk ⟨a, A.c_Serves, dx, "serves", [x1], ds, rfl, ha, ⟨T.O_Serves.c, T.n_Serves _ (by decide), T.n_Serves _ (by decide)⟩, hd, hok, by rw [← hd.length]; exact Nat.le_of_ble_eq_true rfl, fun H' es p ws kp ha' hp' dws fa => ?_⟩⟩
      have hle : ws.length = 1 := by rw [dws.length, ← fa.length, ← hd.length]; rfl
      have tu := fa.tupA hok
      match ws, hle with
      | [v1], _ =>
      refine ⟨_, rfl, a, A.c_Serves, dx, _, .ref p, rfl, ha', T.O_Serves.c, T.n_Serves _ (by decide), rfl, _, _, _, v1, rfl, rfl, SqT.of hp', rfl, _, rfl, a, A.c_Serves, dx, _, rfl, ha', T.O_Serves.c, T.n_Serves _ (by decide), (by show 2 < 1000; decide), ?_⟩
      refine q _ es ?_ ⟨dx, _, p, [v1], upd_same, rfl, rfl, ?_, ?_, tu, fun i f h => ?_⟩ fa
      · intro b o nb e
        rw [upd_ne nb]
        exact kp b o nb e
      · rw [upd_ne (ne_of hp' ha' (fun z => nomatch z))]
        exact hp'
      · exact dws.tups (fun b xs e => by rw [upd_ne (ne_of e ha' (fun z => nomatch z))]; exact e) tu
      · match i, h with
        | 0, h => cases h; exact ⟨v1, rfl, rfl⟩
        | i + 1, h => simp at h
  · obtain ⟨oc, kV, doc, pm, od, an, cda, cc, ct, osl, ccl, cdd, vcs, ccs, tf, cl, cld, csl, cdD, rfl, _⟩ := F.ex
    exact ⟨fun us h => match us, h with | [_, _], _ => rfl, fun s u ws h => match ws, h with | [_], _ => .of_eq rfl⟩
theorem fn_Serves_init (PF : Prg P) (T : Txt K mg A) : FnG P w K mg base CX0 8 A.i_Serves (spC A.c_Serves "serves" ["spots"]) := by
  obtain ⟨fd, F, b, _⟩ := ini_Serves (w := w) (base := base) PF T
  exact F.fnG b
theorem ini_Lacks (PF : Prg P) (T : Txt K mg A) : ∃ fd, FnA P w K mg base CX0 8 A.i_Lacks fd ["self", "page", "sight", "states"] (spC A.c_Lacks "lacks" ["page", "sight", "states"]) ∧ (∀ us : List Value, us.length = 4 → bindArgs fd ⟨us, []⟩ = pure ((["self", "page", "sight", "states"] : List PySem.Str).zip us)) ∧ ∀ (s : Shared) (u : Value) (ws : List Value), ws.length = 3 → BindsTo s fd ⟨[u], (["states", "sight", "page"] : List PySem.Str).zip ws⟩ ((["self", "page", "sight", "states"] : List PySem.Str).zip (u :: ([2, 1, 0] : List Nat).map fun j => ws.getD j .none)) := by
  obtain ⟨fd, F⟩ := T.FC_Lacks
  refine ⟨fd, ?_, ?_⟩
  · refine fnc_super (j := 7) (k := 0) (EI := fun _ _ _ => False) PF T.S0 F sc_Lacks_init rfl rfl rfl rfl (fun _ => rfl) (fun _ => rfl) (fun _ => rfl) (fun vs H Q E h => ?_) (fn_Paper_init T) (fun NFv A' outer s H vs Q E e1 e2 hr hg h => ?_)
    · obtain ⟨a, dx, xs, ds, rfl, _, _, _, hl, _⟩ := h
      show xs.length + 1 = _
      rw [hl]
      rfl
    · obtain ⟨a, dx, xs, ds, rfl, ha, hd, hok, hl, q⟩ := h
      obtain ⟨nm, ql, pm, bd, sc, cl, cd⟩ := NFv
      dsimp only at e1 e2
      subst e1 e2
      match xs, hl with
      | [x1, x2, x3], _ =>
      refine ⟨a, _, dx, [], [x1, x2, x3], _, _, rfl, ha, T.S_Lacks, (pa_cons pe_str (pa_cons (pv 1) (pa_cons (pv 2) (pa_cons (pv 3) pa_nil)))), PSs.nox (pss_one (ps_asg (pe_fld (pv 0) rfl) (pg_tup rfl (pgs_cons (pg_fld (pv 0)) (pgs_cons (pg_fld (pv 0)) (pgs_cons (pg_fld (pv 0)) pgs_nil)))))), pass0, ?_⟩
      refine ⟨_, rfl, _, rfl, _, rfl, Iv.mk ⟨a, A.c_Lacks, dx, "lacks", [x1, x2, x3], ds, rfl, ha, ⟨T.O_Lacks.c, T.n_Lacks _ (by decide), T.n_Lacks _ (by decide)⟩, hd, hok, by rw [← hd.length]; exact Nat.le_of_ble_eq_true rfl, fun H' es p ws kp ha' hp' dws fa => ?_⟩⟩
      have hle : ws.length = 3 := by rw [dws.length, ← fa.length, ← hd.length]; rfl
      have tu := fa.tupA hok
      match ws, hle with
      | [v1, v2, v3], _ =>
      refine ⟨_, rfl, a, A.c_Lacks, dx, _, .ref p, rfl, ha', T.O_Lacks.c, T.n_Lacks _ (by decide), rfl, p, _, rfl, SqT.of hp', rfl, ?_⟩
      refine ⟨v1, _, rfl, _, rfl, a, A.c_Lacks, dx, _, rfl, ha', T.O_Lacks.c, T.n_Lacks _ (by decide), (by show 2 < 1000; decide), ?_⟩
      refine ⟨v2, _, rfl, _, rfl, a, A.c_Lacks, dx, _, rfl, upd_same, T.O_Lacks.c, T.n_Lacks _ (by decide), (by show 3 < 1000; decide), ?_⟩
      refine ⟨v3, _, rfl, _, rfl, a, A.c_Lacks, dx, _, rfl, upd_same, T.O_Lacks.c, T.n_Lacks _ (by decide), (by show 4 < 1000; decide), ?_⟩
      refine ⟨rfl, ?_⟩
      refine q _ es ?_ ⟨dx, _, p, [v1, v2, v3], upd_same, rfl, rfl, ?_, ?_, tu, fun i f h => ?_⟩ fa
      · intro b o nb e
        rw [upd_ne nb, upd_ne nb, upd_ne nb]
        exact kp b o nb e
      · rw [upd_ne (ne_of hp' ha' (fun z => nomatch z)), upd_ne (ne_of hp' ha' (fun z => nomatch z)), upd_ne (ne_of hp' ha' (fun z => nomatch z))]
        exact hp'
      · exact dws.tups (fun b xs e => by rw [upd_ne (ne_of e ha' (fun z => nomatch z)), upd_ne (ne_of e ha' (fun z => nomatch z)), upd_ne (ne_of e ha' (fun z => nomatch z))]; exact e) tu
      · match i, h with
        | 0, h => cases h; exact ⟨v1, rfl, rfl⟩
        | 1, h => cases h; exact ⟨v2, rfl, rfl⟩
        | 2, h => cases h; exact ⟨v3, rfl, rfl⟩
        | i + 3, h => simp at h
  · obtain ⟨oc, kV, doc, pm, od, an, cda, cc, ct, osl, ccl, cdd, vcs, ccs, tf, cl, cld, csl, cdD, rfl, _⟩ := F.ex
    exact ⟨fun us h => match us, h with | [_, _, _, _], _ => rfl, fun s u ws h => match ws, h with | [_, _, _], _ => .of_eq rfl⟩
theorem fn_Lacks_init (PF : Prg P) (T : Txt K mg A) : FnG P w K mg base CX0 8 A.i_Lacks (spC A.c_Lacks "lacks" ["page", "sight", "states"]) := by
  obtain ⟨fd, F, b, _⟩ := ini_Lacks (w := w) (base := base) PF T
  exact F.fnG b
theorem ini_Holds (PF : Prg P) (T : Txt K mg A) : ∃ fd, FnA P w K mg base CX0 8 A.i_Holds fd ["self", "triples"] (spC A.c_Holds "holds" ["triples"]) ∧ (∀ us : List Value, us.length = 2 → bindArgs fd ⟨us, []⟩ = pure ((["self", "triples"] : List PySem.Str).zip us)) ∧ ∀ (s : Shared) (u : Value) (ws : List Value), ws.length = 1 → BindsTo s fd ⟨[u], (["triples"] : List PySem.Str).zip ws⟩ ((["self", "triples"] : List PySem.Str).zip (u :: ([0] : List Nat).map fun j => ws.getD j .none)) := by
  obtain ⟨fd, F⟩ := T.FC_Holds
  refine ⟨fd, ?_, ?_⟩
  · refine fnc_super (j := 7) (k := 0) (EI := fun _ _ _ => False) PF T.S0 F sc_Holds_init rfl rfl rfl rfl (fun _ => rfl) (fun _ => rfl) (fun _ => rfl) (fun vs H Q E h => ?_) (fn_Paper_init T) (fun NFv A' outer s H vs Q E e1 e2 hr hg h => ?_)
    · obtain ⟨a, dx, xs, ds, rfl, _, _, _, hl, _⟩ := h
      show xs.length + 1 = _
      rw [hl]
      rfl
    · obtain ⟨a, dx, xs, ds, rfl, ha, hd, hok, hl, q⟩ := h
      obtain ⟨nm, ql, pm, bd, sc, cl, cd⟩ := NFv
      dsimp only at e1 e2
      subst e1 e2
      match xs, hl with
      | [x1], _ =>
      refine ⟨a, _, dx, [], [x1], _, _, rfl, ha, T.S_Holds, (pa_cons pe_str (pa_cons (pv 1) pa_nil)), PSs.nox (pss_one (ps_fld (pv 0) (pe_ix ix_tup (pe_fld (pv 0) rfl) pe_int (fun _ _ => rfl)) rfl)), pass0, ?_⟩
      refine ⟨_, rfl, Iv.mk ⟨a, A.c_Holds, dx, "holds", [x1], ds, rfl, ha, ⟨T.O_Holds.c, T.n_Holds _ (by decide), T.n_Holds _ (by decide)⟩, hd, hok, by rw [← hd.length]; exact Nat.le_of_ble_eq_true rfl, fun H' es p ws kp ha' hp' dws fa => ?_⟩⟩
      have hle : ws.length = 1 := by rw [dws.length, ← fa.length, ← hd.length]; rfl
      have tu := fa.tupA hok
      match ws, hle with
      | [v1], _ =>
      refine ⟨_, rfl, a, A.c_Holds, dx, _, .ref p, rfl, ha', T.O_Holds.c, T.n_Holds _ (by decide), rfl, _, _, _, v1, rfl, rfl, SqT.of hp', rfl, _, rfl, a, A.c_Holds, dx, _, rfl, ha', T.O_Holds.c, T.n_Holds _ (by decide), (by show 2 < 1000; decide), ?_⟩
      refine q _ es ?_ ⟨dx, _, p, [v1], upd_same, rfl, rfl, ?_, ?_, tu, fun i f h => ?_⟩ fa
      · intro b o nb e
        rw [upd_ne nb]
        exact kp b o nb e
      · rw [upd_ne (ne_of hp' ha' (fun z => nomatch z))]
        exact hp'
      · exact dws.tups (fun b xs e => by rw [upd_ne (ne_of e ha' (fun z => nomatch z))]; exact e) tu
      · match i, h with
        | 0, h => cases h; exact ⟨v1, rfl, rfl⟩
        | i + 1, h => simp at h
  · obtain ⟨oc, kV, doc, pm, od, an, cda, cc, ct, osl, ccl, cdd, vcs, ccs, tf, cl, cld, csl, cdD, rfl, _⟩ := F.ex
    exact ⟨fun us h => match us, h with | [_, _], _ => rfl, fun s u ws h => match ws, h with | [_], _ => .of_eq rfl⟩
theorem fn_Holds_init (PF : Prg P) (T : Txt K mg A) : FnG P w K mg base CX0 8 A.i_Holds (spC A.c_Holds "holds" ["triples"]) := by
  obtain ⟨fd, F, b, _⟩ := ini_Holds (w := w) (base := base) PF T
  exact F.fnG b
theorem ini_Broken (PF : Prg P) (T : Txt K mg A) : ∃ fd, FnA P w K mg base CX0 8 A.i_Broken fd ["self", "first", "states"] (spC A.c_Broken "broken" ["first", "states"]) ∧ (∀ us : List Value, us.length = 3 → bindArgs fd ⟨us, []⟩ = pure ((["self", "first", "states"] : List PySem.Str).zip us)) ∧ ∀ (s : Shared) (u : Value) (ws : List Value), ws.length = 2 → BindsTo s fd ⟨[u], (["states", "first"] : List PySem.Str).zip ws⟩ ((["self", "first", "states"] : List PySem.Str).zip (u :: ([1, 0] : List Nat).map fun j => ws.getD j .none)) := by
  obtain ⟨fd, F⟩ := T.FC_Broken
  refine ⟨fd, ?_, ?_⟩
  · refine fnc_super (j := 7) (k := 0) (EI := fun _ _ _ => False) PF T.S0 F sc_Broken_init rfl rfl rfl rfl (fun _ => rfl) (fun _ => rfl) (fun _ => rfl) (fun vs H Q E h => ?_) (fn_Paper_init T) (fun NFv A' outer s H vs Q E e1 e2 hr hg h => ?_)
    · obtain ⟨a, dx, xs, ds, rfl, _, _, _, hl, _⟩ := h
      show xs.length + 1 = _
      rw [hl]
      rfl
    · obtain ⟨a, dx, xs, ds, rfl, ha, hd, hok, hl, q⟩ := h
      obtain ⟨nm, ql, pm, bd, sc, cl, cd⟩ := NFv
      dsimp only at e1 e2
      subst e1 e2
      match xs, hl with
      | [x1, x2], _ =>
      refine ⟨a, _, dx, [], [x1, x2], _, _, rfl, ha, T.S_Broken, (pa_cons pe_str (pa_cons (pv 1) (pa_cons (pv 2) pa_nil))), PSs.nox (pss_one (ps_asg (pe_fld (pv 0) rfl) (pg_tup rfl (pgs_cons (pg_fld (pv 0)) (pgs_cons (pg_fld (pv 0)) pgs_nil))))), pass0, ?_⟩
      refine ⟨_, rfl, _, rfl, Iv.mk ⟨a, A.c_Broken, dx, "broken", [x1, x2], ds, rfl, ha, ⟨T.O_Broken.c, T.n_Broken _ (by decide), T.n_Broken _ (by decide)⟩, hd, hok, by rw [← hd.length]; exact Nat.le_of_ble_eq_true rfl, fun H' es p ws kp ha' hp' dws fa => ?_⟩⟩
      have hle : ws.length = 2 := by rw [dws.length, ← fa.length, ← hd.length]; rfl
      have tu := fa.tupA hok
      match ws, hle with
      | [v1, v2], _ =>
      refine ⟨_, rfl, a, A.c_Broken, dx, _, .ref p, rfl, ha', T.O_Broken.c, T.n_Broken _ (by decide), rfl, p, _, rfl, SqT.of hp', rfl, ?_⟩
      refine ⟨v1, _, rfl, _, rfl, a, A.c_Broken, dx, _, rfl, ha', T.O_Broken.c, T.n_Broken _ (by decide), (by show 2 < 1000; decide), ?_⟩
      refine ⟨v2, _, rfl, _, rfl, a, A.c_Broken, dx, _, rfl, upd_same, T.O_Broken.c, T.n_Broken _ (by decide), (by show 3 < 1000; decide), ?_⟩
      refine ⟨rfl, ?_⟩
      refine q _ es ?_ ⟨dx, _, p, [v1, v2], upd_same, rfl, rfl, ?_, ?_, tu, fun i f h => ?_⟩ fa
      · intro b o nb e
        rw [upd_ne nb, upd_ne nb]
        exact kp b o nb e
      · rw [upd_ne (ne_of hp' ha' (fun z => nomatch z)), upd_ne (ne_of hp' ha' (fun z => nomatch z))]
        exact hp'
      · exact dws.tups (fun b xs e => by rw [upd_ne (ne_of e ha' (fun z => nomatch z)), upd_ne (ne_of e ha' (fun z => nomatch z))]; exact e) tu
      · match i, h with
        | 0, h => cases h; exact ⟨v1, rfl, rfl⟩
        | 1, h => cases h; exact ⟨v2, rfl, rfl⟩
        | i + 2, h => simp at h
  · obtain ⟨oc, kV, doc, pm, od, an, cda, cc, ct, osl, ccl, cdd, vcs, ccs, tf, cl, cld, csl, cdD, rfl, _⟩ := F.ex
    exact ⟨fun us h => match us, h with | [_, _, _], _ => rfl, fun s u ws h => match ws, h with | [_, _], _ => .of_eq rfl⟩
theorem fn_Broken_init (PF : Prg P) (T : Txt K mg A) : FnG P w K mg base CX0 8 A.i_Broken (spC A.c_Broken "broken" ["first", "states"]) := by
  obtain ⟨fd, F, b, _⟩ := ini_Broken (w := w) (base := base) PF T
  exact F.fnG b
theorem ini_Uncovered (PF : Prg P) (T : Txt K mg A) : ∃ fd, FnA P w K mg base CX0 8 A.i_Uncovered fd ["self", "page", "sight"] (spC A.c_Uncovered "uncovered" ["page", "sight"]) ∧ (∀ us : List Value, us.length = 3 → bindArgs fd ⟨us, []⟩ = pure ((["self", "page", "sight"] : List PySem.Str).zip us)) ∧ ∀ (s : Shared) (u : Value) (ws : List Value), ws.length = 2 → BindsTo s fd ⟨[u], (["sight", "page"] : List PySem.Str).zip ws⟩ ((["self", "page", "sight"] : List PySem.Str).zip (u :: ([1, 0] : List Nat).map fun j => ws.getD j .none)) := by
  obtain ⟨fd, F⟩ := T.FC_Uncovered
  refine ⟨fd, ?_, ?_⟩
  · refine fnc_super (j := 7) (k := 0) (EI := fun _ _ _ => False) PF T.S0 F sc_Uncovered_init rfl rfl rfl rfl (fun _ => rfl) (fun _ => rfl) (fun _ => rfl) (fun vs H Q E h => ?_) (fn_Paper_init T) (fun NFv A' outer s H vs Q E e1 e2 hr hg h => ?_)
    · obtain ⟨a, dx, xs, ds, rfl, _, _, _, hl, _⟩ := h
      show xs.length + 1 = _
      rw [hl]
      rfl
    · obtain ⟨a, dx, xs, ds, rfl, ha, hd, hok, hl, q⟩ := h
      obtain ⟨nm, ql, pm, bd, sc, cl, cd⟩ := NFv
      dsimp only at e1 e2
      subst e1 e2
      match xs, hl with
      | [x1, x2], _ =>
      refine ⟨a, _, dx, [], [x1, x2], _, _, rfl, ha, T.S_Uncovered, (pa_cons pe_str (pa_cons (pv 1) (pa_cons (pv 2) pa_nil))), PSs.nox (pss_one (ps_asg (pe_fld (pv 0) rfl) (pg_tup rfl (pgs_cons (pg_fld (pv 0)) (pgs_cons (pg_fld (pv 0)) pgs_nil))))), pass0, ?_⟩
      refine ⟨_, rfl, _, rfl, Iv.mk ⟨a, A.c_Uncovered, dx, "uncovered", [x1, x2], ds, rfl, ha, ⟨T.O_Uncovered.c, T.n_Uncovered _ (by decide), T.n_Uncovered _ (by decide)⟩, hd, hok, by rw [← hd.length]; exact Nat.le_of_ble_eq_true rfl, fun H' es p ws kp ha' hp' dws fa => ?_⟩⟩
      have hle : ws.length = 2 := by rw [dws.length, ← fa.length, ← hd.length]; rfl
      have tu := fa.tupA hok
      match ws, hle with
      | [v1, v2], _ =>
      refine ⟨_, rfl, a, A.c_Uncovered, dx, _, .ref p, rfl, ha', T.O_Uncovered.c, T.n_Uncovered _ (by decide), rfl, p, _, rfl, SqT.of hp', rfl, ?_⟩
      refine ⟨v1, _, rfl, _, rfl, a, A.c_Uncovered, dx, _, rfl, ha', T.O_Uncovered.c, T.n_Uncovered _ (by decide), (by show 2 < 1000; decide), ?_⟩
      refine ⟨v2, _, rfl, _, rfl, a, A.c_Uncovered, dx, _, rfl, upd_same, T.O_Uncovered.c, T.n_Uncovered _ (by decide), (by show 3 < 1000; decide), ?_⟩
      refine ⟨rfl, ?_⟩
      refine q _ es ?_ ⟨dx, _, p, [v1, v2], upd_same, rfl, rfl, ?_, ?_, tu, fun i f h => ?_⟩ fa
      · intro b o nb e
        rw [upd_ne nb, upd_ne nb]
        exact kp b o nb e
      · rw [upd_ne (ne_of hp' ha' (fun z => nomatch z)), upd_ne (ne_of hp' ha' (fun z => nomatch z))]
        exact hp'
      · exact dws.tups (fun b xs e => by rw [upd_ne (ne_of e ha' (fun z => nomatch z)), upd_ne (ne_of e ha' (fun z => nomatch z))]; exact e) tu
      · match i, h with
        | 0, h => cases h; exact ⟨v1, rfl, rfl⟩
        | 1, h => cases h; exact ⟨v2, rfl, rfl⟩
        | i + 2, h => simp at h
  · obtain ⟨oc, kV, doc, pm, od, an, cda, cc, ct, osl, ccl, cdd, vcs, ccs, tf, cl, cld, csl, cdD, rfl, _⟩ := F.ex
    exact ⟨fun us h => match us, h with | [_, _, _], _ => rfl, fun s u ws h => match ws, h with | [_, _], _ => .of_eq rfl⟩
theorem fn_Uncovered_init (PF : Prg P) (T : Txt K mg A) : FnG P w K mg base CX0 8 A.i_Uncovered (spC A.c_Uncovered "uncovered" ["page", "sight"]) := by
  obtain ⟨fd, F, b, _⟩ := ini_Uncovered (w := w) (base := base) PF T
  exact F.fnG b
theorem ini_Delay (PF : Prg P) (T : Txt K mg A) : ∃ fd, FnA P w K mg base CX0 8 A.i_Delay fd ["self", "number", "heights", "play"] (spC A.c_Delay "delay" ["number", "heights", "play"]) ∧ (∀ us : List Value, us.length = 4 → bindArgs fd ⟨us, []⟩ = pure ((["self", "number", "heights", "play"] : List PySem.Str).zip us)) ∧ ∀ (s : Shared) (u : Value) (ws : List Value), ws.length = 3 → BindsTo s fd ⟨[u], (["play", "heights", "number"] : List PySem.Str).zip ws⟩ ((["self", "number", "heights", "play"] : List PySem.Str).zip (u :: ([2, 1, 0] : List Nat).map fun j => ws.getD j .none)) := by
  obtain ⟨fd, F⟩ := T.FC_Delay
  refine ⟨fd, ?_, ?_⟩
  · refine fnc_super (j := 7) (k := 0) (EI := fun _ _ _ => False) PF T.S0 F sc_Delay_init rfl rfl rfl rfl (fun _ => rfl) (fun _ => rfl) (fun _ => rfl) (fun vs H Q E h => ?_) (fn_Paper_init T) (fun NFv A' outer s H vs Q E e1 e2 hr hg h => ?_)
    · obtain ⟨a, dx, xs, ds, rfl, _, _, _, hl, _⟩ := h
      show xs.length + 1 = _
      rw [hl]
      rfl
    · obtain ⟨a, dx, xs, ds, rfl, ha, hd, hok, hl, q⟩ := h
      obtain ⟨nm, ql, pm, bd, sc, cl, cd⟩ := NFv
      dsimp only at e1 e2
      subst e1 e2
      match xs, hl with
      | [x1, x2, x3], _ =>
      refine ⟨a, _, dx, [], [x1, x2, x3], _, _, rfl, ha, T.S_Delay, (pa_cons pe_str (pa_cons (pv 1) (pa_cons (pv 2) (pa_cons (pv 3) pa_nil)))), PSs.nox (pss_one (ps_asg (pe_fld (pv 0) rfl) (pg_tup rfl (pgs_cons (pg_fld (pv 0)) (pgs_cons (pg_fld (pv 0)) (pgs_cons (pg_fld (pv 0)) pgs_nil)))))), pass0, ?_⟩
      refine ⟨_, rfl, _, rfl, _, rfl, Iv.mk ⟨a, A.c_Delay, dx, "delay", [x1, x2, x3], ds, rfl, ha, ⟨T.O_Delay.c, T.n_Delay _ (by decide), T.n_Delay _ (by decide)⟩, hd, hok, by rw [← hd.length]; exact Nat.le_of_ble_eq_true rfl, fun H' es p ws kp ha' hp' dws fa => ?_⟩⟩
      have hle : ws.length = 3 := by rw [dws.length, ← fa.length, ← hd.length]; rfl
      have tu := fa.tupA hok
      match ws, hle with
      | [v1, v2, v3], _ =>
      refine ⟨_, rfl, a, A.c_Delay, dx, _, .ref p, rfl, ha', T.O_Delay.c, T.n_Delay _ (by decide), rfl, p, _, rfl, SqT.of hp', rfl, ?_⟩
      refine ⟨v1, _, rfl, _, rfl, a, A.c_Delay, dx, _, rfl, ha', T.O_Delay.c, T.n_Delay _ (by decide), (by show 2 < 1000; decide), ?_⟩
      refine ⟨v2, _, rfl, _, rfl, a, A.c_Delay, dx, _, rfl, upd_same, T.O_Delay.c, T.n_Delay _ (by decide), (by show 3 < 1000; decide), ?_⟩
      refine ⟨v3, _, rfl, _, rfl, a, A.c_Delay, dx, _, rfl, upd_same, T.O_Delay.c, T.n_Delay _ (by decide), (by show 4 < 1000; decide), ?_⟩
      refine ⟨rfl, ?_⟩
      refine q _ es ?_ ⟨dx, _, p, [v1, v2, v3], upd_same, rfl, rfl, ?_, ?_, tu, fun i f h => ?_⟩ fa
      · intro b o nb e
        rw [upd_ne nb, upd_ne nb, upd_ne nb]
        exact kp b o nb e
      · rw [upd_ne (ne_of hp' ha' (fun z => nomatch z)), upd_ne (ne_of hp' ha' (fun z => nomatch z)), upd_ne (ne_of hp' ha' (fun z => nomatch z))]
        exact hp'
      · exact dws.tups (fun b xs e => by rw [upd_ne (ne_of e ha' (fun z => nomatch z)), upd_ne (ne_of e ha' (fun z => nomatch z)), upd_ne (ne_of e ha' (fun z => nomatch z))]; exact e) tu
      · match i, h with
        | 0, h => cases h; exact ⟨v1, rfl, rfl⟩
        | 1, h => cases h; exact ⟨v2, rfl, rfl⟩
        | 2, h => cases h; exact ⟨v3, rfl, rfl⟩
        | i + 3, h => simp at h
  · obtain ⟨oc, kV, doc, pm, od, an, cda, cc, ct, osl, ccl, cdd, vcs, ccs, tf, cl, cld, csl, cdD, rfl, _⟩ := F.ex
    exact ⟨fun us h => match us, h with | [_, _, _, _], _ => rfl, fun s u ws h => match ws, h with | [_, _, _], _ => .of_eq rfl⟩
theorem fn_Delay_init (PF : Prg P) (T : Txt K mg A) : FnG P w K mg base CX0 8 A.i_Delay (spC A.c_Delay "delay" ["number", "heights", "play"]) := by
  obtain ⟨fd, F, b, _⟩ := ini_Delay (w := w) (base := base) PF T
  exact F.fnG b
theorem ini_Ring (PF : Prg P) (T : Txt K mg A) : ∃ fd, FnA P w K mg base CX0 8 A.i_Ring fd ["self", "play", "at"] (spC A.c_Ring "ring" ["play", "at"]) ∧ (∀ us : List Value, us.length = 3 → bindArgs fd ⟨us, []⟩ = pure ((["self", "play", "at"] : List PySem.Str).zip us)) ∧ ∀ (s : Shared) (u : Value) (ws : List Value), ws.length = 2 → BindsTo s fd ⟨[u], (["at", "play"] : List PySem.Str).zip ws⟩ ((["self", "play", "at"] : List PySem.Str).zip (u :: ([1, 0] : List Nat).map fun j => ws.getD j .none)) := by
  obtain ⟨fd, F⟩ := T.FC_Ring
  refine ⟨fd, ?_, ?_⟩
  · refine fnc_super (j := 7) (k := 0) (EI := fun _ _ _ => False) PF T.S0 F sc_Ring_init rfl rfl rfl rfl (fun _ => rfl) (fun _ => rfl) (fun _ => rfl) (fun vs H Q E h => ?_) (fn_Paper_init T) (fun NFv A' outer s H vs Q E e1 e2 hr hg h => ?_)
    · obtain ⟨a, dx, xs, ds, rfl, _, _, _, hl, _⟩ := h
      show xs.length + 1 = _
      rw [hl]
      rfl
    · obtain ⟨a, dx, xs, ds, rfl, ha, hd, hok, hl, q⟩ := h
      obtain ⟨nm, ql, pm, bd, sc, cl, cd⟩ := NFv
      dsimp only at e1 e2
      subst e1 e2
      match xs, hl with
      | [x1, x2], _ =>
      refine ⟨a, _, dx, [], [x1, x2], _, _, rfl, ha, T.S_Ring, (pa_cons pe_str (pa_cons (pv 1) (pa_cons (pv 2) pa_nil))), PSs.nox (pss_one (ps_asg (pe_fld (pv 0) rfl) (pg_tup rfl (pgs_cons (pg_fld (pv 0)) (pgs_cons (pg_fld (pv 0)) pgs_nil))))), pass0, ?_⟩
      refine ⟨_, rfl, _, rfl, Iv.mk ⟨a, A.c_Ring, dx, "ring", [x1, x2], ds, rfl, ha, ⟨T.O_Ring.c, T.n_Ring _ (by decide), T.n_Ring _ (by decide)⟩, hd, hok, by rw [← hd.length]; exact Nat.le_of_ble_eq_true rfl, fun H' es p ws kp ha' hp' dws fa => ?_⟩⟩
      have hle : ws.length = 2 := by rw [dws.length, ← fa.length, ← hd.length]; rfl
      have tu := fa.tupA hok
      match ws, hle with
      | [v1, v2], _ =>
      refine ⟨_, rfl, a, A.c_Ring, dx, _, .ref p, rfl, ha', T.O_Ring.c, T.n_Ring _ (by decide), rfl, p, _, rfl, SqT.of hp', rfl, ?_⟩
      refine ⟨v1, _, rfl, _, rfl, a, A.c_Ring, dx, _, rfl, ha', T.O_Ring.c, T.n_Ring _ (by decide), (by show 2 < 1000; decide), ?_⟩
      refine ⟨v2, _, rfl, _, rfl, a, A.c_Ring, dx, _, rfl, upd_same, T.O_Ring.c, T.n_Ring _ (by decide), (by show 3 < 1000; decide), ?_⟩
      refine ⟨rfl, ?_⟩
      refine q _ es ?_ ⟨dx, _, p, [v1, v2], upd_same, rfl, rfl, ?_, ?_, tu, fun i f h => ?_⟩ fa
      · intro b o nb e
        rw [upd_ne nb, upd_ne nb]
        exact kp b o nb e
      · rw [upd_ne (ne_of hp' ha' (fun z => nomatch z)), upd_ne (ne_of hp' ha' (fun z => nomatch z))]
        exact hp'
      · exact dws.tups (fun b xs e => by rw [upd_ne (ne_of e ha' (fun z => nomatch z)), upd_ne (ne_of e ha' (fun z => nomatch z))]; exact e) tu
      · match i, h with
        | 0, h => cases h; exact ⟨v1, rfl, rfl⟩
        | 1, h => cases h; exact ⟨v2, rfl, rfl⟩
        | i + 2, h => simp at h
  · obtain ⟨oc, kV, doc, pm, od, an, cda, cc, ct, osl, ccl, cdd, vcs, ccs, tf, cl, cld, csl, cdD, rfl, _⟩ := F.ex
    exact ⟨fun us h => match us, h with | [_, _, _], _ => rfl, fun s u ws h => match ws, h with | [_, _], _ => .of_eq rfl⟩
theorem fn_Ring_init (PF : Prg P) (T : Txt K mg A) : FnG P w K mg base CX0 8 A.i_Ring (spC A.c_Ring "ring" ["play", "at"]) := by
  obtain ⟨fd, F, b, _⟩ := ini_Ring (w := w) (base := base) PF T
  exact F.fnG b
theorem ini_Refusal (PF : Prg P) (T : Txt K mg A) : ∃ fd, FnA P w K mg base CX0 8 A.i_Refusal fd ["self", "pages", "tree"] (spC A.c_Refusal "refusal" ["pages", "tree"]) ∧ (∀ us : List Value, us.length = 3 → bindArgs fd ⟨us, []⟩ = pure ((["self", "pages", "tree"] : List PySem.Str).zip us)) ∧ ∀ (s : Shared) (u : Value) (ws : List Value), ws.length = 2 → BindsTo s fd ⟨[u], (["tree", "pages"] : List PySem.Str).zip ws⟩ ((["self", "pages", "tree"] : List PySem.Str).zip (u :: ([1, 0] : List Nat).map fun j => ws.getD j .none)) := by
  obtain ⟨fd, F⟩ := T.FC_Refusal
  refine ⟨fd, ?_, ?_⟩
  · refine fnc_super (j := 7) (k := 0) (EI := fun _ _ _ => False) PF T.S0 F sc_Refusal_init rfl rfl rfl rfl (fun _ => rfl) (fun _ => rfl) (fun _ => rfl) (fun vs H Q E h => ?_) (fn_Paper_init T) (fun NFv A' outer s H vs Q E e1 e2 hr hg h => ?_)
    · obtain ⟨a, dx, xs, ds, rfl, _, _, _, hl, _⟩ := h
      show xs.length + 1 = _
      rw [hl]
      rfl
    · obtain ⟨a, dx, xs, ds, rfl, ha, hd, hok, hl, q⟩ := h
      obtain ⟨nm, ql, pm, bd, sc, cl, cd⟩ := NFv
      dsimp only at e1 e2
      subst e1 e2
      match xs, hl with
      | [x1, x2], _ =>
      refine ⟨a, _, dx, [], [x1, x2], _, _, rfl, ha, T.S_Refusal, (pa_cons pe_str (pa_cons (pv 1) (pa_cons (pv 2) pa_nil))), PSs.nox (pss_one (ps_asg (pe_fld (pv 0) rfl) (pg_tup rfl (pgs_cons (pg_fld (pv 0)) (pgs_cons (pg_fld (pv 0)) pgs_nil))))), pass0, ?_⟩
      refine ⟨_, rfl, _, rfl, Iv.mk ⟨a, A.c_Refusal, dx, "refusal", [x1, x2], ds, rfl, ha, ⟨T.O_Refusal.c, T.n_Refusal _ (by decide), T.n_Refusal _ (by decide)⟩, hd, hok, by rw [← hd.length]; exact Nat.le_of_ble_eq_true rfl, fun H' es p ws kp ha' hp' dws fa => ?_⟩⟩
      have hle : ws.length = 2 := by rw [dws.length, ← fa.length, ← hd.length]; rfl
      have tu := fa.tupA hok
      match ws, hle with
      | [v1, v2], _ =>
      refine ⟨_, rfl, a, A.c_Refusal, dx, _, .ref p, rfl, ha', T.O_Refusal.c, T.n_Refusal _ (by decide), rfl, p, _, rfl, SqT.of hp', rfl, ?_⟩
      refine ⟨v1, _, rfl, _, rfl, a, A.c_Refusal, dx, _, rfl, ha', T.O_Refusal.c, T.n_Refusal _ (by decide), (by show 2 < 1000; decide), ?_⟩
      refine ⟨v2, _, rfl, _, rfl, a, A.c_Refusal, dx, _, rfl, upd_same, T.O_Refusal.c, T.n_Refusal _ (by decide), (by show 3 < 1000; decide), ?_⟩
      refine ⟨rfl, ?_⟩
      refine q _ es ?_ ⟨dx, _, p, [v1, v2], upd_same, rfl, rfl, ?_, ?_, tu, fun i f h => ?_⟩ fa
      · intro b o nb e
        rw [upd_ne nb, upd_ne nb]
        exact kp b o nb e
      · rw [upd_ne (ne_of hp' ha' (fun z => nomatch z)), upd_ne (ne_of hp' ha' (fun z => nomatch z))]
        exact hp'
      · exact dws.tups (fun b xs e => by rw [upd_ne (ne_of e ha' (fun z => nomatch z)), upd_ne (ne_of e ha' (fun z => nomatch z))]; exact e) tu
      · match i, h with
        | 0, h => cases h; exact ⟨v1, rfl, rfl⟩
        | 1, h => cases h; exact ⟨v2, rfl, rfl⟩
        | i + 2, h => simp at h
  · obtain ⟨oc, kV, doc, pm, od, an, cda, cc, ct, osl, ccl, cdd, vcs, ccs, tf, cl, cld, csl, cdD, rfl, _⟩ := F.ex
    exact ⟨fun us h => match us, h with | [_, _, _], _ => rfl, fun s u ws h => match ws, h with | [_, _], _ => .of_eq rfl⟩
theorem fn_Refusal_init (PF : Prg P) (T : Txt K mg A) : FnG P w K mg base CX0 8 A.i_Refusal (spC A.c_Refusal "refusal" ["pages", "tree"]) := by
  obtain ⟨fd, F, b, _⟩ := ini_Refusal (w := w) (base := base) PF T
  exact F.fnG b
theorem ini_Patience (PF : Prg P) (T : Txt K mg A) : ∃ fd, FnA P w K mg base CX0 8 A.i_Patience fd ["self", "number", "table", "delay", "tree"] (spC A.c_Patience "patience" ["number", "table", "delay", "tree"]) ∧ (∀ us : List Value, us.length = 5 → bindArgs fd ⟨us, []⟩ = pure ((["self", "number", "table", "delay", "tree"] : List PySem.Str).zip us)) ∧ ∀ (s : Shared) (u : Value) (ws : List Value), ws.length = 4 → BindsTo s fd ⟨[u], (["tree", "delay", "table", "number"] : List PySem.Str).zip ws⟩ ((["self", "number", "table", "delay", "tree"] : List PySem.Str).zip (u :: ([3, 2, 1, 0] : List Nat).map fun j => ws.getD j .none)) := by
  obtain ⟨fd, F⟩ := T.FC_Patience
  refine ⟨fd, ?_, ?_⟩
  · refine fnc_super (j := 7) (k := 0) (EI := fun _ _ _ => False) PF T.S0 F sc_Patience_init rfl rfl rfl rfl (fun _ => rfl) (fun _ => rfl) (fun _ => rfl) (fun vs H Q E h => ?_) (fn_Paper_init T) (fun NFv A' outer s H vs Q E e1 e2 hr hg h => ?_)
    · obtain ⟨a, dx, xs, ds, rfl, _, _, _, hl, _⟩ := h
      show xs.length + 1 = _
      rw [hl]
      rfl
    · obtain ⟨a, dx, xs, ds, rfl, ha, hd, hok, hl, q⟩ := h
      obtain ⟨nm, ql, pm, bd, sc, cl, cd⟩ := NFv
      dsimp only at e1 e2
      subst e1 e2
      match xs, hl with
      | [x1, x2, x3, x4], _ =>
      refine ⟨a, _, dx, [], [x1, x2, x3, x4], _, _, rfl, ha, T.S_Patience, (pa_cons pe_str (pa_cons (pv 1) (pa_cons (pv 2) (pa_cons (pv 3) (pa_cons (pv 4) pa_nil))))), PSs.nox (pss_one (ps_asg (pe_fld (pv 0) rfl) (pg_tup rfl (pgs_cons (pg_fld (pv 0)) (pgs_cons (pg_fld (pv 0)) (pgs_cons (pg_fld (pv 0)) (pgs_cons (pg_fld (pv 0)) pgs_nil))))))), pass0, ?_⟩
      refine ⟨_, rfl, _, rfl, _, rfl, _, rfl, Iv.mk ⟨a, A.c_Patience, dx, "patience", [x1, x2, x3, x4], ds, rfl, ha, ⟨T.O_Patience.c, T.n_Patience _ (by decide), T.n_Patience _ (by decide)⟩, hd, hok, by rw [← hd.length]; exact Nat.le_of_ble_eq_true rfl, fun H' es p ws kp ha' hp' dws fa => ?_⟩⟩
      have hle : ws.length = 4 := by rw [dws.length, ← fa.length, ← hd.length]; rfl
      have tu := fa.tupA hok
      match ws, hle with
      | [v1, v2, v3, v4], _ =>
      refine ⟨_, rfl, a, A.c_Patience, dx, _, .ref p, rfl, ha', T.O_Patience.c, T.n_Patience _ (by decide), rfl, p, _, rfl, SqT.of hp', rfl, ?_⟩
      refine ⟨v1, _, rfl, _, rfl, a, A.c_Patience, dx, _, rfl, ha', T.O_Patience.c, T.n_Patience _ (by decide), (by show 2 < 1000; decide), ?_⟩
      refine ⟨v2, _, rfl, _, rfl, a, A.c_Patience, dx, _, rfl, upd_same, T.O_Patience.c, T.n_Patience _ (by decide), (by show 3 < 1000; decide), ?_⟩
      refine ⟨v3, _, rfl, _, rfl, a, A.c_Patience, dx, _, rfl, upd_same, T.O_Patience.c, T.n_Patience _ (by decide), (by show 4 < 1000; decide), ?_⟩
      refine ⟨v4, _, rfl, _, rfl, a, A.c_Patience, dx, _, rfl, upd_same, T.O_Patience.c, T.n_Patience _ (by decide), (by show 5 < 1000; decide), ?_⟩
      refine ⟨rfl, ?_⟩
      refine q _ es ?_ ⟨dx, _, p, [v1, v2, v3, v4], upd_same, rfl, rfl, ?_, ?_, tu, fun i f h => ?_⟩ fa
      · intro b o nb e
        rw [upd_ne nb, upd_ne nb, upd_ne nb, upd_ne nb]
        exact kp b o nb e
      · rw [upd_ne (ne_of hp' ha' (fun z => nomatch z)), upd_ne (ne_of hp' ha' (fun z => nomatch z)), upd_ne (ne_of hp' ha' (fun z => nomatch z)), upd_ne (ne_of hp' ha' (fun z => nomatch z))]
        exact hp'
      · exact dws.tups (fun b xs e => by rw [upd_ne (ne_of e ha' (fun z => nomatch z)), upd_ne (ne_of e ha' (fun z => nomatch z)), upd_ne (ne_of e ha' (fun z => nomatch z)), upd_ne (ne_of e ha' (fun z => nomatch z))]; exact e) tu
      · match i, h with
        | 0, h => cases h; exact ⟨v1, rfl, rfl⟩
        | 1, h => cases h; exact ⟨v2, rfl, rfl⟩
        | 2, h => cases h; exact ⟨v3, rfl, rfl⟩
        | 3, h => cases h; exact ⟨v4, rfl, rfl⟩
        | i + 4, h => simp at h
  · obtain ⟨oc, kV, doc, pm, od, an, cda, cc, ct, osl, ccl, cdd, vcs, ccs, tf, cl, cld, csl, cdD, rfl, _⟩ := F.ex
    exact ⟨fun us h => match us, h with | [_, _, _, _, _], _ => rfl, fun s u ws h => match ws, h with | [_, _, _, _], _ => .of_eq rfl⟩
theorem fn_Patience_init (PF : Prg P) (T : Txt K mg A) : FnG P w K mg base CX0 8 A.i_Patience (spC A.c_Patience "patience" ["number", "table", "delay", "tree"]) := by
  obtain ⟨fd, F, b, _⟩ := ini_Patience (w := w) (base := base) PF T
  exact F.fnG b
theorem ini_Never (PF : Prg P) (T : Txt K mg A) : ∃ fd, FnA P w K mg base CX0 8 A.i_Never fd ["self", "tree"] (spC A.c_Never "never" ["tree"]) ∧ (∀ us : List Value, us.length = 2 → bindArgs fd ⟨us, []⟩ = pure ((["self", "tree"] : List PySem.Str).zip us)) ∧ ∀ (s : Shared) (u : Value) (ws : List Value), ws.length = 1 → BindsTo s fd ⟨[u], (["tree"] : List PySem.Str).zip ws⟩ ((["self", "tree"] : List PySem.Str).zip (u :: ([0] : List Nat).map fun j => ws.getD j .none)) := by
  obtain ⟨fd, F⟩ := T.FC_Never
  refine ⟨fd, ?_, ?_⟩
  · refine fnc_super (j := 7) (k := 0) (EI := fun _ _ _ => False) PF T.S0 F sc_Never_init rfl rfl rfl rfl (fun _ => rfl) (fun _ => rfl) (fun _ => rfl) (fun vs H Q E h => ?_) (fn_Paper_init T) (fun NFv A' outer s H vs Q E e1 e2 hr hg h => ?_)
    · obtain ⟨a, dx, xs, ds, rfl, _, _, _, hl, _⟩ := h
      show xs.length + 1 = _
      rw [hl]
      rfl
    · obtain ⟨a, dx, xs, ds, rfl, ha, hd, hok, hl, q⟩ := h
      obtain ⟨nm, ql, pm, bd, sc, cl, cd⟩ := NFv
      dsimp only at e1 e2
      subst e1 e2
      match xs, hl with
      | [x1], _ =>
      refine ⟨a, _, dx, [], [x1], _, _, rfl, ha, T.S_Never, (pa_cons pe_str (pa_cons (pv 1) pa_nil)), PSs.nox (pss_one (ps_fld (pv 0) (pe_ix ix_tup (pe_fld (pv 0) rfl) pe_int (fun _ _ => rfl)) rfl)), pass0, ?_⟩
      refine ⟨_, rfl, Iv.mk ⟨a, A.c_Never, dx, "never", [x1], ds, rfl, ha, ⟨T.O_Never.c, T.n_Never _ (by decide), T.n_Never _ (by decide)⟩, hd, hok, by rw [← hd.length]; exact Nat.le_of_ble_eq_true rfl, fun H' es p ws kp ha' hp' dws fa => ?_⟩⟩
      have hle : ws.length = 1 := by rw [dws.length, ← fa.length, ← hd.length]; rfl
      have tu := fa.tupA hok
      match ws, hle with
      | [v1], _ =>
      refine ⟨_, rfl, a, A.c_Never, dx, _, .ref p, rfl, ha', T.O_Never.c, T.n_Never _ (by decide), rfl, _, _, _, v1, rfl, rfl, SqT.of hp', rfl, _, rfl, a, A.c_Never, dx, _, rfl, ha', T.O_Never.c, T.n_Never _ (by decide), (by show 2 < 1000; decide), ?_⟩
      refine q _ es ?_ ⟨dx, _, p, [v1], upd_same, rfl, rfl, ?_, ?_, tu, fun i f h => ?_⟩ fa
      · intro b o nb e
        rw [upd_ne nb]
        exact kp b o nb e
      · rw [upd_ne (ne_of hp' ha' (fun z => nomatch z))]
        exact hp'
      · exact dws.tups (fun b xs e => by rw [upd_ne (ne_of e ha' (fun z => nomatch z))]; exact e) tu
      · match i, h with
        | 0, h => cases h; exact ⟨v1, rfl, rfl⟩
        | i + 1, h => simp at h
  · obtain ⟨oc, kV, doc, pm, od, an, cda, cc, ct, osl, ccl, cdd, vcs, ccs, tf, cl, cld, csl, cdD, rfl, _⟩ := F.ex
    exact ⟨fun us h => match us, h with | [_, _], _ => rfl, fun s u ws h => match ws, h with | [_], _ => .of_eq rfl⟩
theorem fn_Never_init (PF : Prg P) (T : Txt K mg A) : FnG P w K mg base CX0 8 A.i_Never (spC A.c_Never "never" ["tree"]) := by
  obtain ⟨fd, F, b, _⟩ := ini_Never (w := w) (base := base) PF T
  exact F.fnG b
theorem ini_DelayFront (PF : Prg P) (T : Txt K mg A) : ∃ fd, FnA P w K mg base CX0 8 A.i_DelayFront fd ["self", "points", "never", "steps"] (spC A.c_DelayFront "delayfront" ["points", "never", "steps"]) ∧ (∀ us : List Value, us.length = 4 → bindArgs fd ⟨us, []⟩ = pure ((["self", "points", "never", "steps"] : List PySem.Str).zip us)) ∧ ∀ (s : Shared) (u : Value) (ws : List Value), ws.length = 3 → BindsTo s fd ⟨[u], (["steps", "never", "points"] : List PySem.Str).zip ws⟩ ((["self", "points", "never", "steps"] : List PySem.Str).zip (u :: ([2, 1, 0] : List Nat).map fun j => ws.getD j .none)) := by
  obtain ⟨fd, F⟩ := T.FC_DelayFront
  refine ⟨fd, ?_, ?_⟩
  · refine fnc_super (j := 7) (k := 0) (EI := fun _ _ _ => False) PF T.S0 F sc_DelayFront_init rfl rfl rfl rfl (fun _ => rfl) (fun _ => rfl) (fun _ => rfl) (fun vs H Q E h => ?_) (fn_Paper_init T) (fun NFv A' outer s H vs Q E e1 e2 hr hg h => ?_)
    · obtain ⟨a, dx, xs, ds, rfl, _, _, _, hl, _⟩ := h
      show xs.length + 1 = _
      rw [hl]
      rfl
    · obtain ⟨a, dx, xs, ds, rfl, ha, hd, hok, hl, q⟩ := h
      obtain ⟨nm, ql, pm, bd, sc, cl, cd⟩ := NFv
      dsimp only at e1 e2
      subst e1 e2
      match xs, hl with
      | [x1, x2, x3], _ =>
      refine ⟨a, _, dx, [], [x1, x2, x3], _, _, rfl, ha, T.S_DelayFront, (pa_cons pe_str (pa_cons (pv 1) (pa_cons (pv 2) (pa_cons (pv 3) pa_nil)))), PSs.nox (pss_one (ps_asg (pe_fld (pv 0) rfl) (pg_tup rfl (pgs_cons (pg_fld (pv 0)) (pgs_cons (pg_fld (pv 0)) (pgs_cons (pg_fld (pv 0)) pgs_nil)))))), pass0, ?_⟩
      refine ⟨_, rfl, _, rfl, _, rfl, Iv.mk ⟨a, A.c_DelayFront, dx, "delayfront", [x1, x2, x3], ds, rfl, ha, ⟨T.O_DelayFront.c, T.n_DelayFront _ (by decide), T.n_DelayFront _ (by decide)⟩, hd, hok, by rw [← hd.length]; exact Nat.le_of_ble_eq_true rfl, fun H' es p ws kp ha' hp' dws fa => ?_⟩⟩
      have hle : ws.length = 3 := by rw [dws.length, ← fa.length, ← hd.length]; rfl
      have tu := fa.tupA hok
      match ws, hle with
      | [v1, v2, v3], _ =>
      refine ⟨_, rfl, a, A.c_DelayFront, dx, _, .ref p, rfl, ha', T.O_DelayFront.c, T.n_DelayFront _ (by decide), rfl, p, _, rfl, SqT.of hp', rfl, ?_⟩
      refine ⟨v1, _, rfl, _, rfl, a, A.c_DelayFront, dx, _, rfl, ha', T.O_DelayFront.c, T.n_DelayFront _ (by decide), (by show 2 < 1000; decide), ?_⟩
      refine ⟨v2, _, rfl, _, rfl, a, A.c_DelayFront, dx, _, rfl, upd_same, T.O_DelayFront.c, T.n_DelayFront _ (by decide), (by show 3 < 1000; decide), ?_⟩
      refine ⟨v3, _, rfl, _, rfl, a, A.c_DelayFront, dx, _, rfl, upd_same, T.O_DelayFront.c, T.n_DelayFront _ (by decide), (by show 4 < 1000; decide), ?_⟩
      refine ⟨rfl, ?_⟩
      refine q _ es ?_ ⟨dx, _, p, [v1, v2, v3], upd_same, rfl, rfl, ?_, ?_, tu, fun i f h => ?_⟩ fa
      · intro b o nb e
        rw [upd_ne nb, upd_ne nb, upd_ne nb]
        exact kp b o nb e
      · rw [upd_ne (ne_of hp' ha' (fun z => nomatch z)), upd_ne (ne_of hp' ha' (fun z => nomatch z)), upd_ne (ne_of hp' ha' (fun z => nomatch z))]
        exact hp'
      · exact dws.tups (fun b xs e => by rw [upd_ne (ne_of e ha' (fun z => nomatch z)), upd_ne (ne_of e ha' (fun z => nomatch z)), upd_ne (ne_of e ha' (fun z => nomatch z))]; exact e) tu
      · match i, h with
        | 0, h => cases h; exact ⟨v1, rfl, rfl⟩
        | 1, h => cases h; exact ⟨v2, rfl, rfl⟩
        | 2, h => cases h; exact ⟨v3, rfl, rfl⟩
        | i + 3, h => simp at h
  · obtain ⟨oc, kV, doc, pm, od, an, cda, cc, ct, osl, ccl, cdd, vcs, ccs, tf, cl, cld, csl, cdD, rfl, _⟩ := F.ex
    exact ⟨fun us h => match us, h with | [_, _, _, _], _ => rfl, fun s u ws h => match ws, h with | [_, _, _], _ => .of_eq rfl⟩
theorem fn_DelayFront_init (PF : Prg P) (T : Txt K mg A) : FnG P w K mg base CX0 8 A.i_DelayFront (spC A.c_DelayFront "delayfront" ["points", "never", "steps"]) := by
  obtain ⟨fd, F, b, _⟩ := ini_DelayFront (w := w) (base := base) PF T
  exact F.fnG b
theorem ini_Handed (PF : Prg P) (T : Txt K mg A) : ∃ fd, FnA P w K mg base CX0 8 A.i_Handed fd ["self", "closed"] (spC A.c_Handed "handed" ["closed"]) ∧ (∀ us : List Value, us.length = 2 → bindArgs fd ⟨us, []⟩ = pure ((["self", "closed"] : List PySem.Str).zip us)) ∧ ∀ (s : Shared) (u : Value) (ws : List Value), ws.length = 1 → BindsTo s fd ⟨[u], (["closed"] : List PySem.Str).zip ws⟩ ((["self", "closed"] : List PySem.Str).zip (u :: ([0] : List Nat).map fun j => ws.getD j .none)) := by
  obtain ⟨fd, F⟩ := T.FC_Handed
  refine ⟨fd, ?_, ?_⟩
  · refine fnc_super (j := 7) (k := 0) (EI := fun _ _ _ => False) PF T.S0 F sc_Handed_init rfl rfl rfl rfl (fun _ => rfl) (fun _ => rfl) (fun _ => rfl) (fun vs H Q E h => ?_) (fn_Paper_init T) (fun NFv A' outer s H vs Q E e1 e2 hr hg h => ?_)
    · obtain ⟨a, dx, xs, ds, rfl, _, _, _, hl, _⟩ := h
      show xs.length + 1 = _
      rw [hl]
      rfl
    · obtain ⟨a, dx, xs, ds, rfl, ha, hd, hok, hl, q⟩ := h
      obtain ⟨nm, ql, pm, bd, sc, cl, cd⟩ := NFv
      dsimp only at e1 e2
      subst e1 e2
      match xs, hl with
      | [x1], _ =>
      refine ⟨a, _, dx, [], [x1], _, _, rfl, ha, T.S_Handed, (pa_cons pe_str (pa_cons (pv 1) pa_nil)), PSs.nox (pss_one (ps_fld (pv 0) (pe_ix ix_tup (pe_fld (pv 0) rfl) pe_int (fun _ _ => rfl)) rfl)), pass0, ?_⟩
      refine ⟨_, rfl, Iv.mk ⟨a, A.c_Handed, dx, "handed", [x1], ds, rfl, ha, ⟨T.O_Handed.c, T.n_Handed _ (by decide), T.n_Handed _ (by decide)⟩, hd, hok, by rw [← hd.length]; exact Nat.le_of_ble_eq_true rfl, fun H' es p ws kp ha' hp' dws fa => ?_⟩⟩
      have hle : ws.length = 1 := by rw [dws.length, ← fa.length, ← hd.length]; rfl
      have tu := fa.tupA hok
      match ws, hle with
      | [v1], _ =>
      refine ⟨_, rfl, a, A.c_Handed, dx, _, .ref p, rfl, ha', T.O_Handed.c, T.n_Handed _ (by decide), rfl, _, _, _, v1, rfl, rfl, SqT.of hp', rfl, _, rfl, a, A.c_Handed, dx, _, rfl, ha', T.O_Handed.c, T.n_Handed _ (by decide), (by show 2 < 1000; decide), ?_⟩
      refine q _ es ?_ ⟨dx, _, p, [v1], upd_same, rfl, rfl, ?_, ?_, tu, fun i f h => ?_⟩ fa
      · intro b o nb e
        rw [upd_ne nb]
        exact kp b o nb e
      · rw [upd_ne (ne_of hp' ha' (fun z => nomatch z))]
        exact hp'
      · exact dws.tups (fun b xs e => by rw [upd_ne (ne_of e ha' (fun z => nomatch z))]; exact e) tu
      · match i, h with
        | 0, h => cases h; exact ⟨v1, rfl, rfl⟩
        | i + 1, h => simp at h
  · obtain ⟨oc, kV, doc, pm, od, an, cda, cc, ct, osl, ccl, cdd, vcs, ccs, tf, cl, cld, csl, cdD, rfl, _⟩ := F.ex
    exact ⟨fun us h => match us, h with | [_, _], _ => rfl, fun s u ws h => match ws, h with | [_], _ => .of_eq rfl⟩
theorem fn_Handed_init (PF : Prg P) (T : Txt K mg A) : FnG P w K mg base CX0 8 A.i_Handed (spC A.c_Handed "handed" ["closed"]) := by
  obtain ⟨fd, F, b, _⟩ := ini_Handed (w := w) (base := base) PF T
  exact F.fnG b
theorem ini_Dropped (PF : Prg P) (T : Txt K mg A) : ∃ fd, FnA P w K mg base CX0 8 A.i_Dropped fd ["self", "first", "states", "places"] (spC A.c_Dropped "dropped" ["first", "states", "places"]) ∧ (∀ us : List Value, us.length = 4 → bindArgs fd ⟨us, []⟩ = pure ((["self", "first", "states", "places"] : List PySem.Str).zip us)) ∧ ∀ (s : Shared) (u : Value) (ws : List Value), ws.length = 3 → BindsTo s fd ⟨[u], (["places", "states", "first"] : List PySem.Str).zip ws⟩ ((["self", "first", "states", "places"] : List PySem.Str).zip (u :: ([2, 1, 0] : List Nat).map fun j => ws.getD j .none)) := by
  obtain ⟨fd, F⟩ := T.FC_Dropped
  refine ⟨fd, ?_, ?_⟩
  · refine fnc_super (j := 7) (k := 0) (EI := fun _ _ _ => False) PF T.S0 F sc_Dropped_init rfl rfl rfl rfl (fun _ => rfl) (fun _ => rfl) (fun _ => rfl) (fun vs H Q E h => ?_) (fn_Paper_init T) (fun NFv A' outer s H vs Q E e1 e2 hr hg h => ?_)
    · obtain ⟨a, dx, xs, ds, rfl, _, _, _, hl, _⟩ := h
      show xs.length + 1 = _
      rw [hl]
      rfl
    · obtain ⟨a, dx, xs, ds, rfl, ha, hd, hok, hl, q⟩ := h
      obtain ⟨nm, ql, pm, bd, sc, cl, cd⟩ := NFv
      dsimp only at e1 e2
      subst e1 e2
      match xs, hl with
      | [x1, x2, x3], _ =>
      refine ⟨a, _, dx, [], [x1, x2, x3], _, _, rfl, ha, T.S_Dropped, (pa_cons pe_str (pa_cons (pv 1) (pa_cons (pv 2) (pa_cons (pv 3) pa_nil)))), PSs.nox (pss_one (ps_asg (pe_fld (pv 0) rfl) (pg_tup rfl (pgs_cons (pg_fld (pv 0)) (pgs_cons (pg_fld (pv 0)) (pgs_cons (pg_fld (pv 0)) pgs_nil)))))), pass0, ?_⟩
      refine ⟨_, rfl, _, rfl, _, rfl, Iv.mk ⟨a, A.c_Dropped, dx, "dropped", [x1, x2, x3], ds, rfl, ha, ⟨T.O_Dropped.c, T.n_Dropped _ (by decide), T.n_Dropped _ (by decide)⟩, hd, hok, by rw [← hd.length]; exact Nat.le_of_ble_eq_true rfl, fun H' es p ws kp ha' hp' dws fa => ?_⟩⟩
      have hle : ws.length = 3 := by rw [dws.length, ← fa.length, ← hd.length]; rfl
      have tu := fa.tupA hok
      match ws, hle with
      | [v1, v2, v3], _ =>
      refine ⟨_, rfl, a, A.c_Dropped, dx, _, .ref p, rfl, ha', T.O_Dropped.c, T.n_Dropped _ (by decide), rfl, p, _, rfl, SqT.of hp', rfl, ?_⟩
      refine ⟨v1, _, rfl, _, rfl, a, A.c_Dropped, dx, _, rfl, ha', T.O_Dropped.c, T.n_Dropped _ (by decide), (by show 2 < 1000; decide), ?_⟩
      refine ⟨v2, _, rfl, _, rfl, a, A.c_Dropped, dx, _, rfl, upd_same, T.O_Dropped.c, T.n_Dropped _ (by decide), (by show 3 < 1000; decide), ?_⟩
      refine ⟨v3, _, rfl, _, rfl, a, A.c_Dropped, dx, _, rfl, upd_same, T.O_Dropped.c, T.n_Dropped _ (by decide), (by show 4 < 1000; decide), ?_⟩
      refine ⟨rfl, ?_⟩
      refine q _ es ?_ ⟨dx, _, p, [v1, v2, v3], upd_same, rfl, rfl, ?_, ?_, tu, fun i f h => ?_⟩ fa
      · intro b o nb e
        rw [upd_ne nb, upd_ne nb, upd_ne nb]
        exact kp b o nb e
      · rw [upd_ne (ne_of hp' ha' (fun z => nomatch z)), upd_ne (ne_of hp' ha' (fun z => nomatch z)), upd_ne (ne_of hp' ha' (fun z => nomatch z))]
        exact hp'
      · exact dws.tups (fun b xs e => by rw [upd_ne (ne_of e ha' (fun z => nomatch z)), upd_ne (ne_of e ha' (fun z => nomatch z)), upd_ne (ne_of e ha' (fun z => nomatch z))]; exact e) tu
      · match i, h with
        | 0, h => cases h; exact ⟨v1, rfl, rfl⟩
        | 1, h => cases h; exact ⟨v2, rfl, rfl⟩
        | 2, h => cases h; exact ⟨v3, rfl, rfl⟩
        | i + 3, h => simp at h
  · obtain ⟨oc, kV, doc, pm, od, an, cda, cc, ct, osl, ccl, cdd, vcs, ccs, tf, cl, cld, csl, cdD, rfl, _⟩ := F.ex
    exact ⟨fun us h => match us, h with | [_, _, _, _], _ => rfl, fun s u ws h => match ws, h with | [_, _, _], _ => .of_eq rfl⟩
theorem fn_Dropped_init (PF : Prg P) (T : Txt K mg A) : FnG P w K mg base CX0 8 A.i_Dropped (spC A.c_Dropped "dropped" ["first", "states", "places"]) := by
  obtain ⟨fd, F, b, _⟩ := ini_Dropped (w := w) (base := base) PF T
  exact F.fnG b
theorem ini_Implied (PF : Prg P) (T : Txt K mg A) : ∃ fd, FnA P w K mg base CX0 8 A.i_Implied fd ["self", "pairs"] (spC A.c_Implied "implied" ["pairs"]) ∧ (∀ us : List Value, us.length = 2 → bindArgs fd ⟨us, []⟩ = pure ((["self", "pairs"] : List PySem.Str).zip us)) ∧ ∀ (s : Shared) (u : Value) (ws : List Value), ws.length = 1 → BindsTo s fd ⟨[u], (["pairs"] : List PySem.Str).zip ws⟩ ((["self", "pairs"] : List PySem.Str).zip (u :: ([0] : List Nat).map fun j => ws.getD j .none)) := by
  obtain ⟨fd, F⟩ := T.FC_Implied
  refine ⟨fd, ?_, ?_⟩
  · refine fnc_super (j := 7) (k := 0) (EI := fun _ _ _ => False) PF T.S0 F sc_Implied_init rfl rfl rfl rfl (fun _ => rfl) (fun _ => rfl) (fun _ => rfl) (fun vs H Q E h => ?_) (fn_Paper_init T) (fun NFv A' outer s H vs Q E e1 e2 hr hg h => ?_)
    · obtain ⟨a, dx, xs, ds, rfl, _, _, _, hl, _⟩ := h
      show xs.length + 1 = _
      rw [hl]
      rfl
    · obtain ⟨a, dx, xs, ds, rfl, ha, hd, hok, hl, q⟩ := h
      obtain ⟨nm, ql, pm, bd, sc, cl, cd⟩ := NFv
      dsimp only at e1 e2
      subst e1 e2
      match xs, hl with
      | [x1], _ =>
      refine ⟨a, _, dx, [], [x1], _, _, rfl, ha, T.S_Implied, (pa_cons pe_str (pa_cons (pv 1) pa_nil)), PSs.nox (pss_one (ps_fld (pv 0) (pe_ix ix_tup (pe_fld (pv 0) rfl) pe_int (fun _ _ => rfl)) rfl)), pass0, ?_⟩
      refine ⟨_, rfl, Iv.mk ⟨a, A.c_Implied, dx, "implied", [x1], ds, rfl, ha, ⟨T.O_Implied.c, T.n_Implied _ (by decide), T.n_Implied _ (by decide)⟩, hd, hok, by rw [← hd.length]; exact Nat.le_of_ble_eq_true rfl, fun H' es p ws kp ha' hp' dws fa => ?_⟩⟩
      have hle : ws.length = 1 := by rw [dws.length, ← fa.length, ← hd.length]; rfl
      have tu := fa.tupA hok
      match ws, hle with
      | [v1], _ =>
      refine ⟨_, rfl, a, A.c_Implied, dx, _, .ref p, rfl, ha', T.O_Implied.c, T.n_Implied _ (by decide), rfl, _, _, _, v1, rfl, rfl, SqT.of hp', rfl, _, rfl, a, A.c_Implied, dx, _, rfl, ha', T.O_Implied.c, T.n_Implied _ (by decide), (by show 2 < 1000; decide), ?_⟩
      refine q _ es ?_ ⟨dx, _, p, [v1], upd_same, rfl, rfl, ?_, ?_, tu, fun i f h => ?_⟩ fa
      · intro b o nb e
        rw [upd_ne nb]
        exact kp b o nb e
      · rw [upd_ne (ne_of hp' ha' (fun z => nomatch z))]
        exact hp'
      · exact dws.tups (fun b xs e => by rw [upd_ne (ne_of e ha' (fun z => nomatch z))]; exact e) tu
      · match i, h with
        | 0, h => cases h; exact ⟨v1, rfl, rfl⟩
        | i + 1, h => simp at h
  · obtain ⟨oc, kV, doc, pm, od, an, cda, cc, ct, osl, ccl, cdd, vcs, ccs, tf, cl, cld, csl, cdD, rfl, _⟩ := F.ex
    exact ⟨fun us h => match us, h with | [_, _], _ => rfl, fun s u ws h => match ws, h with | [_], _ => .of_eq rfl⟩
theorem fn_Implied_init (PF : Prg P) (T : Txt K mg A) : FnG P w K mg base CX0 8 A.i_Implied (spC A.c_Implied "implied" ["pairs"]) := by
  obtain ⟨fd, F, b, _⟩ := ini_Implied (w := w) (base := base) PF T
  exact F.fnG b
theorem ini_Apart (PF : Prg P) (T : Txt K mg A) : ∃ fd, FnA P w K mg base CX0 8 A.i_Apart fd ["self", "reading", "ring"] (spC A.c_Apart "apart" ["reading", "ring"]) ∧ (∀ us : List Value, us.length = 3 → bindArgs fd ⟨us, []⟩ = pure ((["self", "reading", "ring"] : List PySem.Str).zip us)) ∧ ∀ (s : Shared) (u : Value) (ws : List Value), ws.length = 2 → BindsTo s fd ⟨[u], (["ring", "reading"] : List PySem.Str).zip ws⟩ ((["self", "reading", "ring"] : List PySem.Str).zip (u :: ([1, 0] : List Nat).map fun j => ws.getD j .none)) := by
  obtain ⟨fd, F⟩ := T.FC_Apart
  refine ⟨fd, ?_, ?_⟩
  · refine fnc_super (j := 7) (k := 0) (EI := fun _ _ _ => False) PF T.S0 F sc_Apart_init rfl rfl rfl rfl (fun _ => rfl) (fun _ => rfl) (fun _ => rfl) (fun vs H Q E h => ?_) (fn_Paper_init T) (fun NFv A' outer s H vs Q E e1 e2 hr hg h => ?_)
    · obtain ⟨a, dx, xs, ds, rfl, _, _, _, hl, _⟩ := h
      show xs.length + 1 = _
      rw [hl]
      rfl
    · obtain ⟨a, dx, xs, ds, rfl, ha, hd, hok, hl, q⟩ := h
      obtain ⟨nm, ql, pm, bd, sc, cl, cd⟩ := NFv
      dsimp only at e1 e2
      subst e1 e2
      match xs, hl with
      | [x1, x2], _ =>
      refine ⟨a, _, dx, [], [x1, x2], _, _, rfl, ha, T.S_Apart, (pa_cons pe_str (pa_cons (pv 1) (pa_cons (pv 2) pa_nil))), PSs.nox (pss_cons (ps_fld (pv 0) (pe_ix ix_tup (pe_fld (pv 0) rfl) pe_int (fun _ _ => rfl)) rfl) (pss_one (ps_fld (pv 0) (pe_ix ix_tup (pe_fld (pv 0) rfl) pe_int (fun _ _ => rfl)) rfl))), pass0, ?_⟩
      refine ⟨_, rfl, _, rfl, Iv.mk ⟨a, A.c_Apart, dx, "apart", [x1, x2], ds, rfl, ha, ⟨T.O_Apart.c, T.n_Apart _ (by decide), T.n_Apart _ (by decide)⟩, hd, hok, by rw [← hd.length]; exact Nat.le_of_ble_eq_true rfl, fun H' es p ws kp ha' hp' dws fa => ?_⟩⟩
      have hle : ws.length = 2 := by rw [dws.length, ← fa.length, ← hd.length]; rfl
      have tu := fa.tupA hok
      match ws, hle with
      | [v1, v2], _ =>
      refine ⟨_, rfl, a, A.c_Apart, dx, _, .ref p, rfl, ha', T.O_Apart.c, T.n_Apart _ (by decide), rfl, _, _, _, v1, rfl, rfl, SqT.of hp', rfl, _, rfl, a, A.c_Apart, dx, _, rfl, ha', T.O_Apart.c, T.n_Apart _ (by decide), (by show 2 < 1000; decide), ?_⟩
      refine ⟨_, rfl, a, A.c_Apart, dx, _, .ref p, rfl, upd_same, T.O_Apart.c, T.n_Apart _ (by decide), rfl, _, _, _, v2, rfl, rfl, SqT.of (by rw [upd_ne (ne_of hp' ha' (fun z => nomatch z))]; exact hp'), rfl, _, rfl, a, A.c_Apart, dx, _, rfl, upd_same, T.O_Apart.c, T.n_Apart _ (by decide), (by show 3 < 1000; decide), ?_⟩
      refine q _ es ?_ ⟨dx, _, p, [v1, v2], upd_same, rfl, rfl, ?_, ?_, tu, fun i f h => ?_⟩ fa
      · intro b o nb e
        rw [upd_ne nb, upd_ne nb]
        exact kp b o nb e
      · rw [upd_ne (ne_of hp' ha' (fun z => nomatch z)), upd_ne (ne_of hp' ha' (fun z => nomatch z))]
        exact hp'
      · exact dws.tups (fun b xs e => by rw [upd_ne (ne_of e ha' (fun z => nomatch z)), upd_ne (ne_of e ha' (fun z => nomatch z))]; exact e) tu
      · match i, h with
        | 0, h => cases h; exact ⟨v1, rfl, rfl⟩
        | 1, h => cases h; exact ⟨v2, rfl, rfl⟩
        | i + 2, h => simp at h
  · obtain ⟨oc, kV, doc, pm, od, an, cda, cc, ct, osl, ccl, cdd, vcs, ccs, tf, cl, cld, csl, cdD, rfl, _⟩ := F.ex
    exact ⟨fun us h => match us, h with | [_, _, _], _ => rfl, fun s u ws h => match ws, h with | [_, _], _ => .of_eq rfl⟩
theorem fn_Apart_init (PF : Prg P) (T : Txt K mg A) : FnG P w K mg base CX0 8 A.i_Apart (spC A.c_Apart "apart" ["reading", "ring"]) := by
  obtain ⟨fd, F, b, _⟩ := ini_Apart (w := w) (base := base) PF T
  exact F.fnG b
theorem ini_Kept (PF : Prg P) (T : Txt K mg A) : ∃ fd, FnA P w K mg base CX0 8 A.i_Kept fd ["self", "pages", "entries", "triples"] (spC A.c_Kept "kept" ["pages", "entries", "triples"]) ∧ (∀ us : List Value, us.length = 4 → bindArgs fd ⟨us, []⟩ = pure ((["self", "pages", "entries", "triples"] : List PySem.Str).zip us)) ∧ ∀ (s : Shared) (u : Value) (ws : List Value), ws.length = 3 → BindsTo s fd ⟨[u], (["triples", "entries", "pages"] : List PySem.Str).zip ws⟩ ((["self", "pages", "entries", "triples"] : List PySem.Str).zip (u :: ([2, 1, 0] : List Nat).map fun j => ws.getD j .none)) := by
  obtain ⟨fd, F⟩ := T.FC_Kept
  refine ⟨fd, ?_, ?_⟩
  · refine fnc_super (j := 7) (k := 0) (EI := fun _ _ _ => False) PF T.S0 F sc_Kept_init rfl rfl rfl rfl (fun _ => rfl) (fun _ => rfl) (fun _ => rfl) (fun vs H Q E h => ?_) (fn_Paper_init T) (fun NFv A' outer s H vs Q E e1 e2 hr hg h => ?_)
    · obtain ⟨a, dx, xs, ds, rfl, _, _, _, hl, _⟩ := h
      show xs.length + 1 = _
      rw [hl]
      rfl
    · obtain ⟨a, dx, xs, ds, rfl, ha, hd, hok, hl, q⟩ := h
      obtain ⟨nm, ql, pm, bd, sc, cl, cd⟩ := NFv
      dsimp only at e1 e2
      subst e1 e2
      match xs, hl with
      | [x1, x2, x3], _ =>
      refine ⟨a, _, dx, [], [x1, x2, x3], _, _, rfl, ha, T.S_Kept, (pa_cons pe_str (pa_cons (pv 1) (pa_cons (pv 2) (pa_cons (pv 3) pa_nil)))), PSs.nox (pss_one (ps_asg (pe_fld (pv 0) rfl) (pg_tup rfl (pgs_cons (pg_fld (pv 0)) (pgs_cons (pg_fld (pv 0)) (pgs_cons (pg_fld (pv 0)) pgs_nil)))))), pass0, ?_⟩
      refine ⟨_, rfl, _, rfl, _, rfl, Iv.mk ⟨a, A.c_Kept, dx, "kept", [x1, x2, x3], ds, rfl, ha, ⟨T.O_Kept.c, T.n_Kept _ (by decide), T.n_Kept _ (by decide)⟩, hd, hok, by rw [← hd.length]; exact Nat.le_of_ble_eq_true rfl, fun H' es p ws kp ha' hp' dws fa => ?_⟩⟩
      have hle : ws.length = 3 := by rw [dws.length, ← fa.length, ← hd.length]; rfl
      have tu := fa.tupA hok
      match ws, hle with
      | [v1, v2, v3], _ =>
      refine ⟨_, rfl, a, A.c_Kept, dx, _, .ref p, rfl, ha', T.O_Kept.c, T.n_Kept _ (by decide), rfl, p, _, rfl, SqT.of hp', rfl, ?_⟩
      refine ⟨v1, _, rfl, _, rfl, a, A.c_Kept, dx, _, rfl, ha', T.O_Kept.c, T.n_Kept _ (by decide), (by show 2 < 1000; decide), ?_⟩
      refine ⟨v2, _, rfl, _, rfl, a, A.c_Kept, dx, _, rfl, upd_same, T.O_Kept.c, T.n_Kept _ (by decide), (by show 3 < 1000; decide), ?_⟩
      refine ⟨v3, _, rfl, _, rfl, a, A.c_Kept, dx, _, rfl, upd_same, T.O_Kept.c, T.n_Kept _ (by decide), (by show 4 < 1000; decide), ?_⟩
      refine ⟨rfl, ?_⟩
      refine q _ es ?_ ⟨dx, _, p, [v1, v2, v3], upd_same, rfl, rfl, ?_, ?_, tu, fun i f h => ?_⟩ fa
      · intro b o nb e
        rw [upd_ne nb, upd_ne nb, upd_ne nb]
        exact kp b o nb e
      · rw [upd_ne (ne_of hp' ha' (fun z => nomatch z)), upd_ne (ne_of hp' ha' (fun z => nomatch z)), upd_ne (ne_of hp' ha' (fun z => nomatch z))]
        exact hp'
      · exact dws.tups (fun b xs e => by rw [upd_ne (ne_of e ha' (fun z => nomatch z)), upd_ne (ne_of e ha' (fun z => nomatch z)), upd_ne (ne_of e ha' (fun z => nomatch z))]; exact e) tu
      · match i, h with
        | 0, h => cases h; exact ⟨v1, rfl, rfl⟩
        | 1, h => cases h; exact ⟨v2, rfl, rfl⟩
        | 2, h => cases h; exact ⟨v3, rfl, rfl⟩
        | i + 3, h => simp at h
  · obtain ⟨oc, kV, doc, pm, od, an, cda, cc, ct, osl, ccl, cdd, vcs, ccs, tf, cl, cld, csl, cdD, rfl, _⟩ := F.ex
    exact ⟨fun us h => match us, h with | [_, _, _, _], _ => rfl, fun s u ws h => match ws, h with | [_, _, _], _ => .of_eq rfl⟩
theorem fn_Kept_init (PF : Prg P) (T : Txt K mg A) : FnG P w K mg base CX0 8 A.i_Kept (spC A.c_Kept "kept" ["pages", "entries", "triples"]) := by
  obtain ⟨fd, F, b, _⟩ := ini_Kept (w := w) (base := base) PF T
  exact F.fnG b
theorem ini_Least (PF : Prg P) (T : Txt K mg A) : ∃ fd, FnA P w K mg base CX0 8 A.i_Least fd ["self", "number", "kept", "refusal"] (spC A.c_Least "least" ["number", "kept", "refusal"]) ∧ (∀ us : List Value, us.length = 4 → bindArgs fd ⟨us, []⟩ = pure ((["self", "number", "kept", "refusal"] : List PySem.Str).zip us)) ∧ ∀ (s : Shared) (u : Value) (ws : List Value), ws.length = 3 → BindsTo s fd ⟨[u], (["refusal", "number", "kept"] : List PySem.Str).zip ws⟩ ((["self", "number", "kept", "refusal"] : List PySem.Str).zip (u :: ([1, 2, 0] : List Nat).map fun j => ws.getD j .none)) := by
  obtain ⟨fd, F⟩ := T.FC_Least
  refine ⟨fd, ?_, ?_⟩
  · refine fnc_super (j := 7) (k := 0) (EI := fun _ _ _ => False) PF T.S0 F sc_Least_init rfl rfl rfl rfl (fun _ => rfl) (fun _ => rfl) (fun _ => rfl) (fun vs H Q E h => ?_) (fn_Paper_init T) (fun NFv A' outer s H vs Q E e1 e2 hr hg h => ?_)
    · obtain ⟨a, dx, xs, ds, rfl, _, _, _, hl, _⟩ := h
      show xs.length + 1 = _
      rw [hl]
      rfl
    · obtain ⟨a, dx, xs, ds, rfl, ha, hd, hok, hl, q⟩ := h
      obtain ⟨nm, ql, pm, bd, sc, cl, cd⟩ := NFv
      dsimp only at e1 e2
      subst e1 e2
      match xs, hl with
      | [x1, x2, x3], _ =>
      refine ⟨a, _, dx, [], [x1, x2, x3], _, _, rfl, ha, T.S_Least, (pa_cons pe_str (pa_cons (pv 1) (pa_cons (pv 2) (pa_cons (pv 3) pa_nil)))), PSs.nox (pss_one (ps_asg (pe_fld (pv 0) rfl) (pg_tup rfl (pgs_cons (pg_fld (pv 0)) (pgs_cons (pg_fld (pv 0)) (pgs_cons (pg_fld (pv 0)) pgs_nil)))))), pass0, ?_⟩
      refine ⟨_, rfl, _, rfl, _, rfl, Iv.mk ⟨a, A.c_Least, dx, "least", [x1, x2, x3], ds, rfl, ha, ⟨T.O_Least.c, T.n_Least _ (by decide), T.n_Least _ (by decide)⟩, hd, hok, by rw [← hd.length]; exact Nat.le_of_ble_eq_true rfl, fun H' es p ws kp ha' hp' dws fa => ?_⟩⟩
      have hle : ws.length = 3 := by rw [dws.length, ← fa.length, ← hd.length]; rfl
      have tu := fa.tupA hok
      match ws, hle with
      | [v1, v2, v3], _ =>
      refine ⟨_, rfl, a, A.c_Least, dx, _, .ref p, rfl, ha', T.O_Least.c, T.n_Least _ (by decide), rfl, p, _, rfl, SqT.of hp', rfl, ?_⟩
      refine ⟨v1, _, rfl, _, rfl, a, A.c_Least, dx, _, rfl, ha', T.O_Least.c, T.n_Least _ (by decide), (by show 2 < 1000; decide), ?_⟩
      refine ⟨v2, _, rfl, _, rfl, a, A.c_Least, dx, _, rfl, upd_same, T.O_Least.c, T.n_Least _ (by decide), (by show 3 < 1000; decide), ?_⟩
      refine ⟨v3, _, rfl, _, rfl, a, A.c_Least, dx, _, rfl, upd_same, T.O_Least.c, T.n_Least _ (by decide), (by show 4 < 1000; decide), ?_⟩
      refine ⟨rfl, ?_⟩
      refine q _ es ?_ ⟨dx, _, p, [v1, v2, v3], upd_same, rfl, rfl, ?_, ?_, tu, fun i f h => ?_⟩ fa
      · intro b o nb e
        rw [upd_ne nb, upd_ne nb, upd_ne nb]
        exact kp b o nb e
      · rw [upd_ne (ne_of hp' ha' (fun z => nomatch z)), upd_ne (ne_of hp' ha' (fun z => nomatch z)), upd_ne (ne_of hp' ha' (fun z => nomatch z))]
        exact hp'
      · exact dws.tups (fun b xs e => by rw [upd_ne (ne_of e ha' (fun z => nomatch z)), upd_ne (ne_of e ha' (fun z => nomatch z)), upd_ne (ne_of e ha' (fun z => nomatch z))]; exact e) tu
      · match i, h with
        | 0, h => cases h; exact ⟨v1, rfl, rfl⟩
        | 1, h => cases h; exact ⟨v2, rfl, rfl⟩
        | 2, h => cases h; exact ⟨v3, rfl, rfl⟩
        | i + 3, h => simp at h
  · obtain ⟨oc, kV, doc, pm, od, an, cda, cc, ct, osl, ccl, cdd, vcs, ccs, tf, cl, cld, csl, cdD, rfl, _⟩ := F.ex
    exact ⟨fun us h => match us, h with | [_, _, _, _], _ => rfl, fun s u ws h => match ws, h with | [_, _, _], _ => .of_eq rfl⟩
theorem fn_Least_init (PF : Prg P) (T : Txt K mg A) : FnG P w K mg base CX0 8 A.i_Least (spC A.c_Least "least" ["number", "kept", "refusal"]) := by
  obtain ⟨fd, F, b, _⟩ := ini_Least (w := w) (base := base) PF T
  exact F.fnG b
theorem ini_Losing (PF : Prg P) (T : Txt K mg A) : ∃ fd, FnA P w K mg base CX0 8 A.i_Losing fd ["self", "first", "states", "pages", "deeds", "places"] (spC A.c_Losing "losing" ["first", "states", "pages", "deeds", "places"]) ∧ (∀ us : List Value, us.length = 6 → bindArgs fd ⟨us, []⟩ = pure ((["self", "first", "states", "pages", "deeds", "places"] : List PySem.Str).zip us)) ∧ ∀ (s : Shared) (u : Value) (ws : List Value), ws.length = 5 → BindsTo s fd ⟨[u], (["places", "deeds", "pages", "states", "first"] : List PySem.Str).zip ws⟩ ((["self", "first", "states", "pages", "deeds", "places"] : List PySem.Str).zip (u :: ([4, 3, 2, 1, 0] : List Nat).map fun j => ws.getD j .none)) := by
  obtain ⟨fd, F⟩ := T.FC_Losing
  refine ⟨fd, ?_, ?_⟩
  · refine fnc_super (j := 7) (k := 0) (EI := fun _ _ _ => False) PF T.S0 F sc_Losing_init rfl rfl rfl rfl (fun _ => rfl) (fun _ => rfl) (fun _ => rfl) (fun vs H Q E h => ?_) (fn_Paper_init T) (fun NFv A' outer s H vs Q E e1 e2 hr hg h => ?_)
    · obtain ⟨a, dx, xs, ds, rfl, _, _, _, hl, _⟩ := h
      show xs.length + 1 = _
      rw [hl]
      rfl
    · obtain ⟨a, dx, xs, ds, rfl, ha, hd, hok, hl, q⟩ := h
      obtain ⟨nm, ql, pm, bd, sc, cl, cd⟩ := NFv
      dsimp only at e1 e2
      subst e1 e2
      match xs, hl with
      | [x1, x2, x3, x4, x5], _ =>
      refine ⟨a, _, dx, [], [x1, x2, x3, x4, x5], _, _, rfl, ha, T.S_Losing, (pa_cons pe_str (pa_cons (pv 1) (pa_cons (pv 2) (pa_cons (pv 3) (pa_cons (pv 4) (pa_cons (pv 5) pa_nil)))))), PSs.nox (pss_one (ps_asg (pe_fld (pv 0) rfl) (pg_tup rfl (pgs_cons (pg_fld (pv 0)) (pgs_cons (pg_fld (pv 0)) (pgs_cons (pg_fld (pv 0)) (pgs_cons (pg_fld (pv 0)) (pgs_cons (pg_fld (pv 0)) pgs_nil)))))))), pass0, ?_⟩
      refine ⟨_, rfl, _, rfl, _, rfl, _, rfl, _, rfl, Iv.mk ⟨a, A.c_Losing, dx, "losing", [x1, x2, x3, x4, x5], ds, rfl, ha, ⟨T.O_Losing.c, T.n_Losing _ (by decide), T.n_Losing _ (by decide)⟩, hd, hok, by rw [← hd.length]; exact Nat.le_of_ble_eq_true rfl, fun H' es p ws kp ha' hp' dws fa => ?_⟩⟩
      have hle : ws.length = 5 := by rw [dws.length, ← fa.length, ← hd.length]; rfl
      have tu := fa.tupA hok
      match ws, hle with
      | [v1, v2, v3, v4, v5], _ =>
      refine ⟨_, rfl, a, A.c_Losing, dx, _, .ref p, rfl, ha', T.O_Losing.c, T.n_Losing _ (by decide), rfl, p, _, rfl, SqT.of hp', rfl, ?_⟩
      refine ⟨v1, _, rfl, _, rfl, a, A.c_Losing, dx, _, rfl, ha', T.O_Losing.c, T.n_Losing _ (by decide), (by show 2 < 1000; decide), ?_⟩
      refine ⟨v2, _, rfl, _, rfl, a, A.c_Losing, dx, _, rfl, upd_same, T.O_Losing.c, T.n_Losing _ (by decide), (by show 3 < 1000; decide), ?_⟩
      refine ⟨v3, _, rfl, _, rfl, a, A.c_Losing, dx, _, rfl, upd_same, T.O_Losing.c, T.n_Losing _ (by decide), (by show 4 < 1000; decide), ?_⟩
      refine ⟨v4, _, rfl, _, rfl, a, A.c_Losing, dx, _, rfl, upd_same, T.O_Losing.c, T.n_Losing _ (by decide), (by show 5 < 1000; decide), ?_⟩
      refine ⟨v5, _, rfl, _, rfl, a, A.c_Losing, dx, _, rfl, upd_same, T.O_Losing.c, T.n_Losing _ (by decide), (by show 6 < 1000; decide), ?_⟩
      refine ⟨rfl, ?_⟩
      refine q _ es ?_ ⟨dx, _, p, [v1, v2, v3, v4, v5], upd_same, rfl, rfl, ?_, ?_, tu, fun i f h => ?_⟩ fa
      · intro b o nb e
        rw [upd_ne nb, upd_ne nb, upd_ne nb, upd_ne nb, upd_ne nb]
        exact kp b o nb e
      · rw [upd_ne (ne_of hp' ha' (fun z => nomatch z)), upd_ne (ne_of hp' ha' (fun z => nomatch z)), upd_ne (ne_of hp' ha' (fun z => nomatch z)), upd_ne (ne_of hp' ha' (fun z => nomatch z)), upd_ne (ne_of hp' ha' (fun z => nomatch z))]
        exact hp'
      · exact dws.tups (fun b xs e => by rw [upd_ne (ne_of e ha' (fun z => nomatch z)), upd_ne (ne_of e ha' (fun z => nomatch z)), upd_ne (ne_of e ha' (fun z => nomatch z)), upd_ne (ne_of e ha' (fun z => nomatch z)), upd_ne (ne_of e ha' (fun z => nomatch z))]; exact e) tu
      · match i, h with
        | 0, h => cases h; exact ⟨v1, rfl, rfl⟩
        | 1, h => cases h; exact ⟨v2, rfl, rfl⟩
        | 2, h => cases h; exact ⟨v3, rfl, rfl⟩
        | 3, h => cases h; exact ⟨v4, rfl, rfl⟩
        | 4, h => cases h; exact ⟨v5, rfl, rfl⟩
        | i + 5, h => simp at h
  · obtain ⟨oc, kV, doc, pm, od, an, cda, cc, ct, osl, ccl, cdd, vcs, ccs, tf, cl, cld, csl, cdD, rfl, _⟩ := F.ex
    exact ⟨fun us h => match us, h with | [_, _, _, _, _, _], _ => rfl, fun s u ws h => match ws, h with | [_, _, _, _, _], _ => .of_eq rfl⟩
theorem fn_Losing_init (PF : Prg P) (T : Txt K mg A) : FnG P w K mg base CX0 8 A.i_Losing (spC A.c_Losing "losing" ["first", "states", "pages", "deeds", "places"]) := by
  obtain ⟨fd, F, b, _⟩ := ini_Losing (w := w) (base := base) PF T
  exact F.fnG b
theorem ini_SureTime (PF : Prg P) (T : Txt K mg A) : ∃ fd, FnA P w K mg base CX0 8 A.i_SureTime fd ["self", "number", "table", "tree"] (spC A.c_SureTime "suretime" ["number", "table", "tree"]) ∧ (∀ us : List Value, us.length = 4 → bindArgs fd ⟨us, []⟩ = pure ((["self", "number", "table", "tree"] : List PySem.Str).zip us)) ∧ ∀ (s : Shared) (u : Value) (ws : List Value), ws.length = 3 → BindsTo s fd ⟨[u], (["tree", "table", "number"] : List PySem.Str).zip ws⟩ ((["self", "number", "table", "tree"] : List PySem.Str).zip (u :: ([2, 1, 0] : List Nat).map fun j => ws.getD j .none)) := by
  obtain ⟨fd, F⟩ := T.FC_SureTime
  refine ⟨fd, ?_, ?_⟩
  · refine fnc_super (j := 7) (k := 0) (EI := fun _ _ _ => False) PF T.S0 F sc_SureTime_init rfl rfl rfl rfl (fun _ => rfl) (fun _ => rfl) (fun _ => rfl) (fun vs H Q E h => ?_) (fn_Paper_init T) (fun NFv A' outer s H vs Q E e1 e2 hr hg h => ?_)
    · obtain ⟨a, dx, xs, ds, rfl, _, _, _, hl, _⟩ := h
      show xs.length + 1 = _
      rw [hl]
      rfl
    · obtain ⟨a, dx, xs, ds, rfl, ha, hd, hok, hl, q⟩ := h
      obtain ⟨nm, ql, pm, bd, sc, cl, cd⟩ := NFv
      dsimp only at e1 e2
      subst e1 e2
      match xs, hl with
      | [x1, x2, x3], _ =>
      refine ⟨a, _, dx, [], [x1, x2, x3], _, _, rfl, ha, T.S_SureTime, (pa_cons pe_str (pa_cons (pv 1) (pa_cons (pv 2) (pa_cons (pv 3) pa_nil)))), PSs.nox (pss_one (ps_asg (pe_fld (pv 0) rfl) (pg_tup rfl (pgs_cons (pg_fld (pv 0)) (pgs_cons (pg_fld (pv 0)) (pgs_cons (pg_fld (pv 0)) pgs_nil)))))), pass0, ?_⟩
      refine ⟨_, rfl, _, rfl, _, rfl, Iv.mk ⟨a, A.c_SureTime, dx, "suretime", [x1, x2, x3], ds, rfl, ha, ⟨T.O_SureTime.c, T.n_SureTime _ (by decide), T.n_SureTime _ (by decide)⟩, hd, hok, by rw [← hd.length]; exact Nat.le_of_ble_eq_true rfl, fun H' es p ws kp ha' hp' dws fa => ?_⟩⟩
      have hle : ws.length = 3 := by rw [dws.length, ← fa.length, ← hd.length]; rfl
      have tu := fa.tupA hok
      match ws, hle with
      | [v1, v2, v3], _ =>
      refine ⟨_, rfl, a, A.c_SureTime, dx, _, .ref p, rfl, ha', T.O_SureTime.c, T.n_SureTime _ (by decide), rfl, p, _, rfl, SqT.of hp', rfl, ?_⟩
      refine ⟨v1, _, rfl, _, rfl, a, A.c_SureTime, dx, _, rfl, ha', T.O_SureTime.c, T.n_SureTime _ (by decide), (by show 2 < 1000; decide), ?_⟩
      refine ⟨v2, _, rfl, _, rfl, a, A.c_SureTime, dx, _, rfl, upd_same, T.O_SureTime.c, T.n_SureTime _ (by decide), (by show 3 < 1000; decide), ?_⟩
      refine ⟨v3, _, rfl, _, rfl, a, A.c_SureTime, dx, _, rfl, upd_same, T.O_SureTime.c, T.n_SureTime _ (by decide), (by show 4 < 1000; decide), ?_⟩
      refine ⟨rfl, ?_⟩
      refine q _ es ?_ ⟨dx, _, p, [v1, v2, v3], upd_same, rfl, rfl, ?_, ?_, tu, fun i f h => ?_⟩ fa
      · intro b o nb e
        rw [upd_ne nb, upd_ne nb, upd_ne nb]
        exact kp b o nb e
      · rw [upd_ne (ne_of hp' ha' (fun z => nomatch z)), upd_ne (ne_of hp' ha' (fun z => nomatch z)), upd_ne (ne_of hp' ha' (fun z => nomatch z))]
        exact hp'
      · exact dws.tups (fun b xs e => by rw [upd_ne (ne_of e ha' (fun z => nomatch z)), upd_ne (ne_of e ha' (fun z => nomatch z)), upd_ne (ne_of e ha' (fun z => nomatch z))]; exact e) tu
      · match i, h with
        | 0, h => cases h; exact ⟨v1, rfl, rfl⟩
        | 1, h => cases h; exact ⟨v2, rfl, rfl⟩
        | 2, h => cases h; exact ⟨v3, rfl, rfl⟩
        | i + 3, h => simp at h
  · obtain ⟨oc, kV, doc, pm, od, an, cda, cc, ct, osl, ccl, cdd, vcs, ccs, tf, cl, cld, csl, cdD, rfl, _⟩ := F.ex
    exact ⟨fun us h => match us, h with | [_, _, _, _], _ => rfl, fun s u ws h => match ws, h with | [_, _, _], _ => .of_eq rfl⟩
theorem fn_SureTime_init (PF : Prg P) (T : Txt K mg A) : FnG P w K mg base CX0 8 A.i_SureTime (spC A.c_SureTime "suretime" ["number", "table", "tree"]) := by
  obtain ⟨fd, F, b, _⟩ := ini_SureTime (w := w) (base := base) PF T
  exact F.fnG b
theorem ini_MomentFront (PF : Prg P) (T : Txt K mg A) : ∃ fd, FnA P w K mg base CX0 8 A.i_MomentFront fd ["self", "points", "steps", "kept"] (spC A.c_MomentFront "momentfront" ["points", "steps", "kept"]) ∧ (∀ us : List Value, us.length = 4 → bindArgs fd ⟨us, []⟩ = pure ((["self", "points", "steps", "kept"] : List PySem.Str).zip us)) ∧ ∀ (s : Shared) (u : Value) (ws : List Value), ws.length = 3 → BindsTo s fd ⟨[u], (["kept", "steps", "points"] : List PySem.Str).zip ws⟩ ((["self", "points", "steps", "kept"] : List PySem.Str).zip (u :: ([2, 1, 0] : List Nat).map fun j => ws.getD j .none)) := by
  obtain ⟨fd, F⟩ := T.FC_MomentFront
  refine ⟨fd, ?_, ?_⟩
  · refine fnc_super (j := 7) (k := 0) (EI := fun _ _ _ => False) PF T.S0 F sc_MomentFront_init rfl rfl rfl rfl (fun _ => rfl) (fun _ => rfl) (fun _ => rfl) (fun vs H Q E h => ?_) (fn_Paper_init T) (fun NFv A' outer s H vs Q E e1 e2 hr hg h => ?_)
    · obtain ⟨a, dx, xs, ds, rfl, _, _, _, hl, _⟩ := h
      show xs.length + 1 = _
      rw [hl]
      rfl
    · obtain ⟨a, dx, xs, ds, rfl, ha, hd, hok, hl, q⟩ := h
      obtain ⟨nm, ql, pm, bd, sc, cl, cd⟩ := NFv
      dsimp only at e1 e2
      subst e1 e2
      match xs, hl with
      | [x1, x2, x3], _ =>
      refine ⟨a, _, dx, [], [x1, x2, x3], _, _, rfl, ha, T.S_MomentFront, (pa_cons pe_str (pa_cons (pv 1) (pa_cons (pv 2) (pa_cons (pv 3) pa_nil)))), PSs.nox (pss_one (ps_asg (pe_fld (pv 0) rfl) (pg_tup rfl (pgs_cons (pg_fld (pv 0)) (pgs_cons (pg_fld (pv 0)) (pgs_cons (pg_fld (pv 0)) pgs_nil)))))), pass0, ?_⟩
      refine ⟨_, rfl, _, rfl, _, rfl, Iv.mk ⟨a, A.c_MomentFront, dx, "momentfront", [x1, x2, x3], ds, rfl, ha, ⟨T.O_MomentFront.c, T.n_MomentFront _ (by decide), T.n_MomentFront _ (by decide)⟩, hd, hok, by rw [← hd.length]; exact Nat.le_of_ble_eq_true rfl, fun H' es p ws kp ha' hp' dws fa => ?_⟩⟩
      have hle : ws.length = 3 := by rw [dws.length, ← fa.length, ← hd.length]; rfl
      have tu := fa.tupA hok
      match ws, hle with
      | [v1, v2, v3], _ =>
      refine ⟨_, rfl, a, A.c_MomentFront, dx, _, .ref p, rfl, ha', T.O_MomentFront.c, T.n_MomentFront _ (by decide), rfl, p, _, rfl, SqT.of hp', rfl, ?_⟩
      refine ⟨v1, _, rfl, _, rfl, a, A.c_MomentFront, dx, _, rfl, ha', T.O_MomentFront.c, T.n_MomentFront _ (by decide), (by show 2 < 1000; decide), ?_⟩
      refine ⟨v2, _, rfl, _, rfl, a, A.c_MomentFront, dx, _, rfl, upd_same, T.O_MomentFront.c, T.n_MomentFront _ (by decide), (by show 3 < 1000; decide), ?_⟩
      refine ⟨v3, _, rfl, _, rfl, a, A.c_MomentFront, dx, _, rfl, upd_same, T.O_MomentFront.c, T.n_MomentFront _ (by decide), (by show 4 < 1000; decide), ?_⟩
      refine ⟨rfl, ?_⟩
      refine q _ es ?_ ⟨dx, _, p, [v1, v2, v3], upd_same, rfl, rfl, ?_, ?_, tu, fun i f h => ?_⟩ fa
      · intro b o nb e
        rw [upd_ne nb, upd_ne nb, upd_ne nb]
        exact kp b o nb e
      · rw [upd_ne (ne_of hp' ha' (fun z => nomatch z)), upd_ne (ne_of hp' ha' (fun z => nomatch z)), upd_ne (ne_of hp' ha' (fun z => nomatch z))]
        exact hp'
      · exact dws.tups (fun b xs e => by rw [upd_ne (ne_of e ha' (fun z => nomatch z)), upd_ne (ne_of e ha' (fun z => nomatch z)), upd_ne (ne_of e ha' (fun z => nomatch z))]; exact e) tu
      · match i, h with
        | 0, h => cases h; exact ⟨v1, rfl, rfl⟩
        | 1, h => cases h; exact ⟨v2, rfl, rfl⟩
        | 2, h => cases h; exact ⟨v3, rfl, rfl⟩
        | i + 3, h => simp at h
  · obtain ⟨oc, kV, doc, pm, od, an, cda, cc, ct, osl, ccl, cdd, vcs, ccs, tf, cl, cld, csl, cdD, rfl, _⟩ := F.ex
    exact ⟨fun us h => match us, h with | [_, _, _, _], _ => rfl, fun s u ws h => match ws, h with | [_, _, _], _ => .of_eq rfl⟩
theorem fn_MomentFront_init (PF : Prg P) (T : Txt K mg A) : FnG P w K mg base CX0 8 A.i_MomentFront (spC A.c_MomentFront "momentfront" ["points", "steps", "kept"]) := by
  obtain ⟨fd, F, b, _⟩ := ini_MomentFront (w := w) (base := base) PF T
  exact F.fnG b
theorem ini_PromiseFront (PF : Prg P) (T : Txt K mg A) : ∃ fd, FnA P w K mg base CX0 8 A.i_PromiseFront fd ["self", "held", "short"] (spC A.c_PromiseFront "promisefront" ["held", "short"]) ∧ (∀ us : List Value, us.length = 3 → bindArgs fd ⟨us, []⟩ = pure ((["self", "held", "short"] : List PySem.Str).zip us)) ∧ ∀ (s : Shared) (u : Value) (ws : List Value), ws.length = 2 → BindsTo s fd ⟨[u], (["short", "held"] : List PySem.Str).zip ws⟩ ((["self", "held", "short"] : List PySem.Str).zip (u :: ([1, 0] : List Nat).map fun j => ws.getD j .none)) := by
  obtain ⟨fd, F⟩ := T.FC_PromiseFront
  refine ⟨fd, ?_, ?_⟩
  · refine fnc_super (j := 7) (k := 0) (EI := fun _ _ _ => False) PF T.S0 F sc_PromiseFront_init rfl rfl rfl rfl (fun _ => rfl) (fun _ => rfl) (fun _ => rfl) (fun vs H Q E h => ?_) (fn_Paper_init T) (fun NFv A' outer s H vs Q E e1 e2 hr hg h => ?_)
    · obtain ⟨a, dx, xs, ds, rfl, _, _, _, hl, _⟩ := h
      show xs.length + 1 = _
      rw [hl]
      rfl
    · obtain ⟨a, dx, xs, ds, rfl, ha, hd, hok, hl, q⟩ := h
      obtain ⟨nm, ql, pm, bd, sc, cl, cd⟩ := NFv
      dsimp only at e1 e2
      subst e1 e2
      match xs, hl with
      | [x1, x2], _ =>
      refine ⟨a, _, dx, [], [x1, x2], _, _, rfl, ha, T.S_PromiseFront, (pa_cons pe_str (pa_cons (pv 1) (pa_cons (pv 2) pa_nil))), PSs.nox (pss_one (ps_asg (pe_fld (pv 0) rfl) (pg_tup rfl (pgs_cons (pg_fld (pv 0)) (pgs_cons (pg_fld (pv 0)) pgs_nil))))), pass0, ?_⟩
      refine ⟨_, rfl, _, rfl, Iv.mk ⟨a, A.c_PromiseFront, dx, "promisefront", [x1, x2], ds, rfl, ha, ⟨T.O_PromiseFront.c, T.n_PromiseFront _ (by decide), T.n_PromiseFront _ (by decide)⟩, hd, hok, by rw [← hd.length]; exact Nat.le_of_ble_eq_true rfl, fun H' es p ws kp ha' hp' dws fa => ?_⟩⟩
      have hle : ws.length = 2 := by rw [dws.length, ← fa.length, ← hd.length]; rfl
      have tu := fa.tupA hok
      match ws, hle with
      | [v1, v2], _ =>
      refine ⟨_, rfl, a, A.c_PromiseFront, dx, _, .ref p, rfl, ha', T.O_PromiseFront.c, T.n_PromiseFront _ (by decide), rfl, p, _, rfl, SqT.of hp', rfl, ?_⟩
      refine ⟨v1, _, rfl, _, rfl, a, A.c_PromiseFront, dx, _, rfl, ha', T.O_PromiseFront.c, T.n_PromiseFront _ (by decide), (by show 2 < 1000; decide), ?_⟩
      refine ⟨v2, _, rfl, _, rfl, a, A.c_PromiseFront, dx, _, rfl, upd_same, T.O_PromiseFront.c, T.n_PromiseFront _ (by decide), (by show 3 < 1000; decide), ?_⟩
      refine ⟨rfl, ?_⟩
      refine q _ es ?_ ⟨dx, _, p, [v1, v2], upd_same, rfl, rfl, ?_, ?_, tu, fun i f h => ?_⟩ fa
      · intro b o nb e
        rw [upd_ne nb, upd_ne nb]
        exact kp b o nb e
      · rw [upd_ne (ne_of hp' ha' (fun z => nomatch z)), upd_ne (ne_of hp' ha' (fun z => nomatch z))]
        exact hp'
      · exact dws.tups (fun b xs e => by rw [upd_ne (ne_of e ha' (fun z => nomatch z)), upd_ne (ne_of e ha' (fun z => nomatch z))]; exact e) tu
      · match i, h with
        | 0, h => cases h; exact ⟨v1, rfl, rfl⟩
        | 1, h => cases h; exact ⟨v2, rfl, rfl⟩
        | i + 2, h => simp at h
  · obtain ⟨oc, kV, doc, pm, od, an, cda, cc, ct, osl, ccl, cdd, vcs, ccs, tf, cl, cld, csl, cdD, rfl, _⟩ := F.ex
    exact ⟨fun us h => match us, h with | [_, _, _], _ => rfl, fun s u ws h => match ws, h with | [_, _], _ => .of_eq rfl⟩
theorem fn_PromiseFront_init (PF : Prg P) (T : Txt K mg A) : FnG P w K mg base CX0 8 A.i_PromiseFront (spC A.c_PromiseFront "promisefront" ["held", "short"]) := by
  obtain ⟨fd, F, b, _⟩ := ini_PromiseFront (w := w) (base := base) PF T
  exact F.fnG b
theorem ini_SightFront (PF : Prg P) (T : Txt K mg A) : ∃ fd, FnA P w K mg base CX0 8 A.i_SightFront fd ["self", "enough", "short"] (spC A.c_SightFront "sightfront" ["enough", "short"]) ∧ (∀ us : List Value, us.length = 3 → bindArgs fd ⟨us, []⟩ = pure ((["self", "enough", "short"] : List PySem.Str).zip us)) ∧ ∀ (s : Shared) (u : Value) (ws : List Value), ws.length = 2 → BindsTo s fd ⟨[u], (["short", "enough"] : List PySem.Str).zip ws⟩ ((["self", "enough", "short"] : List PySem.Str).zip (u :: ([1, 0] : List Nat).map fun j => ws.getD j .none)) := by
  obtain ⟨fd, F⟩ := T.FC_SightFront
  refine ⟨fd, ?_, ?_⟩
  · refine fnc_super (j := 7) (k := 0) (EI := fun _ _ _ => False) PF T.S0 F sc_SightFront_init rfl rfl rfl rfl (fun _ => rfl) (fun _ => rfl) (fun _ => rfl) (fun vs H Q E h => ?_) (fn_Paper_init T) (fun NFv A' outer s H vs Q E e1 e2 hr hg h => ?_)
    · obtain ⟨a, dx, xs, ds, rfl, _, _, _, hl, _⟩ := h
      show xs.length + 1 = _
      rw [hl]
      rfl
    · obtain ⟨a, dx, xs, ds, rfl, ha, hd, hok, hl, q⟩ := h
      obtain ⟨nm, ql, pm, bd, sc, cl, cd⟩ := NFv
      dsimp only at e1 e2
      subst e1 e2
      match xs, hl with
      | [x1, x2], _ =>
      refine ⟨a, _, dx, [], [x1, x2], _, _, rfl, ha, T.S_SightFront, (pa_cons pe_str (pa_cons (pv 1) (pa_cons (pv 2) pa_nil))), PSs.nox (pss_one (ps_asg (pe_fld (pv 0) rfl) (pg_tup rfl (pgs_cons (pg_fld (pv 0)) (pgs_cons (pg_fld (pv 0)) pgs_nil))))), pass0, ?_⟩
      refine ⟨_, rfl, _, rfl, Iv.mk ⟨a, A.c_SightFront, dx, "sightfront", [x1, x2], ds, rfl, ha, ⟨T.O_SightFront.c, T.n_SightFront _ (by decide), T.n_SightFront _ (by decide)⟩, hd, hok, by rw [← hd.length]; exact Nat.le_of_ble_eq_true rfl, fun H' es p ws kp ha' hp' dws fa => ?_⟩⟩
      have hle : ws.length = 2 := by rw [dws.length, ← fa.length, ← hd.length]; rfl
      have tu := fa.tupA hok
      match ws, hle with
      | [v1, v2], _ =>
      refine ⟨_, rfl, a, A.c_SightFront, dx, _, .ref p, rfl, ha', T.O_SightFront.c, T.n_SightFront _ (by decide), rfl, p, _, rfl, SqT.of hp', rfl, ?_⟩
      refine ⟨v1, _, rfl, _, rfl, a, A.c_SightFront, dx, _, rfl, ha', T.O_SightFront.c, T.n_SightFront _ (by decide), (by show 2 < 1000; decide), ?_⟩
      refine ⟨v2, _, rfl, _, rfl, a, A.c_SightFront, dx, _, rfl, upd_same, T.O_SightFront.c, T.n_SightFront _ (by decide), (by show 3 < 1000; decide), ?_⟩
      refine ⟨rfl, ?_⟩
      refine q _ es ?_ ⟨dx, _, p, [v1, v2], upd_same, rfl, rfl, ?_, ?_, tu, fun i f h => ?_⟩ fa
      · intro b o nb e
        rw [upd_ne nb, upd_ne nb]
        exact kp b o nb e
      · rw [upd_ne (ne_of hp' ha' (fun z => nomatch z)), upd_ne (ne_of hp' ha' (fun z => nomatch z))]
        exact hp'
      · exact dws.tups (fun b xs e => by rw [upd_ne (ne_of e ha' (fun z => nomatch z)), upd_ne (ne_of e ha' (fun z => nomatch z))]; exact e) tu
      · match i, h with
        | 0, h => cases h; exact ⟨v1, rfl, rfl⟩
        | 1, h => cases h; exact ⟨v2, rfl, rfl⟩
        | i + 2, h => simp at h
  · obtain ⟨oc, kV, doc, pm, od, an, cda, cc, ct, osl, ccl, cdd, vcs, ccs, tf, cl, cld, csl, cdD, rfl, _⟩ := F.ex
    exact ⟨fun us h => match us, h with | [_, _, _], _ => rfl, fun s u ws h => match ws, h with | [_, _], _ => .of_eq rfl⟩
theorem fn_SightFront_init (PF : Prg P) (T : Txt K mg A) : FnG P w K mg base CX0 8 A.i_SightFront (spC A.c_SightFront "sightfront" ["enough", "short"]) := by
  obtain ⟨fd, F, b, _⟩ := ini_SightFront (w := w) (base := base) PF T
  exact F.fnG b
theorem ini_Stays (PF : Prg P) (T : Txt K mg A) : ∃ fd, FnA P w K mg base CX0 8 A.i_Stays fd ["self", "cases"] (spC A.c_Stays "stays" ["cases"]) ∧ (∀ us : List Value, us.length = 2 → bindArgs fd ⟨us, []⟩ = pure ((["self", "cases"] : List PySem.Str).zip us)) ∧ ∀ (s : Shared) (u : Value) (ws : List Value), ws.length = 1 → BindsTo s fd ⟨[u], (["cases"] : List PySem.Str).zip ws⟩ ((["self", "cases"] : List PySem.Str).zip (u :: ([0] : List Nat).map fun j => ws.getD j .none)) := by
  obtain ⟨fd, F⟩ := T.FC_Stays
  refine ⟨fd, ?_, ?_⟩
  · refine fnc_super (j := 7) (k := 0) (EI := fun _ _ _ => False) PF T.S0 F sc_Stays_init rfl rfl rfl rfl (fun _ => rfl) (fun _ => rfl) (fun _ => rfl) (fun vs H Q E h => ?_) (fn_Paper_init T) (fun NFv A' outer s H vs Q E e1 e2 hr hg h => ?_)
    · obtain ⟨a, dx, xs, ds, rfl, _, _, _, hl, _⟩ := h
      show xs.length + 1 = _
      rw [hl]
      rfl
    · obtain ⟨a, dx, xs, ds, rfl, ha, hd, hok, hl, q⟩ := h
      obtain ⟨nm, ql, pm, bd, sc, cl, cd⟩ := NFv
      dsimp only at e1 e2
      subst e1 e2
      match xs, hl with
      | [x1], _ =>
      refine ⟨a, _, dx, [], [x1], _, _, rfl, ha, T.S_Stays, (pa_cons pe_str (pa_cons (pv 1) pa_nil)), PSs.nox (pss_one (ps_fld (pv 0) (pe_ix ix_tup (pe_fld (pv 0) rfl) pe_int (fun _ _ => rfl)) rfl)), pass0, ?_⟩
      refine ⟨_, rfl, Iv.mk ⟨a, A.c_Stays, dx, "stays", [x1], ds, rfl, ha, ⟨T.O_Stays.c, T.n_Stays _ (by decide), T.n_Stays _ (by decide)⟩, hd, hok, by rw [← hd.length]; exact Nat.le_of_ble_eq_true rfl, fun H' es p ws kp ha' hp' dws fa => ?_⟩⟩
      have hle : ws.length = 1 := by rw [dws.length, ← fa.length, ← hd.length]; rfl
      have tu := fa.tupA hok
      match ws, hle with
      | [v1], _ =>
      refine ⟨_, rfl, a, A.c_Stays, dx, _, .ref p, rfl, ha', T.O_Stays.c, T.n_Stays _ (by decide), rfl, _, _, _, v1, rfl, rfl, SqT.of hp', rfl, _, rfl, a, A.c_Stays, dx, _, rfl, ha', T.O_Stays.c, T.n_Stays _ (by decide), (by show 2 < 1000; decide), ?_⟩
      refine q _ es ?_ ⟨dx, _, p, [v1], upd_same, rfl, rfl, ?_, ?_, tu, fun i f h => ?_⟩ fa
      · intro b o nb e
        rw [upd_ne nb]
        exact kp b o nb e
      · rw [upd_ne (ne_of hp' ha' (fun z => nomatch z))]
        exact hp'
      · exact dws.tups (fun b xs e => by rw [upd_ne (ne_of e ha' (fun z => nomatch z))]; exact e) tu
      · match i, h with
        | 0, h => cases h; exact ⟨v1, rfl, rfl⟩
        | i + 1, h => simp at h
  · obtain ⟨oc, kV, doc, pm, od, an, cda, cc, ct, osl, ccl, cdd, vcs, ccs, tf, cl, cld, csl, cdD, rfl, _⟩ := F.ex
    exact ⟨fun us h => match us, h with | [_, _], _ => rfl, fun s u ws h => match ws, h with | [_], _ => .of_eq rfl⟩
theorem fn_Stays_init (PF : Prg P) (T : Txt K mg A) : FnG P w K mg base CX0 8 A.i_Stays (spC A.c_Stays "stays" ["cases"]) := by
  obtain ⟨fd, F, b, _⟩ := ini_Stays (w := w) (base := base) PF T
  exact F.fnG b
theorem ini_Slips (PF : Prg P) (T : Txt K mg A) : ∃ fd, FnA P w K mg base CX0 8 A.i_Slips fd ["self", "first", "states", "pages"] (spC A.c_Slips "slips" ["first", "states", "pages"]) ∧ (∀ us : List Value, us.length = 4 → bindArgs fd ⟨us, []⟩ = pure ((["self", "first", "states", "pages"] : List PySem.Str).zip us)) ∧ ∀ (s : Shared) (u : Value) (ws : List Value), ws.length = 3 → BindsTo s fd ⟨[u], (["pages", "states", "first"] : List PySem.Str).zip ws⟩ ((["self", "first", "states", "pages"] : List PySem.Str).zip (u :: ([2, 1, 0] : List Nat).map fun j => ws.getD j .none)) := by
  obtain ⟨fd, F⟩ := T.FC_Slips
  refine ⟨fd, ?_, ?_⟩
  · refine fnc_super (j := 7) (k := 0) (EI := fun _ _ _ => False) PF T.S0 F sc_Slips_init rfl rfl rfl rfl (fun _ => rfl) (fun _ => rfl) (fun _ => rfl) (fun vs H Q E h => ?_) (fn_Paper_init T) (fun NFv A' outer s H vs Q E e1 e2 hr hg h => ?_)
    · obtain ⟨a, dx, xs, ds, rfl, _, _, _, hl, _⟩ := h
      show xs.length + 1 = _
      rw [hl]
      rfl
    · obtain ⟨a, dx, xs, ds, rfl, ha, hd, hok, hl, q⟩ := h
      obtain ⟨nm, ql, pm, bd, sc, cl, cd⟩ := NFv
      dsimp only at e1 e2
      subst e1 e2
      match xs, hl with
      | [x1, x2, x3], _ =>
      refine ⟨a, _, dx, [], [x1, x2, x3], _, _, rfl, ha, T.S_Slips, (pa_cons pe_str (pa_cons (pv 1) (pa_cons (pv 2) (pa_cons (pv 3) pa_nil)))), PSs.nox (pss_one (ps_asg (pe_fld (pv 0) rfl) (pg_tup rfl (pgs_cons (pg_fld (pv 0)) (pgs_cons (pg_fld (pv 0)) (pgs_cons (pg_fld (pv 0)) pgs_nil)))))), pass0, ?_⟩
      refine ⟨_, rfl, _, rfl, _, rfl, Iv.mk ⟨a, A.c_Slips, dx, "slips", [x1, x2, x3], ds, rfl, ha, ⟨T.O_Slips.c, T.n_Slips _ (by decide), T.n_Slips _ (by decide)⟩, hd, hok, by rw [← hd.length]; exact Nat.le_of_ble_eq_true rfl, fun H' es p ws kp ha' hp' dws fa => ?_⟩⟩
      have hle : ws.length = 3 := by rw [dws.length, ← fa.length, ← hd.length]; rfl
      have tu := fa.tupA hok
      match ws, hle with
      | [v1, v2, v3], _ =>
      refine ⟨_, rfl, a, A.c_Slips, dx, _, .ref p, rfl, ha', T.O_Slips.c, T.n_Slips _ (by decide), rfl, p, _, rfl, SqT.of hp', rfl, ?_⟩
      refine ⟨v1, _, rfl, _, rfl, a, A.c_Slips, dx, _, rfl, ha', T.O_Slips.c, T.n_Slips _ (by decide), (by show 2 < 1000; decide), ?_⟩
      refine ⟨v2, _, rfl, _, rfl, a, A.c_Slips, dx, _, rfl, upd_same, T.O_Slips.c, T.n_Slips _ (by decide), (by show 3 < 1000; decide), ?_⟩
      refine ⟨v3, _, rfl, _, rfl, a, A.c_Slips, dx, _, rfl, upd_same, T.O_Slips.c, T.n_Slips _ (by decide), (by show 4 < 1000; decide), ?_⟩
      refine ⟨rfl, ?_⟩
      refine q _ es ?_ ⟨dx, _, p, [v1, v2, v3], upd_same, rfl, rfl, ?_, ?_, tu, fun i f h => ?_⟩ fa
      · intro b o nb e
        rw [upd_ne nb, upd_ne nb, upd_ne nb]
        exact kp b o nb e
      · rw [upd_ne (ne_of hp' ha' (fun z => nomatch z)), upd_ne (ne_of hp' ha' (fun z => nomatch z)), upd_ne (ne_of hp' ha' (fun z => nomatch z))]
        exact hp'
      · exact dws.tups (fun b xs e => by rw [upd_ne (ne_of e ha' (fun z => nomatch z)), upd_ne (ne_of e ha' (fun z => nomatch z)), upd_ne (ne_of e ha' (fun z => nomatch z))]; exact e) tu
      · match i, h with
        | 0, h => cases h; exact ⟨v1, rfl, rfl⟩
        | 1, h => cases h; exact ⟨v2, rfl, rfl⟩
        | 2, h => cases h; exact ⟨v3, rfl, rfl⟩
        | i + 3, h => simp at h
  · obtain ⟨oc, kV, doc, pm, od, an, cda, cc, ct, osl, ccl, cdd, vcs, ccs, tf, cl, cld, csl, cdD, rfl, _⟩ := F.ex
    exact ⟨fun us h => match us, h with | [_, _, _, _], _ => rfl, fun s u ws h => match ws, h with | [_, _, _], _ => .of_eq rfl⟩
theorem fn_Slips_init (PF : Prg P) (T : Txt K mg A) : FnG P w K mg base CX0 8 A.i_Slips (spC A.c_Slips "slips" ["first", "states", "pages"]) := by
  obtain ⟨fd, F, b, _⟩ := ini_Slips (w := w) (base := base) PF T
  exact F.fnG b
theorem ini_Firm (PF : Prg P) (T : Txt K mg A) : ∃ fd, FnA P w K mg base CX0 8 A.i_Firm fd ["self", "pages", "entries", "cases"] (spC A.c_Firm "firm" ["pages", "entries", "cases"]) ∧ (∀ us : List Value, us.length = 4 → bindArgs fd ⟨us, []⟩ = pure ((["self", "pages", "entries", "cases"] : List PySem.Str).zip us)) ∧ ∀ (s : Shared) (u : Value) (ws : List Value), ws.length = 3 → BindsTo s fd ⟨[u], (["cases", "entries", "pages"] : List PySem.Str).zip ws⟩ ((["self", "pages", "entries", "cases"] : List PySem.Str).zip (u :: ([2, 1, 0] : List Nat).map fun j => ws.getD j .none)) := by
  obtain ⟨fd, F⟩ := T.FC_Firm
  refine ⟨fd, ?_, ?_⟩
  · refine fnc_super (j := 7) (k := 0) (EI := fun _ _ _ => False) PF T.S0 F sc_Firm_init rfl rfl rfl rfl (fun _ => rfl) (fun _ => rfl) (fun _ => rfl) (fun vs H Q E h => ?_) (fn_Paper_init T) (fun NFv A' outer s H vs Q E e1 e2 hr hg h => ?_)
    · obtain ⟨a, dx, xs, ds, rfl, _, _, _, hl, _⟩ := h
      show xs.length + 1 = _
      rw [hl]
      rfl
    · obtain ⟨a, dx, xs, ds, rfl, ha, hd, hok, hl, q⟩ := h
      obtain ⟨nm, ql, pm, bd, sc, cl, cd⟩ := NFv
      dsimp only at e1 e2
      subst e1 e2
      match xs, hl with
      | [x1, x2, x3], _ =>
      refine ⟨a, _, dx, [], [x1, x2, x3], _, _, rfl, ha, T.S_Firm, (pa_cons pe_str (pa_cons (pv 1) (pa_cons (pv 2) (pa_cons (pv 3) pa_nil)))), PSs.nox (pss_one (ps_asg (pe_fld (pv 0) rfl) (pg_tup rfl (pgs_cons (pg_fld (pv 0)) (pgs_cons (pg_fld (pv 0)) (pgs_cons (pg_fld (pv 0)) pgs_nil)))))), pass0, ?_⟩
      refine ⟨_, rfl, _, rfl, _, rfl, Iv.mk ⟨a, A.c_Firm, dx, "firm", [x1, x2, x3], ds, rfl, ha, ⟨T.O_Firm.c, T.n_Firm _ (by decide), T.n_Firm _ (by decide)⟩, hd, hok, by rw [← hd.length]; exact Nat.le_of_ble_eq_true rfl, fun H' es p ws kp ha' hp' dws fa => ?_⟩⟩
      have hle : ws.length = 3 := by rw [dws.length, ← fa.length, ← hd.length]; rfl
      have tu := fa.tupA hok
      match ws, hle with
      | [v1, v2, v3], _ =>
      refine ⟨_, rfl, a, A.c_Firm, dx, _, .ref p, rfl, ha', T.O_Firm.c, T.n_Firm _ (by decide), rfl, p, _, rfl, SqT.of hp', rfl, ?_⟩
      refine ⟨v1, _, rfl, _, rfl, a, A.c_Firm, dx, _, rfl, ha', T.O_Firm.c, T.n_Firm _ (by decide), (by show 2 < 1000; decide), ?_⟩
      refine ⟨v2, _, rfl, _, rfl, a, A.c_Firm, dx, _, rfl, upd_same, T.O_Firm.c, T.n_Firm _ (by decide), (by show 3 < 1000; decide), ?_⟩
      refine ⟨v3, _, rfl, _, rfl, a, A.c_Firm, dx, _, rfl, upd_same, T.O_Firm.c, T.n_Firm _ (by decide), (by show 4 < 1000; decide), ?_⟩
      refine ⟨rfl, ?_⟩
      refine q _ es ?_ ⟨dx, _, p, [v1, v2, v3], upd_same, rfl, rfl, ?_, ?_, tu, fun i f h => ?_⟩ fa
      · intro b o nb e
        rw [upd_ne nb, upd_ne nb, upd_ne nb]
        exact kp b o nb e
      · rw [upd_ne (ne_of hp' ha' (fun z => nomatch z)), upd_ne (ne_of hp' ha' (fun z => nomatch z)), upd_ne (ne_of hp' ha' (fun z => nomatch z))]
        exact hp'
      · exact dws.tups (fun b xs e => by rw [upd_ne (ne_of e ha' (fun z => nomatch z)), upd_ne (ne_of e ha' (fun z => nomatch z)), upd_ne (ne_of e ha' (fun z => nomatch z))]; exact e) tu
      · match i, h with
        | 0, h => cases h; exact ⟨v1, rfl, rfl⟩
        | 1, h => cases h; exact ⟨v2, rfl, rfl⟩
        | 2, h => cases h; exact ⟨v3, rfl, rfl⟩
        | i + 3, h => simp at h
  · obtain ⟨oc, kV, doc, pm, od, an, cda, cc, ct, osl, ccl, cdd, vcs, ccs, tf, cl, cld, csl, cdD, rfl, _⟩ := F.ex
    exact ⟨fun us h => match us, h with | [_, _, _, _], _ => rfl, fun s u ws h => match ws, h with | [_, _, _], _ => .of_eq rfl⟩
theorem fn_Firm_init (PF : Prg P) (T : Txt K mg A) : FnG P w K mg base CX0 8 A.i_Firm (spC A.c_Firm "firm" ["pages", "entries", "cases"]) := by
  obtain ⟨fd, F, b, _⟩ := ini_Firm (w := w) (base := base) PF T
  exact F.fnG b
theorem ini_Unfirm (PF : Prg P) (T : Txt K mg A) : ∃ fd, FnA P w K mg base CX0 8 A.i_Unfirm fd ["self", "pages", "lines"] (spC A.c_Unfirm "unfirm" ["pages", "lines"]) ∧ (∀ us : List Value, us.length = 3 → bindArgs fd ⟨us, []⟩ = pure ((["self", "pages", "lines"] : List PySem.Str).zip us)) ∧ ∀ (s : Shared) (u : Value) (ws : List Value), ws.length = 2 → BindsTo s fd ⟨[u], (["lines", "pages"] : List PySem.Str).zip ws⟩ ((["self", "pages", "lines"] : List PySem.Str).zip (u :: ([1, 0] : List Nat).map fun j => ws.getD j .none)) := by
  obtain ⟨fd, F⟩ := T.FC_Unfirm
  refine ⟨fd, ?_, ?_⟩
  · refine fnc_super (j := 7) (k := 0) (EI := fun _ _ _ => False) PF T.S0 F sc_Unfirm_init rfl rfl rfl rfl (fun _ => rfl) (fun _ => rfl) (fun _ => rfl) (fun vs H Q E h => ?_) (fn_Paper_init T) (fun NFv A' outer s H vs Q E e1 e2 hr hg h => ?_)
    · obtain ⟨a, dx, xs, ds, rfl, _, _, _, hl, _⟩ := h
      show xs.length + 1 = _
      rw [hl]
      rfl
    · obtain ⟨a, dx, xs, ds, rfl, ha, hd, hok, hl, q⟩ := h
      obtain ⟨nm, ql, pm, bd, sc, cl, cd⟩ := NFv
      dsimp only at e1 e2
      subst e1 e2
      match xs, hl with
      | [x1, x2], _ =>
      refine ⟨a, _, dx, [], [x1, x2], _, _, rfl, ha, T.S_Unfirm, (pa_cons pe_str (pa_cons (pv 1) (pa_cons (pv 2) pa_nil))), PSs.nox (pss_one (ps_asg (pe_fld (pv 0) rfl) (pg_tup rfl (pgs_cons (pg_fld (pv 0)) (pgs_cons (pg_fld (pv 0)) pgs_nil))))), pass0, ?_⟩
      refine ⟨_, rfl, _, rfl, Iv.mk ⟨a, A.c_Unfirm, dx, "unfirm", [x1, x2], ds, rfl, ha, ⟨T.O_Unfirm.c, T.n_Unfirm _ (by decide), T.n_Unfirm _ (by decide)⟩, hd, hok, by rw [← hd.length]; exact Nat.le_of_ble_eq_true rfl, fun H' es p ws kp ha' hp' dws fa => ?_⟩⟩
      have hle : ws.length = 2 := by rw [dws.length, ← fa.length, ← hd.length]; rfl
      have tu := fa.tupA hok
      match ws, hle with
      | [v1, v2], _ =>
      refine ⟨_, rfl, a, A.c_Unfirm, dx, _, .ref p, rfl, ha', T.O_Unfirm.c, T.n_Unfirm _ (by decide), rfl, p, _, rfl, SqT.of hp', rfl, ?_⟩
      refine ⟨v1, _, rfl, _, rfl, a, A.c_Unfirm, dx, _, rfl, ha', T.O_Unfirm.c, T.n_Unfirm _ (by decide), (by show 2 < 1000; decide), ?_⟩
      refine ⟨v2, _, rfl, _, rfl, a, A.c_Unfirm, dx, _, rfl, upd_same, T.O_Unfirm.c, T.n_Unfirm _ (by decide), (by show 3 < 1000; decide), ?_⟩
      refine ⟨rfl, ?_⟩
      refine q _ es ?_ ⟨dx, _, p, [v1, v2], upd_same, rfl, rfl, ?_, ?_, tu, fun i f h => ?_⟩ fa
      · intro b o nb e
        rw [upd_ne nb, upd_ne nb]
        exact kp b o nb e
      · rw [upd_ne (ne_of hp' ha' (fun z => nomatch z)), upd_ne (ne_of hp' ha' (fun z => nomatch z))]
        exact hp'
      · exact dws.tups (fun b xs e => by rw [upd_ne (ne_of e ha' (fun z => nomatch z)), upd_ne (ne_of e ha' (fun z => nomatch z))]; exact e) tu
      · match i, h with
        | 0, h => cases h; exact ⟨v1, rfl, rfl⟩
        | 1, h => cases h; exact ⟨v2, rfl, rfl⟩
        | i + 2, h => simp at h
  · obtain ⟨oc, kV, doc, pm, od, an, cda, cc, ct, osl, ccl, cdd, vcs, ccs, tf, cl, cld, csl, cdD, rfl, _⟩ := F.ex
    exact ⟨fun us h => match us, h with | [_, _, _], _ => rfl, fun s u ws h => match ws, h with | [_, _], _ => .of_eq rfl⟩
theorem fn_Unfirm_init (PF : Prg P) (T : Txt K mg A) : FnG P w K mg base CX0 8 A.i_Unfirm (spC A.c_Unfirm "unfirm" ["pages", "lines"]) := by
  obtain ⟨fd, F, b, _⟩ := ini_Unfirm (w := w) (base := base) PF T
  exact F.fnG b
theorem ini_Steady (PF : Prg P) (T : Txt K mg A) : ∃ fd, FnA P w K mg base CX0 8 A.i_Steady fd ["self", "number", "firm", "unfirm"] (spC A.c_Steady "steady" ["number", "firm", "unfirm"]) ∧ (∀ us : List Value, us.length = 4 → bindArgs fd ⟨us, []⟩ = pure ((["self", "number", "firm", "unfirm"] : List PySem.Str).zip us)) ∧ ∀ (s : Shared) (u : Value) (ws : List Value), ws.length = 3 → BindsTo s fd ⟨[u], (["unfirm", "firm", "number"] : List PySem.Str).zip ws⟩ ((["self", "number", "firm", "unfirm"] : List PySem.Str).zip (u :: ([2, 1, 0] : List Nat).map fun j => ws.getD j .none)) := by
  obtain ⟨fd, F⟩ := T.FC_Steady
  refine ⟨fd, ?_, ?_⟩
  · refine fnc_super (j := 7) (k := 0) (EI := fun _ _ _ => False) PF T.S0 F sc_Steady_init rfl rfl rfl rfl (fun _ => rfl) (fun _ => rfl) (fun _ => rfl) (fun vs H Q E h => ?_) (fn_Paper_init T) (fun NFv A' outer s H vs Q E e1 e2 hr hg h => ?_)
    · obtain ⟨a, dx, xs, ds, rfl, _, _, _, hl, _⟩ := h
      show xs.length + 1 = _
      rw [hl]
      rfl
    · obtain ⟨a, dx, xs, ds, rfl, ha, hd, hok, hl, q⟩ := h
      obtain ⟨nm, ql, pm, bd, sc, cl, cd⟩ := NFv
      dsimp only at e1 e2
      subst e1 e2
      match xs, hl with
      | [x1, x2, x3], _ =>
      refine ⟨a, _, dx, [], [x1, x2, x3], _, _, rfl, ha, T.S_Steady, (pa_cons pe_str (pa_cons (pv 1) (pa_cons (pv 2) (pa_cons (pv 3) pa_nil)))), PSs.nox (pss_one (ps_asg (pe_fld (pv 0) rfl) (pg_tup rfl (pgs_cons (pg_fld (pv 0)) (pgs_cons (pg_fld (pv 0)) (pgs_cons (pg_fld (pv 0)) pgs_nil)))))), pass0, ?_⟩
      refine ⟨_, rfl, _, rfl, _, rfl, Iv.mk ⟨a, A.c_Steady, dx, "steady", [x1, x2, x3], ds, rfl, ha, ⟨T.O_Steady.c, T.n_Steady _ (by decide), T.n_Steady _ (by decide)⟩, hd, hok, by rw [← hd.length]; exact Nat.le_of_ble_eq_true rfl, fun H' es p ws kp ha' hp' dws fa => ?_⟩⟩
      have hle : ws.length = 3 := by rw [dws.length, ← fa.length, ← hd.length]; rfl
      have tu := fa.tupA hok
      match ws, hle with
      | [v1, v2, v3], _ =>
      refine ⟨_, rfl, a, A.c_Steady, dx, _, .ref p, rfl, ha', T.O_Steady.c, T.n_Steady _ (by decide), rfl, p, _, rfl, SqT.of hp', rfl, ?_⟩
      refine ⟨v1, _, rfl, _, rfl, a, A.c_Steady, dx, _, rfl, ha', T.O_Steady.c, T.n_Steady _ (by decide), (by show 2 < 1000; decide), ?_⟩
      refine ⟨v2, _, rfl, _, rfl, a, A.c_Steady, dx, _, rfl, upd_same, T.O_Steady.c, T.n_Steady _ (by decide), (by show 3 < 1000; decide), ?_⟩
      refine ⟨v3, _, rfl, _, rfl, a, A.c_Steady, dx, _, rfl, upd_same, T.O_Steady.c, T.n_Steady _ (by decide), (by show 4 < 1000; decide), ?_⟩
      refine ⟨rfl, ?_⟩
      refine q _ es ?_ ⟨dx, _, p, [v1, v2, v3], upd_same, rfl, rfl, ?_, ?_, tu, fun i f h => ?_⟩ fa
      · intro b o nb e
        rw [upd_ne nb, upd_ne nb, upd_ne nb]
        exact kp b o nb e
      · rw [upd_ne (ne_of hp' ha' (fun z => nomatch z)), upd_ne (ne_of hp' ha' (fun z => nomatch z)), upd_ne (ne_of hp' ha' (fun z => nomatch z))]
        exact hp'
      · exact dws.tups (fun b xs e => by rw [upd_ne (ne_of e ha' (fun z => nomatch z)), upd_ne (ne_of e ha' (fun z => nomatch z)), upd_ne (ne_of e ha' (fun z => nomatch z))]; exact e) tu
      · match i, h with
        | 0, h => cases h; exact ⟨v1, rfl, rfl⟩
        | 1, h => cases h; exact ⟨v2, rfl, rfl⟩
        | 2, h => cases h; exact ⟨v3, rfl, rfl⟩
        | i + 3, h => simp at h
  · obtain ⟨oc, kV, doc, pm, od, an, cda, cc, ct, osl, ccl, cdd, vcs, ccs, tf, cl, cld, csl, cdD, rfl, _⟩ := F.ex
    exact ⟨fun us h => match us, h with | [_, _, _, _], _ => rfl, fun s u ws h => match ws, h with | [_, _, _], _ => .of_eq rfl⟩
theorem fn_Steady_init (PF : Prg P) (T : Txt K mg A) : FnG P w K mg base CX0 8 A.i_Steady (spC A.c_Steady "steady" ["number", "firm", "unfirm"]) := by
  obtain ⟨fd, F, b, _⟩ := ini_Steady (w := w) (base := base) PF T
  exact F.fnG b
end
end K56

namespace K56
open PySem PySem.Spec PyProof.Rows L2 MyL MyD MyP
/-- what of a class the laws lean on -/
structure KCls (K : PySem.W.Frag) (A : Adr) (C : Addr) (nm : Str) : Prop where
  o : OwnC K C nm
  w : NoAttr K C "word"
  p : NoAttr K C "parts"
  kP : PySem.W.kitOne K (.ref C) (.ref A.c_Paper) = some true
  q : PySem.W.findIn K (.ref C) "__eq__" = some (some (.ref A.q))
  tn : PySem.W.notFirst K C (.type "tuple") = true
  mem : C ∈ [A.c_Paper, A.c_Denial, A.c_Safe, A.c_Unsafe, A.c_Held, A.c_Lost, A.c_Shared, A.c_Parting, A.c_Serves, A.c_Lacks, A.c_Holds, A.c_Broken, A.c_Uncovered, A.c_Delay, A.c_Ring, A.c_Refusal, A.c_Patience, A.c_Never, A.c_DelayFront, A.c_Handed, A.c_Dropped, A.c_Implied, A.c_Apart, A.c_Kept, A.c_Least, A.c_Losing, A.c_SureTime, A.c_MomentFront, A.c_PromiseFront, A.c_SightFront, A.c_Stays, A.c_Slips, A.c_Firm, A.c_Unfirm, A.c_Steady]
/-- a paper -/
structure IsP (K : PySem.W.Frag) (A : Adr) (H : Hp) (v : V) (C : Addr) (nm z : Str) (es : List PyData) : Prop where
  c : KCls K A C nm
  at_ : ∃ a fl, v = .ref a ∧ PapAt H a C z es fl
  sh : SeqAt.shaped (.tuple es) = true
theorem IsP.tups {K : PySem.W.Frag} {A : Adr} {H H' : Hp} {v : V} {C : Addr} {nm z : Str} {es : List PyData} (h : IsP K A H v C nm z es) (S : ∀ b o, (∃ c d f, o = .ins c d f) ∨ (∃ xs, o = .tup xs) → H b = some o → H' b = some o) : IsP K A H' v C nm z es := by
  obtain ⟨c, ⟨a, fl, e, dx, fs, p, vs, h1, h2, h3, h4, h5, h6, h7⟩, sh⟩ := h
  exact ⟨c, ⟨a, fl, e, dx, fs, p, vs, S _ _ (.inl ⟨_, _, _, rfl⟩) h1, h2, h3, S _ _ (.inr ⟨_, rfl⟩) h4, h5.tups (fun b xs z => S _ _ (.inr ⟨_, rfl⟩) z) h6, h6, h7⟩, sh⟩
theorem IsP.same {K : PySem.W.Frag} {A : Adr} {H H' : Hp} {v : V} {C : Addr} {nm z : Str} {es : List PyData} (h : IsP K A H v C nm z es) (S : Same H H') : IsP K A H' v C nm z es := h.tups fun b o _ e => S b o e
def spEq (K : PySem.W.Frag) (A : Adr) : Sp := fun vs H Q _ => ∃ (x y : V) (C : Addr) (nm z : Str) (es : List PyData), vs = [x, y] ∧ IsP K A H x C nm z es ∧
  Two (∃ t, TyX K H y t ∧ PySem.W.kitOne K t (.ref A.c_Paper) = some false ∧ Q (.bl false) H)
    (∃ (C' : Addr) (nm' z' : Str) (es' : List PyData), IsP K A H y C' nm' z' es' ∧ Q (.bl (nm == nm' && (z == z' && PyData.eqv (.tuple es) (.tuple es')))) H)
section
variable {P : Program} {w : World} {K : PySem.W.Frag} {mg : Str → Option Value} {base : Heap} {A : Adr}
local macro_rules | `(tactic| walk_at "sames") => `(tactic| repeat (first
  | exact Same.refl _
  | refine Same.new ?_ (by assumption)
  | refine Same.trans ?_ (by assumption)))
local macro_rules | `(tactic| walk_at "ne") => `(tactic| first
  | assumption
  | exact Ne.symm (by assumption)
  | exact ne_new (by assumption) (by walk_at "look")
  | exact ne_new' (by assumption) (by walk_at "look")
  | exact ne_of (by walk_at "look") (by walk_at "look") (by intro z; cases z))
local macro_rules | `(tactic| walk_at "look") => `(tactic| first
  | assumption
  | exact upd_same
  | (refine upd_new (by assumption) ?_
     walk_at "look")
  | (refine (upd_ne ?_).trans ?_
     · walk_at "ne"
     · walk_at "look")
  | (refine Kp.get (by assumption) ?_ ?_
     · walk_at "ne"
     · walk_at "look")
  | (refine Same.get (by assumption) ?_
     walk_at "look"))
local macro_rules | `(tactic| walk_at "lenv") => `(tactic| first
  | exact Or.inl ⟨_, SqL.of (by walk_at "look"), rfl⟩
  | exact Or.inr ⟨_, SqT.of (by walk_at "look"), rfl⟩
  | exact ⟨line_le (by omega), rfl⟩)
local macro_rules | `(tactic| walk_at "cond") => `(tactic| first
  | assumption
  | rfl
  | exact Nat.zero_le _
  | exact Nat.le_of_ble_eq_true rfl
  | decide
  | omega
  | exact line_lt (by (try simp only [List.length_map, List.length_append, List.length_cons, List.length_nil]); omega)
  | exact line_le (by (try simp only [List.length_map, List.length_append, List.length_cons, List.length_nil]); omega)
  | (dsimp only; omega)
  | exact ⟨by decide, by decide⟩
  | exact ⟨by decide, by decide, by decide⟩
  | exact Or.inl ⟨by decide, by decide⟩
  | exact Or.inl ⟨by omega, by omega⟩
  | exact Or.inr ⟨by omega, by omega⟩)
local macro_rules | `(tactic| walk_at "kit") => `(tactic| first | assumption | exact kit_NoneType_int | exact kit_NoneType_bool | exact kit_NoneType_str | exact kit_NoneType_list | exact kit_NoneType_tuple | exact kit_NoneType_dict | exact kit_bool_int | exact kit_bool_bool | exact kit_bool_str | exact kit_bool_list | exact kit_bool_tuple | exact kit_bool_dict | exact kit_int_int | exact kit_int_bool | exact kit_int_str | exact kit_int_list | exact kit_int_tuple | exact kit_int_dict | exact kit_str_int | exact kit_str_bool | exact kit_str_str | exact kit_str_list | exact kit_str_tuple | exact kit_str_dict | exact kit_list_int | exact kit_list_bool | exact kit_list_str | exact kit_list_list | exact kit_list_tuple | exact kit_list_dict | exact kit_tuple_int | exact kit_tuple_bool | exact kit_tuple_str | exact kit_tuple_list | exact kit_tuple_tuple | exact kit_tuple_dict | exact kit_dict_int | exact kit_dict_bool | exact kit_dict_str | exact kit_dict_list | exact kit_dict_tuple | exact kit_dict_dict)
local macro_rules | `(tactic| walk_at "ty") => `(tactic| first | assumption | exact tyx_str | exact tyx_int | exact tyx_bl | exact tyx_non | exact tyx_lst (by walk_at "look") | exact tyx_tup (by walk_at "look") | exact tyx_dK (by walk_at "look"))
local macro_rules | `(tactic| walk_at "s") => `(tactic| first
  | refine ⟨_, rfl, ?_⟩
  | refine ⟨_, _, rfl, rfl, ?_⟩
  | refine ⟨_, _, _, _, rfl, rfl, SqL.of (by walk_at "look"), by rfl, ?_⟩
  | refine ⟨_, _, _, _, rfl, rfl, SqT.of (by walk_at "look"), by rfl, ?_⟩
  | refine ⟨_, _, _, _, rfl, rfl, by walk_at "look", by rfl, ?_⟩
  | refine ⟨_, _, rfl, by walk_at "lenv", ?_⟩
  | refine Or.inl ⟨_, rfl, ?_⟩
  | refine ⟨_, _, _, _, _, rfl, ClsV.ty _, by walk_at "ty", by walk_at "kit", ?_⟩
  | refine And.intro (by walk_at "cond") ?_
  | refine ⟨_, _, rfl, SqT.of (by walk_at "look"), rfl, ?_⟩
  | refine ⟨_, _, rfl, SqL.of (by walk_at "look"), rfl, ?_⟩
  | refine And.intro (Or.inl ⟨rfl, _, SqL.of (by walk_at "look")⟩) ?_
  | refine ⟨_, _, _, rfl, rfl, by walk_at "look", by walk_at "cond", ?_⟩
  | refine ⟨_, _, _, _, rfl, rfl, by walk_at "look", by walk_at "look", by walk_at "cond", ?_⟩
  | refine And.intro ⟨_, rfl⟩ ?_
  | refine And.intro ⟨_, SqL.of (by walk_at "look")⟩ ?_
  | refine ⟨_, _, rfl, SqL.of (by walk_at "look"), ?_⟩
  | refine ⟨_, _, rfl, (by assumption : SqL _ _ _ _), ?_⟩
  | refine ⟨_, by walk_at "look", by walk_at "cond", ?_⟩
  | refine ⟨_, _, rfl, Or.inr (SqT.of (by walk_at "look")), ?_⟩
  | refine ⟨_, _, rfl, Or.inl (SqL.of (by walk_at "look")), ?_⟩
  | refine ⟨_, _, rfl, ?_⟩
  | refine ⟨_, _, _, rfl, by walk_at "look", by assumption, ?_⟩
  | refine ⟨_, _, true, _, _, rfl, rfl, ClsV.own _, kit_own (by assumption) (by assumption), rfl, by walk_at "look", ?_⟩
  | refine ⟨_, _, _, _, rfl, ErAt.same (by assumption) (by walk_at "sames"), by assumption, by assumption, ?_⟩
  | refine ⟨_, _, _, _, rfl, ErAt.same (by assumption) (by walk_at "sames"), by assumption, by assumption, by assumption, ?_⟩
  | refine if_t (by first | rfl | assumption | decide) ?_
  | refine if_f (by assumption) ?_
  | refine if_f (by first | decide | exact Bool.false_ne_true) ?_
  | refine fun (_ : _ ≠ sysModules) => ?_
  | refine fun (_ : ErAt _ _ _ _) => ?_
  | refine fun _ _ => ?_)

theorem fn_Paper_bool (T : Txt K mg A) : FnG P w K mg base CX0 1 A.b_Paper (spB true) := by
  obtain ⟨fd, F⟩ := T.FBP
  refine Fun_okN F sc_Paper_bool (fun vs H Q E h => ?_) (fun _ _ _ _ _ _ us hl => match us, hl with | [_], _ => rfl) (fun cdv A' outer s H vs Q E hr hg h => ?_)
  · obtain ⟨_, rfl, _⟩ := h
    rfl
  obtain ⟨a, rfl, q⟩ := h
  refine ⟨_, ((pss_one (ps_ret pe_bl))), ?_⟩
  exact q
theorem kc_Paper (T : Txt K mg A) : KCls K A A.c_Paper "Paper" := ⟨T.O_Paper, T.n_Paper _ (by decide), T.n_Paper _ (by decide), T.kP_Paper, T.q_Paper, T.tn_Paper, by simp only [List.mem_cons, true_or, or_true]⟩
theorem kc_Denial (T : Txt K mg A) : KCls K A A.c_Denial "Denial" := ⟨T.O_Denial, T.n_Denial _ (by decide), T.n_Denial _ (by decide), T.kP_Denial, T.q_Denial, T.tn_Denial, by simp only [List.mem_cons, true_or, or_true]⟩
theorem kc_Safe (T : Txt K mg A) : KCls K A A.c_Safe "Safe" := ⟨T.O_Safe, T.n_Safe _ (by decide), T.n_Safe _ (by decide), T.kP_Safe, T.q_Safe, T.tn_Safe, by simp only [List.mem_cons, true_or, or_true]⟩
theorem kc_Unsafe (T : Txt K mg A) : KCls K A A.c_Unsafe "Unsafe" := ⟨T.O_Unsafe, T.n_Unsafe _ (by decide), T.n_Unsafe _ (by decide), T.kP_Unsafe, T.q_Unsafe, T.tn_Unsafe, by simp only [List.mem_cons, true_or, or_true]⟩
theorem kc_Held (T : Txt K mg A) : KCls K A A.c_Held "Held" := ⟨T.O_Held, T.n_Held _ (by decide), T.n_Held _ (by decide), T.kP_Held, T.q_Held, T.tn_Held, by simp only [List.mem_cons, true_or, or_true]⟩
theorem kc_Lost (T : Txt K mg A) : KCls K A A.c_Lost "Lost" := ⟨T.O_Lost, T.n_Lost _ (by decide), T.n_Lost _ (by decide), T.kP_Lost, T.q_Lost, T.tn_Lost, by simp only [List.mem_cons, true_or, or_true]⟩
theorem kc_Shared (T : Txt K mg A) : KCls K A A.c_Shared "Shared" := ⟨T.O_Shared, T.n_Shared _ (by decide), T.n_Shared _ (by decide), T.kP_Shared, T.q_Shared, T.tn_Shared, by simp only [List.mem_cons, true_or, or_true]⟩
theorem kc_Parting (T : Txt K mg A) : KCls K A A.c_Parting "Parting" := ⟨T.O_Parting, T.n_Parting _ (by decide), T.n_Parting _ (by decide), T.kP_Parting, T.q_Parting, T.tn_Parting, by simp only [List.mem_cons, true_or, or_true]⟩
theorem kc_Serves (T : Txt K mg A) : KCls K A A.c_Serves "Serves" := ⟨T.O_Serves, T.n_Serves _ (by decide), T.n_Serves _ (by decide), T.kP_Serves, T.q_Serves, T.tn_Serves, by simp only [List.mem_cons, true_or, or_true]⟩
theorem kc_Lacks (T : Txt K mg A) : KCls K A A.c_Lacks "Lacks" := ⟨T.O_Lacks, T.n_Lacks _ (by decide), T.n_Lacks _ (by decide), T.kP_Lacks, T.q_Lacks, T.tn_Lacks, by simp only [List.mem_cons, true_or, or_true]⟩
theorem kc_Holds (T : Txt K mg A) : KCls K A A.c_Holds "Holds" := ⟨T.O_Holds, T.n_Holds _ (by decide), T.n_Holds _ (by decide), T.kP_Holds, T.q_Holds, T.tn_Holds, by simp only [List.mem_cons, true_or, or_true]⟩
theorem kc_Broken (T : Txt K mg A) : KCls K A A.c_Broken "Broken" := ⟨T.O_Broken, T.n_Broken _ (by decide), T.n_Broken _ (by decide), T.kP_Broken, T.q_Broken, T.tn_Broken, by simp only [List.mem_cons, true_or, or_true]⟩
theorem kc_Uncovered (T : Txt K mg A) : KCls K A A.c_Uncovered "Uncovered" := ⟨T.O_Uncovered, T.n_Uncovered _ (by decide), T.n_Uncovered _ (by decide), T.kP_Uncovered, T.q_Uncovered, T.tn_Uncovered, by simp only [List.mem_cons, true_or, or_true]⟩
theorem kc_Delay (T : Txt K mg A) : KCls K A A.c_Delay "Delay" := ⟨T.O_Delay, T.n_Delay _ (by decide), T.n_Delay _ (by decide), T.kP_Delay, T.q_Delay, T.tn_Delay, by simp only [List.mem_cons, true_or, or_true]⟩
theorem kc_Ring (T : Txt K mg A) : KCls K A A.c_Ring "Ring" := ⟨T.O_Ring, T.n_Ring _ (by decide), T.n_Ring _ (by decide), T.kP_Ring, T.q_Ring, T.tn_Ring, by simp only [List.mem_cons, true_or, or_true]⟩
theorem kc_Refusal (T : Txt K mg A) : KCls K A A.c_Refusal "Refusal" := ⟨T.O_Refusal, T.n_Refusal _ (by decide), T.n_Refusal _ (by decide), T.kP_Refusal, T.q_Refusal, T.tn_Refusal, by simp only [List.mem_cons, true_or, or_true]⟩
theorem kc_Patience (T : Txt K mg A) : KCls K A A.c_Patience "Patience" := ⟨T.O_Patience, T.n_Patience _ (by decide), T.n_Patience _ (by decide), T.kP_Patience, T.q_Patience, T.tn_Patience, by simp only [List.mem_cons, true_or, or_true]⟩
theorem kc_Never (T : Txt K mg A) : KCls K A A.c_Never "Never" := ⟨T.O_Never, T.n_Never _ (by decide), T.n_Never _ (by decide), T.kP_Never, T.q_Never, T.tn_Never, by simp only [List.mem_cons, true_or, or_true]⟩
theorem kc_DelayFront (T : Txt K mg A) : KCls K A A.c_DelayFront "DelayFront" := ⟨T.O_DelayFront, T.n_DelayFront _ (by decide), T.n_DelayFront _ (by decide), T.kP_DelayFront, T.q_DelayFront, T.tn_DelayFront, by simp only [List.mem_cons, true_or, or_true]⟩
theorem kc_Handed (T : Txt K mg A) : KCls K A A.c_Handed "Handed" := ⟨T.O_Handed, T.n_Handed _ (by decide), T.n_Handed _ (by decide), T.kP_Handed, T.q_Handed, T.tn_Handed, by simp only [List.mem_cons, true_or, or_true]⟩
theorem kc_Dropped (T : Txt K mg A) : KCls K A A.c_Dropped "Dropped" := ⟨T.O_Dropped, T.n_Dropped _ (by decide), T.n_Dropped _ (by decide), T.kP_Dropped, T.q_Dropped, T.tn_Dropped, by simp only [List.mem_cons, true_or, or_true]⟩
theorem kc_Implied (T : Txt K mg A) : KCls K A A.c_Implied "Implied" := ⟨T.O_Implied, T.n_Implied _ (by decide), T.n_Implied _ (by decide), T.kP_Implied, T.q_Implied, T.tn_Implied, by simp only [List.mem_cons, true_or, or_true]⟩
theorem kc_Apart (T : Txt K mg A) : KCls K A A.c_Apart "Apart" := ⟨T.O_Apart, T.n_Apart _ (by decide), T.n_Apart _ (by decide), T.kP_Apart, T.q_Apart, T.tn_Apart, by simp only [List.mem_cons, true_or, or_true]⟩
theorem kc_Kept (T : Txt K mg A) : KCls K A A.c_Kept "Kept" := ⟨T.O_Kept, T.n_Kept _ (by decide), T.n_Kept _ (by decide), T.kP_Kept, T.q_Kept, T.tn_Kept, by simp only [List.mem_cons, true_or, or_true]⟩
theorem kc_Least (T : Txt K mg A) : KCls K A A.c_Least "Least" := ⟨T.O_Least, T.n_Least _ (by decide), T.n_Least _ (by decide), T.kP_Least, T.q_Least, T.tn_Least, by simp only [List.mem_cons, true_or, or_true]⟩
theorem kc_Losing (T : Txt K mg A) : KCls K A A.c_Losing "Losing" := ⟨T.O_Losing, T.n_Losing _ (by decide), T.n_Losing _ (by decide), T.kP_Losing, T.q_Losing, T.tn_Losing, by simp only [List.mem_cons, true_or, or_true]⟩
theorem kc_SureTime (T : Txt K mg A) : KCls K A A.c_SureTime "SureTime" := ⟨T.O_SureTime, T.n_SureTime _ (by decide), T.n_SureTime _ (by decide), T.kP_SureTime, T.q_SureTime, T.tn_SureTime, by simp only [List.mem_cons, true_or, or_true]⟩
theorem kc_MomentFront (T : Txt K mg A) : KCls K A A.c_MomentFront "MomentFront" := ⟨T.O_MomentFront, T.n_MomentFront _ (by decide), T.n_MomentFront _ (by decide), T.kP_MomentFront, T.q_MomentFront, T.tn_MomentFront, by simp only [List.mem_cons, true_or, or_true]⟩
theorem kc_PromiseFront (T : Txt K mg A) : KCls K A A.c_PromiseFront "PromiseFront" := ⟨T.O_PromiseFront, T.n_PromiseFront _ (by decide), T.n_PromiseFront _ (by decide), T.kP_PromiseFront, T.q_PromiseFront, T.tn_PromiseFront, by simp only [List.mem_cons, true_or, or_true]⟩
theorem kc_SightFront (T : Txt K mg A) : KCls K A A.c_SightFront "SightFront" := ⟨T.O_SightFront, T.n_SightFront _ (by decide), T.n_SightFront _ (by decide), T.kP_SightFront, T.q_SightFront, T.tn_SightFront, by simp only [List.mem_cons, true_or, or_true]⟩
theorem kc_Stays (T : Txt K mg A) : KCls K A A.c_Stays "Stays" := ⟨T.O_Stays, T.n_Stays _ (by decide), T.n_Stays _ (by decide), T.kP_Stays, T.q_Stays, T.tn_Stays, by simp only [List.mem_cons, true_or, or_true]⟩
theorem kc_Slips (T : Txt K mg A) : KCls K A A.c_Slips "Slips" := ⟨T.O_Slips, T.n_Slips _ (by decide), T.n_Slips _ (by decide), T.kP_Slips, T.q_Slips, T.tn_Slips, by simp only [List.mem_cons, true_or, or_true]⟩
theorem kc_Firm (T : Txt K mg A) : KCls K A A.c_Firm "Firm" := ⟨T.O_Firm, T.n_Firm _ (by decide), T.n_Firm _ (by decide), T.kP_Firm, T.q_Firm, T.tn_Firm, by simp only [List.mem_cons, true_or, or_true]⟩
theorem kc_Unfirm (T : Txt K mg A) : KCls K A A.c_Unfirm "Unfirm" := ⟨T.O_Unfirm, T.n_Unfirm _ (by decide), T.n_Unfirm _ (by decide), T.kP_Unfirm, T.q_Unfirm, T.tn_Unfirm, by simp only [List.mem_cons, true_or, or_true]⟩
theorem kc_Steady (T : Txt K mg A) : KCls K A A.c_Steady "Steady" := ⟨T.O_Steady, T.n_Steady _ (by decide), T.n_Steady _ (by decide), T.kP_Steady, T.q_Steady, T.tn_Steady, by simp only [List.mem_cons, true_or, or_true]⟩
theorem eqv_str (a b : Str) : PyData.eqv (.str a) (.str b) = (a == b) := by simp only [PyData.eqv]
theorem fn_Paper_eq (T : Txt K mg A) : FnG P w K mg base CX0 1 A.q (spEq K A) := by
  obtain ⟨fd, F⟩ := T.FQ
  refine Fun_okN F sc_Paper_eq (fun vs H Q E h => ?_) (fun _ _ _ _ _ _ us hl => match us, hl with | [_, _], _ => rfl) (fun cdv A' outer s H vs Q E hr hg h => ?_)
  · obtain ⟨_, _, _, _, _, _, rfl, _⟩ := h
    rfl
  obtain ⟨x, y, C, nm, z, es, rfl, X, h⟩ := h
  refine ⟨_, ((pss_cons (ps_if (pt_not (pt_val (pe_callB call_isi (by rfl) T.n_isinstance (by decide +kernel) (pa_cons (pv 1) (pa_cons (pe_glob (v := .ref A.c_Paper) (u := .ref A.c_Paper) rfl T.m_Paper rfl) pa_nil))))) (pss_one (ps_ret pe_bl)) pss_nil)
    (pss_cons (ps_if (pt_cmpR op_ne (pe_clsNm T.S0.op (pv 0)) (pe_clsNm T.S0.op (pv 1)) (nomark _)) (pss_one (ps_ret pe_bl)) pss_nil)
    (pss_one (ps_ret (pe_and (pe_cmpR op_eq (pe_fld (pv 0) rfl) (pe_fld (pv 1) rfl) (nomark _)) (pe_one (pe_cmpR (MyD.op_eqR T.sm hr.units) (pe_fld (pv 0) rfl) (pe_fld (pv 1) rfl) (nomark _))))))))), ?_⟩
  rcases h with ⟨t, ty, kf, q⟩ | ⟨C', nm', z', es', Y, q⟩
  · refine ⟨_, rfl, y, _, t, _, false, rfl, ClsV.own _, ty, kf, ?_⟩
    repeat walk_at "s"
    exact q
  · obtain ⟨c, ⟨a, fl, rfl, dx, fs, p, us, h1, h2, h3, h4, h5, h6, h7⟩, sh⟩ := X
    obtain ⟨c', ⟨a', fl', rfl, dx', fs', p', us', g1, g2, g3, g4, g5, g6, g7⟩, sh'⟩ := Y
    refine ⟨_, rfl, _, _, _, _, true, rfl, ClsV.own _, c'.o.ty g1, c'.kP, ?_⟩
    refine ⟨_, rfl, ?_⟩
    refine if_f (by decide) ?_
    refine ⟨_, rfl, a, C, dx, fs, nm, rfl, h1, c.o, ?_⟩
    refine ⟨_, rfl, a', C', dx', fs', nm', rfl, g1, c'.o, rfl, ?_⟩
    have e0 : decide (V.str nm = V.str nm') = (nm == nm') := by
      rw [Bool.eq_iff_iff]
      simp
    rw [e0]
    cases hn : nm == nm' with
    | false =>
      rw [hn] at q
      exact ⟨_, rfl, q⟩
    | true =>
      rw [hn] at q
      refine ⟨_, rfl, ?_⟩
      refine if_f (by decide) ?_
      refine ⟨_, rfl, a, C, dx, fs, _, rfl, h1, c.o.c, c.w, h2, ?_⟩
      refine ⟨_, rfl, a', C', dx', fs', _, rfl, g1, c'.o.c, c'.w, g2, ?_⟩
      have e1 : decide (V.str z = V.str z') = (z == z') := by
        rw [Bool.eq_iff_iff]
        simp
      refine ⟨rfl, _, rfl, ?_⟩
      rw [e1]
      cases hz : z == z' with
      | false =>
        rw [hz] at q
        exact q
      | true =>
        rw [hz] at q
        refine if_t rfl ?_
        refine ⟨_, rfl, a, C, dx, fs, _, rfl, h1, c.o.c, c.p, h3, ?_⟩
        refine ⟨_, rfl, a', C', dx', fs', _, rfl, g1, c'.o.c, c'.p, g3, ?_⟩
        exact ⟨_, _, .tup h4 h5, .tup g4 g5, sh, sh', q⟩
/-- C(..) lays a paper -/
theorem sh_of {ds es : List PyData} (hok : ∀ d ∈ ds, Okd 4 d) (hl : ds.length ≤ 5) (fa : FxAll ds es) : SeqAt.shaped (.tuple es) = true :=
  (Shf.tuple (n := 8) (l := Ln 4) (m := 5) (by rw [← fa.length]; exact hl) (FxAll.shf (n := 4) fa hok)).shaped (by decide)
theorem same_of {H H' : Hp} {x dx C : Addr} (hx : H x = none) (hdx : H dx = none) (k : Kp x (upd (upd H dx (.own x)) x (.ins C dx [])) H') : Same H H' := fun b o e =>
  k b o (ne_of_none e hx) (by rw [upd_ne (ne_of_none e hx), upd_ne (ne_of_none e hdx)]; exact e)
theorem pap_new {H : Hp} {C : Addr} {nm z : Str} {xs : List V} {ds : List PyData} {Q : VK} (c : KCls K A C nm) (hd : DpRs H xs ds) (hok : ∀ d ∈ ds, Okd 4 d) (hl : ds.length ≤ 5)
    (q : ∀ H' x es, Same H H' → IsP K A H' (.ref x) C nm z es → FxAll ds es → Q (.ref x) H') :
    ∀ x dx, H x = none → H dx = none → dx ≠ x → Iv (spPInit K (.ref x :: .str z :: xs) (upd (upd H dx (.own x)) x (.ins C dx [])) (fun v H2 => v = .non ∧ Q (.ref x) H2) (fun _ _ _ => False)) := by
  intro x dx hx hdx hne
  refine Iv.mk ⟨x, C, dx, z, xs, ds, rfl, upd_same, ⟨c.o.c, c.w, c.p⟩, hd.same (Same.put (Same.put (Same.refl H) hdx) hx), hok, hl, fun H' es p ws k h1 h2 h3 fa => ⟨rfl, q H' x es (same_of hx hdx k) ⟨c, ⟨x, [], rfl, dx, _, p, ws, h1, rfl, rfl, h2, h3, fa.tupA hok, fun i f h => by simp at h⟩, sh_of hok hl fa⟩ fa⟩⟩
theorem own_new {H : Hp} {C : Addr} {nm z : Str} {fl : List Str} {xs : List V} {ds : List PyData} {Q : VK} (c : KCls K A C nm) (hd : DpRs H xs ds) (hok : ∀ d ∈ ds, Okd 4 d) (hl : xs.length = fl.length) (hl3 : fl.length ≤ 5)
    (q : ∀ H' x es, Same H H' → IsP K A H' (.ref x) C nm z es → PapAt H' x C z es fl → FxAll ds es → Q (.ref x) H') :
    ∀ x dx, H x = none → H dx = none → dx ≠ x → Iv (spC C z fl (.ref x :: xs) (upd (upd H dx (.own x)) x (.ins C dx [])) (fun v H2 => v = .non ∧ Q (.ref x) H2) (fun _ _ _ => False)) := by
  intro x dx hx hdx hne
  refine Iv.mk ⟨x, dx, xs, ds, rfl, upd_same, hd.same (Same.put (Same.put (Same.refl H) hdx) hx), hok, hl, fun H' es k pa fa => ⟨rfl, q H' x es (same_of hx hdx k) ⟨c, ⟨x, fl, rfl, pa⟩, sh_of hok (by rw [← hd.length, hl]; exact hl3) fa⟩ pa fa⟩⟩
/-- a paper's field -/
theorem pap_fld {H : Hp} {a C : Addr} {z : Str} {es : List PyData} {fl : List Str} (h : PapAt H a C z es fl) : ∃ dx fs, H a = some (.ins C dx fs) ∧ fld fs "word" = some (.str z) ∧ ∀ (i : Nat) (f : Str) (e : PyData), fl[i]? = some f → es[i]? = some e → ∃ v, fld fs f = some v ∧ DpR H v e := by
  obtain ⟨dx, fs, p, vs, h1, h2, h3, h4, h5, h6, h7⟩ := h
  refine ⟨dx, fs, h1, h2, fun i f e hf he => ?_⟩
  obtain ⟨v, g1, g2⟩ := h7 i f hf
  obtain ⟨d, g3, g4⟩ := h5.at_ g2
  rw [he] at g3
  cases g3
  exact ⟨v, g1, g4⟩
theorem PapAt.same {H H' : Hp} {a C : Addr} {z : Str} {es : List PyData} {fl : List Str} (h : PapAt H a C z es fl) (S : Same H H') : PapAt H' a C z es fl := by
  obtain ⟨dx, fs, p, vs, h1, h2, h3, h4, h5, h6, h7⟩ := h
  exact ⟨dx, fs, p, vs, S _ _ h1, h2, h3, S _ _ h4, h5.same S, h6, h7⟩
theorem own_newQ {K : PySem.W.Frag} {A : Adr} {H : Hp} {C x dx : Addr} {nm z : Str} {fl : List Str} {xs : List V} {ds : List PyData} {Q : VK} {E : XK} (hx : H x = none) (hdx : H dx = none) (c : KCls K A C nm) (hd : DpRs H xs ds) (hok : ∀ d ∈ ds, Okd 4 d) (hl : xs.length = fl.length) (hl3 : fl.length ≤ 5)
    (q : ∀ H' es, Same H H' → IsP K A H' (.ref x) C nm z es → PapAt H' x C z es fl → FxAll ds es → Q .non H') : Iv (spC C z fl (.ref x :: xs) (upd (upd H dx (.own x)) x (.ins C dx [])) Q E) :=
  Iv.mk ⟨x, dx, xs, ds, rfl, upd_same, hd.same (Same.put (Same.put (Same.refl H) hdx) hx), hok, hl, fun H' es k pa fa => q H' es (same_of hx hdx k) ⟨c, ⟨x, fl, rfl, pa⟩, sh_of hok (by rw [← hd.length, hl]; exact hl3) fa⟩ pa fa⟩
theorem pap_newQ {K : PySem.W.Frag} {A : Adr} {H : Hp} {C x dx : Addr} {nm z : Str} {xs : List V} {ds : List PyData} {Q : VK} {E : XK} (hx : H x = none) (hdx : H dx = none) (c : KCls K A C nm) (hd : DpRs H xs ds) (hok : ∀ d ∈ ds, Okd 4 d) (hl : ds.length ≤ 5)
    (q : ∀ H' es, Same H H' → IsP K A H' (.ref x) C nm z es → FxAll ds es → Q .non H') : Iv (spPInit K (.ref x :: .str z :: xs) (upd (upd H dx (.own x)) x (.ins C dx [])) Q E) :=
  Iv.mk ⟨x, C, dx, z, xs, ds, rfl, upd_same, ⟨c.o.c, c.w, c.p⟩, hd.same (Same.put (Same.put (Same.refl H) hdx) hx), hok, hl, fun H' es p ws k h1 h2 h3 fa => q H' es (same_of hx hdx k) ⟨c, ⟨x, [], rfl, dx, _, p, ws, h1, rfl, rfl, h2, h3, fa.tupA hok, fun i f h => by simp at h⟩, sh_of hok hl fa⟩ fa⟩
theorem eqvAll_len : ∀ {xs ys : List PyData}, PyData.eqvAll xs ys = true → xs.length = ys.length
  | [], [], _ => rfl
  | [], _ :: _, h => by simp [PyData.eqvAll] at h
  | _ :: _, [], h => by simp [PyData.eqvAll] at h
  | x :: xs, y :: ys, h => by
    simp only [PyData.eqvAll, Bool.and_eq_true] at h
    rw [List.length_cons, List.length_cons, eqvAll_len h.2]
theorem eqv_tup_len {xs ys : List PyData} (h : xs.length ≠ ys.length) : PyData.eqv (.tuple xs) (.tuple ys) = false := by
  simp only [PyData.eqv]
  cases e : PyData.eqvAll xs ys with
  | true => exact absurd (eqvAll_len e) h
  | false => rfl
theorem own_eqP (T : Txt K mg A) {H : Hp} {Q : VK} {x y : V} {C C' : Addr} {nm nm' z z' : Str} {es es' : List PyData} {b : Bool} (X : IsP K A H x C nm z es) (Y : IsP K A H y C' nm' z' es')
    (h1 : (nm == nm' && (z == z' && PyData.eqv (.tuple es) (.tuple es'))) = b) (h2 : C' ≠ C → (nm' == nm && (z' == z && PyData.eqv (.tuple es') (.tuple es))) = b) (q : Q (.bl b) H) : rOwnEq K A.q (spEq K A) x y H Q := by
  obtain ⟨c, ⟨a, fl, rfl, dx, fs, p, vs, g1, _⟩, _⟩ := id X
  obtain ⟨c', ⟨a', fl', rfl, dx', fs', p', vs', g1', _⟩, _⟩ := id Y
  refine ⟨a, C, dx, fs, _, rfl, g1, .ins g1', c.q, ?_⟩
  rcases T.pair C c.mem C' c'.mem with h | ⟨hn, hs⟩
  · exact .inl ⟨h, Iv.mk ⟨_, _, C, nm, z, es, rfl, X, .r ⟨C', nm', z', es', Y, by rw [h1]; exact q⟩⟩⟩
  · exact .inr ⟨C', rfl, hn, hs, c'.q, Iv.mk ⟨_, _, C', nm', z', es', rfl, Y, .r ⟨C, nm, z, es, X, by rw [h2 hn]; exact q⟩⟩⟩
theorem own_eqT (T : Txt K mg A) {H : Hp} {Q : VK} {x : V} {a' : Addr} {us : List V} {C : Addr} {nm z : Str} {es : List PyData} (X : IsP K A H x C nm z es) (h : H a' = some (.tup us)) (q : Q (.bl false) H) : rOwnEq K A.q (spEq K A) x (.ref a') H Q := by
  obtain ⟨c, ⟨a, fl, rfl, dx, fs, p, vs, g1, _⟩, _⟩ := id X
  exact ⟨a, C, dx, fs, _, rfl, g1, .tup h, c.q, .inl ⟨c.tn, Iv.mk ⟨_, _, C, nm, z, es, rfl, X, .l ⟨_, tyx_tup h, T.kT, q⟩⟩⟩⟩
theorem fn_Denial_bool (T : Txt K mg A) : FnG P w K mg base CX0 1 A.b_Denial (spB false) := by
  obtain ⟨fd, F⟩ := T.FBD
  refine Fun_okN F sc_Denial_bool (fun vs H Q E h => ?_) (fun _ _ _ _ _ _ us hl => match us, hl with | [_], _ => rfl) (fun cdv A' outer s H vs Q E hr hg h => ?_)
  · obtain ⟨_, rfl, _⟩ := h
    rfl
  obtain ⟨a, rfl, q⟩ := h
  refine ⟨_, ((pss_one (ps_ret pe_bl))), ?_⟩
  exact q
end
end K56

namespace K56
open PySem PySem.Spec PyProof.Rows L2 MyL MyD
/-- what of H2 stands where H1 had nothing -/
def nw (H1 H2 : Hp) : Hp := fun b => match H1 b with
  | none => H2 b
  | some _ => none
theorem nw_at {H1 H2 : Hp} {b : Addr} (h : H1 b = none) : nw H1 H2 b = H2 b := by unfold nw; rw [h]
theorem nw_some {H1 H2 : Hp} {b : Addr} {o : HO} (h : nw H1 H2 b = some o) : H1 b = none ∧ H2 b = some o := by
  unfold nw at h
  cases e : H1 b with
  | none => rw [e] at h; exact ⟨rfl, h⟩
  | some _ => rw [e] at h; cases h
theorem nw_same {A B H H' : Hp} (d : ∀ b, A b = none → B b = none) (k : ∀ b o, A b = none → H b = some o → H' b = some o) : Same (nw A H) (nw B H') := fun b o e => by
  obtain ⟨h1, h2⟩ := nw_some e
  rw [nw_at (d b h1)]
  exact k b o h1 h2
theorem nw_all {A H : Hp} : Same (nw A H) H := fun b o e => (nw_some e).2
/-- not locked -/
def Un (H : Hp) (v : V) : Prop := ∀ a o u, v = .ref a → H a ≠ some (.frz o u)
def Cst : Nat → Nat
  | 0 => 3
  | n + 1 => 3 + 3 * Cst n
/-- pairs of a value and its fixed form -/
inductive Prs (H : Hp) : List V → List V → List V → List PyData → List PyData → Prop
  | nil : Prs H [] [] [] [] []
  | cons {t : Addr} {ts vs us : List V} {v u : V} {d e : PyData} {ds es : List PyData} : H t = some (.tup [v, u]) → DpR H v d → DpR H u e → Fx d e → Prs H ts vs us ds es → Prs H (.ref t :: ts) (v :: vs) (u :: us) (d :: ds) (e :: es)
theorem Prs.snoc {H : Hp} : ∀ {ts vs us : List V} {ds es : List PyData} {t : Addr} {v u : V} {d e : PyData}, Prs H ts vs us ds es → H t = some (.tup [v, u]) → DpR H v d → DpR H u e → Fx d e → Prs H (ts ++ [.ref t]) (vs ++ [v]) (us ++ [u]) (ds ++ [d]) (es ++ [e])
  | _, _, _, _, _, _, _, _, _, _, .nil, h1, h2, h3, h4 => .cons h1 h2 h3 h4 .nil
  | _, _, _, _, _, _, _, _, _, _, .cons a b c d q, h1, h2, h3, h4 => .cons a b c d (q.snoc h1 h2 h3 h4)
theorem Prs.same {H H' : Hp} (S : Same H H') : ∀ {ts vs us : List V} {ds es : List PyData}, Prs H ts vs us ds es → Prs H' ts vs us ds es
  | _, _, _, _, _, .nil => .nil
  | _, _, _, _, _, .cons a b c d q => .cons (S _ _ a) (b.same S) (c.same S) d (q.same S)
theorem Prs.all {H : Hp} : ∀ {ts vs us : List V} {ds es : List PyData}, Prs H ts vs us ds es → DpRs H vs ds ∧ DpRs H us es ∧ FxAll ds es ∧ ts.length = vs.length ∧ ts.length = us.length ∧ ts.length = ds.length
  | _, _, _, _, _, .nil => ⟨.nil, .nil, .nil, rfl, rfl, rfl⟩
  | _, _, _, _, _, .cons a b c d q => by
    obtain ⟨h1, h2, h3, h4, h5, h6⟩ := q.all
    exact ⟨.cons b h1, .cons c h2, .cons d h3, by rw [List.length_cons, List.length_cons, h4], by rw [List.length_cons, List.length_cons, h5], by rw [List.length_cons, List.length_cons, h6]⟩
theorem Prs.at_ {H : Hp} : ∀ {ts vs us : List V} {ds es : List PyData} {i : Nat} {x : V}, Prs H ts vs us ds es → ts[i]? = some x → ∃ t v u, x = .ref t ∧ H t = some (.tup [v, u]) ∧ vs[i]? = some v ∧ us[i]? = some u
  | _, _, _, _, _, 0, _, .cons a b c d q, h => by cases h; exact ⟨_, _, _, rfl, a, rfl, rfl⟩
  | _, _, _, _, _, i + 1, _, .cons a b c d q, h => Prs.at_ (i := i) q (by simpa using h)
def spValue (n : Nat) : Sp := fun vs H Q _ => ∃ (W : Wl) (m : Nat), vs = [.ref W.w, .int (n : Int)] ∧ WellAt H W m ∧ m + Cst n ≤ 900000 ∧
  ∀ H' t v u d e, WellAt H' W (m + Cst n) → Kp W.w H H' → nw H H' t = some (.tup [v, u]) → DpR (nw H H') v d → DpR (nw H H') u e → Okd n d → Fx d e → Q (.ref t) H'
theorem leaf_int {i : Int} (h : 0 ≤ i) (h1 : i < 10 ^ 60) : Leaf (.int i) := by
  refine ⟨.int i, by simp only [PyData.canLay0], ?_, ?_⟩
  · simp only [PyData.showable]
    refine decide_eq_true ?_
    have h0 : i.natAbs < 10 ^ 60 := by omega
    by_cases z : i.natAbs = 0
    · rw [z]; decide
    · exact (Nat.log2_lt z).mpr (Nat.lt_of_lt_of_le h0 (by decide))
  · simp only [PyData.shown]
    exact Nat.le_trans (toString_length_le h (k := 60) (by decide) h1) (by decide)
theorem leaf_7 : Leaf (.int (-7)) := ⟨.int _, by simp only [PyData.canLay0], by simp only [PyData.showable]; decide +kernel, by simp only [PyData.shown]; decide +kernel⟩
theorem leaf_m : Leaf (.int (-1)) := ⟨.int _, by simp only [PyData.canLay0], by simp only [PyData.showable]; decide +kernel, by simp only [PyData.shown]; decide +kernel⟩
theorem leaf_str {z : Str} (h : PyData.strOk z = true) (h2 : (PyData.shown (.str z)).length ≤ 64) : Leaf (.str z) := ⟨.str z, by simp only [PyData.canLay0]; exact h, by simp only [PyData.showable], h2⟩
theorem leaf_non : Leaf .none := ⟨.none, by simp only [PyData.canLay0], by simp only [PyData.showable], by simp only [PyData.shown]; decide +kernel⟩
theorem leaf_bl (b : Bool) : Leaf (.bool b) := ⟨.bool b, by simp only [PyData.canLay0], by simp only [PyData.showable], by simp only [PyData.shown]; cases b <;> decide +kernel⟩
theorem leaf_a : Leaf (.str "a") := leaf_str (by decide +kernel) (by simp only [PyData.shown]; decide +kernel)
/-- a value that needs no heap -/
def LeafV (v : V) : Prop := ∃ d, Leaf d ∧ (∀ H : Hp, DpR H v d) ∧ ∀ a, v ≠ .ref a
theorem leaf_2 : Leaf (.int (-2)) := ⟨.int _, by simp only [PyData.canLay0], by simp only [PyData.showable]; decide +kernel, by simp only [PyData.shown]; decide +kernel⟩
theorem leafs {r : Int} (h0 : 0 ≤ r) (h1 : r < 10 ^ 20) : ∀ v ∈ [V.non, .str "x", .str "", .str "o.p", .int 0, .int 3, .int (-2), .int r], LeafV v := by
  intro v hv
  simp only [List.mem_cons, List.not_mem_nil, or_false] at hv
  rcases hv with rfl | rfl | rfl | rfl | rfl | rfl | rfl | rfl
  · exact ⟨_, leaf_non, fun _ => .non, fun _ z => nomatch z⟩
  · exact ⟨_, leaf_str (by decide +kernel) (by simp only [PyData.shown]; decide +kernel), fun _ => .str _, fun _ z => nomatch z⟩
  · exact ⟨_, leaf_str (by decide +kernel) (by simp only [PyData.shown]; decide +kernel), fun _ => .str _, fun _ z => nomatch z⟩
  · exact ⟨_, leaf_str (by decide +kernel) (by simp only [PyData.shown]; decide +kernel), fun _ => .str _, fun _ z => nomatch z⟩
  · exact ⟨_, leaf_int (by decide) (by decide), fun _ => .int _, fun _ z => nomatch z⟩
  · exact ⟨_, leaf_int (by decide) (by decide), fun _ => .int _, fun _ z => nomatch z⟩
  · exact ⟨_, leaf_2, fun _ => .int _, fun _ z => nomatch z⟩
  · exact ⟨_, leaf_int h0 (by omega), fun _ => .int _, fun _ z => nomatch z⟩
def K3 : List Key := [.inr "c", .inr "a", .inr "b"]
theorem zipk : ∀ vs : List V, ((K3.zip vs).map (·.1)).Nodup
  | [] => by show ([] : List Key).Nodup; decide
  | [_] => by show ([.inr "c"] : List Key).Nodup; decide +kernel
  | [_, _] => by show ([.inr "c", .inr "a"] : List Key).Nodup; decide +kernel
  | _ :: _ :: _ :: _ => by show ([.inr "c", .inr "a", .inr "b"] : List Key).Nodup; decide +kernel
theorem put_take {kvs : List (Key × V)} {i : Nat} {t : Key × V} (hn : (kvs.map (·.1)).Nodup) (ht : kvs[i]? = some t) : putK (kvs.take i) t.1 t.2 = kvs.take (i + 1) := by
  unfold putK
  rw [if_neg, take_one ht]
  intro h
  obtain ⟨p, hp, e⟩ := List.any_eq_true.mp h
  have e := of_decide_eq_true e
  obtain ⟨j, hj, e2⟩ := List.mem_iff_getElem.mp hp
  rw [List.length_take] at hj
  rw [List.getElem_take] at e2
  obtain ⟨h4, h5⟩ := List.getElem?_eq_some_iff.mp ht
  have h6 := (List.pairwise_iff_getElem.mp hn) j i (by rw [List.length_map]; omega) (by rw [List.length_map]; exact h4) (by omega)
  rw [List.getElem_map, List.getElem_map, e2, h5] at h6
  exact h6 e
theorem tup_at : ∀ {es : List PyData} {i : Nat} {e : PyData}, TupAll es → es[i]? = some e → Tup e
  | _, 0, _, .cons a q, h => by cases h; exact a
  | _, i + 1, _, .cons a q, h => tup_at (i := i) q (by simpa using h)
/-- the keys as they rise, where each stands -/
def U3 : List (Str × Nat) := [("a", 1), ("b", 2), ("c", 0)]
def selP (ds : List PyData) (i : Nat) : List (PyData × PyData) := (U3.take i).filterMap fun p => (ds[p.2]?).map fun d => (.str p.1, d)
def sel (es : List PyData) (i : Nat) : List PyData := (U3.take i).filterMap fun p => (es[p.2]?).map fun e => .tuple [.str p.1, e]
theorem fxall_at : ∀ {ds es : List PyData} {i : Nat} {d : PyData}, FxAll ds es → ds[i]? = some d → ∃ e, es[i]? = some e ∧ Fx d e
  | _, _, 0, _, .cons a q, h => by cases h; exact ⟨_, rfl, a⟩
  | _, _, i + 1, _, .cons a q, h => fxall_at (i := i) q (by simpa using h)
theorem sel_fx {ds es : List PyData} (h : FxAll ds es) : ∀ U : List (Str × Nat), FxP (U.filterMap fun p => (ds[p.2]?).map fun d => (PyData.str p.1, d)) (U.filterMap fun p => (es[p.2]?).map fun e => PyData.tuple [.str p.1, e])
  | [] => .nil
  | p :: U => by
    have ih := sel_fx h U
    cases e : ds[p.2]? with
    | none =>
      have e2 : es[p.2]? = none := by
        rw [List.getElem?_eq_none_iff] at e ⊢
        rw [← h.length]
        exact e
      rw [List.filterMap_cons, List.filterMap_cons, e, e2]
      exact ih
    | some d =>
      obtain ⟨e', h1, h2⟩ := fxall_at h e
      rw [List.filterMap_cons, List.filterMap_cons, e, h1]
      exact .cons h2 ih
theorem sel_tup {es : List PyData} (h : TupAll es) : ∀ U : List (Str × Nat), TupAll (U.filterMap fun p => (es[p.2]?).map fun e => PyData.tuple [.str p.1, e])
  | [] => .nil
  | p :: U => by
    have ih := sel_tup h U
    cases e : es[p.2]? with
    | none =>
      rw [List.filterMap_cons, e]
      exact ih
    | some d =>
      rw [List.filterMap_cons, e]
      exact .cons (.tup (.cons (.flat (.str _)) (.cons (tup_at h e) .nil))) ih
theorem val_c : ∀ vs : List V, valV (K3.zip vs) (.inr "c") = vs[0]?
  | [] => rfl
  | _ :: _ => valV_pos rfl
theorem val_a : ∀ vs : List V, valV (K3.zip vs) (.inr "a") = vs[1]?
  | [] => rfl
  | [_] => valV_neg (show ¬ (Sum.inr "c" : Key) = .inr "a" by decide +kernel)
  | _ :: _ :: _ => (valV_neg (show ¬ (Sum.inr "c" : Key) = .inr "a" by decide +kernel)).trans (valV_pos rfl)
theorem val_b : ∀ vs : List V, valV (K3.zip vs) (.inr "b") = vs[2]?
  | [] => rfl
  | [_] => valV_neg (show ¬ (Sum.inr "c" : Key) = .inr "b" by decide +kernel)
  | [_, _] => (valV_neg (show ¬ (Sum.inr "c" : Key) = .inr "b" by decide +kernel)).trans (valV_neg (show ¬ (Sum.inr "a" : Key) = .inr "b" by decide +kernel))
  | _ :: _ :: _ :: _ => ((valV_neg (show ¬ (Sum.inr "c" : Key) = .inr "b" by decide +kernel)).trans (valV_neg (show ¬ (Sum.inr "a" : Key) = .inr "b" by decide +kernel))).trans (valV_pos rfl)
theorem wl_same {H0 H H' : Hp} (S : Same H H') : Same (nw H0 H) (nw H0 H') := nw_same (fun _ h => h) fun b o _ e => S b o e
def psOf (ds : List PyData) : List (PyData × PyData) := ([.str "c", .str "a", .str "b"] : List PyData).zip ds
theorem leaf_k : ∀ k ∈ ([.str "c", .str "a", .str "b"] : List PyData), Leaf k := fun k hk => by
  simp only [List.mem_cons, List.not_mem_nil, or_false] at hk
  rcases hk with rfl | rfl | rfl <;> exact leaf_str (by decide +kernel) (by simp only [PyData.shown]; decide +kernel)
theorem lt_ab : keyLt (.str "a") (.str "b") := by show ("a" : Str).cps.toList < ("b" : Str).cps.toList; decide +kernel
theorem lt_bc : keyLt (.str "b") (.str "c") := by show ("b" : Str).cps.toList < ("c" : Str).cps.toList; decide +kernel
theorem lt_ac : keyLt (.str "a") (.str "c") := by show ("a" : Str).cps.toList < ("c" : Str).cps.toList; decide +kernel
theorem dict_of {n : Nat} {H : Hp} {vs : List V} {ds : List PyData} (hv : DpRs H vs ds) (hok : ∀ d ∈ ds, Okd n d) (hl : ds.length ≤ 3) :
    DpRp H (K3.zip vs) (psOf ds) ∧ Okd (n + 1) (.dict (psOf ds)) ∧ (psOf ds).Perm (selP ds 3) ∧ SortedK (selP ds 3) := by
  have hd : ∀ p ∈ psOf ds, Leaf p.1 ∧ Okd n p.2 := fun p hp => by
    obtain ⟨a, b⟩ := p
    have h := List.of_mem_zip hp
    exact ⟨leaf_k _ h.1, hok _ h.2⟩
  have nin1 : (PyData.str "c") ≠ .str "a" := fun z => absurd (PyData.str.inj z) (by decide +kernel)
  have nin2 : (PyData.str "c") ≠ .str "b" := fun z => absurd (PyData.str.inj z) (by decide +kernel)
  have nin3 : (PyData.str "a") ≠ .str "b" := fun z => absurd (PyData.str.inj z) (by decide +kernel)
  match vs, ds, hv, hl with
  | [], [], .nil, _ => exact ⟨.nil, .dict (Nat.zero_le _) List.nodup_nil (.inr ⟨[], rfl⟩) (fun p h => (hd p h).1) (fun p h => (hd p h).2), .refl _, List.Pairwise.nil⟩
  | [_], [d], .cons a .nil, _ => exact ⟨.cons a .nil, .dict (by show 1 ≤ 3; decide) (by show [PyData.str "c"].Nodup; simp) (.inr ⟨["c"], rfl⟩) (fun p h => (hd p h).1) (fun p h => (hd p h).2), .refl _, List.pairwise_singleton _ _⟩
  | [_, _], [d, e], .cons a (.cons b .nil), _ => exact ⟨.cons a (.cons b .nil), .dict (by show 2 ≤ 3; decide) (by show [PyData.str "c", PyData.str "a"].Nodup; simp [nin1]) (.inr ⟨["c", "a"], rfl⟩) (fun p h => (hd p h).1) (fun p h => (hd p h).2),
      (show List.Perm [(PyData.str "c", d), (.str "a", e)] [(.str "a", e), (.str "c", d)] from .swap _ _ _), (show List.Pairwise _ [(PyData.str "a", e), (.str "c", d)] from .cons (fun p hp => by rw [List.mem_singleton.mp hp]; exact lt_ac) (List.pairwise_singleton _ _))⟩
  | [_, _, _], [d, e, f], .cons a (.cons b (.cons c .nil)), _ => exact ⟨.cons a (.cons b (.cons c .nil)), .dict (by show 3 ≤ 3; decide) (by show [PyData.str "c", PyData.str "a", PyData.str "b"].Nodup; simp [nin1, nin2, nin3]) (.inr ⟨["c", "a", "b"], rfl⟩) (fun p h => (hd p h).1) (fun p h => (hd p h).2),
      (show List.Perm [(PyData.str "c", d), (.str "a", e), (.str "b", f)] [(.str "a", e), (.str "b", f), (.str "c", d)] from List.perm_append_comm (l₁ := [(PyData.str "c", d)]) (l₂ := [(.str "a", e), (.str "b", f)])),
      (show List.Pairwise _ [(PyData.str "a", e), (.str "b", f), (.str "c", d)] from .cons (fun p hp => by
        rcases List.mem_cons.mp hp with h | h
        · rw [h]; exact lt_ab
        · rw [List.mem_singleton.mp h]; exact lt_ac) (.cons (fun p hp => by rw [List.mem_singleton.mp hp]; exact lt_bc) (List.pairwise_singleton _ _)))⟩
  | _ :: _ :: _ :: _ :: _, _ :: _ :: _ :: _ :: _, _, hl => simp at hl
section
variable {P : Program} {w : World} {K : PySem.W.Frag} {mg : Str → Option Value} {base : Heap} {A : Adr}
local macro_rules | `(tactic| walk_at "sames") => `(tactic| repeat (first
  | exact Same.refl _
  | refine Same.new ?_ (by assumption)
  | refine Same.trans ?_ (by assumption)))
local macro_rules | `(tactic| walk_at "ne") => `(tactic| first
  | assumption
  | exact Ne.symm (by assumption)
  | exact ne_new (by assumption) (by walk_at "look")
  | exact ne_new' (by assumption) (by walk_at "look")
  | exact ne_of (by walk_at "look") (by walk_at "look") (by intro z; cases z))
local macro_rules | `(tactic| walk_at "look") => `(tactic| first
  | assumption
  | exact upd_same
  | (refine upd_new (by assumption) ?_
     walk_at "look")
  | (refine (upd_ne ?_).trans ?_
     · walk_at "ne"
     · walk_at "look")
  | (refine Kp.get (by assumption) ?_ ?_
     · walk_at "ne"
     · walk_at "look")
  | (refine Same.get (by assumption) ?_
     walk_at "look"))
local macro_rules | `(tactic| walk_at "lenv") => `(tactic| first
  | exact Or.inl ⟨_, SqL.of (by walk_at "look"), rfl⟩
  | exact Or.inr ⟨_, SqT.of (by walk_at "look"), rfl⟩
  | exact ⟨line_le (by omega), rfl⟩)
local macro_rules | `(tactic| walk_at "cond") => `(tactic| first
  | assumption
  | rfl
  | exact Nat.zero_le _
  | exact Nat.le_of_ble_eq_true rfl
  | decide
  | omega
  | exact line_lt (by (try simp only [List.length_map, List.length_append, List.length_cons, List.length_nil]); omega)
  | exact line_le (by (try simp only [List.length_map, List.length_append, List.length_cons, List.length_nil]); omega)
  | (dsimp only; omega)
  | exact ⟨by decide, by decide⟩
  | exact ⟨by decide, by decide, by decide⟩
  | exact Or.inl ⟨by decide, by decide⟩
  | exact Or.inl ⟨by omega, by omega⟩
  | exact Or.inr ⟨by omega, by omega⟩)
local macro_rules | `(tactic| walk_at "kit") => `(tactic| first | assumption | exact kit_NoneType_int | exact kit_NoneType_bool | exact kit_NoneType_str | exact kit_NoneType_list | exact kit_NoneType_tuple | exact kit_NoneType_dict | exact kit_bool_int | exact kit_bool_bool | exact kit_bool_str | exact kit_bool_list | exact kit_bool_tuple | exact kit_bool_dict | exact kit_int_int | exact kit_int_bool | exact kit_int_str | exact kit_int_list | exact kit_int_tuple | exact kit_int_dict | exact kit_str_int | exact kit_str_bool | exact kit_str_str | exact kit_str_list | exact kit_str_tuple | exact kit_str_dict | exact kit_list_int | exact kit_list_bool | exact kit_list_str | exact kit_list_list | exact kit_list_tuple | exact kit_list_dict | exact kit_tuple_int | exact kit_tuple_bool | exact kit_tuple_str | exact kit_tuple_list | exact kit_tuple_tuple | exact kit_tuple_dict | exact kit_dict_int | exact kit_dict_bool | exact kit_dict_str | exact kit_dict_list | exact kit_dict_tuple | exact kit_dict_dict)
local macro_rules | `(tactic| walk_at "ty") => `(tactic| first | assumption | exact tyx_str | exact tyx_int | exact tyx_bl | exact tyx_non | exact tyx_lst (by walk_at "look") | exact tyx_tup (by walk_at "look") | exact tyx_dK (by walk_at "look"))
local macro_rules | `(tactic| walk_at "s") => `(tactic| first
  | refine ⟨_, rfl, ?_⟩
  | refine ⟨_, _, rfl, rfl, ?_⟩
  | refine ⟨_, _, _, _, rfl, rfl, SqL.of (by walk_at "look"), by rfl, ?_⟩
  | refine ⟨_, _, _, _, rfl, rfl, SqT.of (by walk_at "look"), by rfl, ?_⟩
  | refine ⟨_, _, _, _, rfl, rfl, by walk_at "look", by rfl, ?_⟩
  | refine ⟨_, _, rfl, by walk_at "lenv", ?_⟩
  | refine Or.inl ⟨_, rfl, ?_⟩
  | refine ⟨_, _, _, _, _, rfl, ClsV.ty _, by walk_at "ty", by walk_at "kit", ?_⟩
  | refine And.intro (by walk_at "cond") ?_
  | refine ⟨_, _, rfl, SqT.of (by walk_at "look"), rfl, ?_⟩
  | refine ⟨_, _, rfl, SqL.of (by walk_at "look"), rfl, ?_⟩
  | refine And.intro (Or.inl ⟨rfl, _, SqL.of (by walk_at "look")⟩) ?_
  | refine ⟨_, _, _, rfl, rfl, by walk_at "look", by walk_at "cond", ?_⟩
  | refine ⟨_, _, _, _, rfl, rfl, by walk_at "look", by walk_at "look", by walk_at "cond", ?_⟩
  | refine And.intro ⟨_, rfl⟩ ?_
  | refine And.intro ⟨_, SqL.of (by walk_at "look")⟩ ?_
  | refine ⟨_, _, rfl, SqL.of (by walk_at "look"), ?_⟩
  | refine ⟨_, _, rfl, (by assumption : SqL _ _ _ _), ?_⟩
  | refine ⟨_, by walk_at "look", by walk_at "cond", ?_⟩
  | refine ⟨_, _, rfl, Or.inr (SqT.of (by walk_at "look")), ?_⟩
  | refine ⟨_, _, rfl, Or.inl (SqL.of (by walk_at "look")), ?_⟩
  | refine ⟨_, _, rfl, ?_⟩
  | refine ⟨_, _, _, rfl, by walk_at "look", by assumption, ?_⟩
  | refine ⟨_, _, true, _, _, rfl, rfl, ClsV.own _, kit_own (by assumption) (by assumption), rfl, by walk_at "look", ?_⟩
  | refine ⟨_, _, _, _, rfl, ErAt.same (by assumption) (by walk_at "sames"), by assumption, by assumption, ?_⟩
  | refine ⟨_, _, _, _, rfl, ErAt.same (by assumption) (by walk_at "sames"), by assumption, by assumption, by assumption, ?_⟩
  | refine if_t (by first | rfl | assumption | decide) ?_
  | refine if_f (by assumption) ?_
  | refine if_f (by first | decide | exact Bool.false_ne_true) ?_
  | refine fun (_ : _ ≠ sysModules) => ?_
  | refine fun (_ : ErAt _ _ _ _) => ?_
  | refine fun _ _ => ?_)

theorem value_step (T : Txt K mg A) {n k : Nat} {spI : Sp} (FI : FnG P w K mg base CX0 (k + 2) A.l_value spI) (hI : ∀ m, n = m + 1 → ∀ vs H Q E, spValue m vs H Q E → spI vs H Q E) : FnG P w K mg base CX0 (k + 3) A.l_value (spValue n) := by
  obtain ⟨fd, F⟩ := T.F_l_value
  refine Fun_okN F sc_l_value (fun vs H Q E h => ?_) (fun _ _ _ _ _ _ us hl => match us, hl with | [_, _], _ => rfl) (fun cdv A' outer s H vs Q E hr hg h => ?_)
  · obtain ⟨_, _, rfl, _⟩ := h
    rfl
  obtain ⟨W, m, rfl, hW, hm, q⟩ := h
  refine ⟨_, ((pss_cons (ps_set (i := 2) sc_l_value.nd rfl (Or.inl rfl) (pe_callGd (ok_l_drip T) (hr.mono (by omega)) hg rfl T.m_l_drip T.k_l_drip pass0 (pa_cons (pv 0) (pa_cons (pe_ifExp (pt_cmpR op_gt (pv 1) pe_int (nomark _)) pe_int pe_int) pa_nil))))
    (pss_cons (ps_if (pt_cmpR op_eq (pv 2) pe_int (nomark _)) (pss_cons (ps_set (i := 3) sc_l_value.nd rfl (Or.inl rfl) (pe_callGd (ok_l_fill T) (hr.mono (by omega)) hg rfl T.m_l_fill T.k_l_fill pass0 (pa_cons (pv 0) (pa_cons (pe_lst (pa_cons pe_non (pa_cons pe_str (pa_cons pe_str (pa_cons pe_str (pa_cons pe_int (pa_cons pe_int (pa_cons (pe_un un_neg pe_int) (pa_cons (pe_callGd (ok_l_drip T) (hr.mono (by omega)) hg rfl T.m_l_drip T.k_l_drip pass0 (pa_cons (pv 0) (pa_cons (pe_op op_pow pe_int pe_int) pa_nil))) pa_nil))))))))) pa_nil))))
    (pss_one (ps_ret (pe_tup (pa_cons (pv 3) (pa_cons (pv 3) pa_nil)))))) pss_nil)
    (pss_cons (ps_setLc (own := [(("_law_turn" : PySem.Str), 5)]) (i := 4) rfl sc_l_value.nd rfl rfl (sw_true rfl rfl rfl (by decide +kernel)) (pi_range1 (by rfl) T.n_range (pa_cons (pe_callGd (ok_l_drip T) (hr.mono (by omega)) hg rfl T.m_l_drip T.k_l_drip pass0 (pa_cons (pv 0) (pa_cons pe_int pa_nil))) pa_nil)) (blkOk_by (own := [(("_law_turn" : PySem.Str), 5)]) (N := [("_law_font_here" : PySem.Str), ("_law_depth" : PySem.Str), ("_law_way" : PySem.Str), ("_law_plain" : PySem.Str), ("_law_pairs" : PySem.Str), ("_law_turn" : PySem.Str), ("_law_due" : PySem.Str), ("_law_pair" : PySem.Str), ("_law_made" : PySem.Str), ("_law_keys" : PySem.Str), ("_law_at" : PySem.Str), ("_law_key" : PySem.Str)]) (sc := defScope s_l_value) (by decide +kernel)) (fun _ _ _ _ _ => (pg_name (i := 5) sc_l_value.nd rfl (Or.inl rfl))) (fun _ _ _ _ _ => pts_nil) (fun _ _ _ _ _ => (pe_callGd FI hr hg rfl T.m_l_value T.k_l_value pass0 (pa_cons (pv 0) (pa_cons (pe_op op_sub (pv 1) pe_int) pa_nil)))))
    (pss_cons (ps_set (i := 6) sc_l_value.nd rfl (Or.inr rfl) (pe_callTy call_tuple_of (by rfl) T.n_tuple (by decide +kernel) (pa_cons (pe_lc (own := [(("_law_pair" : PySem.Str), 7)]) rfl sc_l_value.nd (pi_list (pv 4)) (blkOk_by (own := [(("_law_pair" : PySem.Str), 7)]) (N := [("_law_font_here" : PySem.Str), ("_law_depth" : PySem.Str), ("_law_way" : PySem.Str), ("_law_plain" : PySem.Str), ("_law_pairs" : PySem.Str), ("_law_turn" : PySem.Str), ("_law_due" : PySem.Str), ("_law_pair" : PySem.Str), ("_law_made" : PySem.Str), ("_law_keys" : PySem.Str), ("_law_at" : PySem.Str), ("_law_key" : PySem.Str)]) (sc := defScope s_l_value) (by decide +kernel)) (fun _ _ _ _ _ => (pg_name (i := 7) sc_l_value.nd rfl (Or.inl rfl))) (fun _ _ _ _ _ => pts_nil) (fun _ _ _ _ _ => (pe_ix (show IxR _ (rIxT K) from ix_tup) (pv 7) pe_int (fun _ _ => rfl)))) pa_nil)))
    (pss_cons (ps_if (pt_cmpR op_lt (pv 2) pe_int (nomark _)) (pss_one (ps_ret (pe_tup (pa_cons (pe_ifExp (pt_cmpR op_eq (pv 2) pe_int (nomark _)) (pe_lc (own := [(("_law_pair" : PySem.Str), 7)]) rfl sc_l_value.nd (pi_list (pv 4)) (blkOk_by (own := [(("_law_pair" : PySem.Str), 7)]) (N := [("_law_font_here" : PySem.Str), ("_law_depth" : PySem.Str), ("_law_way" : PySem.Str), ("_law_plain" : PySem.Str), ("_law_pairs" : PySem.Str), ("_law_turn" : PySem.Str), ("_law_due" : PySem.Str), ("_law_pair" : PySem.Str), ("_law_made" : PySem.Str), ("_law_keys" : PySem.Str), ("_law_at" : PySem.Str), ("_law_key" : PySem.Str)]) (sc := defScope s_l_value) (by decide +kernel)) (fun _ _ _ _ _ => (pg_name (i := 7) sc_l_value.nd rfl (Or.inl rfl))) (fun _ _ _ _ _ => pts_nil) (fun _ _ _ _ _ => (pe_ix (show IxR _ (rIxT K) from ix_tup) (pv 7) pe_int (fun _ _ => rfl)))) (pe_callTy call_tuple_of (by rfl) T.n_tuple (by decide +kernel) (pa_cons (pe_lc (own := [(("_law_pair" : PySem.Str), 7)]) rfl sc_l_value.nd (pi_list (pv 4)) (blkOk_by (own := [(("_law_pair" : PySem.Str), 7)]) (N := [("_law_font_here" : PySem.Str), ("_law_depth" : PySem.Str), ("_law_way" : PySem.Str), ("_law_plain" : PySem.Str), ("_law_pairs" : PySem.Str), ("_law_turn" : PySem.Str), ("_law_due" : PySem.Str), ("_law_pair" : PySem.Str), ("_law_made" : PySem.Str), ("_law_keys" : PySem.Str), ("_law_at" : PySem.Str), ("_law_key" : PySem.Str)]) (sc := defScope s_l_value) (by decide +kernel)) (fun _ _ _ _ _ => (pg_name (i := 7) sc_l_value.nd rfl (Or.inl rfl))) (fun _ _ _ _ _ => pts_nil) (fun _ _ _ _ _ => (pe_ix (show IxR _ (rIxT K) from ix_tup) (pv 7) pe_int (fun _ _ => rfl)))) pa_nil))) (pa_cons (pv 6) pa_nil))))) pss_nil)
    (pss_cons (ps_asg (pe_tup (pa_cons pe_dnewK (pa_cons (pe_lst (pa_cons pe_str (pa_cons pe_str (pa_cons pe_str pa_nil)))) pa_nil))) (pg_tup (by rfl) (pgs_cons (pg_name (i := 8) sc_l_value.nd rfl (Or.inr rfl)) (pgs_cons (pg_name (i := 9) sc_l_value.nd rfl (Or.inr rfl)) pgs_nil))))
    (pss_cons (ps_for PassesOwn.never rfl (pi_enum (by rfl) T.n_enumerate (pa_cons (pv 4) pa_nil)) (pg_tup (by rfl) (pgs_cons (pg_name (i := 10) sc_l_value.nd rfl (Or.inl rfl)) (pgs_cons (pg_name (i := 7) sc_l_value.nd rfl (Or.inl rfl)) pgs_nil)))
    (pss_one (ps_asg (pe_ix ix_tup (pv 7) pe_int (fun _ _ => rfl)) (pg_sub (pv 8) (pe_ix ix_list (pv 9) (pv 10) (fun _ _ => rfl)) (set_dict (hu_of hr))))))
    (pss_one (ps_ret (pe_tup (pa_cons (pv 8) (pa_cons (pe_callTy call_tuple_of (by rfl) T.n_tuple (by decide +kernel) (pa_cons (pe_lc (own := [(("_law_key" : PySem.Str), 11)]) rfl sc_l_value.nd (pi_list (pe_lst (pa_cons pe_str (pa_cons pe_str (pa_cons pe_str pa_nil))))) (blkOk_by (own := [(("_law_key" : PySem.Str), 11)]) (N := [("_law_font_here" : PySem.Str), ("_law_depth" : PySem.Str), ("_law_way" : PySem.Str), ("_law_plain" : PySem.Str), ("_law_pairs" : PySem.Str), ("_law_turn" : PySem.Str), ("_law_due" : PySem.Str), ("_law_pair" : PySem.Str), ("_law_made" : PySem.Str), ("_law_keys" : PySem.Str), ("_law_at" : PySem.Str), ("_law_key" : PySem.Str)]) (sc := defScope s_l_value) (by decide +kernel)) (fun _ _ _ _ _ => (pg_name (i := 11) sc_l_value.nd rfl (Or.inl rfl))) (fun _ _ _ _ _ => (pts_one (pt_cmp (pc_din (hu_of hr) (pv 11) (pv 8)) (by rfl)))) (fun _ _ _ _ _ => (pe_tup (pa_cons (pv 11) (pa_cons (pe_ix (show IxR _ (rIxT K) from ix_tup) (pv 6) (show PE _ _ (tBM K "list" (rIndex K) _ _) from pe_bm PySem.F.plainAttrs_list PySem.F.slot_list_index PySem.F.type_list_index mt_index (pv 9) (pa_cons (pv 11) pa_nil)) (fun _ _ => rfl)) pa_nil))))) pa_nil)) pa_nil))))))))))))), ?_⟩
  have hc : 3 ≤ Cst n := by cases n with
    | zero => exact Nat.le_refl 3
    | succ n => show 3 ≤ 3 + 3 * Cst n; omega
  repeat walk_at "s"
  refine ite2 (fun c1 => ?_) (fun c1 => ?_)
  · obtain ⟨n, rfl⟩ : ∃ j, n = j + 1 := by
      have := of_decide_eq_true c1
      exact ⟨n - 1, by omega⟩
    have e3 : Cst (n + 1) = 3 + 3 * Cst n := rfl
    refine Iv.mk ⟨W, 4, m, rfl, hW, by omega, by decide, by decide, fun H1 way w0 w1 W1 K1 => ?_⟩
    repeat walk_at "s"
    refine ite2 (fun c2 => ?_) (fun c2 => ?_)
    · skip
      repeat walk_at "s"
      refine Iv.mk ⟨W, 10 ^ (20 : Int).toNat, m + 1, rfl, W1, by omega, by decide, by decide, fun H2 r r0 r1 W2 K2 => ?_⟩
      repeat walk_at "s"
      rename_i p hp
      refine Iv.mk ⟨W, p, _, m + 1 + 1, rfl, W2.new hp, by omega, (W2.ne hp).1, upd_same, by exact Nat.lt_of_sub_eq_succ rfl, by exact Nat.le_of_ble_eq_true rfl, fun H3 v hv W3 K3 => ?_⟩
      obtain ⟨d, lf, dp, nr⟩ := leafs r0 r1 v hv
      clear hv
      repeat walk_at "s"
      rename_i t ht
      have K03 := ((K1.trans K2).trans (Kp.trans (Kp.of_same (Same.new (Same.refl _) hp)) K3))
      obtain ⟨o3, ho3⟩ := W3.at
      exact q _ t v v d d ((W3.new ht).mono (by omega)) (Kp.new K03 ht) (by rw [nw_at (Kp.free K03 ⟨_, ho3⟩ ht)]; exact upd_same) (dp _) (dp _) (.leaf lf) (.flat lf.flat)
    · repeat walk_at "s"
      refine Iv.mk ⟨W, 4, m + 1, rfl, W1, by omega, by decide, by decide, fun H2 r r0 r1 W2 K2 => ?_⟩
      repeat walk_at "s"
      rename_i D hD
      have hDW := W2.ne hD
      obtain ⟨oW, hoW⟩ := W2.at
      have K02 : Kp W.w H H2 := K1.trans K2
      have hDH : H D = none := Kp.free K02 ⟨_, hoW⟩ hD
      refine lc_it walk_range (fun i H' => Iv (WellAt H' W (m + 2 + Cst n * i) ∧ Kp W.w H H' ∧ (∀ b, H' b = none → upd H2 D (.lst []) b = none) ∧ ∃ ts vs us ds es, H' D = some (.lst ts) ∧ ts.length = i ∧ Prs (nw (upd H2 D (.lst [])) H') ts vs us ds es ∧ ∀ d ∈ ds, Okd n d))
        (Iv.mk ⟨(W2.new hD).mono (by omega), Kp.new K02 hD, fun _ h => h, [], [], [], [], [], upd_same, rfl, .nil, fun d h => absurd h List.not_mem_nil⟩) (fun _ _ _ _ => trivial) ?_ ?_
      · rintro i x H4 H5 hi hI5 ⟨rfl, rfl⟩
        obtain ⟨W5, K5, dm, ts, vs, us, ds, es, hDl, hl, hps, hok⟩ := hI5.out
        have hi4 : i ≤ 2 := by omega
        have hC : Cst n * i ≤ Cst n * 2 := Nat.mul_le_mul_left _ hi4
        have en : ((n + 1 : Nat) : Int) - 1 = (n : Int) := by omega
        repeat walk_at "s"
        refine Iv.mk (hI _ rfl _ _ _ _ ⟨W, m + 2 + Cst n * i, congrArg (fun z => [V.ref W.w, V.int z]) en, W5, by omega, fun H6 t v u d e W6 K6 ht dv du okd fx => ?_⟩)
        have hD6 : H6 D = some (.lst ts) := K6 D _ hDW.1 hDl
        have nD : ∀ b, upd H2 D (.lst []) b = none → b ≠ D ∧ b ≠ W.w := fun b hb => by
          have h1 : b ≠ D := fun e => by (rw [e, upd_same] at hb; cases hb)
          refine ⟨h1, fun e => ?_⟩
          rw [upd_ne h1, e, hoW] at hb
          cases hb
        have SA : ∀ xs, Same (nw (upd H2 D (.lst [])) H5) (nw (upd H2 D (.lst [])) (upd H6 D (.lst xs))) := fun xs => nw_same (fun _ h => h) fun b o hb e => by
          rw [upd_ne (nD b hb).1]
          exact K6 b o (nD b hb).2 e
        have SB : ∀ xs, Same (nw H5 H6) (nw (upd H2 D (.lst [])) (upd H6 D (.lst xs))) := fun xs => nw_same dm fun b o hb e => by
          rw [upd_ne (nD b (dm b hb)).1]
          exact e
        refine ⟨ts, hD6, line_lt (by omega), Iv.mk ⟨(W6.mono (by rw [Nat.mul_succ]; omega)).put hDW, (K5.trans K6).put2 hDH, fun b hb => ?_, ts ++ [.ref t], vs ++ [v], us ++ [u], ds ++ [d], es ++ [e], upd_same, by rw [List.length_append, hl]; rfl, (hps.same (SA _)).snoc (SB _ _ _ ht) (dv.same (SB _)) (du.same (SB _)) fx, ?_⟩⟩
        · by_cases e : b = D
          · subst e
            rw [upd_same] at hb
            cases hb
          · rw [upd_ne e] at hb
            obtain ⟨o6, ho6⟩ := W6.at
            exact dm b (Kp.free K6 ⟨_, ho6⟩ hb)
        · intro d' hd'
          rcases List.mem_append.mp hd' with h | h
          · exact hok d' h
          · rw [List.mem_singleton.mp h]; exact okd
      · intro H5 hI5
        obtain ⟨W5, K5, dm, ts, vs, us, ds, es, hDl, hl, hps, hok⟩ := hI5.out
        obtain ⟨hdv, hdu, hfx, l1, l2, l3⟩ := hps.all
        have lts : ts.length ≤ 3 := by omega
        have hC : Cst n * r.toNat ≤ Cst n * 3 := Nat.mul_le_mul_left _ (by omega)
        have W6 : WellAt H5 W (m + Cst (n + 1)) := W5.mono (by omega)
        obtain ⟨o5, ho5⟩ := W6.at
        have toH : ∀ b, upd H2 D (.lst []) b = none → H b = none := fun b hb => by
          have h1 : b ≠ D := fun e => by (rw [e, upd_same] at hb; cases hb)
          rw [upd_ne h1] at hb
          exact Kp.free K02 ⟨_, hoW⟩ hb
        have frH : ∀ {b}, H5 b = none → H b = none := fun h => Kp.free K5 ⟨_, ho5⟩ h
        have ps5 : Prs H5 ts vs us ds es := hps.same nw_all
        repeat walk_at "s"
        rename_i E1 hE1
        have SR : Same H5 H5 := Same.refl _
        refine lc_it (walk_list (xs := ts)) (fun i H' => Iv (Same H5 H' ∧ H' E1 = some (.lst (us.take i))))
          (Iv.mk ⟨Same.new (Same.refl _) hE1, upd_same⟩) (fun i H' _ h => SqL.of ((show Same _ H' from h.out.1) _ _ (SR _ _ hDl))) ?_ ?_
        · rintro i x Hp1 Hp2 hi hI5 ⟨rfl, hx⟩
          obtain ⟨sm, hEl⟩ := hI5.out
          obtain ⟨t, v, u, rfl, ht, hv, hu⟩ := ps5.at_ hx
          have ht' := sm _ _ (SR _ _ ht)
          refine ⟨rfl, _, rfl, _, _, _, _, rfl, rfl, SqT.of ht', by rfl, ?_⟩
          exact ⟨_, hEl, line_lt (by rw [List.length_take]; omega), Iv.mk ⟨Same.put sm hE1, by rw [upd_same, take_one hu]⟩⟩
        · intro Ha hI5
          obtain ⟨sma, hEl⟩ := hI5.out
          have el : us.take ts.length = us := by rw [l2, List.take_length]
          rw [el] at hEl
          refine ⟨_, _, rfl, .inl ⟨SqL.of hEl, fun l hl2 => ?_⟩⟩
          have S6 : Same H5 (upd Ha l (.tup us)) := Same.new sma hl2
          have hl6 : upd Ha l (.tup us) l = some (.tup us) := upd_same
          have hlH : H l = none := frH (Same.free sma hl2)
          clear hE1 hEl el hl2
          generalize upd Ha l (.tup us) = H6 at S6 hl6 ⊢
          have due : ∀ {Hf : Hp}, Same H6 Hf → DpR (nw H Hf) (.ref l) (.tuple es) := fun S => .tup (by rw [nw_at hlH]; exact S _ _ hl6) (hdu.same (nw_same toH fun b o hb e => S _ _ (S6 b o e)))
          have kids : ∀ {Hf : Hp}, Same H6 Hf → DpRs (nw H Hf) vs ds := fun S => hdv.same (nw_same toH fun b o hb e => S _ _ (S6 b o e))
          have lds : ds.length ≤ 3 := by omega
          repeat walk_at "s"
          refine ite2 (fun c3 => ?_) (fun c3 => ?_)
          · repeat walk_at "s"
            refine ite2 (fun c4 => ?_) (fun c4 => ?_)
            · repeat walk_at "s"
              rename_i E2 hE2
              refine lc_it (walk_list (xs := ts)) (fun i H' => Iv (Same H6 H' ∧ H' E2 = some (.lst (vs.take i))))
                (Iv.mk ⟨Same.new (Same.refl _) hE2, upd_same⟩) (fun i H' _ h => SqL.of ((show Same _ H' from h.out.1) _ _ (S6 _ _ hDl))) ?_ ?_
              · rintro i x Hp1 Hp2 hi hI5 ⟨rfl, hx⟩
                obtain ⟨sm, hEl⟩ := hI5.out
                obtain ⟨t, v, u, rfl, ht, hv, hu⟩ := ps5.at_ hx
                have ht' := sm _ _ (S6 _ _ ht)
                refine ⟨rfl, _, rfl, _, _, _, _, rfl, rfl, SqT.of ht', by rfl, ?_⟩
                exact ⟨_, hEl, line_lt (by rw [List.length_take]; omega), Iv.mk ⟨Same.put sm hE2, by rw [upd_same, take_one hv]⟩⟩
              · intro Hb hI5
                obtain ⟨smb, hEl⟩ := hI5.out
                have el : vs.take ts.length = vs := by rw [l1, List.take_length]
                rw [el] at hEl
                repeat walk_at "s"
                rename_i t ht
                have Sf : Same H6 (upd Hb t (.tup [.ref E2, .ref l])) := Same.new smb ht
                have htH : H t = none := frH (Same.free (S6.trans smb) ht)
                refine q _ t (.ref E2) (.ref l) (.list ds) (.tuple es) (W6.same (S6.trans Sf)) (K5.trans (Kp.of_same (S6.trans Sf))) (by rw [nw_at htH]; exact upd_same) (.lst (.inl ?_) (kids Sf)) (due Sf) (.list lds hok) (.list hfx)
                rw [nw_at (frH (Same.free S6 hE2)), upd_ne (ne_of_none hEl ht)]
                exact hEl
            · repeat walk_at "s"
              rename_i E2 hE2
              refine lc_it (walk_list (xs := ts)) (fun i H' => Iv (Same H6 H' ∧ H' E2 = some (.lst (vs.take i))))
                (Iv.mk ⟨Same.new (Same.refl _) hE2, upd_same⟩) (fun i H' _ h => SqL.of ((show Same _ H' from h.out.1) _ _ (S6 _ _ hDl))) ?_ ?_
              · rintro i x Hp1 Hp2 hi hI5 ⟨rfl, hx⟩
                obtain ⟨sm, hEl⟩ := hI5.out
                obtain ⟨t, v, u, rfl, ht, hv, hu⟩ := ps5.at_ hx
                have ht' := sm _ _ (S6 _ _ ht)
                refine ⟨rfl, _, rfl, _, _, _, _, rfl, rfl, SqT.of ht', by rfl, ?_⟩
                exact ⟨_, hEl, line_lt (by rw [List.length_take]; omega), Iv.mk ⟨Same.put sm hE2, by rw [upd_same, take_one hv]⟩⟩
              · intro Hb hI5
                obtain ⟨smb, hEl⟩ := hI5.out
                have el : vs.take ts.length = vs := by rw [l1, List.take_length]
                rw [el] at hEl
                refine ⟨_, _, rfl, .inl ⟨SqL.of hEl, fun l7 hl7 => ?_⟩⟩
                repeat walk_at "s"
                rename_i t ht
                have Sf : Same H6 (upd (upd Hb l7 (.tup vs)) t (.tup [.ref l7, .ref l])) := Same.new (Same.new smb hl7) ht
                have htH : H t = none := frH (Same.free (S6.trans (Same.new smb hl7)) ht)
                refine q _ t (.ref l7) (.ref l) (.tuple ds) (.tuple es) (W6.same (S6.trans Sf)) (K5.trans (Kp.of_same (S6.trans Sf))) (by rw [nw_at htH]; exact upd_same) (.tup ?_ (kids Sf)) (due Sf) (.tup lds hok) (.tup hfx)
                rw [nw_at (frH (Same.free (S6.trans smb) hl7)), upd_ne (ne_of_none upd_same ht)]
                exact upd_same
          · repeat walk_at "s"
            rename_i mD hmD kL hkL tP htP
            have S9 : Same H6 (upd (upd (upd H6 mD (.dK [])) kL (.lst [V.str "c", V.str "a", V.str "b"])) tP (.tup [.ref mD, .ref kL])) := Same.new (Same.new (Same.new (Same.refl _) hmD) hkL) htP
            have hkm : kL ≠ mD := fun e => by (rw [e, upd_same] at hkL; cases hkL)
            have htm : tP ≠ mD := fun e => by (rw [e, upd_ne (Ne.symm hkm), upd_same] at htP; cases htP)
            have hl3 : (K3.zip vs).length = ts.length := by rw [List.length_zip, l1]; show min 3 _ = _; omega
            refine for_it (walk_enum (xs := ts)) (fun i σ H' => Iv (∃ pv av : Option V, σ = [some (.ref W.w), some (.int ((n + 1 : Nat) : Int)), some (.int way), none, some (.ref D), none, some (.ref l), pv, some (.ref mD), some (.ref kL), av, none] ∧ Same H6 H' ∧
                H' kL = some (.lst [V.str "c", V.str "a", V.str "b"]) ∧ H' mD = some (.dK ((K3.zip vs).take i))))
              (Iv.mk ⟨_, _, rfl, S9, by walk_at "look", by walk_at "look"⟩) (fun i σ H' _ h => SqL.of (by obtain ⟨_, _, _, h, _⟩ := h.out; exact h _ _ (S6 _ _ hDl))) ?_ ?_
            · rintro i x σ Hp1 Hp2 hi hI5 ⟨TT, x1, y1, rfl, hTT, rfl, e1, e2⟩
              cases e1
              obtain ⟨pv, av, rfl, sm, hkl, hmd⟩ := hI5.out
              obtain ⟨t, v, u, rfl, ht, hv, hu⟩ := ps5.at_ e2
              have ht' := sm _ _ (S6 _ _ ht)
              have hi3 : i < 3 := by omega
              have hz : (K3.zip vs)[i]? = some (K3.getD i (.inl 0), v) := by
                rw [List.getElem?_zip_eq_some]
                refine ⟨?_, hv⟩
                rcases (by omega : i = 0 ∨ i = 1 ∨ i = 2) with rfl | rfl | rfl <;> rfl
              have hk : atI [V.str "c", V.str "a", V.str "b"] ((i : Nat) : Int) = some (kV (K3.getD i (.inl 0))) := by
                rcases (by omega : i = 0 ∨ i = 1 ∨ i = 2) with rfl | rfl | rfl <;> rfl
              refine ⟨TT, _, rfl, SqT.of upd_same, rfl, ?_⟩
              refine ⟨_, _, rfl, _, _, rfl, rfl, ?_⟩
              refine ⟨_, rfl, _, _, _, _, rfl, rfl, SqT.of ((upd_ne (ne_of_none ht' hTT)).trans ht'), by rfl, ?_⟩
              refine ⟨_, rfl, _, rfl, _, rfl, _, _, _, _, rfl, rfl, SqL.of ((upd_ne (ne_of_none hkl hTT)).trans hkl), hk, ?_⟩
              refine ⟨mD, _, rfl, DPut.k ((upd_ne (ne_of_none hmd hTT)).trans hmd) (line_lt (by rw [List.length_take]; omega)), ?_⟩
              rw [put_take (zipk vs) hz]
              exact Iv.mk ⟨_, _, rfl, Same.put (Same.new sm hTT) hmD, by rw [upd_ne hkm, upd_ne (ne_of_none hkl hTT)]; exact hkl, upd_same⟩
            · intro σ HE hI5
              obtain ⟨pv, av, rfl, sm, hkl, hmd⟩ := hI5.out
              rw [show ts.length = (K3.zip vs).length from hl3.symm, List.take_length] at hmd
              have l4 : vs.length = ds.length := by omega
              have l5 : us.length = es.length := hdu.length
              iterate 2 walk_at "s"
              intro kp hkp
              have SK : Same H6 (upd HE kp (.lst [V.str "a", V.str "b", V.str "c"])) := Same.new sm hkp
              have hkpl : upd HE kp (.lst [V.str "a", V.str "b", V.str "c"]) kp = some (.lst [V.str "a", V.str "b", V.str "c"]) := upd_same
              have hmd2 : upd HE kp (.lst [V.str "a", V.str "b", V.str "c"]) mD = some (.dK (K3.zip vs)) := (upd_ne (ne_of_none hmd hkp)).trans hmd
              have hkl2 : upd HE kp (.lst [V.str "a", V.str "b", V.str "c"]) kL = some (.lst [V.str "c", V.str "a", V.str "b"]) := (upd_ne (ne_of_none hkl hkp)).trans hkl
              refine ⟨_, rfl, ⟨_, SqL.of hkpl⟩, ?_⟩
              generalize upd HE kp (.lst [V.str "a", V.str "b", V.str "c"]) = HK at SK hkpl hmd2 hkl2 ⊢
              clear hkp hmd hkl sm hI5 S9 htP hkL
              have tuE : TupAll es := hfx.tupA hok
              intro E5 hE5
              have hE5H : H E5 = none := frH (Same.free (S6.trans SK) hE5)
              refine lc_it (walk_list (xs := [V.str "a", V.str "b", V.str "c"])) (fun i H' => Iv (Same HK H' ∧ ∃ ws, H' E5 = some (.lst ws) ∧ ws.length ≤ i ∧ DpRs (nw H H') ws (sel es i)))
                (Iv.mk ⟨Same.new (Same.refl _) hE5, [], upd_same, Nat.le_refl _, .nil⟩) (fun i H' _ h => SqL.of ((show Same _ H' from h.out.1) _ _ hkpl)) ?_ ?_
              · rintro i x Hp1 Hp2 hi hI5 ⟨rfl, hx⟩
                obtain ⟨sm, ws, hEl, lw, hws⟩ := hI5.out
                have hi3 : i < 3 := hi
                obtain ⟨key, ix, hU, rfl, hval, hat, hno, heq⟩ : ∃ (key : Str) (ix : Nat), U3[i]? = some (key, ix) ∧ x = .str key ∧ valV (K3.zip vs) (.inr key) = vs[ix]? ∧ [V.str "c", V.str "a", V.str "b"][ix]? = some (.str key) ∧
                    (∀ (m : Nat) (z' : V), m < ix → [V.str "c", V.str "a", V.str "b"][m]? = some z' → eqV z' (.str key) = false) ∧ eqV (.str key) (.str key) = true := by
                  rcases (by omega : i = 0 ∨ i = 1 ∨ i = 2) with rfl | rfl | rfl
                  · cases hx
                    refine ⟨"a", 1, rfl, rfl, val_a vs, rfl, fun m z' hm hz => ?_, by decide +kernel⟩
                    obtain rfl : m = 0 := by omega
                    cases hz
                    decide +kernel
                  · cases hx
                    refine ⟨"b", 2, rfl, rfl, val_b vs, rfl, fun m z' hm hz => ?_, by decide +kernel⟩
                    rcases (by omega : m = 0 ∨ m = 1) with rfl | rfl <;> (cases hz; decide +kernel)
                  · cases hx
                    exact ⟨"c", 0, rfl, rfl, val_c vs, rfl, fun m z' hm hz => absurd hm (Nat.not_lt_zero _), by decide +kernel⟩
                have hsel : sel es (i + 1) = sel es i ++ ([(key, ix)] : List (Str × Nat)).filterMap fun p => (es[p.2]?).map fun e => PyData.tuple [.str p.1, e] := by
                  unfold sel
                  rw [take_one hU, List.filterMap_append]
                refine ⟨rfl, _, rfl, _, rfl, mD, valV (K3.zip vs) (.inr key), rfl, DGet.k (k := .inr key) (sm _ _ hmd2), _, rfl, ?_⟩
                refine ite2 (fun c5 => ?_) (fun c5 => ?_)
                · have hlt : ix < vs.length := by
                    rw [hval] at c5
                    obtain ⟨v, hv⟩ := Option.isSome_iff_exists.mp c5
                    exact (List.getElem?_eq_some_iff.mp hv).1
                  obtain ⟨u, hu⟩ : ∃ u, us[ix]? = some u := ⟨us[ix]'(by omega), List.getElem?_eq_getElem (by omega)⟩
                  obtain ⟨e, hee, hdue⟩ := hdu.at_ hu
                  have hl9 := sm _ _ (SK _ _ hl6)
                  have hk9 := sm _ _ hkl2
                  have hai : atI us ((ix : Nat) : Int) = some u := atI_nat hu
                  have hfl : [V.str "c", V.str "a", V.str "b"].all flatV = true := rfl
                  refine ⟨_, rfl, _, rfl, _, rfl, .inl ⟨rfl, _, SqL.of hk9⟩, _, rfl, kL, _, .str key, ix, _, rfl, rfl, SqL.of hk9, rfl, hfl, hat, heq, hno, ?_⟩
                  refine ⟨_, _, _, _, rfl, rfl, SqT.of hl9, hai, ?_⟩
                  refine ⟨line_le (by exact Nat.le_of_ble_eq_true rfl), fun q7 hq7 => ?_⟩
                  have hq7H : H q7 = none := frH (Same.free (S6.trans (SK.trans sm)) hq7)
                  have nE : q7 ≠ E5 := fun z => by (rw [z, hEl] at hq7; cases hq7)
                  refine ⟨ws, (upd_ne (Ne.symm nE)).trans hEl, line_lt (by omega), Iv.mk ⟨Same.put (Same.new sm hq7) hE5, ws ++ [.ref q7], upd_same, by rw [List.length_append]; exact Nat.succ_le_succ lw, ?_⟩⟩
                  rw [hsel, List.filterMap_cons, hee]
                  have tuN : TupAll (sel es i ++ [PyData.tuple [.str key, e]]) := (sel_tup tuE _).app (.cons (.tup (.cons (.flat (.str _)) (.cons (tup_at tuE hee) .nil))) .nil)
                  have h1 : DpRs (nw H (upd Hp2 q7 (.tup [.str key, u]))) (ws ++ [.ref q7]) (sel es i ++ [PyData.tuple [.str key, e]]) :=
                    (hws.same (wl_same (Same.new (Same.refl _) hq7))).snoc (.tup (by rw [nw_at hq7H]; exact upd_same) (.cons (.str key) (.cons (hdue.same (nw_same toH fun b o hb e' => Same.new (Same.refl _) hq7 _ _ (sm _ _ (SK _ _ (S6 b o e'))))) .nil)))
                  exact DpRs.tups (fun b xs e' => by
                    obtain ⟨a1, a2⟩ := nw_some e'
                    rw [nw_at a1, upd_ne (ne_of a2 ((upd_ne (Ne.symm nE)).trans hEl) (fun z => nomatch z))]
                    exact a2) tuN h1
                · refine Iv.mk ⟨sm, ws, hEl, Nat.le_succ_of_le lw, ?_⟩
                  have hn : es[ix]? = none := by
                    rw [List.getElem?_eq_none_iff]
                    rw [hval] at c5
                    cases h : vs[ix]? with
                    | none =>
                      rw [List.getElem?_eq_none_iff] at h
                      omega
                    | some v => rw [h] at c5; exact absurd rfl c5
                  rw [hsel, List.filterMap_cons, hn]
                  simpa using hws
              · intro Hz hI5
                obtain ⟨sm, ws, hEl, lw, hws⟩ := hI5.out
                refine ⟨_, _, rfl, .inl ⟨SqL.of hEl, fun l7 hl7 => ?_⟩⟩
                repeat walk_at "s"
                rename_i t ht
                have Sf : Same H6 (upd (upd Hz l7 (.tup ws)) t (.tup [.ref mD, .ref l7])) := SK.trans (Same.new (Same.new sm hl7) ht)
                have htH : H t = none := frH (Same.free (S6.trans (SK.trans (Same.new sm hl7))) ht)
                have hl7H : H l7 = none := frH (Same.free (S6.trans (SK.trans sm)) hl7)
                have hmDH : H mD = none := frH (Same.free S6 hmD)
                have hmdf := Same.new (o := .tup [.ref mD, .ref l7]) (Same.new (o := .tup ws) sm hl7) ht _ _ hmd2
                have hwsf : DpRs (nw H (upd (upd Hz l7 (.tup ws)) t (.tup [.ref mD, .ref l7]))) ws (sel es 3) := hws.same (wl_same (Same.new (Same.new (Same.refl _) hl7) ht))
                obtain ⟨hpr, hokd, hper, hsrt⟩ := dict_of (ds := ds) (kids Sf) hok lds
                refine q _ t (.ref mD) (.ref l7) (.dict (psOf ds)) (.tuple (sel es 3)) (W6.same (S6.trans Sf)) (K5.trans (Kp.of_same (S6.trans Sf))) (by rw [nw_at htH]; exact upd_same) (.dct (.inl ?_) hpr) (.tup ?_ hwsf) hokd (.dict hper hsrt (sel_fx hfx _))
                · rw [nw_at hmDH]
                  exact hmdf
                · rw [nw_at hl7H, upd_ne (ne_of_none upd_same ht)]
                  exact upd_same
  · refine Iv.mk ⟨W, 1, m, rfl, hW, by omega, by decide, by decide, fun H1 way w0 w1 W1 K1 => ?_⟩
    obtain rfl : way = 0 := by omega
    · skip
      repeat walk_at "s"
      refine Iv.mk ⟨W, 10 ^ (20 : Int).toNat, m + 1, rfl, W1, by omega, by decide, by decide, fun H2 r r0 r1 W2 K2 => ?_⟩
      repeat walk_at "s"
      rename_i p hp
      refine Iv.mk ⟨W, p, _, m + 1 + 1, rfl, W2.new hp, by omega, (W2.ne hp).1, upd_same, by exact Nat.lt_of_sub_eq_succ rfl, by exact Nat.le_of_ble_eq_true rfl, fun H3 v hv W3 K3 => ?_⟩
      obtain ⟨d, lf, dp, nr⟩ := leafs r0 r1 v hv
      clear hv
      repeat walk_at "s"
      rename_i t ht
      have K03 := ((K1.trans K2).trans (Kp.trans (Kp.of_same (Same.new (Same.refl _) hp)) K3))
      obtain ⟨o3, ho3⟩ := W3.at
      exact q _ t v v d d ((W3.new ht).mono (by omega)) (Kp.new K03 ht) (by rw [nw_at (Kp.free K03 ⟨_, ho3⟩ ht)]; exact upd_same) (dp _) (dp _) (.leaf lf) (.flat lf.flat)
theorem ok_l_value (T : Txt K mg A) : ∀ n, FnG P w K mg base CX0 (n + 3) A.l_value (spValue n)
  | 0 => value_step T (k := 0) (spI := fun _ _ _ _ => False) (fun _ _ _ _ _ _ _ _ _ _ _ _ h => h.elim) (fun m e => nomatch e)
  | n + 1 => value_step T (k := n + 1) (ok_l_value T n) (fun m e vs H Q E h => by cases e; exact h)
end
end K56

namespace K56
open PySem PySem.Spec PyProof.Rows L2 MyL MyD MyP
/-- a row: made by place, by name, the parts told, the word -/
def RowAt (K : PySem.W.Frag) (A : Adr) (H : Hp) (t : V) (C : Addr) (nm word : Str) (es : List PyData) : Prop := ∃ (tp told : Addr) (x y : V), t = .ref tp ∧ H tp = some (.tup [x, y, .ref told, .str word]) ∧ IsP K A H x C nm word es ∧ IsP K A H y C nm word es ∧ DpR H (.ref told) (.tuple es)
theorem RowAt.same {K : PySem.W.Frag} {A : Adr} {H H' : Hp} {t : V} {C : Addr} {nm word : Str} {es : List PyData} (h : RowAt K A H t C nm word es) (S : Same H H') : RowAt K A H' t C nm word es := by
  obtain ⟨tp, told, x, y, e, h1, h2, h3, h4⟩ := h
  exact ⟨tp, told, x, y, e, S _ _ h1, h2.same S, h3.same S, h4.same S⟩
def spMore (K : PySem.W.Frag) (A : Adr) : Sp := fun vs H Q _ => ∃ (xs : List V) (ds : List PyData), vs = xs ∧ xs.length = 5 ∧ DpRs H xs ds ∧ (∀ d ∈ ds, Okd 4 d) ∧
  ∀ H' p t1 t2 es, Same H H' → FxAll ds es → H' p = some (.lst [t1, t2]) → RowAt K A H' t1 A.c_Patience "Patience" "patience" (es.take 4) → RowAt K A H' t2 A.c_Losing "Losing" "losing" es → Q (.ref p) H'
theorem fx4 {d1 d2 d3 d4 : PyData} {es : List PyData} (h : FxAll [d1, d2, d3, d4] es) : ∃ e1 e2 e3 e4, es = [e1, e2, e3, e4] ∧ Fx d1 e1 ∧ Fx d2 e2 ∧ Fx d3 e3 ∧ Fx d4 e4 := by
  cases h with
  | cons h1 h => cases h with
    | cons h2 h => cases h with
      | cons h3 h => cases h with
        | cons h4 h => cases h; exact ⟨_, _, _, _, rfl, h1, h2, h3, h4⟩
theorem fx5 {d1 d2 d3 d4 d5 : PyData} {es : List PyData} (h : FxAll [d1, d2, d3, d4, d5] es) : ∃ e1 e2 e3 e4 e5, es = [e1, e2, e3, e4, e5] ∧ Fx d1 e1 ∧ Fx d2 e2 ∧ Fx d3 e3 ∧ Fx d4 e4 ∧ Fx d5 e5 := by
  cases h with
  | cons h1 h => cases h with
    | cons h2 h => cases h with
      | cons h3 h => cases h with
        | cons h4 h => cases h with
          | cons h5 h => cases h; exact ⟨_, _, _, _, _, rfl, h1, h2, h3, h4, h5⟩
section
variable {P : Program} {w : World} {K : PySem.W.Frag} {mg : Str → Option Value} {base : Heap} {A : Adr}
local macro_rules | `(tactic| walk_at "sames") => `(tactic| repeat (first
  | exact Same.refl _
  | refine Same.new ?_ (by assumption)
  | refine Same.trans ?_ (by assumption)))
local macro_rules | `(tactic| walk_at "ne") => `(tactic| first
  | assumption
  | exact Ne.symm (by assumption)
  | exact ne_new (by assumption) (by walk_at "look")
  | exact ne_new' (by assumption) (by walk_at "look")
  | exact ne_of (by walk_at "look") (by walk_at "look") (by intro z; cases z))
local macro_rules | `(tactic| walk_at "look") => `(tactic| first
  | assumption
  | exact upd_same
  | (refine upd_new (by assumption) ?_
     walk_at "look")
  | (refine (upd_ne ?_).trans ?_
     · walk_at "ne"
     · walk_at "look")
  | (refine Kp.get (by assumption) ?_ ?_
     · walk_at "ne"
     · walk_at "look")
  | (refine Same.get (by assumption) ?_
     walk_at "look"))
local macro_rules | `(tactic| walk_at "lenv") => `(tactic| first
  | exact Or.inl ⟨_, SqL.of (by walk_at "look"), rfl⟩
  | exact Or.inr ⟨_, SqT.of (by walk_at "look"), rfl⟩
  | exact ⟨line_le (by omega), rfl⟩)
local macro_rules | `(tactic| walk_at "cond") => `(tactic| first
  | assumption
  | rfl
  | exact Nat.zero_le _
  | exact Nat.le_of_ble_eq_true rfl
  | decide
  | omega
  | exact line_lt (by (try simp only [List.length_map, List.length_append, List.length_cons, List.length_nil]); omega)
  | exact line_le (by (try simp only [List.length_map, List.length_append, List.length_cons, List.length_nil]); omega)
  | (dsimp only; omega)
  | exact ⟨by decide, by decide⟩
  | exact ⟨by decide, by decide, by decide⟩
  | exact Or.inl ⟨by decide, by decide⟩
  | exact Or.inl ⟨by omega, by omega⟩
  | exact Or.inr ⟨by omega, by omega⟩)
local macro_rules | `(tactic| walk_at "kit") => `(tactic| first | assumption | exact kit_NoneType_int | exact kit_NoneType_bool | exact kit_NoneType_str | exact kit_NoneType_list | exact kit_NoneType_tuple | exact kit_NoneType_dict | exact kit_bool_int | exact kit_bool_bool | exact kit_bool_str | exact kit_bool_list | exact kit_bool_tuple | exact kit_bool_dict | exact kit_int_int | exact kit_int_bool | exact kit_int_str | exact kit_int_list | exact kit_int_tuple | exact kit_int_dict | exact kit_str_int | exact kit_str_bool | exact kit_str_str | exact kit_str_list | exact kit_str_tuple | exact kit_str_dict | exact kit_list_int | exact kit_list_bool | exact kit_list_str | exact kit_list_list | exact kit_list_tuple | exact kit_list_dict | exact kit_tuple_int | exact kit_tuple_bool | exact kit_tuple_str | exact kit_tuple_list | exact kit_tuple_tuple | exact kit_tuple_dict | exact kit_dict_int | exact kit_dict_bool | exact kit_dict_str | exact kit_dict_list | exact kit_dict_tuple | exact kit_dict_dict)
local macro_rules | `(tactic| walk_at "ty") => `(tactic| first | assumption | exact tyx_str | exact tyx_int | exact tyx_bl | exact tyx_non | exact tyx_lst (by walk_at "look") | exact tyx_tup (by walk_at "look") | exact tyx_dK (by walk_at "look"))
local macro_rules | `(tactic| walk_at "s") => `(tactic| first
  | refine ⟨_, rfl, ?_⟩
  | refine ⟨_, _, rfl, rfl, ?_⟩
  | refine ⟨_, _, _, _, rfl, rfl, SqL.of (by walk_at "look"), by rfl, ?_⟩
  | refine ⟨_, _, _, _, rfl, rfl, SqT.of (by walk_at "look"), by rfl, ?_⟩
  | refine ⟨_, _, _, _, rfl, rfl, by walk_at "look", by rfl, ?_⟩
  | refine ⟨_, _, rfl, by walk_at "lenv", ?_⟩
  | refine Or.inl ⟨_, rfl, ?_⟩
  | refine ⟨_, _, _, _, _, rfl, ClsV.ty _, by walk_at "ty", by walk_at "kit", ?_⟩
  | refine And.intro (by walk_at "cond") ?_
  | refine ⟨_, _, rfl, SqT.of (by walk_at "look"), rfl, ?_⟩
  | refine ⟨_, _, rfl, SqL.of (by walk_at "look"), rfl, ?_⟩
  | refine And.intro (Or.inl ⟨rfl, _, SqL.of (by walk_at "look")⟩) ?_
  | refine ⟨_, _, _, rfl, rfl, by walk_at "look", by walk_at "cond", ?_⟩
  | refine ⟨_, _, _, _, rfl, rfl, by walk_at "look", by walk_at "look", by walk_at "cond", ?_⟩
  | refine And.intro ⟨_, rfl⟩ ?_
  | refine And.intro ⟨_, SqL.of (by walk_at "look")⟩ ?_
  | refine ⟨_, _, rfl, SqL.of (by walk_at "look"), ?_⟩
  | refine ⟨_, _, rfl, (by assumption : SqL _ _ _ _), ?_⟩
  | refine ⟨_, by walk_at "look", by walk_at "cond", ?_⟩
  | refine ⟨_, _, rfl, Or.inr (SqT.of (by walk_at "look")), ?_⟩
  | refine ⟨_, _, rfl, Or.inl (SqL.of (by walk_at "look")), ?_⟩
  | refine ⟨_, _, rfl, ?_⟩
  | refine ⟨_, _, _, rfl, by walk_at "look", by assumption, ?_⟩
  | refine ⟨_, _, true, _, _, rfl, rfl, ClsV.own _, kit_own (by assumption) (by assumption), rfl, by walk_at "look", ?_⟩
  | refine ⟨_, _, _, _, rfl, ErAt.same (by assumption) (by walk_at "sames"), by assumption, by assumption, ?_⟩
  | refine ⟨_, _, _, _, rfl, ErAt.same (by assumption) (by walk_at "sames"), by assumption, by assumption, by assumption, ?_⟩
  | refine if_t (by first | rfl | assumption | decide) ?_
  | refine if_f (by assumption) ?_
  | refine if_f (by first | decide | exact Bool.false_ne_true) ?_
  | refine fun (_ : _ ≠ sysModules) => ?_
  | refine fun (_ : ErAt _ _ _ _) => ?_
  | refine fun _ _ => ?_)

theorem ok_l_more (PF : Prg P) (T : Txt K mg A) : FnG P w K mg base CX0 10 A.l_more (spMore K A) := by
  obtain ⟨fd, F⟩ := T.F_l_more
  refine Fun_okN F sc_l_more (fun vs H Q E h => ?_) (fun _ _ _ _ _ _ us hl => match us, hl with | [_, _, _, _, _], _ => rfl) (fun cdv A' outer s H vs Q E hr hg h => ?_)
  · obtain ⟨_, _, rfl, h, _⟩ := h
    exact h
  obtain ⟨xs, ds, rfl, hl, hds, hok, q⟩ := h
  obtain ⟨fdP, FA_Patience, _, kb_Patience⟩ := ini_Patience (w := w) (base := base) PF T
  obtain ⟨fdL, FA_Losing, _, kb_Losing⟩ := ini_Losing (w := w) (base := base) PF T
  refine ⟨_, ((pss_cons (ps_par (i := 5) (j := 6) (by rfl) sc_l_more.nd rfl rfl (by decide) rfl rfl (pa_cons (pe_makeG T.Mk_Patience (fn_Patience_init PF T) (hr.mono (by decide)) hg rfl T.m_Patience (pa_cons (pv 0) (pa_cons (pv 1) (pa_cons (pv 2) (pa_cons (pv 3) pa_nil))))) (pa_cons (pe_makeG T.Mk_Losing (fn_Losing_init PF T) (hr.mono (by decide)) hg rfl T.m_Losing (pa_cons (pv 0) (pa_cons (pv 1) (pa_cons (pv 2) (pa_cons (pv 3) (pa_cons (pv 4) pa_nil)))))) pa_nil)) (by rfl))
    (pss_cons (ps_set (i := 7) sc_l_more.nd rfl (Or.inl rfl) (pe_lst (pa_cons (pe_tup (pa_cons (pv 5) (pa_cons (pe_makeGK (js := [3, 2, 1, 0]) T.Mk_Patience FA_Patience (by decide) kb_Patience (hr.mono (by decide)) hg rfl T.m_Patience (pk_cons (pv 3) (pk_cons (pv 2) (pk_cons (pv 1) (pk_cons (pv 0) pk_nil))))) (pa_cons (pe_tup (pa_cons (pe_fld (pv 5) rfl) (pa_cons (pe_fld (pv 5) rfl) (pa_cons (pe_fld (pv 5) rfl) (pa_cons (pe_fld (pv 5) rfl) pa_nil))))) (pa_cons pe_str pa_nil))))) pa_nil)))
    (pss_cons (ps_set (i := 8) sc_l_more.nd rfl (Or.inl rfl) (pe_tup (pa_cons (pe_fld (pv 6) rfl) (pa_cons (pe_fld (pv 6) rfl) (pa_cons (pe_fld (pv 6) rfl) (pa_cons (pe_fld (pv 6) rfl) (pa_cons (pe_fld (pv 6) rfl) pa_nil)))))))
    (pss_one (ps_ret (pe_op op_cat (pv 7) (pe_lst (pa_cons (pe_tup (pa_cons (pv 6) (pa_cons (pe_makeGK (js := [4, 3, 2, 1, 0]) T.Mk_Losing FA_Losing (by decide) kb_Losing (hr.mono (by decide)) hg rfl T.m_Losing (pk_cons (pv 4) (pk_cons (pv 3) (pk_cons (pv 2) (pk_cons (pv 1) (pk_cons (pv 0) pk_nil)))))) (pa_cons (pv 8) (pa_cons pe_str pa_nil))))) pa_nil))))))))), ?_⟩
  match vs, ds, hl, hds with
  | [v1, v2, v3, v4, v5], [d1, d2, d3, d4, d5], _, .cons q1 (.cons q2 (.cons q3 (.cons q4 (.cons q5 .nil)))) =>
  have ok4 : ∀ d ∈ [d1, d2, d3, d4], Okd 4 d := fun d hd => hok d (by
    simp only [List.mem_cons, List.not_mem_nil, or_false] at hd ⊢
    rcases hd with h | h | h | h <;> simp only [h, true_or, or_true])
  refine ⟨_, rfl, _, rfl, _, rfl, _, rfl, fun x1 dx0 hx0 hdx0 _ => own_newQ hx0 hdx0 (fl := ["number", "table", "delay", "tree"]) (kc_Patience T) (xs := [v1, v2, v3, v4]) (ds := [d1, d2, d3, d4]) (.cons q1 (.cons q2 (.cons q3 (.cons q4 .nil)))) ok4 rfl (by decide) (fun H1 es1 S1 X1 P1 f1 => ⟨rfl, ?_⟩)⟩
  refine ⟨_, rfl, _, rfl, _, rfl, _, rfl, _, rfl, fun x2 dx0 hx0 hdx0 _ => own_newQ hx0 hdx0 (fl := ["first", "states", "pages", "deeds", "places"]) (kc_Losing T) (xs := [v1, v2, v3, v4, v5]) (ds := [d1, d2, d3, d4, d5]) (.cons (q1.same S1) (.cons (q2.same S1) (.cons (q3.same S1) (.cons (q4.same S1) (.cons (q5.same S1) .nil))))) hok rfl (by decide) (fun H2 es2 S2 X2 P2 f2 => ⟨rfl, ?_⟩)⟩
  have S02 := S1.trans S2
  refine ⟨_, _, rfl, ?_⟩
  refine ⟨_, rfl, _, rfl, _, rfl, _, rfl, _, rfl, rfl, fun x3 dx0 hx0 hdx0 _ => own_newQ hx0 hdx0 (fl := ["number", "table", "delay", "tree"]) (kc_Patience T) (xs := [v1, v2, v3, v4]) (ds := [d1, d2, d3, d4]) (.cons (q1.same S02) (.cons (q2.same S02) (.cons (q3.same S02) (.cons (q4.same S02) .nil)))) ok4 rfl (by decide) (fun H3 es3 S3 X3 P3 f3 => ⟨rfl, ?_⟩)⟩
  obtain rfl := f3.det f1
  obtain ⟨e1, e2, e3, e4, rfl, g1, g2, g3, g4⟩ := fx4 f1
  obtain ⟨dxa, fsa, a1, a2, a3⟩ := pap_fld (P1.same (S2.trans S3))
  obtain ⟨u1, ku1, du1⟩ := a3 0 "number" e1 rfl rfl
  obtain ⟨u2, ku2, du2⟩ := a3 1 "table" e2 rfl rfl
  obtain ⟨u3, ku3, du3⟩ := a3 2 "delay" e3 rfl rfl
  obtain ⟨u4, ku4, du4⟩ := a3 3 "tree" e4 rfl rfl
  have S13 := S2.trans S3
  refine ⟨_, rfl, x1, _, dxa, fsa, u1, rfl, a1, T.O_Patience.c, T.n_Patience _ (by decide), ku1, ?_⟩
  refine ⟨_, rfl, x1, _, dxa, fsa, u2, rfl, a1, T.O_Patience.c, T.n_Patience _ (by decide), ku2, ?_⟩
  refine ⟨_, rfl, x1, _, dxa, fsa, u3, rfl, a1, T.O_Patience.c, T.n_Patience _ (by decide), ku3, ?_⟩
  refine ⟨_, rfl, x1, _, dxa, fsa, u4, rfl, a1, T.O_Patience.c, T.n_Patience _ (by decide), ku4, ?_⟩
  refine ⟨line_le (by exact Nat.le_of_ble_eq_true rfl), fun t1 ht1 => ?_⟩
  refine ⟨line_le (by exact Nat.le_of_ble_eq_true rfl), fun r1 hr1 => ?_⟩
  refine ⟨line_le (by exact Nat.le_of_ble_eq_true rfl), fun l1 hl1 => ?_⟩
  have hr1' : upd (upd (upd H3 t1 (.tup [u1, u2, u3, u4])) r1 (.tup [.ref x1, .ref x3, .ref t1, .str "patience"])) l1 (.lst [.ref r1]) r1 = some (.tup [.ref x1, .ref x3, .ref t1, .str "patience"]) := by walk_at "look"
  have ht1' : upd (upd (upd H3 t1 (.tup [u1, u2, u3, u4])) r1 (.tup [.ref x1, .ref x3, .ref t1, .str "patience"])) l1 (.lst [.ref r1]) t1 = some (.tup [u1, u2, u3, u4]) := by walk_at "look"
  have hl1' : upd (upd (upd H3 t1 (.tup [u1, u2, u3, u4])) r1 (.tup [.ref x1, .ref x3, .ref t1, .str "patience"])) l1 (.lst [.ref r1]) l1 = some (.lst [.ref r1]) := upd_same
  have SC : Same H3 (upd (upd (upd H3 t1 (.tup [u1, u2, u3, u4])) r1 (.tup [.ref x1, .ref x3, .ref t1, .str "patience"])) l1 (.lst [.ref r1])) := Same.new (Same.new (Same.new (Same.refl _) ht1) hr1) hl1
  generalize upd (upd (upd H3 t1 (.tup [u1, u2, u3, u4])) r1 (.tup [.ref x1, .ref x3, .ref t1, .str "patience"])) l1 (.lst [.ref r1]) = HC at hr1' ht1' hl1' SC ⊢
  have RC : RowAt K A HC (.ref r1) A.c_Patience "Patience" "patience" [e1, e2, e3, e4] := ⟨r1, t1, .ref x1, .ref x3, rfl, hr1', X1.same (S13.trans SC), X3.same SC, .tup ht1' (.cons (du1.same SC) (.cons (du2.same SC) (.cons (du3.same SC) (.cons (du4.same SC) .nil))))⟩
  clear ht1 hr1 hl1 ht1' hr1' du1 du2 du3 du4 a3 X1 X3 P1 P3
  have f5 := f2
  obtain ⟨h1, h2, h3, h4, h5, rfl, w1, w2, w3, w4, w5⟩ := fx5 f2
  obtain rfl := g1.det w1
  obtain rfl := g2.det w2
  obtain rfl := g3.det w3
  obtain rfl := g4.det w4
  obtain ⟨dxb, fsb, b1, b2, b3⟩ := pap_fld (P2.same (S3.trans SC))
  obtain ⟨y1, ky1, dy1⟩ := b3 0 "first" _ rfl rfl
  obtain ⟨y2, ky2, dy2⟩ := b3 1 "states" _ rfl rfl
  obtain ⟨y3, ky3, dy3⟩ := b3 2 "pages" _ rfl rfl
  obtain ⟨y4, ky4, dy4⟩ := b3 3 "deeds" _ rfl rfl
  obtain ⟨y5, ky5, dy5⟩ := b3 4 "places" _ rfl rfl
  refine ⟨_, rfl, x2, _, dxb, fsb, y1, rfl, b1, T.O_Losing.c, T.n_Losing _ (by decide), ky1, ?_⟩
  refine ⟨_, rfl, x2, _, dxb, fsb, y2, rfl, b1, T.O_Losing.c, T.n_Losing _ (by decide), ky2, ?_⟩
  refine ⟨_, rfl, x2, _, dxb, fsb, y3, rfl, b1, T.O_Losing.c, T.n_Losing _ (by decide), ky3, ?_⟩
  refine ⟨_, rfl, x2, _, dxb, fsb, y4, rfl, b1, T.O_Losing.c, T.n_Losing _ (by decide), ky4, ?_⟩
  refine ⟨_, rfl, x2, _, dxb, fsb, y5, rfl, b1, T.O_Losing.c, T.n_Losing _ (by decide), ky5, ?_⟩
  refine ⟨line_le (by exact Nat.le_of_ble_eq_true rfl), fun t2 ht2 => ?_⟩
  have SD : Same HC (upd HC t2 (.tup [y1, y2, y3, y4, y5])) := Same.new (Same.refl _) ht2
  have ht2' : upd HC t2 (.tup [y1, y2, y3, y4, y5]) t2 = some (.tup [y1, y2, y3, y4, y5]) := upd_same
  have S0D := S02.trans (S3.trans (SC.trans SD))
  generalize upd HC t2 (.tup [y1, y2, y3, y4, y5]) = HD at SD ht2' S0D ⊢
  refine ⟨_, rfl, _, rfl, _, rfl, _, rfl, _, rfl, _, rfl, _, rfl, rfl, fun x4 dx0 hx0 hdx0 _ => own_newQ hx0 hdx0 (fl := ["first", "states", "pages", "deeds", "places"]) (kc_Losing T) (xs := [v1, v2, v3, v4, v5]) (ds := [d1, d2, d3, d4, d5]) (.cons (q1.same S0D) (.cons (q2.same S0D) (.cons (q3.same S0D) (.cons (q4.same S0D) (.cons (q5.same S0D) .nil))))) hok rfl (by decide) (fun HE es4 S4 X4 P4 f4 => ⟨rfl, ?_⟩)⟩
  obtain rfl := f4.det f5
  refine ⟨_, rfl, line_le (by exact Nat.le_of_ble_eq_true rfl), fun r2 hr2 => ?_⟩
  refine ⟨line_le (by exact Nat.le_of_ble_eq_true rfl), fun l2 hl2 => ?_⟩
  have SF : Same HE (upd (upd HE r2 (.tup [.ref x2, .ref x4, .ref t2, .str "losing"])) l2 (.lst [.ref r2])) := Same.new (Same.new (Same.refl _) hr2) hl2
  have hr2' : upd (upd HE r2 (.tup [.ref x2, .ref x4, .ref t2, .str "losing"])) l2 (.lst [.ref r2]) r2 = some (.tup [.ref x2, .ref x4, .ref t2, .str "losing"]) := by walk_at "look"
  have hl2' : upd (upd HE r2 (.tup [.ref x2, .ref x4, .ref t2, .str "losing"])) l2 (.lst [.ref r2]) l2 = some (.lst [.ref r2]) := upd_same
  generalize upd (upd HE r2 (.tup [.ref x2, .ref x4, .ref t2, .str "losing"])) l2 (.lst [.ref r2]) = HF at SF hr2' hl2' ⊢
  have SCF := SD.trans (S4.trans SF)
  refine ⟨l1, l2, _, _, rfl, rfl, SCF _ _ hl1', hl2', line_le (by exact Nat.le_of_ble_eq_true rfl), fun p hp => ?_⟩
  have SP := Same.new (o := .lst [V.ref r1, .ref r2]) (Same.refl HF) hp
  refine q _ p (.ref r1) (.ref r2) _ (S0D.trans (S4.trans (SF.trans SP))) f5 upd_same (RC.same (SCF.trans SP)) ⟨r2, t2, .ref x2, .ref x4, rfl, SP _ _ hr2', X2.same (S3.trans (SC.trans (SCF.trans SP))), X4.same (SF.trans SP), .tup ((S4.trans (SF.trans SP)) _ _ ht2') (.cons (dy1.same (SCF.trans SP)) (.cons (dy2.same (SCF.trans SP)) (.cons (dy3.same (SCF.trans SP)) (.cons (dy4.same (SCF.trans SP)) (.cons (dy5.same (SCF.trans SP)) .nil)))))⟩
end
end K56

namespace K56
open PySem PySem.Spec PyProof.Rows L2 MyL MyD MyP
/-- a class of papers: where, its name, its word, its fields -/
structure Cl where
  C : Addr
  nm : Str
  z : Str
def OwnP (K : PySem.W.Frag) (A : Adr) (H : Hp) (x : Addr) (c : Cl) (es : List PyData) (fl : List Str) : Prop := IsP K A H (.ref x) c.C c.nm c.z es ∧ PapAt H x c.C c.z es fl
theorem OwnP.same {K : PySem.W.Frag} {A : Adr} {H H' : Hp} {x : Addr} {c : Cl} {es : List PyData} {fl : List Str} (h : OwnP K A H x c es fl) (S : Same H H') : OwnP K A H' x c es fl := ⟨h.1.same S, h.2.same S⟩
/-- the rows at ts -/
inductive RowsIs (K : PySem.W.Frag) (A : Adr) (H : Hp) (es : List PyData) : List V → List Cl → Prop
  | nil : RowsIs K A H es [] []
  | cons {t : V} {ts : List V} {c : Cl} {cs : List Cl} : RowAt K A H t c.C c.nm c.z es → RowsIs K A H es ts cs → RowsIs K A H es (t :: ts) (c :: cs)
theorem RowsIs.same {K : PySem.W.Frag} {A : Adr} {H H' : Hp} {es : List PyData} (S : Same H H') : ∀ {ts : List V} {cs : List Cl}, RowsIs K A H es ts cs → RowsIs K A H' es ts cs
  | _, _, .nil => .nil
  | _, _, .cons a q => .cons (a.same S) (q.same S)
theorem RowsIs.app {K : PySem.W.Frag} {A : Adr} {H : Hp} {es : List PyData} : ∀ {ts us : List V} {cs ds : List Cl}, RowsIs K A H es ts cs → RowsIs K A H es us ds → RowsIs K A H es (ts ++ us) (cs ++ ds)
  | _, _, _, _, .nil, h => h
  | _, _, _, _, .cons a q, h => .cons a (q.app h)
theorem RowsIs.length {K : PySem.W.Frag} {A : Adr} {H : Hp} {es : List PyData} : ∀ {ts : List V} {cs : List Cl}, RowsIs K A H es ts cs → ts.length = cs.length
  | _, _, .nil => rfl
  | _, _, .cons _ q => by rw [List.length_cons, List.length_cons, q.length]
theorem RowsIs.at_ {K : PySem.W.Frag} {A : Adr} {H : Hp} {es : List PyData} : ∀ {ts : List V} {cs : List Cl} {i : Nat} {t : V}, RowsIs K A H es ts cs → ts[i]? = some t → ∃ c, cs[i]? = some c ∧ RowAt K A H t c.C c.nm c.z es
  | _, _, 0, _, .cons a q, h => by cases h; exact ⟨_, rfl, a⟩
  | _, _, i + 1, _, .cons a q, h => RowsIs.at_ (i := i) q (by simpa using h)
def RowsAt (K : PySem.W.Frag) (A : Adr) (H : Hp) (es : List PyData) (p : Addr) (cs : List Cl) : Prop := ∃ ts, H p = some (.lst ts) ∧ RowsIs K A H es ts cs
theorem RowsAt.same {K : PySem.W.Frag} {A : Adr} {H H' : Hp} {es : List PyData} {p : Addr} {cs : List Cl} (h : RowsAt K A H es p cs) (S : Same H H') : RowsAt K A H' es p cs := by
  obtain ⟨ts, h1, h2⟩ := h
  exact ⟨ts, S _ _ h1, h2.same S⟩
section
variable {K : PySem.W.Frag} {A : Adr} {H : Hp} {σ : L2.St} {Q : VK} {t : TA} {zs xs : List V} {ds es : List PyData} {fl : List Str} {c : Cl} {js : List Nat}
theorem mkG (ht : ∀ R : List V → Hp → Prop, R xs H → t σ H R) (k : KCls K A c.C c.nm) (hd : DpRs H xs ds) (hok : ∀ d ∈ ds, Okd 4 d) (hl : xs.length = fl.length) (h5 : fl.length ≤ 5)
    (q : ∀ H' x es, Same H H' → OwnP K A H' x c es fl → FxAll ds es → Q (.ref x) H') : tMakeG c.C (spC c.C c.z fl) t σ H Q :=
  ht _ fun x dx hx hdx _ => own_newQ hx hdx k hd hok hl h5 fun H' es S X P f => ⟨rfl, q H' x es S ⟨X, P⟩ f⟩
theorem mkK (ht : ∀ R : List V → Hp → Prop, R zs H → t σ H R) (hz : zs.length = js.length) (he : (js.map fun j => zs.getD j .non) = xs) (k : KCls K A c.C c.nm) (hd : DpRs H xs ds) (hok : ∀ d ∈ ds, Okd 4 d) (hl : xs.length = fl.length) (h5 : fl.length ≤ 5)
    (q : ∀ H' x es, Same H H' → OwnP K A H' x c es fl → FxAll ds es → Q (.ref x) H') : tMakeGK c.C (spC c.C c.z fl) js t σ H Q :=
  ht _ ⟨hz, fun x dx hx hdx _ => by rw [he]; exact own_newQ hx hdx k hd hok hl h5 fun H' es S X P f => ⟨rfl, q H' x es S ⟨X, P⟩ f⟩⟩
/-- o.f, o.g, .. -/
def tFs (K : PySem.W.Frag) (i : Nat) : List Str → TA
  | [] => tNil
  | f :: fs => tCons (tFld K (tVar i) f) (tFs K i fs)
theorem flds_at {i : Nat} {x : Addr} (hi : σ[i]? = some (some (.ref x))) (P : PapAt H x c.C c.z es fl) (hc : Cls K c.C) (hn : ∀ f ∈ fl, NoAttr K c.C f) : ∀ (n : Nat) (gs : List Str) (R : List V → Hp → Prop), fl.drop n = gs → fl.length = es.length → (∀ us, DpRs H us (es.drop n) → R us H) → tFs K i gs σ H R
  | n, [], R, e, l, r => r [] (by
      have : es.drop n = [] := by
        rw [List.drop_eq_nil_iff] at e ⊢
        omega
      rw [this]; exact .nil)
  | n, g :: gs, R, e, l, r => by
    have hn1 : n < fl.length := by
      by_cases h : n < fl.length
      · exact h
      · rw [List.drop_eq_nil_of_le (by omega)] at e; cases e
    have e1 := List.drop_eq_getElem_cons hn1
    rw [e] at e1
    obtain ⟨rfl, rfl⟩ := List.cons.inj e1
    obtain ⟨dx, fs, a1, a2, a3⟩ := pap_fld P
    have hn2 : n < es.length := by omega
    obtain ⟨u, ku, du⟩ := a3 n fl[n] es[n] (List.getElem?_eq_getElem hn1) (List.getElem?_eq_getElem hn2)
    refine ⟨_, hi, x, _, dx, fs, u, rfl, a1, hc, hn _ (List.getElem_mem hn1), ku, ?_⟩
    refine flds_at hi P hc hn (n + 1) _ _ rfl l fun us hu => r (u :: us) ?_
    rw [List.drop_eq_getElem_cons hn2]
    exact .cons du hu
/-- (o, C(f=..), (o.f, ..), "word") -/
theorem rowG {i : Nat} {x : Addr} {tk : TA} (hi : σ[i]? = some (some (.ref x))) (X : OwnP K A H x c es fl) (fx : FxAll ds es) (ht : ∀ R : List V → Hp → Prop, R zs H → tk σ H R) (hz : zs.length = js.length) (he : (js.map fun j => zs.getD j .non) = xs) (k : KCls K A c.C c.nm) (hn : ∀ f ∈ fl, NoAttr K c.C f) (hd : DpRs H xs ds) (hok : ∀ d ∈ ds, Okd 4 d) (hl : xs.length = fl.length) (h5 : fl.length ≤ 5)
    (q : ∀ H' t, Same H H' → RowAt K A H' t c.C c.nm c.z es → Q t H') :
    tTup (tCons (tVar i) (tCons (tMakeGK c.C (spC c.C c.z fl) js tk) (tCons (tTup (tFs K i fl)) (tCons (tC (.str c.z)) tNil)))) σ H Q := by
  refine ⟨_, hi, ?_⟩
  refine mkK ht hz he k hd hok hl h5 fun H1 x1 es1 S1 X1 f1 => ?_
  obtain rfl := f1.det fx
  have X' := X.same S1
  have le : fl.length = es1.length := by rw [← f1.length, ← hd.length, hl]
  refine flds_at hi X'.2 k.o.c hn 0 fl _ rfl le fun us hu => ?_
  have lu : us.length ≤ 5 := by rw [hu.length, List.drop_zero, ← le]; exact h5
  refine ⟨line_le (by omega), fun t1 ht1 => ?_⟩
  refine ⟨line_le (by exact Nat.le_of_ble_eq_true rfl), fun t2 ht2 => ?_⟩
  have S2 : Same H1 (upd (upd H1 t1 (.tup us)) t2 (.tup [.ref x, .ref x1, .ref t1, .str c.z])) := Same.new (Same.new (Same.refl _) ht1) ht2
  refine q _ _ (S1.trans S2) ⟨t2, t1, .ref x, .ref x1, rfl, upd_same, X'.1.same S2, X1.1.same S2, .tup ((Same.new (Same.refl _) ht2) _ _ upd_same) ?_⟩
  rw [List.drop_zero] at hu
  exact hu.same S2
theorem rows1 {trow : TE} (row : ∀ R : VK, (∀ H' t, Same H H' → RowAt K A H' t c.C c.nm c.z es → R t H') → trow σ H R) (q : ∀ H' p, Same H H' → RowsAt K A H' es p [c] → Q (.ref p) H') : tLst (tCons trow tNil) σ H Q := by
  refine row _ fun H1 t S R => ?_
  refine ⟨line_le (by exact Nat.le_of_ble_eq_true rfl), fun p hp => ?_⟩
  have S2 := Same.new (o := .lst [t]) (Same.refl H1) hp
  exact q _ p (S.trans S2) ⟨[t], upd_same, .cons (R.same S2) .nil⟩
theorem catR {i : Nat} {l : Addr} {cs cs2 : List Cl} {tr : TE} (hi : σ[i]? = some (some (.ref l))) (h : RowsAt K A H es l cs) (hl : cs.length + cs2.length ≤ 100) (row : ∀ R : VK, (∀ H' p, Same H H' → RowsAt K A H' es p cs2 → R (.ref p) H') → tr σ H R)
    (q : ∀ H' p, Same H H' → RowsAt K A H' es p (cs ++ cs2) → Q (.ref p) H') : tOp rCat (tVar i) tr σ H Q := by
  refine ⟨_, hi, ?_⟩
  refine row _ fun H1 p S ⟨us, hp, R⟩ => ?_
  obtain ⟨ts, h1, h2⟩ := h
  refine ⟨l, p, ts, us, rfl, rfl, S _ _ h1, hp, ?_, fun p2 hp2 => ?_⟩
  · exact line_le (by rw [h2.length, R.length]; omega)
  · have S2 := Same.new (o := .lst (ts ++ us)) (Same.refl H1) hp2
    exact q _ p2 (S.trans S2) ⟨_, upd_same, (h2.same (S.trans S2)).app (R.same S2)⟩
theorem sq {t u : TS} {D : Ends} (h : t { D with nx := u D } σ H) : tSeq t u D σ H := h
theorem nx1 {f : L2.St → Hp → Prop} {rt : VK} {bk ct : L2.St → Hp → Prop} (h : f σ H) : (Ends.mk f rt bk ct).nx σ H := h
theorem tt1 {t : TA} (h : t σ H fun xs H1 => xs.length ≤ sizeLine ∧ ∀ p, H1 p = none → Q (.ref p) (upd H1 p (.tup xs))) : tTup t σ H Q := h
theorem tl1 {t : TA} (h : t σ H fun xs H1 => xs.length ≤ sizeLine ∧ ∀ p, H1 p = none → Q (.ref p) (upd H1 p (.lst xs))) : tLst t σ H Q := h
theorem tc1 {a : TE} {r : TA} {R : List V → Hp → Prop} (h : a σ H fun x H1 => r σ H1 fun xs H2 => R (x :: xs) H2) : tCons a r σ H R := h
theorem tf1 {a : TE} {f : Str} (h : a σ H fun x H1 => ∃ b C dx fs v, x = .ref b ∧ H1 b = some (.ins C dx fs) ∧ Cls K C ∧ NoAttr K C f ∧ fs.lookup f = some v ∧ Q v H1) : tFld K a f σ H Q := h
theorem as1 {te : TE} {i : Nat} {D : Ends} (h : te σ H fun x H1 => D.nx (σ.set i (some x)) H1) : tAsg te (gName i) D σ H := h
theorem rt1 {te : TE} {D : Ends} (h : te σ H D.rt) : tRet te D σ H := h
theorem par3 {a b c : TE} {i j l : Nat} {D : Ends} (h : a σ H fun x H1 => b σ H1 fun y H2 => c σ H2 fun z H3 => ∃ u v w, [x, y, z] = [u, v, w] ∧ D.nx (((σ.set i (some u)).set j (some v)).set l (some w)) H3) : tPar3 i j l (tCons a (tCons b (tCons c tNil))) D σ H := h
end
end K56

namespace K56
open PySem PySem.Spec PyProof.Rows L2 MyL MyD MyP
def csTwos (A : Adr) : List Cl := [⟨A.c_Unsafe, "Unsafe", "unsafe"⟩, ⟨A.c_Apart, "Apart", "apart"⟩, ⟨A.c_Held, "Held", "held"⟩, ⟨A.c_Broken, "Broken", "broken"⟩, ⟨A.c_Uncovered, "Uncovered", "uncovered"⟩, ⟨A.c_Refusal, "Refusal", "refusal"⟩, ⟨A.c_Ring, "Ring", "ring"⟩, ⟨A.c_SightFront, "SightFront", "sightfront"⟩, ⟨A.c_PromiseFront, "PromiseFront", "promisefront"⟩, ⟨A.c_Unfirm, "Unfirm", "unfirm"⟩]
def spTwos (K : PySem.W.Frag) (A : Adr) : Sp := fun vs H Q _ => ∃ (xs : List V) (ds : List PyData), vs = xs ∧ xs.length = 2 ∧ DpRs H xs ds ∧ (∀ d ∈ ds, Okd 4 d) ∧
  ∀ H' p es, Same H H' → FxAll ds es → RowsAt K A H' es p (csTwos A) → Q (.ref p) H'
section
variable {P : Program} {w : World} {K : PySem.W.Frag} {mg : Str → Option Value} {base : Heap} {A : Adr}
theorem ok_l_twos (PF : Prg P) (T : Txt K mg A) : FnG P w K mg base CX0 10 A.l_twos (spTwos K A) := by
  obtain ⟨fd, F⟩ := T.F_l_twos
  refine Fun_okN F sc_l_twos (fun vs H Q E h => ?_) (fun _ _ _ _ _ _ us hl => match us, hl with | [_, _], _ => rfl) (fun cdv A' outer s H vs Q E hr hg h => ?_)
  · obtain ⟨_, _, rfl, h, _⟩ := h
    exact h
  obtain ⟨xs, ds, rfl, hl, hds, hok, q⟩ := h
  obtain ⟨fdUnsafe, FA_Unsafe, _, kb_Unsafe⟩ := ini_Unsafe (w := w) (base := base) PF T
  obtain ⟨fdApart, FA_Apart, _, kb_Apart⟩ := ini_Apart (w := w) (base := base) PF T
  obtain ⟨fdHeld, FA_Held, _, kb_Held⟩ := ini_Held (w := w) (base := base) PF T
  obtain ⟨fdBroken, FA_Broken, _, kb_Broken⟩ := ini_Broken (w := w) (base := base) PF T
  obtain ⟨fdUncovered, FA_Uncovered, _, kb_Uncovered⟩ := ini_Uncovered (w := w) (base := base) PF T
  obtain ⟨fdRefusal, FA_Refusal, _, kb_Refusal⟩ := ini_Refusal (w := w) (base := base) PF T
  obtain ⟨fdRing, FA_Ring, _, kb_Ring⟩ := ini_Ring (w := w) (base := base) PF T
  obtain ⟨fdSightFront, FA_SightFront, _, kb_SightFront⟩ := ini_SightFront (w := w) (base := base) PF T
  obtain ⟨fdPromiseFront, FA_PromiseFront, _, kb_PromiseFront⟩ := ini_PromiseFront (w := w) (base := base) PF T
  obtain ⟨fdUnfirm, FA_Unfirm, _, kb_Unfirm⟩ := ini_Unfirm (w := w) (base := base) PF T
  refine ⟨_, ((pss_cons (ps_par3 (i := 2) (j := 3) (l := 4) (by rfl) sc_l_twos.nd rfl rfl rfl (by decide) (by decide) (by decide) rfl rfl rfl (pa_cons (pe_makeG T.Mk_Unsafe (fn_Unsafe_init PF T) (hr.mono (by decide)) hg rfl T.m_Unsafe (pa_cons (pv 0) (pa_cons (pv 1) pa_nil))) (pa_cons (pe_makeG T.Mk_Apart (fn_Apart_init PF T) (hr.mono (by decide)) hg rfl T.m_Apart (pa_cons (pv 0) (pa_cons (pv 1) pa_nil))) (pa_cons (pe_makeG T.Mk_Held (fn_Held_init PF T) (hr.mono (by decide)) hg rfl T.m_Held (pa_cons (pv 0) (pa_cons (pv 1) pa_nil))) pa_nil))) (by rfl))
    (pss_cons (ps_set (i := 5) sc_l_twos.nd rfl (Or.inl rfl) (pe_lst (pa_cons (pe_tup (pa_cons (pv 2) (pa_cons (pe_makeGK (js := [1, 0]) T.Mk_Unsafe FA_Unsafe (by decide) kb_Unsafe (hr.mono (by decide)) hg rfl T.m_Unsafe (pk_cons (pv 1) (pk_cons (pv 0) pk_nil))) (pa_cons (pe_tup (pa_cons (pe_fld (pv 2) rfl) (pa_cons (pe_fld (pv 2) rfl) pa_nil))) (pa_cons pe_str pa_nil))))) pa_nil)))
    (pss_cons (ps_set (i := 5) sc_l_twos.nd rfl (Or.inl rfl) (pe_op op_cat (pv 5) (pe_lst (pa_cons (pe_tup (pa_cons (pv 3) (pa_cons (pe_makeGK (js := [1, 0]) T.Mk_Apart FA_Apart (by decide) kb_Apart (hr.mono (by decide)) hg rfl T.m_Apart (pk_cons (pv 1) (pk_cons (pv 0) pk_nil))) (pa_cons (pe_tup (pa_cons (pe_fld (pv 3) rfl) (pa_cons (pe_fld (pv 3) rfl) pa_nil))) (pa_cons pe_str pa_nil))))) pa_nil))))
    (pss_cons (ps_set (i := 5) sc_l_twos.nd rfl (Or.inl rfl) (pe_op op_cat (pv 5) (pe_lst (pa_cons (pe_tup (pa_cons (pv 4) (pa_cons (pe_makeGK (js := [1, 0]) T.Mk_Held FA_Held (by decide) kb_Held (hr.mono (by decide)) hg rfl T.m_Held (pk_cons (pv 1) (pk_cons (pv 0) pk_nil))) (pa_cons (pe_tup (pa_cons (pe_fld (pv 4) rfl) (pa_cons (pe_fld (pv 4) rfl) pa_nil))) (pa_cons pe_str pa_nil))))) pa_nil))))
    (pss_cons (ps_par3 (i := 2) (j := 3) (l := 4) (by rfl) sc_l_twos.nd rfl rfl rfl (by decide) (by decide) (by decide) rfl rfl rfl (pa_cons (pe_makeG T.Mk_Broken (fn_Broken_init PF T) (hr.mono (by decide)) hg rfl T.m_Broken (pa_cons (pv 0) (pa_cons (pv 1) pa_nil))) (pa_cons (pe_makeG T.Mk_Uncovered (fn_Uncovered_init PF T) (hr.mono (by decide)) hg rfl T.m_Uncovered (pa_cons (pv 0) (pa_cons (pv 1) pa_nil))) (pa_cons (pe_makeG T.Mk_Refusal (fn_Refusal_init PF T) (hr.mono (by decide)) hg rfl T.m_Refusal (pa_cons (pv 0) (pa_cons (pv 1) pa_nil))) pa_nil))) (by rfl))
    (pss_cons (ps_set (i := 5) sc_l_twos.nd rfl (Or.inl rfl) (pe_op op_cat (pv 5) (pe_lst (pa_cons (pe_tup (pa_cons (pv 2) (pa_cons (pe_makeGK (js := [1, 0]) T.Mk_Broken FA_Broken (by decide) kb_Broken (hr.mono (by decide)) hg rfl T.m_Broken (pk_cons (pv 1) (pk_cons (pv 0) pk_nil))) (pa_cons (pe_tup (pa_cons (pe_fld (pv 2) rfl) (pa_cons (pe_fld (pv 2) rfl) pa_nil))) (pa_cons pe_str pa_nil))))) pa_nil))))
    (pss_cons (ps_set (i := 5) sc_l_twos.nd rfl (Or.inl rfl) (pe_op op_cat (pv 5) (pe_lst (pa_cons (pe_tup (pa_cons (pv 3) (pa_cons (pe_makeGK (js := [1, 0]) T.Mk_Uncovered FA_Uncovered (by decide) kb_Uncovered (hr.mono (by decide)) hg rfl T.m_Uncovered (pk_cons (pv 1) (pk_cons (pv 0) pk_nil))) (pa_cons (pe_tup (pa_cons (pe_fld (pv 3) rfl) (pa_cons (pe_fld (pv 3) rfl) pa_nil))) (pa_cons pe_str pa_nil))))) pa_nil))))
    (pss_cons (ps_set (i := 5) sc_l_twos.nd rfl (Or.inl rfl) (pe_op op_cat (pv 5) (pe_lst (pa_cons (pe_tup (pa_cons (pv 4) (pa_cons (pe_makeGK (js := [1, 0]) T.Mk_Refusal FA_Refusal (by decide) kb_Refusal (hr.mono (by decide)) hg rfl T.m_Refusal (pk_cons (pv 1) (pk_cons (pv 0) pk_nil))) (pa_cons (pe_tup (pa_cons (pe_fld (pv 4) rfl) (pa_cons (pe_fld (pv 4) rfl) pa_nil))) (pa_cons pe_str pa_nil))))) pa_nil))))
    (pss_cons (ps_par3 (i := 2) (j := 3) (l := 4) (by rfl) sc_l_twos.nd rfl rfl rfl (by decide) (by decide) (by decide) rfl rfl rfl (pa_cons (pe_makeG T.Mk_Ring (fn_Ring_init PF T) (hr.mono (by decide)) hg rfl T.m_Ring (pa_cons (pv 0) (pa_cons (pv 1) pa_nil))) (pa_cons (pe_makeG T.Mk_SightFront (fn_SightFront_init PF T) (hr.mono (by decide)) hg rfl T.m_SightFront (pa_cons (pv 0) (pa_cons (pv 1) pa_nil))) (pa_cons (pe_makeG T.Mk_PromiseFront (fn_PromiseFront_init PF T) (hr.mono (by decide)) hg rfl T.m_PromiseFront (pa_cons (pv 0) (pa_cons (pv 1) pa_nil))) pa_nil))) (by rfl))
    (pss_cons (ps_set (i := 5) sc_l_twos.nd rfl (Or.inl rfl) (pe_op op_cat (pv 5) (pe_lst (pa_cons (pe_tup (pa_cons (pv 2) (pa_cons (pe_makeGK (js := [1, 0]) T.Mk_Ring FA_Ring (by decide) kb_Ring (hr.mono (by decide)) hg rfl T.m_Ring (pk_cons (pv 1) (pk_cons (pv 0) pk_nil))) (pa_cons (pe_tup (pa_cons (pe_fld (pv 2) rfl) (pa_cons (pe_fld (pv 2) rfl) pa_nil))) (pa_cons pe_str pa_nil))))) pa_nil))))
    (pss_cons (ps_set (i := 5) sc_l_twos.nd rfl (Or.inl rfl) (pe_op op_cat (pv 5) (pe_lst (pa_cons (pe_tup (pa_cons (pv 3) (pa_cons (pe_makeGK (js := [1, 0]) T.Mk_SightFront FA_SightFront (by decide) kb_SightFront (hr.mono (by decide)) hg rfl T.m_SightFront (pk_cons (pv 1) (pk_cons (pv 0) pk_nil))) (pa_cons (pe_tup (pa_cons (pe_fld (pv 3) rfl) (pa_cons (pe_fld (pv 3) rfl) pa_nil))) (pa_cons pe_str pa_nil))))) pa_nil))))
    (pss_cons (ps_set (i := 5) sc_l_twos.nd rfl (Or.inl rfl) (pe_op op_cat (pv 5) (pe_lst (pa_cons (pe_tup (pa_cons (pv 4) (pa_cons (pe_makeGK (js := [1, 0]) T.Mk_PromiseFront FA_PromiseFront (by decide) kb_PromiseFront (hr.mono (by decide)) hg rfl T.m_PromiseFront (pk_cons (pv 1) (pk_cons (pv 0) pk_nil))) (pa_cons (pe_tup (pa_cons (pe_fld (pv 4) rfl) (pa_cons (pe_fld (pv 4) rfl) pa_nil))) (pa_cons pe_str pa_nil))))) pa_nil))))
    (pss_cons (ps_set (i := 2) sc_l_twos.nd rfl (Or.inl rfl) (pe_makeG T.Mk_Unfirm (fn_Unfirm_init PF T) (hr.mono (by decide)) hg rfl T.m_Unfirm (pa_cons (pv 0) (pa_cons (pv 1) pa_nil))))
    (pss_one (ps_ret (pe_op op_cat (pv 5) (pe_lst (pa_cons (pe_tup (pa_cons (pv 2) (pa_cons (pe_makeGK (js := [1, 0]) T.Mk_Unfirm FA_Unfirm (by decide) kb_Unfirm (hr.mono (by decide)) hg rfl T.m_Unfirm (pk_cons (pv 1) (pk_cons (pv 0) pk_nil))) (pa_cons (pe_tup (pa_cons (pe_fld (pv 2) rfl) (pa_cons (pe_fld (pv 2) rfl) pa_nil))) (pa_cons pe_str pa_nil))))) pa_nil))))))))))))))))))), ?_⟩
  clear hr hg F
  match vs, ds, hl, hds with
  | [v1, v2], [d1, d2], _, .cons q1 (.cons q2 .nil) =>
  have S := Same.refl H
  -- refine nx1 (σ := [some v1, some v2, none, none, none, none]) ?_
  refine sq (par3 ?_)
  refine mkG (c := ⟨A.c_Unsafe, "Unsafe", "unsafe"⟩) (fl := ["states", "deeds"]) (fun R r => ⟨_, rfl, _, rfl, r⟩) (kc_Unsafe T) (.cons (q1.same S) (.cons (q2.same S) .nil)) hok rfl (by decide) (fun Hn x_law_one esn s X_law_one fn => ?_)
  have S := S.trans s
  have fx := fn
  refine mkG (c := ⟨A.c_Apart, "Apart", "apart"⟩) (fl := ["reading", "ring"]) (fun R r => ⟨_, rfl, _, rfl, r⟩) (kc_Apart T) (.cons (q1.same S) (.cons (q2.same S) .nil)) hok rfl (by decide) (fun Hn x_law_two esn s X_law_two fn => ?_)
  have S := S.trans s
  have X_law_one := X_law_one.same s
  have e := fx.det fn
  subst e
  refine mkG (c := ⟨A.c_Held, "Held", "held"⟩) (fl := ["pages", "entries"]) (fun R r => ⟨_, rfl, _, rfl, r⟩) (kc_Held T) (.cons (q1.same S) (.cons (q2.same S) .nil)) hok rfl (by decide) (fun Hn x_law_three esn s X_law_three fn => ?_)
  have S := S.trans s
  have X_law_one := X_law_one.same s
  have X_law_two := X_law_two.same s
  have e := fx.det fn
  subst e
  refine ⟨_, _, _, rfl, ?_⟩
  refine nx1 (σ := [some v1, some v2, some (.ref x_law_one), some (.ref x_law_two), some (.ref x_law_three), none]) ?_
  refine sq (as1 ?_)
  refine rows1 (c := ⟨A.c_Unsafe, "Unsafe", "unsafe"⟩) (fun R r => rowG (c := ⟨A.c_Unsafe, "Unsafe", "unsafe"⟩) (fl := ["states", "deeds"]) rfl X_law_one fx (fun R r => ⟨_, rfl, _, rfl, r⟩) rfl rfl (kc_Unsafe T) (fun f hf => T.n_Unsafe f (List.mem_cons_of_mem _ (List.mem_cons_of_mem _ hf))) (.cons (q1.same S) (.cons (q2.same S) .nil)) hok rfl (by decide) r) (fun Hn pn2 s R => ?_)
  have S := S.trans s
  have X_law_one := X_law_one.same s
  have X_law_two := X_law_two.same s
  have X_law_three := X_law_three.same s
  refine nx1 (σ := [some v1, some v2, some (.ref x_law_one), some (.ref x_law_two), some (.ref x_law_three), some (.ref pn2)]) ?_
  refine sq (as1 ?_)
  refine catR (cs2 := [⟨A.c_Apart, "Apart", "apart"⟩]) rfl R (Nat.le_of_ble_eq_true rfl) (fun R r => rows1 (c := ⟨A.c_Apart, "Apart", "apart"⟩) (fun R r => rowG (c := ⟨A.c_Apart, "Apart", "apart"⟩) (fl := ["reading", "ring"]) rfl X_law_two fx (fun R r => ⟨_, rfl, _, rfl, r⟩) rfl rfl (kc_Apart T) (fun f hf => T.n_Apart f (List.mem_cons_of_mem _ (List.mem_cons_of_mem _ hf))) (.cons (q1.same S) (.cons (q2.same S) .nil)) hok rfl (by decide) r) r) (fun Hn pn3 s R => ?_)
  have S := S.trans s
  have X_law_one := X_law_one.same s
  have X_law_two := X_law_two.same s
  have X_law_three := X_law_three.same s
  refine nx1 (σ := [some v1, some v2, some (.ref x_law_one), some (.ref x_law_two), some (.ref x_law_three), some (.ref pn3)]) ?_
  refine sq (as1 ?_)
  refine catR (cs2 := [⟨A.c_Held, "Held", "held"⟩]) rfl R (Nat.le_of_ble_eq_true rfl) (fun R r => rows1 (c := ⟨A.c_Held, "Held", "held"⟩) (fun R r => rowG (c := ⟨A.c_Held, "Held", "held"⟩) (fl := ["pages", "entries"]) rfl X_law_three fx (fun R r => ⟨_, rfl, _, rfl, r⟩) rfl rfl (kc_Held T) (fun f hf => T.n_Held f (List.mem_cons_of_mem _ (List.mem_cons_of_mem _ hf))) (.cons (q1.same S) (.cons (q2.same S) .nil)) hok rfl (by decide) r) r) (fun Hn pn4 s R => ?_)
  have S := S.trans s
  have X_law_one := X_law_one.same s
  have X_law_two := X_law_two.same s
  have X_law_three := X_law_three.same s
  refine nx1 (σ := [some v1, some v2, some (.ref x_law_one), some (.ref x_law_two), some (.ref x_law_three), some (.ref pn4)]) ?_
  refine sq (par3 ?_)
  refine mkG (c := ⟨A.c_Broken, "Broken", "broken"⟩) (fl := ["first", "states"]) (fun R r => ⟨_, rfl, _, rfl, r⟩) (kc_Broken T) (.cons (q1.same S) (.cons (q2.same S) .nil)) hok rfl (by decide) (fun Hn x_law_one esn s X_law_one fn => ?_)
  have S := S.trans s
  have R := R.same s
  have e := fx.det fn
  subst e
  refine mkG (c := ⟨A.c_Uncovered, "Uncovered", "uncovered"⟩) (fl := ["page", "sight"]) (fun R r => ⟨_, rfl, _, rfl, r⟩) (kc_Uncovered T) (.cons (q1.same S) (.cons (q2.same S) .nil)) hok rfl (by decide) (fun Hn x_law_two esn s X_law_two fn => ?_)
  have S := S.trans s
  have X_law_one := X_law_one.same s
  have R := R.same s
  have e := fx.det fn
  subst e
  refine mkG (c := ⟨A.c_Refusal, "Refusal", "refusal"⟩) (fl := ["pages", "tree"]) (fun R r => ⟨_, rfl, _, rfl, r⟩) (kc_Refusal T) (.cons (q1.same S) (.cons (q2.same S) .nil)) hok rfl (by decide) (fun Hn x_law_three esn s X_law_three fn => ?_)
  have S := S.trans s
  have X_law_one := X_law_one.same s
  have X_law_two := X_law_two.same s
  have R := R.same s
  have e := fx.det fn
  subst e
  refine ⟨_, _, _, rfl, ?_⟩
  refine nx1 (σ := [some v1, some v2, some (.ref x_law_one), some (.ref x_law_two), some (.ref x_law_three), some (.ref pn4)]) ?_
  refine sq (as1 ?_)
  refine catR (cs2 := [⟨A.c_Broken, "Broken", "broken"⟩]) rfl R (Nat.le_of_ble_eq_true rfl) (fun R r => rows1 (c := ⟨A.c_Broken, "Broken", "broken"⟩) (fun R r => rowG (c := ⟨A.c_Broken, "Broken", "broken"⟩) (fl := ["first", "states"]) rfl X_law_one fx (fun R r => ⟨_, rfl, _, rfl, r⟩) rfl rfl (kc_Broken T) (fun f hf => T.n_Broken f (List.mem_cons_of_mem _ (List.mem_cons_of_mem _ hf))) (.cons (q1.same S) (.cons (q2.same S) .nil)) hok rfl (by decide) r) r) (fun Hn pn6 s R => ?_)
  have S := S.trans s
  have X_law_one := X_law_one.same s
  have X_law_two := X_law_two.same s
  have X_law_three := X_law_three.same s
  refine nx1 (σ := [some v1, some v2, some (.ref x_law_one), some (.ref x_law_two), some (.ref x_law_three), some (.ref pn6)]) ?_
  refine sq (as1 ?_)
  refine catR (cs2 := [⟨A.c_Uncovered, "Uncovered", "uncovered"⟩]) rfl R (Nat.le_of_ble_eq_true rfl) (fun R r => rows1 (c := ⟨A.c_Uncovered, "Uncovered", "uncovered"⟩) (fun R r => rowG (c := ⟨A.c_Uncovered, "Uncovered", "uncovered"⟩) (fl := ["page", "sight"]) rfl X_law_two fx (fun R r => ⟨_, rfl, _, rfl, r⟩) rfl rfl (kc_Uncovered T) (fun f hf => T.n_Uncovered f (List.mem_cons_of_mem _ (List.mem_cons_of_mem _ hf))) (.cons (q1.same S) (.cons (q2.same S) .nil)) hok rfl (by decide) r) r) (fun Hn pn7 s R => ?_)
  have S := S.trans s
  have X_law_one := X_law_one.same s
  have X_law_two := X_law_two.same s
  have X_law_three := X_law_three.same s
  refine nx1 (σ := [some v1, some v2, some (.ref x_law_one), some (.ref x_law_two), some (.ref x_law_three), some (.ref pn7)]) ?_
  refine sq (as1 ?_)
  refine catR (cs2 := [⟨A.c_Refusal, "Refusal", "refusal"⟩]) rfl R (Nat.le_of_ble_eq_true rfl) (fun R r => rows1 (c := ⟨A.c_Refusal, "Refusal", "refusal"⟩) (fun R r => rowG (c := ⟨A.c_Refusal, "Refusal", "refusal"⟩) (fl := ["pages", "tree"]) rfl X_law_three fx (fun R r => ⟨_, rfl, _, rfl, r⟩) rfl rfl (kc_Refusal T) (fun f hf => T.n_Refusal f (List.mem_cons_of_mem _ (List.mem_cons_of_mem _ hf))) (.cons (q1.same S) (.cons (q2.same S) .nil)) hok rfl (by decide) r) r) (fun Hn pn8 s R => ?_)
  have S := S.trans s
  have X_law_one := X_law_one.same s
  have X_law_two := X_law_two.same s
  have X_law_three := X_law_three.same s
  refine nx1 (σ := [some v1, some v2, some (.ref x_law_one), some (.ref x_law_two), some (.ref x_law_three), some (.ref pn8)]) ?_
  refine sq (par3 ?_)
  refine mkG (c := ⟨A.c_Ring, "Ring", "ring"⟩) (fl := ["play", "at"]) (fun R r => ⟨_, rfl, _, rfl, r⟩) (kc_Ring T) (.cons (q1.same S) (.cons (q2.same S) .nil)) hok rfl (by decide) (fun Hn x_law_one esn s X_law_one fn => ?_)
  have S := S.trans s
  have R := R.same s
  have e := fx.det fn
  subst e
  refine mkG (c := ⟨A.c_SightFront, "SightFront", "sightfront"⟩) (fl := ["enough", "short"]) (fun R r => ⟨_, rfl, _, rfl, r⟩) (kc_SightFront T) (.cons (q1.same S) (.cons (q2.same S) .nil)) hok rfl (by decide) (fun Hn x_law_two esn s X_law_two fn => ?_)
  have S := S.trans s
  have X_law_one := X_law_one.same s
  have R := R.same s
  have e := fx.det fn
  subst e
  refine mkG (c := ⟨A.c_PromiseFront, "PromiseFront", "promisefront"⟩) (fl := ["held", "short"]) (fun R r => ⟨_, rfl, _, rfl, r⟩) (kc_PromiseFront T) (.cons (q1.same S) (.cons (q2.same S) .nil)) hok rfl (by decide) (fun Hn x_law_three esn s X_law_three fn => ?_)
  have S := S.trans s
  have X_law_one := X_law_one.same s
  have X_law_two := X_law_two.same s
  have R := R.same s
  have e := fx.det fn
  subst e
  refine ⟨_, _, _, rfl, ?_⟩
  refine nx1 (σ := [some v1, some v2, some (.ref x_law_one), some (.ref x_law_two), some (.ref x_law_three), some (.ref pn8)]) ?_
  refine sq (as1 ?_)
  refine catR (cs2 := [⟨A.c_Ring, "Ring", "ring"⟩]) rfl R (Nat.le_of_ble_eq_true rfl) (fun R r => rows1 (c := ⟨A.c_Ring, "Ring", "ring"⟩) (fun R r => rowG (c := ⟨A.c_Ring, "Ring", "ring"⟩) (fl := ["play", "at"]) rfl X_law_one fx (fun R r => ⟨_, rfl, _, rfl, r⟩) rfl rfl (kc_Ring T) (fun f hf => T.n_Ring f (List.mem_cons_of_mem _ (List.mem_cons_of_mem _ hf))) (.cons (q1.same S) (.cons (q2.same S) .nil)) hok rfl (by decide) r) r) (fun Hn pn10 s R => ?_)
  have S := S.trans s
  have X_law_one := X_law_one.same s
  have X_law_two := X_law_two.same s
  have X_law_three := X_law_three.same s
  refine nx1 (σ := [some v1, some v2, some (.ref x_law_one), some (.ref x_law_two), some (.ref x_law_three), some (.ref pn10)]) ?_
  refine sq (as1 ?_)
  refine catR (cs2 := [⟨A.c_SightFront, "SightFront", "sightfront"⟩]) rfl R (Nat.le_of_ble_eq_true rfl) (fun R r => rows1 (c := ⟨A.c_SightFront, "SightFront", "sightfront"⟩) (fun R r => rowG (c := ⟨A.c_SightFront, "SightFront", "sightfront"⟩) (fl := ["enough", "short"]) rfl X_law_two fx (fun R r => ⟨_, rfl, _, rfl, r⟩) rfl rfl (kc_SightFront T) (fun f hf => T.n_SightFront f (List.mem_cons_of_mem _ (List.mem_cons_of_mem _ hf))) (.cons (q1.same S) (.cons (q2.same S) .nil)) hok rfl (by decide) r) r) (fun Hn pn11 s R => ?_)
  have S := S.trans s
  have X_law_one := X_law_one.same s
  have X_law_two := X_law_two.same s
  have X_law_three := X_law_three.same s
  refine nx1 (σ := [some v1, some v2, some (.ref x_law_one), some (.ref x_law_two), some (.ref x_law_three), some (.ref pn11)]) ?_
  refine sq (as1 ?_)
  refine catR (cs2 := [⟨A.c_PromiseFront, "PromiseFront", "promisefront"⟩]) rfl R (Nat.le_of_ble_eq_true rfl) (fun R r => rows1 (c := ⟨A.c_PromiseFront, "PromiseFront", "promisefront"⟩) (fun R r => rowG (c := ⟨A.c_PromiseFront, "PromiseFront", "promisefront"⟩) (fl := ["held", "short"]) rfl X_law_three fx (fun R r => ⟨_, rfl, _, rfl, r⟩) rfl rfl (kc_PromiseFront T) (fun f hf => T.n_PromiseFront f (List.mem_cons_of_mem _ (List.mem_cons_of_mem _ hf))) (.cons (q1.same S) (.cons (q2.same S) .nil)) hok rfl (by decide) r) r) (fun Hn pn12 s R => ?_)
  have S := S.trans s
  have X_law_one := X_law_one.same s
  have X_law_two := X_law_two.same s
  have X_law_three := X_law_three.same s
  refine nx1 (σ := [some v1, some v2, some (.ref x_law_one), some (.ref x_law_two), some (.ref x_law_three), some (.ref pn12)]) ?_
  refine sq (as1 ?_)
  refine mkG (c := ⟨A.c_Unfirm, "Unfirm", "unfirm"⟩) (fl := ["pages", "lines"]) (fun R r => ⟨_, rfl, _, rfl, r⟩) (kc_Unfirm T) (.cons (q1.same S) (.cons (q2.same S) .nil)) hok rfl (by decide) (fun Hn x_law_one esn s X_law_one fn => ?_)
  have S := S.trans s
  have R := R.same s
  have e := fx.det fn
  subst e
  refine nx1 (σ := [some v1, some v2, some (.ref x_law_one), some (.ref x_law_two), some (.ref x_law_three), some (.ref pn12)]) ?_
  refine rt1 ?_
  refine catR (cs2 := [⟨A.c_Unfirm, "Unfirm", "unfirm"⟩]) rfl R (Nat.le_of_ble_eq_true rfl) (fun R r => rows1 (c := ⟨A.c_Unfirm, "Unfirm", "unfirm"⟩) (fun R r => rowG (c := ⟨A.c_Unfirm, "Unfirm", "unfirm"⟩) (fl := ["pages", "lines"]) rfl X_law_one fx (fun R r => ⟨_, rfl, _, rfl, r⟩) rfl rfl (kc_Unfirm T) (fun f hf => T.n_Unfirm f (List.mem_cons_of_mem _ (List.mem_cons_of_mem _ hf))) (.cons (q1.same S) (.cons (q2.same S) .nil)) hok rfl (by decide) r) r) (fun Hn pn14 s R => ?_)
  exact q _ _ _ (S.trans s) fx R
end
def csThrees (A : Adr) : List Cl := [⟨A.c_Lost, "Lost", "lost"⟩, ⟨A.c_Lacks, "Lacks", "lacks"⟩, ⟨A.c_Dropped, "Dropped", "dropped"⟩, ⟨A.c_Kept, "Kept", "kept"⟩, ⟨A.c_Least, "Least", "least"⟩, ⟨A.c_Parting, "Parting", "parting"⟩, ⟨A.c_Delay, "Delay", "delay"⟩, ⟨A.c_SureTime, "SureTime", "suretime"⟩, ⟨A.c_DelayFront, "DelayFront", "delayfront"⟩, ⟨A.c_MomentFront, "MomentFront", "momentfront"⟩, ⟨A.c_Slips, "Slips", "slips"⟩, ⟨A.c_Firm, "Firm", "firm"⟩, ⟨A.c_Steady, "Steady", "steady"⟩]
def spThrees (K : PySem.W.Frag) (A : Adr) : Sp := fun vs H Q _ => ∃ (xs : List V) (ds : List PyData), vs = xs ∧ xs.length = 3 ∧ DpRs H xs ds ∧ (∀ d ∈ ds, Okd 4 d) ∧
  ∀ H' p es, Same H H' → FxAll ds es → RowsAt K A H' es p (csThrees A) → Q (.ref p) H'
section
variable {P : Program} {w : World} {K : PySem.W.Frag} {mg : Str → Option Value} {base : Heap} {A : Adr}
theorem ok_l_threes (PF : Prg P) (T : Txt K mg A) : FnG P w K mg base CX0 10 A.l_threes (spThrees K A) := by
  obtain ⟨fd, F⟩ := T.F_l_threes
  refine Fun_okN F sc_l_threes (fun vs H Q E h => ?_) (fun _ _ _ _ _ _ us hl => match us, hl with | [_, _, _], _ => rfl) (fun cdv A' outer s H vs Q E hr hg h => ?_)
  · obtain ⟨_, _, rfl, h, _⟩ := h
    exact h
  obtain ⟨xs, ds, rfl, hl, hds, hok, q⟩ := h
  obtain ⟨fdLost, FA_Lost, _, kb_Lost⟩ := ini_Lost (w := w) (base := base) PF T
  obtain ⟨fdLacks, FA_Lacks, _, kb_Lacks⟩ := ini_Lacks (w := w) (base := base) PF T
  obtain ⟨fdDropped, FA_Dropped, _, kb_Dropped⟩ := ini_Dropped (w := w) (base := base) PF T
  obtain ⟨fdKept, FA_Kept, _, kb_Kept⟩ := ini_Kept (w := w) (base := base) PF T
  obtain ⟨fdLeast, FA_Least, _, kb_Least⟩ := ini_Least (w := w) (base := base) PF T
  obtain ⟨fdParting, FA_Parting, _, kb_Parting⟩ := ini_Parting (w := w) (base := base) PF T
  obtain ⟨fdDelay, FA_Delay, _, kb_Delay⟩ := ini_Delay (w := w) (base := base) PF T
  obtain ⟨fdSureTime, FA_SureTime, _, kb_SureTime⟩ := ini_SureTime (w := w) (base := base) PF T
  obtain ⟨fdDelayFront, FA_DelayFront, _, kb_DelayFront⟩ := ini_DelayFront (w := w) (base := base) PF T
  obtain ⟨fdMomentFront, FA_MomentFront, _, kb_MomentFront⟩ := ini_MomentFront (w := w) (base := base) PF T
  obtain ⟨fdSlips, FA_Slips, _, kb_Slips⟩ := ini_Slips (w := w) (base := base) PF T
  obtain ⟨fdFirm, FA_Firm, _, kb_Firm⟩ := ini_Firm (w := w) (base := base) PF T
  obtain ⟨fdSteady, FA_Steady, _, kb_Steady⟩ := ini_Steady (w := w) (base := base) PF T
  refine ⟨_, ((pss_cons (ps_par3 (i := 3) (j := 4) (l := 5) (by rfl) sc_l_threes.nd rfl rfl rfl (by decide) (by decide) (by decide) rfl rfl rfl (pa_cons (pe_makeG T.Mk_Lost (fn_Lost_init PF T) (hr.mono (by decide)) hg rfl T.m_Lost (pa_cons (pv 0) (pa_cons (pv 1) (pa_cons (pv 2) pa_nil)))) (pa_cons (pe_makeG T.Mk_Lacks (fn_Lacks_init PF T) (hr.mono (by decide)) hg rfl T.m_Lacks (pa_cons (pv 0) (pa_cons (pv 1) (pa_cons (pv 2) pa_nil)))) (pa_cons (pe_makeG T.Mk_Dropped (fn_Dropped_init PF T) (hr.mono (by decide)) hg rfl T.m_Dropped (pa_cons (pv 0) (pa_cons (pv 1) (pa_cons (pv 2) pa_nil)))) pa_nil))) (by rfl))
    (pss_cons (ps_set (i := 6) sc_l_threes.nd rfl (Or.inl rfl) (pe_lst (pa_cons (pe_tup (pa_cons (pv 3) (pa_cons (pe_makeGK (js := [1, 2, 0]) T.Mk_Lost FA_Lost (by decide) kb_Lost (hr.mono (by decide)) hg rfl T.m_Lost (pk_cons (pv 2) (pk_cons (pv 0) (pk_cons (pv 1) pk_nil)))) (pa_cons (pe_tup (pa_cons (pe_fld (pv 3) rfl) (pa_cons (pe_fld (pv 3) rfl) (pa_cons (pe_fld (pv 3) rfl) pa_nil)))) (pa_cons pe_str pa_nil))))) pa_nil)))
    (pss_cons (ps_set (i := 6) sc_l_threes.nd rfl (Or.inl rfl) (pe_op op_cat (pv 6) (pe_lst (pa_cons (pe_tup (pa_cons (pv 4) (pa_cons (pe_makeGK (js := [2, 1, 0]) T.Mk_Lacks FA_Lacks (by decide) kb_Lacks (hr.mono (by decide)) hg rfl T.m_Lacks (pk_cons (pv 2) (pk_cons (pv 1) (pk_cons (pv 0) pk_nil)))) (pa_cons (pe_tup (pa_cons (pe_fld (pv 4) rfl) (pa_cons (pe_fld (pv 4) rfl) (pa_cons (pe_fld (pv 4) rfl) pa_nil)))) (pa_cons pe_str pa_nil))))) pa_nil))))
    (pss_cons (ps_set (i := 6) sc_l_threes.nd rfl (Or.inl rfl) (pe_op op_cat (pv 6) (pe_lst (pa_cons (pe_tup (pa_cons (pv 5) (pa_cons (pe_makeGK (js := [2, 1, 0]) T.Mk_Dropped FA_Dropped (by decide) kb_Dropped (hr.mono (by decide)) hg rfl T.m_Dropped (pk_cons (pv 2) (pk_cons (pv 1) (pk_cons (pv 0) pk_nil)))) (pa_cons (pe_tup (pa_cons (pe_fld (pv 5) rfl) (pa_cons (pe_fld (pv 5) rfl) (pa_cons (pe_fld (pv 5) rfl) pa_nil)))) (pa_cons pe_str pa_nil))))) pa_nil))))
    (pss_cons (ps_par3 (i := 3) (j := 4) (l := 5) (by rfl) sc_l_threes.nd rfl rfl rfl (by decide) (by decide) (by decide) rfl rfl rfl (pa_cons (pe_makeG T.Mk_Kept (fn_Kept_init PF T) (hr.mono (by decide)) hg rfl T.m_Kept (pa_cons (pv 0) (pa_cons (pv 1) (pa_cons (pv 2) pa_nil)))) (pa_cons (pe_makeG T.Mk_Least (fn_Least_init PF T) (hr.mono (by decide)) hg rfl T.m_Least (pa_cons (pv 0) (pa_cons (pv 1) (pa_cons (pv 2) pa_nil)))) (pa_cons (pe_makeG T.Mk_Parting (fn_Parting_init PF T) (hr.mono (by decide)) hg rfl T.m_Parting (pa_cons (pv 0) (pa_cons (pv 1) (pa_cons (pv 2) pa_nil)))) pa_nil))) (by rfl))
    (pss_cons (ps_set (i := 6) sc_l_threes.nd rfl (Or.inl rfl) (pe_op op_cat (pv 6) (pe_lst (pa_cons (pe_tup (pa_cons (pv 3) (pa_cons (pe_makeGK (js := [2, 1, 0]) T.Mk_Kept FA_Kept (by decide) kb_Kept (hr.mono (by decide)) hg rfl T.m_Kept (pk_cons (pv 2) (pk_cons (pv 1) (pk_cons (pv 0) pk_nil)))) (pa_cons (pe_tup (pa_cons (pe_fld (pv 3) rfl) (pa_cons (pe_fld (pv 3) rfl) (pa_cons (pe_fld (pv 3) rfl) pa_nil)))) (pa_cons pe_str pa_nil))))) pa_nil))))
    (pss_cons (ps_set (i := 6) sc_l_threes.nd rfl (Or.inl rfl) (pe_op op_cat (pv 6) (pe_lst (pa_cons (pe_tup (pa_cons (pv 4) (pa_cons (pe_makeGK (js := [1, 2, 0]) T.Mk_Least FA_Least (by decide) kb_Least (hr.mono (by decide)) hg rfl T.m_Least (pk_cons (pv 2) (pk_cons (pv 0) (pk_cons (pv 1) pk_nil)))) (pa_cons (pe_tup (pa_cons (pe_fld (pv 4) rfl) (pa_cons (pe_fld (pv 4) rfl) (pa_cons (pe_fld (pv 4) rfl) pa_nil)))) (pa_cons pe_str pa_nil))))) pa_nil))))
    (pss_cons (ps_set (i := 6) sc_l_threes.nd rfl (Or.inl rfl) (pe_op op_cat (pv 6) (pe_lst (pa_cons (pe_tup (pa_cons (pv 5) (pa_cons (pe_makeGK (js := [2, 1, 0]) T.Mk_Parting FA_Parting (by decide) kb_Parting (hr.mono (by decide)) hg rfl T.m_Parting (pk_cons (pv 2) (pk_cons (pv 1) (pk_cons (pv 0) pk_nil)))) (pa_cons (pe_tup (pa_cons (pe_fld (pv 5) rfl) (pa_cons (pe_fld (pv 5) rfl) (pa_cons (pe_fld (pv 5) rfl) pa_nil)))) (pa_cons pe_str pa_nil))))) pa_nil))))
    (pss_cons (ps_par3 (i := 3) (j := 4) (l := 5) (by rfl) sc_l_threes.nd rfl rfl rfl (by decide) (by decide) (by decide) rfl rfl rfl (pa_cons (pe_makeG T.Mk_Delay (fn_Delay_init PF T) (hr.mono (by decide)) hg rfl T.m_Delay (pa_cons (pv 0) (pa_cons (pv 1) (pa_cons (pv 2) pa_nil)))) (pa_cons (pe_makeG T.Mk_SureTime (fn_SureTime_init PF T) (hr.mono (by decide)) hg rfl T.m_SureTime (pa_cons (pv 0) (pa_cons (pv 1) (pa_cons (pv 2) pa_nil)))) (pa_cons (pe_makeG T.Mk_DelayFront (fn_DelayFront_init PF T) (hr.mono (by decide)) hg rfl T.m_DelayFront (pa_cons (pv 0) (pa_cons (pv 1) (pa_cons (pv 2) pa_nil)))) pa_nil))) (by rfl))
    (pss_cons (ps_set (i := 6) sc_l_threes.nd rfl (Or.inl rfl) (pe_op op_cat (pv 6) (pe_lst (pa_cons (pe_tup (pa_cons (pv 3) (pa_cons (pe_makeGK (js := [2, 1, 0]) T.Mk_Delay FA_Delay (by decide) kb_Delay (hr.mono (by decide)) hg rfl T.m_Delay (pk_cons (pv 2) (pk_cons (pv 1) (pk_cons (pv 0) pk_nil)))) (pa_cons (pe_tup (pa_cons (pe_fld (pv 3) rfl) (pa_cons (pe_fld (pv 3) rfl) (pa_cons (pe_fld (pv 3) rfl) pa_nil)))) (pa_cons pe_str pa_nil))))) pa_nil))))
    (pss_cons (ps_set (i := 6) sc_l_threes.nd rfl (Or.inl rfl) (pe_op op_cat (pv 6) (pe_lst (pa_cons (pe_tup (pa_cons (pv 4) (pa_cons (pe_makeGK (js := [2, 1, 0]) T.Mk_SureTime FA_SureTime (by decide) kb_SureTime (hr.mono (by decide)) hg rfl T.m_SureTime (pk_cons (pv 2) (pk_cons (pv 1) (pk_cons (pv 0) pk_nil)))) (pa_cons (pe_tup (pa_cons (pe_fld (pv 4) rfl) (pa_cons (pe_fld (pv 4) rfl) (pa_cons (pe_fld (pv 4) rfl) pa_nil)))) (pa_cons pe_str pa_nil))))) pa_nil))))
    (pss_cons (ps_set (i := 6) sc_l_threes.nd rfl (Or.inl rfl) (pe_op op_cat (pv 6) (pe_lst (pa_cons (pe_tup (pa_cons (pv 5) (pa_cons (pe_makeGK (js := [2, 1, 0]) T.Mk_DelayFront FA_DelayFront (by decide) kb_DelayFront (hr.mono (by decide)) hg rfl T.m_DelayFront (pk_cons (pv 2) (pk_cons (pv 1) (pk_cons (pv 0) pk_nil)))) (pa_cons (pe_tup (pa_cons (pe_fld (pv 5) rfl) (pa_cons (pe_fld (pv 5) rfl) (pa_cons (pe_fld (pv 5) rfl) pa_nil)))) (pa_cons pe_str pa_nil))))) pa_nil))))
    (pss_cons (ps_par3 (i := 3) (j := 4) (l := 5) (by rfl) sc_l_threes.nd rfl rfl rfl (by decide) (by decide) (by decide) rfl rfl rfl (pa_cons (pe_makeG T.Mk_MomentFront (fn_MomentFront_init PF T) (hr.mono (by decide)) hg rfl T.m_MomentFront (pa_cons (pv 0) (pa_cons (pv 1) (pa_cons (pv 2) pa_nil)))) (pa_cons (pe_makeG T.Mk_Slips (fn_Slips_init PF T) (hr.mono (by decide)) hg rfl T.m_Slips (pa_cons (pv 0) (pa_cons (pv 1) (pa_cons (pv 2) pa_nil)))) (pa_cons (pe_makeG T.Mk_Firm (fn_Firm_init PF T) (hr.mono (by decide)) hg rfl T.m_Firm (pa_cons (pv 0) (pa_cons (pv 1) (pa_cons (pv 2) pa_nil)))) pa_nil))) (by rfl))
    (pss_cons (ps_set (i := 6) sc_l_threes.nd rfl (Or.inl rfl) (pe_op op_cat (pv 6) (pe_lst (pa_cons (pe_tup (pa_cons (pv 3) (pa_cons (pe_makeGK (js := [2, 1, 0]) T.Mk_MomentFront FA_MomentFront (by decide) kb_MomentFront (hr.mono (by decide)) hg rfl T.m_MomentFront (pk_cons (pv 2) (pk_cons (pv 1) (pk_cons (pv 0) pk_nil)))) (pa_cons (pe_tup (pa_cons (pe_fld (pv 3) rfl) (pa_cons (pe_fld (pv 3) rfl) (pa_cons (pe_fld (pv 3) rfl) pa_nil)))) (pa_cons pe_str pa_nil))))) pa_nil))))
    (pss_cons (ps_set (i := 6) sc_l_threes.nd rfl (Or.inl rfl) (pe_op op_cat (pv 6) (pe_lst (pa_cons (pe_tup (pa_cons (pv 4) (pa_cons (pe_makeGK (js := [2, 1, 0]) T.Mk_Slips FA_Slips (by decide) kb_Slips (hr.mono (by decide)) hg rfl T.m_Slips (pk_cons (pv 2) (pk_cons (pv 1) (pk_cons (pv 0) pk_nil)))) (pa_cons (pe_tup (pa_cons (pe_fld (pv 4) rfl) (pa_cons (pe_fld (pv 4) rfl) (pa_cons (pe_fld (pv 4) rfl) pa_nil)))) (pa_cons pe_str pa_nil))))) pa_nil))))
    (pss_cons (ps_set (i := 6) sc_l_threes.nd rfl (Or.inl rfl) (pe_op op_cat (pv 6) (pe_lst (pa_cons (pe_tup (pa_cons (pv 5) (pa_cons (pe_makeGK (js := [2, 1, 0]) T.Mk_Firm FA_Firm (by decide) kb_Firm (hr.mono (by decide)) hg rfl T.m_Firm (pk_cons (pv 2) (pk_cons (pv 1) (pk_cons (pv 0) pk_nil)))) (pa_cons (pe_tup (pa_cons (pe_fld (pv 5) rfl) (pa_cons (pe_fld (pv 5) rfl) (pa_cons (pe_fld (pv 5) rfl) pa_nil)))) (pa_cons pe_str pa_nil))))) pa_nil))))
    (pss_cons (ps_set (i := 3) sc_l_threes.nd rfl (Or.inl rfl) (pe_makeG T.Mk_Steady (fn_Steady_init PF T) (hr.mono (by decide)) hg rfl T.m_Steady (pa_cons (pv 0) (pa_cons (pv 1) (pa_cons (pv 2) pa_nil)))))
    (pss_one (ps_ret (pe_op op_cat (pv 6) (pe_lst (pa_cons (pe_tup (pa_cons (pv 3) (pa_cons (pe_makeGK (js := [2, 1, 0]) T.Mk_Steady FA_Steady (by decide) kb_Steady (hr.mono (by decide)) hg rfl T.m_Steady (pk_cons (pv 2) (pk_cons (pv 1) (pk_cons (pv 0) pk_nil)))) (pa_cons (pe_tup (pa_cons (pe_fld (pv 3) rfl) (pa_cons (pe_fld (pv 3) rfl) (pa_cons (pe_fld (pv 3) rfl) pa_nil)))) (pa_cons pe_str pa_nil))))) pa_nil))))))))))))))))))))))), ?_⟩
  clear hr hg F
  match vs, ds, hl, hds with
  | [v1, v2, v3], [d1, d2, d3], _, .cons q1 (.cons q2 (.cons q3 .nil)) =>
  have S := Same.refl H
  -- refine nx1 (σ := [some v1, some v2, some v3, none, none, none, none]) ?_
  refine sq (par3 ?_)
  refine mkG (c := ⟨A.c_Lost, "Lost", "lost"⟩) (fl := ["number", "ranked", "kept"]) (fun R r => ⟨_, rfl, _, rfl, _, rfl, r⟩) (kc_Lost T) (.cons (q1.same S) (.cons (q2.same S) (.cons (q3.same S) .nil))) hok rfl (by decide) (fun Hn x_law_one esn s X_law_one fn => ?_)
  have S := S.trans s
  have fx := fn
  refine mkG (c := ⟨A.c_Lacks, "Lacks", "lacks"⟩) (fl := ["page", "sight", "states"]) (fun R r => ⟨_, rfl, _, rfl, _, rfl, r⟩) (kc_Lacks T) (.cons (q1.same S) (.cons (q2.same S) (.cons (q3.same S) .nil))) hok rfl (by decide) (fun Hn x_law_two esn s X_law_two fn => ?_)
  have S := S.trans s
  have X_law_one := X_law_one.same s
  have e := fx.det fn
  subst e
  refine mkG (c := ⟨A.c_Dropped, "Dropped", "dropped"⟩) (fl := ["first", "states", "places"]) (fun R r => ⟨_, rfl, _, rfl, _, rfl, r⟩) (kc_Dropped T) (.cons (q1.same S) (.cons (q2.same S) (.cons (q3.same S) .nil))) hok rfl (by decide) (fun Hn x_law_three esn s X_law_three fn => ?_)
  have S := S.trans s
  have X_law_one := X_law_one.same s
  have X_law_two := X_law_two.same s
  have e := fx.det fn
  subst e
  refine ⟨_, _, _, rfl, ?_⟩
  refine nx1 (σ := [some v1, some v2, some v3, some (.ref x_law_one), some (.ref x_law_two), some (.ref x_law_three), none]) ?_
  refine sq (as1 ?_)
  refine rows1 (c := ⟨A.c_Lost, "Lost", "lost"⟩) (fun R r => rowG (c := ⟨A.c_Lost, "Lost", "lost"⟩) (fl := ["number", "ranked", "kept"]) rfl X_law_one fx (fun R r => ⟨_, rfl, _, rfl, _, rfl, r⟩) rfl rfl (kc_Lost T) (fun f hf => T.n_Lost f (List.mem_cons_of_mem _ (List.mem_cons_of_mem _ hf))) (.cons (q1.same S) (.cons (q2.same S) (.cons (q3.same S) .nil))) hok rfl (by decide) r) (fun Hn pn2 s R => ?_)
  have S := S.trans s
  have X_law_one := X_law_one.same s
  have X_law_two := X_law_two.same s
  have X_law_three := X_law_three.same s
  refine nx1 (σ := [some v1, some v2, some v3, some (.ref x_law_one), some (.ref x_law_two), some (.ref x_law_three), some (.ref pn2)]) ?_
  refine sq (as1 ?_)
  refine catR (cs2 := [⟨A.c_Lacks, "Lacks", "lacks"⟩]) rfl R (Nat.le_of_ble_eq_true rfl) (fun R r => rows1 (c := ⟨A.c_Lacks, "Lacks", "lacks"⟩) (fun R r => rowG (c := ⟨A.c_Lacks, "Lacks", "lacks"⟩) (fl := ["page", "sight", "states"]) rfl X_law_two fx (fun R r => ⟨_, rfl, _, rfl, _, rfl, r⟩) rfl rfl (kc_Lacks T) (fun f hf => T.n_Lacks f (List.mem_cons_of_mem _ (List.mem_cons_of_mem _ hf))) (.cons (q1.same S) (.cons (q2.same S) (.cons (q3.same S) .nil))) hok rfl (by decide) r) r) (fun Hn pn3 s R => ?_)
  have S := S.trans s
  have X_law_one := X_law_one.same s
  have X_law_two := X_law_two.same s
  have X_law_three := X_law_three.same s
  refine nx1 (σ := [some v1, some v2, some v3, some (.ref x_law_one), some (.ref x_law_two), some (.ref x_law_three), some (.ref pn3)]) ?_
  refine sq (as1 ?_)
  refine catR (cs2 := [⟨A.c_Dropped, "Dropped", "dropped"⟩]) rfl R (Nat.le_of_ble_eq_true rfl) (fun R r => rows1 (c := ⟨A.c_Dropped, "Dropped", "dropped"⟩) (fun R r => rowG (c := ⟨A.c_Dropped, "Dropped", "dropped"⟩) (fl := ["first", "states", "places"]) rfl X_law_three fx (fun R r => ⟨_, rfl, _, rfl, _, rfl, r⟩) rfl rfl (kc_Dropped T) (fun f hf => T.n_Dropped f (List.mem_cons_of_mem _ (List.mem_cons_of_mem _ hf))) (.cons (q1.same S) (.cons (q2.same S) (.cons (q3.same S) .nil))) hok rfl (by decide) r) r) (fun Hn pn4 s R => ?_)
  have S := S.trans s
  have X_law_one := X_law_one.same s
  have X_law_two := X_law_two.same s
  have X_law_three := X_law_three.same s
  refine nx1 (σ := [some v1, some v2, some v3, some (.ref x_law_one), some (.ref x_law_two), some (.ref x_law_three), some (.ref pn4)]) ?_
  refine sq (par3 ?_)
  refine mkG (c := ⟨A.c_Kept, "Kept", "kept"⟩) (fl := ["pages", "entries", "triples"]) (fun R r => ⟨_, rfl, _, rfl, _, rfl, r⟩) (kc_Kept T) (.cons (q1.same S) (.cons (q2.same S) (.cons (q3.same S) .nil))) hok rfl (by decide) (fun Hn x_law_one esn s X_law_one fn => ?_)
  have S := S.trans s
  have R := R.same s
  have e := fx.det fn
  subst e
  refine mkG (c := ⟨A.c_Least, "Least", "least"⟩) (fl := ["number", "kept", "refusal"]) (fun R r => ⟨_, rfl, _, rfl, _, rfl, r⟩) (kc_Least T) (.cons (q1.same S) (.cons (q2.same S) (.cons (q3.same S) .nil))) hok rfl (by decide) (fun Hn x_law_two esn s X_law_two fn => ?_)
  have S := S.trans s
  have X_law_one := X_law_one.same s
  have R := R.same s
  have e := fx.det fn
  subst e
  refine mkG (c := ⟨A.c_Parting, "Parting", "parting"⟩) (fl := ["row", "way", "sets"]) (fun R r => ⟨_, rfl, _, rfl, _, rfl, r⟩) (kc_Parting T) (.cons (q1.same S) (.cons (q2.same S) (.cons (q3.same S) .nil))) hok rfl (by decide) (fun Hn x_law_three esn s X_law_three fn => ?_)
  have S := S.trans s
  have X_law_one := X_law_one.same s
  have X_law_two := X_law_two.same s
  have R := R.same s
  have e := fx.det fn
  subst e
  refine ⟨_, _, _, rfl, ?_⟩
  refine nx1 (σ := [some v1, some v2, some v3, some (.ref x_law_one), some (.ref x_law_two), some (.ref x_law_three), some (.ref pn4)]) ?_
  refine sq (as1 ?_)
  refine catR (cs2 := [⟨A.c_Kept, "Kept", "kept"⟩]) rfl R (Nat.le_of_ble_eq_true rfl) (fun R r => rows1 (c := ⟨A.c_Kept, "Kept", "kept"⟩) (fun R r => rowG (c := ⟨A.c_Kept, "Kept", "kept"⟩) (fl := ["pages", "entries", "triples"]) rfl X_law_one fx (fun R r => ⟨_, rfl, _, rfl, _, rfl, r⟩) rfl rfl (kc_Kept T) (fun f hf => T.n_Kept f (List.mem_cons_of_mem _ (List.mem_cons_of_mem _ hf))) (.cons (q1.same S) (.cons (q2.same S) (.cons (q3.same S) .nil))) hok rfl (by decide) r) r) (fun Hn pn6 s R => ?_)
  have S := S.trans s
  have X_law_one := X_law_one.same s
  have X_law_two := X_law_two.same s
  have X_law_three := X_law_three.same s
  refine nx1 (σ := [some v1, some v2, some v3, some (.ref x_law_one), some (.ref x_law_two), some (.ref x_law_three), some (.ref pn6)]) ?_
  refine sq (as1 ?_)
  refine catR (cs2 := [⟨A.c_Least, "Least", "least"⟩]) rfl R (Nat.le_of_ble_eq_true rfl) (fun R r => rows1 (c := ⟨A.c_Least, "Least", "least"⟩) (fun R r => rowG (c := ⟨A.c_Least, "Least", "least"⟩) (fl := ["number", "kept", "refusal"]) rfl X_law_two fx (fun R r => ⟨_, rfl, _, rfl, _, rfl, r⟩) rfl rfl (kc_Least T) (fun f hf => T.n_Least f (List.mem_cons_of_mem _ (List.mem_cons_of_mem _ hf))) (.cons (q1.same S) (.cons (q2.same S) (.cons (q3.same S) .nil))) hok rfl (by decide) r) r) (fun Hn pn7 s R => ?_)
  have S := S.trans s
  have X_law_one := X_law_one.same s
  have X_law_two := X_law_two.same s
  have X_law_three := X_law_three.same s
  refine nx1 (σ := [some v1, some v2, some v3, some (.ref x_law_one), some (.ref x_law_two), some (.ref x_law_three), some (.ref pn7)]) ?_
  refine sq (as1 ?_)
  refine catR (cs2 := [⟨A.c_Parting, "Parting", "parting"⟩]) rfl R (Nat.le_of_ble_eq_true rfl) (fun R r => rows1 (c := ⟨A.c_Parting, "Parting", "parting"⟩) (fun R r => rowG (c := ⟨A.c_Parting, "Parting", "parting"⟩) (fl := ["row", "way", "sets"]) rfl X_law_three fx (fun R r => ⟨_, rfl, _, rfl, _, rfl, r⟩) rfl rfl (kc_Parting T) (fun f hf => T.n_Parting f (List.mem_cons_of_mem _ (List.mem_cons_of_mem _ hf))) (.cons (q1.same S) (.cons (q2.same S) (.cons (q3.same S) .nil))) hok rfl (by decide) r) r) (fun Hn pn8 s R => ?_)
  have S := S.trans s
  have X_law_one := X_law_one.same s
  have X_law_two := X_law_two.same s
  have X_law_three := X_law_three.same s
  refine nx1 (σ := [some v1, some v2, some v3, some (.ref x_law_one), some (.ref x_law_two), some (.ref x_law_three), some (.ref pn8)]) ?_
  refine sq (par3 ?_)
  refine mkG (c := ⟨A.c_Delay, "Delay", "delay"⟩) (fl := ["number", "heights", "play"]) (fun R r => ⟨_, rfl, _, rfl, _, rfl, r⟩) (kc_Delay T) (.cons (q1.same S) (.cons (q2.same S) (.cons (q3.same S) .nil))) hok rfl (by decide) (fun Hn x_law_one esn s X_law_one fn => ?_)
  have S := S.trans s
  have R := R.same s
  have e := fx.det fn
  subst e
  refine mkG (c := ⟨A.c_SureTime, "SureTime", "suretime"⟩) (fl := ["number", "table", "tree"]) (fun R r => ⟨_, rfl, _, rfl, _, rfl, r⟩) (kc_SureTime T) (.cons (q1.same S) (.cons (q2.same S) (.cons (q3.same S) .nil))) hok rfl (by decide) (fun Hn x_law_two esn s X_law_two fn => ?_)
  have S := S.trans s
  have X_law_one := X_law_one.same s
  have R := R.same s
  have e := fx.det fn
  subst e
  refine mkG (c := ⟨A.c_DelayFront, "DelayFront", "delayfront"⟩) (fl := ["points", "never", "steps"]) (fun R r => ⟨_, rfl, _, rfl, _, rfl, r⟩) (kc_DelayFront T) (.cons (q1.same S) (.cons (q2.same S) (.cons (q3.same S) .nil))) hok rfl (by decide) (fun Hn x_law_three esn s X_law_three fn => ?_)
  have S := S.trans s
  have X_law_one := X_law_one.same s
  have X_law_two := X_law_two.same s
  have R := R.same s
  have e := fx.det fn
  subst e
  refine ⟨_, _, _, rfl, ?_⟩
  refine nx1 (σ := [some v1, some v2, some v3, some (.ref x_law_one), some (.ref x_law_two), some (.ref x_law_three), some (.ref pn8)]) ?_
  refine sq (as1 ?_)
  refine catR (cs2 := [⟨A.c_Delay, "Delay", "delay"⟩]) rfl R (Nat.le_of_ble_eq_true rfl) (fun R r => rows1 (c := ⟨A.c_Delay, "Delay", "delay"⟩) (fun R r => rowG (c := ⟨A.c_Delay, "Delay", "delay"⟩) (fl := ["number", "heights", "play"]) rfl X_law_one fx (fun R r => ⟨_, rfl, _, rfl, _, rfl, r⟩) rfl rfl (kc_Delay T) (fun f hf => T.n_Delay f (List.mem_cons_of_mem _ (List.mem_cons_of_mem _ hf))) (.cons (q1.same S) (.cons (q2.same S) (.cons (q3.same S) .nil))) hok rfl (by decide) r) r) (fun Hn pn10 s R => ?_)
  have S := S.trans s
  have X_law_one := X_law_one.same s
  have X_law_two := X_law_two.same s
  have X_law_three := X_law_three.same s
  refine nx1 (σ := [some v1, some v2, some v3, some (.ref x_law_one), some (.ref x_law_two), some (.ref x_law_three), some (.ref pn10)]) ?_
  refine sq (as1 ?_)
  refine catR (cs2 := [⟨A.c_SureTime, "SureTime", "suretime"⟩]) rfl R (Nat.le_of_ble_eq_true rfl) (fun R r => rows1 (c := ⟨A.c_SureTime, "SureTime", "suretime"⟩) (fun R r => rowG (c := ⟨A.c_SureTime, "SureTime", "suretime"⟩) (fl := ["number", "table", "tree"]) rfl X_law_two fx (fun R r => ⟨_, rfl, _, rfl, _, rfl, r⟩) rfl rfl (kc_SureTime T) (fun f hf => T.n_SureTime f (List.mem_cons_of_mem _ (List.mem_cons_of_mem _ hf))) (.cons (q1.same S) (.cons (q2.same S) (.cons (q3.same S) .nil))) hok rfl (by decide) r) r) (fun Hn pn11 s R => ?_)
  have S := S.trans s
  have X_law_one := X_law_one.same s
  have X_law_two := X_law_two.same s
  have X_law_three := X_law_three.same s
  refine nx1 (σ := [some v1, some v2, some v3, some (.ref x_law_one), some (.ref x_law_two), some (.ref x_law_three), some (.ref pn11)]) ?_
  refine sq (as1 ?_)
  refine catR (cs2 := [⟨A.c_DelayFront, "DelayFront", "delayfront"⟩]) rfl R (Nat.le_of_ble_eq_true rfl) (fun R r => rows1 (c := ⟨A.c_DelayFront, "DelayFront", "delayfront"⟩) (fun R r => rowG (c := ⟨A.c_DelayFront, "DelayFront", "delayfront"⟩) (fl := ["points", "never", "steps"]) rfl X_law_three fx (fun R r => ⟨_, rfl, _, rfl, _, rfl, r⟩) rfl rfl (kc_DelayFront T) (fun f hf => T.n_DelayFront f (List.mem_cons_of_mem _ (List.mem_cons_of_mem _ hf))) (.cons (q1.same S) (.cons (q2.same S) (.cons (q3.same S) .nil))) hok rfl (by decide) r) r) (fun Hn pn12 s R => ?_)
  have S := S.trans s
  have X_law_one := X_law_one.same s
  have X_law_two := X_law_two.same s
  have X_law_three := X_law_three.same s
  refine nx1 (σ := [some v1, some v2, some v3, some (.ref x_law_one), some (.ref x_law_two), some (.ref x_law_three), some (.ref pn12)]) ?_
  refine sq (par3 ?_)
  refine mkG (c := ⟨A.c_MomentFront, "MomentFront", "momentfront"⟩) (fl := ["points", "steps", "kept"]) (fun R r => ⟨_, rfl, _, rfl, _, rfl, r⟩) (kc_MomentFront T) (.cons (q1.same S) (.cons (q2.same S) (.cons (q3.same S) .nil))) hok rfl (by decide) (fun Hn x_law_one esn s X_law_one fn => ?_)
  have S := S.trans s
  have R := R.same s
  have e := fx.det fn
  subst e
  refine mkG (c := ⟨A.c_Slips, "Slips", "slips"⟩) (fl := ["first", "states", "pages"]) (fun R r => ⟨_, rfl, _, rfl, _, rfl, r⟩) (kc_Slips T) (.cons (q1.same S) (.cons (q2.same S) (.cons (q3.same S) .nil))) hok rfl (by decide) (fun Hn x_law_two esn s X_law_two fn => ?_)
  have S := S.trans s
  have X_law_one := X_law_one.same s
  have R := R.same s
  have e := fx.det fn
  subst e
  refine mkG (c := ⟨A.c_Firm, "Firm", "firm"⟩) (fl := ["pages", "entries", "cases"]) (fun R r => ⟨_, rfl, _, rfl, _, rfl, r⟩) (kc_Firm T) (.cons (q1.same S) (.cons (q2.same S) (.cons (q3.same S) .nil))) hok rfl (by decide) (fun Hn x_law_three esn s X_law_three fn => ?_)
  have S := S.trans s
  have X_law_one := X_law_one.same s
  have X_law_two := X_law_two.same s
  have R := R.same s
  have e := fx.det fn
  subst e
  refine ⟨_, _, _, rfl, ?_⟩
  refine nx1 (σ := [some v1, some v2, some v3, some (.ref x_law_one), some (.ref x_law_two), some (.ref x_law_three), some (.ref pn12)]) ?_
  refine sq (as1 ?_)
  refine catR (cs2 := [⟨A.c_MomentFront, "MomentFront", "momentfront"⟩]) rfl R (Nat.le_of_ble_eq_true rfl) (fun R r => rows1 (c := ⟨A.c_MomentFront, "MomentFront", "momentfront"⟩) (fun R r => rowG (c := ⟨A.c_MomentFront, "MomentFront", "momentfront"⟩) (fl := ["points", "steps", "kept"]) rfl X_law_one fx (fun R r => ⟨_, rfl, _, rfl, _, rfl, r⟩) rfl rfl (kc_MomentFront T) (fun f hf => T.n_MomentFront f (List.mem_cons_of_mem _ (List.mem_cons_of_mem _ hf))) (.cons (q1.same S) (.cons (q2.same S) (.cons (q3.same S) .nil))) hok rfl (by decide) r) r) (fun Hn pn14 s R => ?_)
  have S := S.trans s
  have X_law_one := X_law_one.same s
  have X_law_two := X_law_two.same s
  have X_law_three := X_law_three.same s
  refine nx1 (σ := [some v1, some v2, some v3, some (.ref x_law_one), some (.ref x_law_two), some (.ref x_law_three), some (.ref pn14)]) ?_
  refine sq (as1 ?_)
  refine catR (cs2 := [⟨A.c_Slips, "Slips", "slips"⟩]) rfl R (Nat.le_of_ble_eq_true rfl) (fun R r => rows1 (c := ⟨A.c_Slips, "Slips", "slips"⟩) (fun R r => rowG (c := ⟨A.c_Slips, "Slips", "slips"⟩) (fl := ["first", "states", "pages"]) rfl X_law_two fx (fun R r => ⟨_, rfl, _, rfl, _, rfl, r⟩) rfl rfl (kc_Slips T) (fun f hf => T.n_Slips f (List.mem_cons_of_mem _ (List.mem_cons_of_mem _ hf))) (.cons (q1.same S) (.cons (q2.same S) (.cons (q3.same S) .nil))) hok rfl (by decide) r) r) (fun Hn pn15 s R => ?_)
  have S := S.trans s
  have X_law_one := X_law_one.same s
  have X_law_two := X_law_two.same s
  have X_law_three := X_law_three.same s
  refine nx1 (σ := [some v1, some v2, some v3, some (.ref x_law_one), some (.ref x_law_two), some (.ref x_law_three), some (.ref pn15)]) ?_
  refine sq (as1 ?_)
  refine catR (cs2 := [⟨A.c_Firm, "Firm", "firm"⟩]) rfl R (Nat.le_of_ble_eq_true rfl) (fun R r => rows1 (c := ⟨A.c_Firm, "Firm", "firm"⟩) (fun R r => rowG (c := ⟨A.c_Firm, "Firm", "firm"⟩) (fl := ["pages", "entries", "cases"]) rfl X_law_three fx (fun R r => ⟨_, rfl, _, rfl, _, rfl, r⟩) rfl rfl (kc_Firm T) (fun f hf => T.n_Firm f (List.mem_cons_of_mem _ (List.mem_cons_of_mem _ hf))) (.cons (q1.same S) (.cons (q2.same S) (.cons (q3.same S) .nil))) hok rfl (by decide) r) r) (fun Hn pn16 s R => ?_)
  have S := S.trans s
  have X_law_one := X_law_one.same s
  have X_law_two := X_law_two.same s
  have X_law_three := X_law_three.same s
  refine nx1 (σ := [some v1, some v2, some v3, some (.ref x_law_one), some (.ref x_law_two), some (.ref x_law_three), some (.ref pn16)]) ?_
  refine sq (as1 ?_)
  refine mkG (c := ⟨A.c_Steady, "Steady", "steady"⟩) (fl := ["number", "firm", "unfirm"]) (fun R r => ⟨_, rfl, _, rfl, _, rfl, r⟩) (kc_Steady T) (.cons (q1.same S) (.cons (q2.same S) (.cons (q3.same S) .nil))) hok rfl (by decide) (fun Hn x_law_one esn s X_law_one fn => ?_)
  have S := S.trans s
  have R := R.same s
  have e := fx.det fn
  subst e
  refine nx1 (σ := [some v1, some v2, some v3, some (.ref x_law_one), some (.ref x_law_two), some (.ref x_law_three), some (.ref pn16)]) ?_
  refine rt1 ?_
  refine catR (cs2 := [⟨A.c_Steady, "Steady", "steady"⟩]) rfl R (Nat.le_of_ble_eq_true rfl) (fun R r => rows1 (c := ⟨A.c_Steady, "Steady", "steady"⟩) (fun R r => rowG (c := ⟨A.c_Steady, "Steady", "steady"⟩) (fl := ["number", "firm", "unfirm"]) rfl X_law_one fx (fun R r => ⟨_, rfl, _, rfl, _, rfl, r⟩) rfl rfl (kc_Steady T) (fun f hf => T.n_Steady f (List.mem_cons_of_mem _ (List.mem_cons_of_mem _ hf))) (.cons (q1.same S) (.cons (q2.same S) (.cons (q3.same S) .nil))) hok rfl (by decide) r) r) (fun Hn pn18 s R => ?_)
  exact q _ _ _ (S.trans s) fx R
end
end K56

namespace K56
open PySem PySem.Spec PyProof.Rows L2 MyL MyD MyP
/-- a row as it is first made: made by place, by name, the part told, the word -/
def RowO (K : PySem.W.Frag) (A : Adr) (H : Hp) (e : PyData) (t : V) (c : Cl) : Prop := ∃ (tp : Addr) (x y u : V), t = .ref tp ∧ H tp = some (.tup [x, y, u, .str c.z]) ∧ IsP K A H x c.C c.nm c.z [e] ∧ IsP K A H y c.C c.nm c.z [e] ∧ DpR H u e
theorem RowO.same {K : PySem.W.Frag} {A : Adr} {H H' : Hp} {e : PyData} {t : V} {c : Cl} (h : RowO K A H e t c) (S : Same H H') : RowO K A H' e t c := by
  obtain ⟨tp, x, y, u, e, h1, h2, h3, h4⟩ := h
  exact ⟨tp, x, y, u, e, S _ _ h1, h2.same S, h3.same S, h4.same S⟩
inductive RowsO (K : PySem.W.Frag) (A : Adr) (H : Hp) (e : PyData) : List V → List Cl → Prop
  | nil : RowsO K A H e [] []
  | cons {t : V} {ts : List V} {c : Cl} {cs : List Cl} : RowO K A H e t c → RowsO K A H e ts cs → RowsO K A H e (t :: ts) (c :: cs)
theorem RowsO.same {K : PySem.W.Frag} {A : Adr} {H H' : Hp} {e : PyData} (S : Same H H') : ∀ {ts : List V} {cs : List Cl}, RowsO K A H e ts cs → RowsO K A H' e ts cs
  | _, _, .nil => .nil
  | _, _, .cons a q => .cons (a.same S) (q.same S)
theorem RowsO.app {K : PySem.W.Frag} {A : Adr} {H : Hp} {e : PyData} : ∀ {ts us : List V} {cs ds : List Cl}, RowsO K A H e ts cs → RowsO K A H e us ds → RowsO K A H e (ts ++ us) (cs ++ ds)
  | _, _, _, _, .nil, h => h
  | _, _, _, _, .cons a q, h => .cons a (q.app h)
theorem RowsO.length {K : PySem.W.Frag} {A : Adr} {H : Hp} {e : PyData} : ∀ {ts : List V} {cs : List Cl}, RowsO K A H e ts cs → ts.length = cs.length
  | _, _, .nil => rfl
  | _, _, .cons _ q => by rw [List.length_cons, List.length_cons, q.length]
theorem RowsO.at_ {K : PySem.W.Frag} {A : Adr} {H : Hp} {e : PyData} : ∀ {ts : List V} {cs : List Cl} {i : Nat} {t : V}, RowsO K A H e ts cs → ts[i]? = some t → ∃ c, cs[i]? = some c ∧ RowO K A H e t c
  | _, _, 0, _, .cons a q, h => by cases h; exact ⟨_, rfl, a⟩
  | _, _, i + 1, _, .cons a q, h => RowsO.at_ (i := i) q (by simpa using h)
def RowsOAt (K : PySem.W.Frag) (A : Adr) (H : Hp) (e : PyData) (p : Addr) (cs : List Cl) : Prop := ∃ ts, H p = some (.lst ts) ∧ RowsO K A H e ts cs
theorem RowAt.tups {K : PySem.W.Frag} {A : Adr} {H H' : Hp} {t : V} {C : Addr} {nm word : Str} {es : List PyData} (h : RowAt K A H t C nm word es) (ht : TupAll es) (S : ∀ b o, (∃ c d f, o = .ins c d f) ∨ (∃ xs, o = .tup xs) → H b = some o → H' b = some o) : RowAt K A H' t C nm word es := by
  obtain ⟨tp, told, x, y, e, h1, h2, h3, h4⟩ := h
  exact ⟨tp, told, x, y, e, S _ _ (.inr ⟨_, rfl⟩) h1, h2.tups S, h3.tups S, h4.tups (fun b xs z => S _ _ (.inr ⟨_, rfl⟩) z) (.tup ht)⟩
theorem RowsIs.tups {K : PySem.W.Frag} {A : Adr} {H H' : Hp} {es : List PyData} (ht : TupAll es) (S : ∀ b o, (∃ c d f, o = .ins c d f) ∨ (∃ xs, o = .tup xs) → H b = some o → H' b = some o) : ∀ {ts : List V} {cs : List Cl}, RowsIs K A H es ts cs → RowsIs K A H' es ts cs
  | _, _, .nil => .nil
  | _, _, .cons a q => .cons (a.tups ht S) (q.tups ht S)
section
variable {K : PySem.W.Frag} {A : Adr} {H : Hp} {σ : L2.St} {Q : VK} {v : V} {d e : PyData} {c c2 : Cl}
/-- (C(a), C(f=a), C(a).f, "word") -/
theorem rowO {f : Str} {i : Nat} (hi : σ[i]? = some (some v)) (k : KCls K A c.C c.nm) (hn : NoAttr K c.C f) (hd : DpR H v d) (hok : Okd 4 d) (fx : Fx d e)
    (q : ∀ H' t, Same H H' → RowO K A H' e t c → Q t H') :
    tTup (tCons (tMakeG c.C (spC c.C c.z [f]) (tCons (tVar i) tNil)) (tCons (tMakeGK c.C (spC c.C c.z [f]) [0] (tCons (tVar i) tNil)) (tCons (tFld K (tMakeG c.C (spC c.C c.z [f]) (tCons (tVar i) tNil)) f) (tCons (tC (.str c.z)) tNil)))) σ H Q := by
  have ok1 : ∀ x ∈ [d], Okd 4 x := fun x hx => by rw [List.mem_singleton.mp hx]; exact hok
  have one : ∀ es, FxAll [d] es → es = [e] := fun es f => by
    cases f with
    | cons h1 h => cases h; rw [h1.det fx]
  refine tt1 (tc1 ?_)
  refine mkG (fl := [f]) (fun R r => ⟨_, hi, r⟩) k (.cons hd .nil) ok1 rfl (by show 1 ≤ 5; decide) fun H1 x1 es1 S1 X1 f1 => ?_
  obtain rfl := one _ f1
  refine tc1 ?_
  refine mkK (fl := [f]) (fun R r => ⟨_, hi, r⟩) rfl rfl k (.cons (hd.same S1) .nil) ok1 rfl (by show 1 ≤ 5; decide) fun H2 x2 es2 S2 X2 f2 => ?_
  obtain rfl := one _ f2
  refine tc1 (tf1 ?_)
  refine mkG (fl := [f]) (fun R r => ⟨_, hi, r⟩) k (.cons (hd.same (S1.trans S2)) .nil) ok1 rfl (by show 1 ≤ 5; decide) fun H3 x3 es3 S3 X3 f3 => ?_
  obtain rfl := one _ f3
  obtain ⟨dx, fs, a1, a2, a3⟩ := pap_fld X3.2
  obtain ⟨u, ku, du⟩ := a3 0 f e rfl rfl
  refine ⟨x3, _, dx, fs, u, rfl, a1, k.o.c, hn, ku, ?_⟩
  refine ⟨line_le (by exact Nat.le_of_ble_eq_true rfl), fun t ht => ?_⟩
  have S4 := Same.new (o := .tup [.ref x1, .ref x2, u, .str c.z]) (Same.refl H3) ht
  exact q _ _ (S1.trans (S2.trans (S3.trans S4))) ⟨t, .ref x1, .ref x2, u, rfl, upd_same, X1.1.same (S2.trans (S3.trans S4)), X2.1.same (S3.trans S4), du.same S4⟩
theorem rows2 {t1 t2 : TE} (r1 : ∀ {H1}, Same H H1 → ∀ R : VK, (∀ H' t, Same H1 H' → RowO K A H' e t c → R t H') → t1 σ H1 R) (r2 : ∀ {H1}, Same H H1 → ∀ R : VK, (∀ H' t, Same H1 H' → RowO K A H' e t c2 → R t H') → t2 σ H1 R)
    (q : ∀ H' p, Same H H' → RowsOAt K A H' e p [c, c2] → Q (.ref p) H') : tLst (tCons t1 (tCons t2 tNil)) σ H Q := by
  refine r1 (Same.refl H) _ fun H1 x S1 R1 => ?_
  refine r2 S1 _ fun H2 y S2 R2 => ?_
  refine ⟨line_le (by exact Nat.le_of_ble_eq_true rfl), fun p hp => ?_⟩
  have S3 := Same.new (o := .lst [x, y]) (Same.refl H2) hp
  exact q _ p (S1.trans (S2.trans S3)) ⟨[x, y], upd_same, .cons (R1.same (S2.trans S3)) (.cons (R2.same S3) .nil)⟩
theorem catO {i : Nat} {l : Addr} {cs cs2 : List Cl} {tr : TE} (hi : σ[i]? = some (some (.ref l))) (h : RowsOAt K A H e l cs) (hl : cs.length + cs2.length ≤ 100) (row : ∀ R : VK, (∀ H' p, Same H H' → RowsOAt K A H' e p cs2 → R (.ref p) H') → tr σ H R)
    (q : ∀ H' p, Same H H' → RowsOAt K A H' e p (cs ++ cs2) → Q (.ref p) H') : tOp rCat (tVar i) tr σ H Q := by
  refine ⟨_, hi, ?_⟩
  refine row _ fun H1 p S ⟨us, hp, R⟩ => ?_
  obtain ⟨ts, h1, h2⟩ := h
  refine ⟨l, p, ts, us, rfl, rfl, S _ _ h1, hp, ?_, fun p2 hp2 => ?_⟩
  · exact line_le (by rw [h2.length, R.length]; omega)
  · have S2 := Same.new (o := .lst (ts ++ us)) (Same.refl H1) hp2
    exact q _ p2 (S.trans S2) ⟨_, upd_same, (h2.same (S.trans S2)).app (R.same S2)⟩
end
def csOnes (A : Adr) : List Cl := [⟨A.c_Safe, "Safe", "safe"⟩, ⟨A.c_Implied, "Implied", "implied"⟩, ⟨A.c_Serves, "Serves", "serves"⟩, ⟨A.c_Holds, "Holds", "holds"⟩, ⟨A.c_Handed, "Handed", "handed"⟩, ⟨A.c_Shared, "Shared", "shared"⟩, ⟨A.c_Never, "Never", "never"⟩, ⟨A.c_Stays, "Stays", "stays"⟩]
def spOnes (K : PySem.W.Frag) (A : Adr) : Sp := fun vs H Q _ => ∃ (v : V) (d e : PyData), vs = [v] ∧ DpR H v d ∧ Okd 4 d ∧ Fx d e ∧
  ∀ H' p, Same H H' → RowsAt K A H' [e] p (csOnes A) → Q (.ref p) H'
section
variable {P : Program} {w : World} {K : PySem.W.Frag} {mg : Str → Option Value} {base : Heap} {A : Adr}
local macro_rules | `(tactic| walk_at "sames") => `(tactic| repeat (first
  | exact Same.refl _
  | refine Same.new ?_ (by assumption)
  | refine Same.trans ?_ (by assumption)))
local macro_rules | `(tactic| walk_at "ne") => `(tactic| first
  | assumption
  | exact Ne.symm (by assumption)
  | exact ne_new (by assumption) (by walk_at "look")
  | exact ne_new' (by assumption) (by walk_at "look")
  | exact ne_of (by walk_at "look") (by walk_at "look") (by intro z; cases z))
local macro_rules | `(tactic| walk_at "look") => `(tactic| first
  | assumption
  | exact upd_same
  | (refine upd_new (by assumption) ?_
     walk_at "look")
  | (refine (upd_ne ?_).trans ?_
     · walk_at "ne"
     · walk_at "look")
  | (refine Kp.get (by assumption) ?_ ?_
     · walk_at "ne"
     · walk_at "look")
  | (refine Same.get (by assumption) ?_
     walk_at "look"))
local macro_rules | `(tactic| walk_at "lenv") => `(tactic| first
  | exact Or.inl ⟨_, SqL.of (by walk_at "look"), rfl⟩
  | exact Or.inr ⟨_, SqT.of (by walk_at "look"), rfl⟩
  | exact ⟨line_le (by omega), rfl⟩)
local macro_rules | `(tactic| walk_at "cond") => `(tactic| first
  | assumption
  | rfl
  | exact Nat.zero_le _
  | exact Nat.le_of_ble_eq_true rfl
  | decide
  | omega
  | exact line_lt (by (try simp only [List.length_map, List.length_append, List.length_cons, List.length_nil]); omega)
  | exact line_le (by (try simp only [List.length_map, List.length_append, List.length_cons, List.length_nil]); omega)
  | (dsimp only; omega)
  | exact ⟨by decide, by decide⟩
  | exact ⟨by decide, by decide, by decide⟩
  | exact Or.inl ⟨by decide, by decide⟩
  | exact Or.inl ⟨by omega, by omega⟩
  | exact Or.inr ⟨by omega, by omega⟩)
local macro_rules | `(tactic| walk_at "kit") => `(tactic| first | assumption | exact kit_NoneType_int | exact kit_NoneType_bool | exact kit_NoneType_str | exact kit_NoneType_list | exact kit_NoneType_tuple | exact kit_NoneType_dict | exact kit_bool_int | exact kit_bool_bool | exact kit_bool_str | exact kit_bool_list | exact kit_bool_tuple | exact kit_bool_dict | exact kit_int_int | exact kit_int_bool | exact kit_int_str | exact kit_int_list | exact kit_int_tuple | exact kit_int_dict | exact kit_str_int | exact kit_str_bool | exact kit_str_str | exact kit_str_list | exact kit_str_tuple | exact kit_str_dict | exact kit_list_int | exact kit_list_bool | exact kit_list_str | exact kit_list_list | exact kit_list_tuple | exact kit_list_dict | exact kit_tuple_int | exact kit_tuple_bool | exact kit_tuple_str | exact kit_tuple_list | exact kit_tuple_tuple | exact kit_tuple_dict | exact kit_dict_int | exact kit_dict_bool | exact kit_dict_str | exact kit_dict_list | exact kit_dict_tuple | exact kit_dict_dict)
local macro_rules | `(tactic| walk_at "ty") => `(tactic| first | assumption | exact tyx_str | exact tyx_int | exact tyx_bl | exact tyx_non | exact tyx_lst (by walk_at "look") | exact tyx_tup (by walk_at "look") | exact tyx_dK (by walk_at "look"))
local macro_rules | `(tactic| walk_at "s") => `(tactic| first
  | refine ⟨_, rfl, ?_⟩
  | refine ⟨_, _, rfl, rfl, ?_⟩
  | refine ⟨_, _, _, _, rfl, rfl, SqL.of (by walk_at "look"), by rfl, ?_⟩
  | refine ⟨_, _, _, _, rfl, rfl, SqT.of (by walk_at "look"), by rfl, ?_⟩
  | refine ⟨_, _, _, _, rfl, rfl, by walk_at "look", by rfl, ?_⟩
  | refine ⟨_, _, rfl, by walk_at "lenv", ?_⟩
  | refine Or.inl ⟨_, rfl, ?_⟩
  | refine ⟨_, _, _, _, _, rfl, ClsV.ty _, by walk_at "ty", by walk_at "kit", ?_⟩
  | refine And.intro (by walk_at "cond") ?_
  | refine ⟨_, _, rfl, SqT.of (by walk_at "look"), rfl, ?_⟩
  | refine ⟨_, _, rfl, SqL.of (by walk_at "look"), rfl, ?_⟩
  | refine And.intro (Or.inl ⟨rfl, _, SqL.of (by walk_at "look")⟩) ?_
  | refine ⟨_, _, _, rfl, rfl, by walk_at "look", by walk_at "cond", ?_⟩
  | refine ⟨_, _, _, _, rfl, rfl, by walk_at "look", by walk_at "look", by walk_at "cond", ?_⟩
  | refine And.intro ⟨_, rfl⟩ ?_
  | refine And.intro ⟨_, SqL.of (by walk_at "look")⟩ ?_
  | refine ⟨_, _, rfl, SqL.of (by walk_at "look"), ?_⟩
  | refine ⟨_, _, rfl, (by assumption : SqL _ _ _ _), ?_⟩
  | refine ⟨_, by walk_at "look", by walk_at "cond", ?_⟩
  | refine ⟨_, _, rfl, Or.inr (SqT.of (by walk_at "look")), ?_⟩
  | refine ⟨_, _, rfl, Or.inl (SqL.of (by walk_at "look")), ?_⟩
  | refine ⟨_, _, rfl, ?_⟩
  | refine ⟨_, _, _, rfl, by walk_at "look", by assumption, ?_⟩
  | refine ⟨_, _, true, _, _, rfl, rfl, ClsV.own _, kit_own (by assumption) (by assumption), rfl, by walk_at "look", ?_⟩
  | refine ⟨_, _, _, _, rfl, ErAt.same (by assumption) (by walk_at "sames"), by assumption, by assumption, ?_⟩
  | refine ⟨_, _, _, _, rfl, ErAt.same (by assumption) (by walk_at "sames"), by assumption, by assumption, by assumption, ?_⟩
  | refine if_t (by first | rfl | assumption | decide) ?_
  | refine if_f (by assumption) ?_
  | refine if_f (by first | decide | exact Bool.false_ne_true) ?_
  | refine fun (_ : _ ≠ sysModules) => ?_
  | refine fun (_ : ErAt _ _ _ _) => ?_
  | refine fun _ _ => ?_)

theorem ok_l_ones (PF : Prg P) (T : Txt K mg A) : FnG P w K mg base CX0 10 A.l_ones (spOnes K A) := by
  obtain ⟨fd, F⟩ := T.F_l_ones
  refine Fun_okN F sc_l_ones (fun vs H Q E h => ?_) (fun _ _ _ _ _ _ us hl => match us, hl with | [_], _ => rfl) (fun cdv A' outer s H vs Q E hr hg h => ?_)
  · obtain ⟨_, _, _, rfl, _⟩ := h
    rfl
  obtain ⟨v1, d, e, rfl, q1, hok, fx, q⟩ := h
  obtain ⟨fdSafe, FA_Safe, _, kb_Safe⟩ := ini_Safe (w := w) (base := base) PF T
  obtain ⟨fdImplied, FA_Implied, _, kb_Implied⟩ := ini_Implied (w := w) (base := base) PF T
  obtain ⟨fdServes, FA_Serves, _, kb_Serves⟩ := ini_Serves (w := w) (base := base) PF T
  obtain ⟨fdHolds, FA_Holds, _, kb_Holds⟩ := ini_Holds (w := w) (base := base) PF T
  obtain ⟨fdHanded, FA_Handed, _, kb_Handed⟩ := ini_Handed (w := w) (base := base) PF T
  obtain ⟨fdShared, FA_Shared, _, kb_Shared⟩ := ini_Shared (w := w) (base := base) PF T
  obtain ⟨fdNever, FA_Never, _, kb_Never⟩ := ini_Never (w := w) (base := base) PF T
  obtain ⟨fdStays, FA_Stays, _, kb_Stays⟩ := ini_Stays (w := w) (base := base) PF T
  refine ⟨_, ((pss_cons (ps_set (i := 1) sc_l_ones.nd rfl (Or.inl rfl) (pe_lst (pa_cons (pe_tup (pa_cons (pe_makeG T.Mk_Safe (fn_Safe_init PF T) (hr.mono (by decide)) hg rfl T.m_Safe (pa_cons (pv 0) pa_nil)) (pa_cons (pe_makeGK (js := [0]) T.Mk_Safe FA_Safe (by decide) kb_Safe (hr.mono (by decide)) hg rfl T.m_Safe (pk_cons (pv 0) pk_nil)) (pa_cons (pe_fld (pe_makeG T.Mk_Safe (fn_Safe_init PF T) (hr.mono (by decide)) hg rfl T.m_Safe (pa_cons (pv 0) pa_nil)) rfl) (pa_cons pe_str pa_nil))))) (pa_cons (pe_tup (pa_cons (pe_makeG T.Mk_Implied (fn_Implied_init PF T) (hr.mono (by decide)) hg rfl T.m_Implied (pa_cons (pv 0) pa_nil)) (pa_cons (pe_makeGK (js := [0]) T.Mk_Implied FA_Implied (by decide) kb_Implied (hr.mono (by decide)) hg rfl T.m_Implied (pk_cons (pv 0) pk_nil)) (pa_cons (pe_fld (pe_makeG T.Mk_Implied (fn_Implied_init PF T) (hr.mono (by decide)) hg rfl T.m_Implied (pa_cons (pv 0) pa_nil)) rfl) (pa_cons pe_str pa_nil))))) pa_nil))))
    (pss_cons (ps_set (i := 1) sc_l_ones.nd rfl (Or.inl rfl) (pe_op op_cat (pv 1) (pe_lst (pa_cons (pe_tup (pa_cons (pe_makeG T.Mk_Serves (fn_Serves_init PF T) (hr.mono (by decide)) hg rfl T.m_Serves (pa_cons (pv 0) pa_nil)) (pa_cons (pe_makeGK (js := [0]) T.Mk_Serves FA_Serves (by decide) kb_Serves (hr.mono (by decide)) hg rfl T.m_Serves (pk_cons (pv 0) pk_nil)) (pa_cons (pe_fld (pe_makeG T.Mk_Serves (fn_Serves_init PF T) (hr.mono (by decide)) hg rfl T.m_Serves (pa_cons (pv 0) pa_nil)) rfl) (pa_cons pe_str pa_nil))))) (pa_cons (pe_tup (pa_cons (pe_makeG T.Mk_Holds (fn_Holds_init PF T) (hr.mono (by decide)) hg rfl T.m_Holds (pa_cons (pv 0) pa_nil)) (pa_cons (pe_makeGK (js := [0]) T.Mk_Holds FA_Holds (by decide) kb_Holds (hr.mono (by decide)) hg rfl T.m_Holds (pk_cons (pv 0) pk_nil)) (pa_cons (pe_fld (pe_makeG T.Mk_Holds (fn_Holds_init PF T) (hr.mono (by decide)) hg rfl T.m_Holds (pa_cons (pv 0) pa_nil)) rfl) (pa_cons pe_str pa_nil))))) pa_nil)))))
    (pss_cons (ps_set (i := 1) sc_l_ones.nd rfl (Or.inl rfl) (pe_op op_cat (pv 1) (pe_lst (pa_cons (pe_tup (pa_cons (pe_makeG T.Mk_Handed (fn_Handed_init PF T) (hr.mono (by decide)) hg rfl T.m_Handed (pa_cons (pv 0) pa_nil)) (pa_cons (pe_makeGK (js := [0]) T.Mk_Handed FA_Handed (by decide) kb_Handed (hr.mono (by decide)) hg rfl T.m_Handed (pk_cons (pv 0) pk_nil)) (pa_cons (pe_fld (pe_makeG T.Mk_Handed (fn_Handed_init PF T) (hr.mono (by decide)) hg rfl T.m_Handed (pa_cons (pv 0) pa_nil)) rfl) (pa_cons pe_str pa_nil))))) (pa_cons (pe_tup (pa_cons (pe_makeG T.Mk_Shared (fn_Shared_init PF T) (hr.mono (by decide)) hg rfl T.m_Shared (pa_cons (pv 0) pa_nil)) (pa_cons (pe_makeGK (js := [0]) T.Mk_Shared FA_Shared (by decide) kb_Shared (hr.mono (by decide)) hg rfl T.m_Shared (pk_cons (pv 0) pk_nil)) (pa_cons (pe_fld (pe_makeG T.Mk_Shared (fn_Shared_init PF T) (hr.mono (by decide)) hg rfl T.m_Shared (pa_cons (pv 0) pa_nil)) rfl) (pa_cons pe_str pa_nil))))) pa_nil)))))
    (pss_cons (ps_set (i := 1) sc_l_ones.nd rfl (Or.inl rfl) (pe_op op_cat (pv 1) (pe_lst (pa_cons (pe_tup (pa_cons (pe_makeG T.Mk_Never (fn_Never_init PF T) (hr.mono (by decide)) hg rfl T.m_Never (pa_cons (pv 0) pa_nil)) (pa_cons (pe_makeGK (js := [0]) T.Mk_Never FA_Never (by decide) kb_Never (hr.mono (by decide)) hg rfl T.m_Never (pk_cons (pv 0) pk_nil)) (pa_cons (pe_fld (pe_makeG T.Mk_Never (fn_Never_init PF T) (hr.mono (by decide)) hg rfl T.m_Never (pa_cons (pv 0) pa_nil)) rfl) (pa_cons pe_str pa_nil))))) (pa_cons (pe_tup (pa_cons (pe_makeG T.Mk_Stays (fn_Stays_init PF T) (hr.mono (by decide)) hg rfl T.m_Stays (pa_cons (pv 0) pa_nil)) (pa_cons (pe_makeGK (js := [0]) T.Mk_Stays FA_Stays (by decide) kb_Stays (hr.mono (by decide)) hg rfl T.m_Stays (pk_cons (pv 0) pk_nil)) (pa_cons (pe_fld (pe_makeG T.Mk_Stays (fn_Stays_init PF T) (hr.mono (by decide)) hg rfl T.m_Stays (pa_cons (pv 0) pa_nil)) rfl) (pa_cons pe_str pa_nil))))) pa_nil)))))
    (pss_one (ps_ret (pe_lc (own := [(("_law_place" : PySem.Str), 2), (("_law_named" : PySem.Str), 3), (("_law_told" : PySem.Str), 4), (("_law_word" : PySem.Str), 5)]) rfl sc_l_ones.nd (pi_list (pv 1)) (blkOk_by (own := [(("_law_place" : PySem.Str), 2), (("_law_named" : PySem.Str), 3), (("_law_told" : PySem.Str), 4), (("_law_word" : PySem.Str), 5)]) (N := [("_law_a" : PySem.Str), ("_law_rows" : PySem.Str), ("_law_place" : PySem.Str), ("_law_named" : PySem.Str), ("_law_told" : PySem.Str), ("_law_word" : PySem.Str)]) (sc := defScope s_l_ones) (by decide +kernel)) (fun _ _ _ _ _ => (show PG _ _ (gTup K 4 _) from (pg_tup (by rfl) (pgs_cons (pg_name (i := 2) sc_l_ones.nd rfl (Or.inl rfl)) (pgs_cons (pg_name (i := 3) sc_l_ones.nd rfl (Or.inl rfl)) (pgs_cons (pg_name (i := 4) sc_l_ones.nd rfl (Or.inl rfl)) (pgs_cons (pg_name (i := 5) sc_l_ones.nd rfl (Or.inl rfl)) pgs_nil))))))) (fun _ _ _ _ _ => pts_nil) (fun _ _ _ _ _ => (pe_tup (pa_cons (pv 2) (pa_cons (pv 3) (pa_cons (pe_tup (pa_cons (pv 4) pa_nil)) (pa_cons (pv 5) pa_nil)))))))))))))), ?_⟩
  clear hr hg F
  have S0 := Same.refl H
  refine sq (as1 ?_)
  refine rows2 (c := ⟨A.c_Safe, "Safe", "safe"⟩) (c2 := ⟨A.c_Implied, "Implied", "implied"⟩) (fun S R r => rowO (c := ⟨A.c_Safe, "Safe", "safe"⟩) (f := "stands") (i := 0) rfl (kc_Safe T) (T.n_Safe _ (by decide)) (q1.same (S0.trans S)) hok fx r) (fun S R r => rowO (c := ⟨A.c_Implied, "Implied", "implied"⟩) (f := "pairs") (i := 0) rfl (kc_Implied T) (T.n_Implied _ (by decide)) (q1.same (S0.trans S)) hok fx r) (fun Hn pn2 s R => ?_)
  have S0 := S0.trans s
  refine nx1 (σ := [some v1, some (.ref pn2), none, none, none, none]) ?_
  refine sq (as1 ?_)
  refine catO (cs2 := [⟨A.c_Serves, "Serves", "serves"⟩, ⟨A.c_Holds, "Holds", "holds"⟩]) rfl R (Nat.le_of_ble_eq_true rfl) (fun R r => rows2 (c := ⟨A.c_Serves, "Serves", "serves"⟩) (c2 := ⟨A.c_Holds, "Holds", "holds"⟩) (fun S R r => rowO (c := ⟨A.c_Serves, "Serves", "serves"⟩) (f := "spots") (i := 0) rfl (kc_Serves T) (T.n_Serves _ (by decide)) (q1.same (S0.trans S)) hok fx r) (fun S R r => rowO (c := ⟨A.c_Holds, "Holds", "holds"⟩) (f := "triples") (i := 0) rfl (kc_Holds T) (T.n_Holds _ (by decide)) (q1.same (S0.trans S)) hok fx r) r) (fun Hn pn4 s R => ?_)
  have S0 := S0.trans s
  refine nx1 (σ := [some v1, some (.ref pn4), none, none, none, none]) ?_
  refine sq (as1 ?_)
  refine catO (cs2 := [⟨A.c_Handed, "Handed", "handed"⟩, ⟨A.c_Shared, "Shared", "shared"⟩]) rfl R (Nat.le_of_ble_eq_true rfl) (fun R r => rows2 (c := ⟨A.c_Handed, "Handed", "handed"⟩) (c2 := ⟨A.c_Shared, "Shared", "shared"⟩) (fun S R r => rowO (c := ⟨A.c_Handed, "Handed", "handed"⟩) (f := "closed") (i := 0) rfl (kc_Handed T) (T.n_Handed _ (by decide)) (q1.same (S0.trans S)) hok fx r) (fun S R r => rowO (c := ⟨A.c_Shared, "Shared", "shared"⟩) (f := "pairs") (i := 0) rfl (kc_Shared T) (T.n_Shared _ (by decide)) (q1.same (S0.trans S)) hok fx r) r) (fun Hn pn6 s R => ?_)
  have S0 := S0.trans s
  refine nx1 (σ := [some v1, some (.ref pn6), none, none, none, none]) ?_
  refine sq (as1 ?_)
  refine catO (cs2 := [⟨A.c_Never, "Never", "never"⟩, ⟨A.c_Stays, "Stays", "stays"⟩]) rfl R (Nat.le_of_ble_eq_true rfl) (fun R r => rows2 (c := ⟨A.c_Never, "Never", "never"⟩) (c2 := ⟨A.c_Stays, "Stays", "stays"⟩) (fun S R r => rowO (c := ⟨A.c_Never, "Never", "never"⟩) (f := "tree") (i := 0) rfl (kc_Never T) (T.n_Never _ (by decide)) (q1.same (S0.trans S)) hok fx r) (fun S R r => rowO (c := ⟨A.c_Stays, "Stays", "stays"⟩) (f := "cases") (i := 0) rfl (kc_Stays T) (T.n_Stays _ (by decide)) (q1.same (S0.trans S)) hok fx r) r) (fun Hn pn8 s R => ?_)
  have S0 := S0.trans s
  refine nx1 (σ := [some v1, some (.ref pn8), none, none, none, none]) ?_
  refine rt1 ?_
  obtain ⟨ts, hl, R⟩ := R
  refine ⟨_, rfl, _, rfl, ⟨ts, SqL.of hl⟩, fun D hD => ?_⟩
  have tup : TupAll [e] := FxAll.tupA (d := [d]) (.cons fx .nil) (fun x hx => by rw [List.mem_singleton.mp hx]; exact hok)
  refine lc_it (walk_list (xs := ts)) (fun i H2 => Iv (Same Hn H2 ∧ ∃ us, H2 D = some (.lst us) ∧ RowsIs K A H2 [e] us ((csOnes A).take i)))
    (Iv.mk ⟨Same.new (Same.refl _) hD, [], upd_same, .nil⟩) (fun i H' _ h => SqL.of (h.out.1 _ _ hl)) ?_ ?_
  · rintro i x H3 H4 hi hI ⟨rfl, hx⟩
    obtain ⟨sm, us, hDl, ru⟩ := hI.out
    obtain ⟨c, hc, tp, x1, y1, u, rfl, h1, h2, h3, h4⟩ := R.at_ hx
    refine ⟨tp, _, rfl, SqT.of (sm _ _ h1), rfl, ?_⟩
    refine ⟨_, _, rfl, _, _, rfl, _, _, rfl, _, _, rfl, rfl, ?_⟩
    refine ⟨rfl, ?_⟩
    repeat walk_at "s"
    rename_i t1 ht1 t2 ht2
    have S2 : Same H4 (upd (upd H4 t1 (.tup [u])) t2 (.tup [x1, y1, .ref t1, .str c.z])) := Same.new (Same.new (Same.refl _) ht1) ht2
    have ht1' : upd (upd H4 t1 (.tup [u])) t2 (.tup [x1, y1, .ref t1, .str c.z]) t1 = some (.tup [u]) := (Same.new (Same.refl _) ht2) _ _ upd_same
    have ht2' : upd (upd H4 t1 (.tup [u])) t2 (.tup [x1, y1, .ref t1, .str c.z]) t2 = some (.tup [x1, y1, .ref t1, .str c.z]) := upd_same
    generalize upd (upd H4 t1 (.tup [u])) t2 (.tup [x1, y1, .ref t1, .str c.z]) = H5 at S2 ht1' ht2' ⊢
    have hD5 := S2 _ _ hDl
    have r5 : RowAt K A H5 (.ref t2) c.C c.nm c.z [e] := ⟨t2, t1, x1, y1, rfl, ht2', h2.same (sm.trans S2), h3.same (sm.trans S2), .tup ht1' (.cons (h4.same (sm.trans S2)) .nil)⟩
    have le := ru.length
    have l8 : (csOnes A).length = 8 := rfl
    have lc := R.length
    rw [List.length_take] at le
    refine ⟨us, hD5, line_lt (by omega), Iv.mk ⟨Same.put (sm.trans S2) hD, us ++ [.ref t2], upd_same, ?_⟩⟩
    rw [take_one (show (csOnes A)[i]? = some c from hc)]
    refine ((ru.same S2).app (.cons r5 .nil)).tups tup fun b o ho eb => ?_
    rw [upd_ne (ne_of eb hD5 (by rcases ho with ⟨_, _, _, rfl⟩ | ⟨_, rfl⟩ <;> (intro z; cases z)))]
    exact eb
  · intro H3 hI
    obtain ⟨sm, us, hDl, ru⟩ := hI.out
    refine q _ D (S0.trans sm) ⟨us, hDl, ?_⟩
    have e1 : ts.length = (csOnes A).length := R.length
    rw [e1, List.take_length] at ru
    exact ru
end
end K56

namespace K56
open PySem PySem.Spec PyProof.Rows L2 MyL MyD MyP
def denials : List Str := ["unsafe", "apart", "lost", "lacks", "broken", "dropped", "uncovered", "refusal", "parting", "ring", "never", "slips", "unfirm"]
def den (z : Str) : Bool := denials.any fun d => decide (z = d)
/-- what the law leans on, of a class -/
structure CI (P : Program) (w : World) (K : PySem.W.Frag) (mg : Str → Option Value) (base : Heap) (A : Adr) (c : Cl) : Prop where
  kd : PySem.W.kitOne K (.ref c.C) (.ref A.c_Denial) = some (den c.z)
  bo : BoolC P w K mg base 1 c.C (!den c.z)
def spRight (P : Program) (w : World) (K : PySem.W.Frag) (mg : Str → Option Value) (base : Heap) (A : Adr) : Sp := fun vs H Q _ => ∃ (p u : Addr) (us : List V) (cs : List Cl) (ds es : List PyData), vs = [.ref p, .ref u] ∧ RowsAt K A H es p cs ∧ H u = some (.tup us) ∧ DpRs H us es ∧ FxAll ds es ∧ (∀ d ∈ ds, Okd 4 d) ∧ ds.length ≤ 5 ∧ cs.length ≤ 50 ∧
  (∀ c ∈ cs, CI P w K mg base A c) ∧ (cs.map (·.nm)).Nodup ∧ ∀ H', Same H H' → Q (.bl true) H'
theorem in_den (z : Str) : inV (.str z) (denials.map V.str) = den z := by
  unfold inV den
  rw [List.any_map]
  congr 1
  funext d
  show eqV (.str d) (.str z) = decide (z = d)
  by_cases h : z = d
  · subst h; simp [eqV]
  · simp [eqV, h, Ne.symm h]
theorem flat_den : (denials.map V.str).all flatV = true := by decide +kernel
section
variable {P : Program} {w : World} {K : PySem.W.Frag} {mg : Str → Option Value} {base : Heap} {A : Adr}
local macro_rules | `(tactic| walk_at "sames") => `(tactic| repeat (first
  | exact Same.refl _
  | refine Same.new ?_ (by assumption)
  | refine Same.trans ?_ (by assumption)))
local macro_rules | `(tactic| walk_at "ne") => `(tactic| first
  | assumption
  | exact Ne.symm (by assumption)
  | exact ne_new (by assumption) (by walk_at "look")
  | exact ne_new' (by assumption) (by walk_at "look")
  | exact ne_of (by walk_at "look") (by walk_at "look") (by intro z; cases z))
local macro_rules | `(tactic| walk_at "look") => `(tactic| first
  | assumption
  | exact upd_same
  | (refine upd_new (by assumption) ?_
     walk_at "look")
  | (refine (upd_ne ?_).trans ?_
     · walk_at "ne"
     · walk_at "look")
  | (refine Kp.get (by assumption) ?_ ?_
     · walk_at "ne"
     · walk_at "look")
  | (refine Same.get (by assumption) ?_
     walk_at "look"))
local macro_rules | `(tactic| walk_at "lenv") => `(tactic| first
  | exact Or.inl ⟨_, SqL.of (by walk_at "look"), rfl⟩
  | exact Or.inr ⟨_, SqT.of (by walk_at "look"), rfl⟩
  | exact ⟨line_le (by omega), rfl⟩)
local macro_rules | `(tactic| walk_at "cond") => `(tactic| first
  | assumption
  | rfl
  | exact Nat.zero_le _
  | exact Nat.le_of_ble_eq_true rfl
  | decide
  | omega
  | exact line_lt (by (try simp only [List.length_map, List.length_append, List.length_cons, List.length_nil]); omega)
  | exact line_le (by (try simp only [List.length_map, List.length_append, List.length_cons, List.length_nil]); omega)
  | (dsimp only; omega)
  | exact ⟨by decide, by decide⟩
  | exact ⟨by decide, by decide, by decide⟩
  | exact Or.inl ⟨by decide, by decide⟩
  | exact Or.inl ⟨by omega, by omega⟩
  | exact Or.inr ⟨by omega, by omega⟩)
local macro_rules | `(tactic| walk_at "kit") => `(tactic| first | assumption | exact kit_NoneType_int | exact kit_NoneType_bool | exact kit_NoneType_str | exact kit_NoneType_list | exact kit_NoneType_tuple | exact kit_NoneType_dict | exact kit_bool_int | exact kit_bool_bool | exact kit_bool_str | exact kit_bool_list | exact kit_bool_tuple | exact kit_bool_dict | exact kit_int_int | exact kit_int_bool | exact kit_int_str | exact kit_int_list | exact kit_int_tuple | exact kit_int_dict | exact kit_str_int | exact kit_str_bool | exact kit_str_str | exact kit_str_list | exact kit_str_tuple | exact kit_str_dict | exact kit_list_int | exact kit_list_bool | exact kit_list_str | exact kit_list_list | exact kit_list_tuple | exact kit_list_dict | exact kit_tuple_int | exact kit_tuple_bool | exact kit_tuple_str | exact kit_tuple_list | exact kit_tuple_tuple | exact kit_tuple_dict | exact kit_dict_int | exact kit_dict_bool | exact kit_dict_str | exact kit_dict_list | exact kit_dict_tuple | exact kit_dict_dict)
local macro_rules | `(tactic| walk_at "ty") => `(tactic| first | assumption | exact tyx_str | exact tyx_int | exact tyx_bl | exact tyx_non | exact tyx_lst (by walk_at "look") | exact tyx_tup (by walk_at "look") | exact tyx_dK (by walk_at "look"))
local macro_rules | `(tactic| walk_at "s") => `(tactic| first
  | refine ⟨_, rfl, ?_⟩
  | refine ⟨_, _, rfl, rfl, ?_⟩
  | refine ⟨_, _, _, _, rfl, rfl, SqL.of (by walk_at "look"), by rfl, ?_⟩
  | refine ⟨_, _, _, _, rfl, rfl, SqT.of (by walk_at "look"), by rfl, ?_⟩
  | refine ⟨_, _, _, _, rfl, rfl, by walk_at "look", by rfl, ?_⟩
  | refine ⟨_, _, rfl, by walk_at "lenv", ?_⟩
  | refine Or.inl ⟨_, rfl, ?_⟩
  | refine ⟨_, _, _, _, _, rfl, ClsV.ty _, by walk_at "ty", by walk_at "kit", ?_⟩
  | refine And.intro (by walk_at "cond") ?_
  | refine ⟨_, _, rfl, SqT.of (by walk_at "look"), rfl, ?_⟩
  | refine ⟨_, _, rfl, SqL.of (by walk_at "look"), rfl, ?_⟩
  | refine And.intro (Or.inl ⟨rfl, _, SqL.of (by walk_at "look")⟩) ?_
  | refine ⟨_, _, _, rfl, rfl, by walk_at "look", by walk_at "cond", ?_⟩
  | refine ⟨_, _, _, _, rfl, rfl, by walk_at "look", by walk_at "look", by walk_at "cond", ?_⟩
  | refine And.intro ⟨_, rfl⟩ ?_
  | refine And.intro ⟨_, SqL.of (by walk_at "look")⟩ ?_
  | refine ⟨_, _, rfl, SqL.of (by walk_at "look"), ?_⟩
  | refine ⟨_, _, rfl, (by assumption : SqL _ _ _ _), ?_⟩
  | refine ⟨_, by walk_at "look", by walk_at "cond", ?_⟩
  | refine ⟨_, _, rfl, Or.inr (SqT.of (by walk_at "look")), ?_⟩
  | refine ⟨_, _, rfl, Or.inl (SqL.of (by walk_at "look")), ?_⟩
  | refine ⟨_, _, rfl, ?_⟩
  | refine ⟨_, _, _, rfl, by walk_at "look", by assumption, ?_⟩
  | refine ⟨_, _, true, _, _, rfl, rfl, ClsV.own _, kit_own (by assumption) (by assumption), rfl, by walk_at "look", ?_⟩
  | refine ⟨_, _, _, _, rfl, ErAt.same (by assumption) (by walk_at "sames"), by assumption, by assumption, ?_⟩
  | refine ⟨_, _, _, _, rfl, ErAt.same (by assumption) (by walk_at "sames"), by assumption, by assumption, by assumption, ?_⟩
  | refine if_t (by first | rfl | assumption | decide) ?_
  | refine if_f (by assumption) ?_
  | refine if_f (by first | decide | exact Bool.false_ne_true) ?_
  | refine fun (_ : _ ≠ sysModules) => ?_
  | refine fun (_ : ErAt _ _ _ _) => ?_
  | refine fun _ _ => ?_)

theorem ok_l_rows_right (PF : Prg P) (T : Txt K mg A) : FnG P w K mg base CX0 10 A.l_rows_right (spRight P w K mg base A) := by
  obtain ⟨fd, F⟩ := T.F_l_rows_right
  refine Fun_okN F sc_l_rows_right (fun vs H Q E h => ?_) (fun _ _ _ _ _ _ us hl => match us, hl with | [_, _], _ => rfl) (fun cdv A' outer s H vs Q E hr hg h => ?_)
  · obtain ⟨_, _, _, _, _, _, rfl, _⟩ := h
    rfl
  obtain ⟨p, u, us, cs, ds, es, rfl, R, hu, hus, fx, hok, hl5, hc50, ci, nd, q⟩ := h
  refine ⟨_, ((pss_cons (ps_set (i := 2) sc_l_rows_right.nd rfl (Or.inl rfl) (pe_lst (pa_cons pe_str (pa_cons pe_str (pa_cons pe_str (pa_cons pe_str (pa_cons pe_str (pa_cons pe_str (pa_cons pe_str (pa_cons pe_str (pa_cons pe_str (pa_cons pe_str (pa_cons pe_str (pa_cons pe_str (pa_cons pe_str pa_nil)))))))))))))))
    (pss_cons (ps_for PassesOwn.never rfl (pi_enum (by rfl) T.n_enumerate (pa_cons (pv 0) pa_nil)) (pg_tup (by rfl) (pgs_cons (pg_name (i := 3) sc_l_rows_right.nd rfl (Or.inr rfl)) (pgs_cons (pg_name (i := 4) sc_l_rows_right.nd rfl (Or.inl rfl)) pgs_nil)))
    (pss_cons (ps_asg (pv 4) (pg_tup (by rfl) (pgs_cons (pg_name (i := 5) sc_l_rows_right.nd rfl (Or.inr rfl)) (pgs_cons (pg_name (i := 6) sc_l_rows_right.nd rfl (Or.inl rfl)) (pgs_cons (pg_name (i := 7) sc_l_rows_right.nd rfl (Or.inl rfl)) (pgs_cons (pg_name (i := 8) sc_l_rows_right.nd rfl (Or.inl rfl)) pgs_nil))))))
    (pss_cons (ps_if (PW.pt (pw_or (pt_cmpR op_ne (pe_callB (MyD.call_reprR T.sm hg hr.units) (by rfl) T.n_repr (by decide +kernel) (pa_cons (pv 7) pa_nil)) (pe_callB (MyD.call_reprR T.sm hg hr.units) (by rfl) T.n_repr (by decide +kernel) (pa_cons (pv 1) pa_nil)) (nomark _)) (pw_or (pt_cmpR op_ne (pe_callB (MyD.call_reprR T.sm hg hr.units) (by rfl) T.n_repr (by decide +kernel) (pa_cons (pe_fld (pv 5) rfl) pa_nil)) (pe_callB (MyD.call_reprR T.sm hg hr.units) (by rfl) T.n_repr (by decide +kernel) (pa_cons (pv 1) pa_nil)) (nomark _)) (pw_or (pt_cmpR op_ne (pe_fld (pv 5) rfl) (pv 8) (nomark _)) (pw_or1 (pt_cmpR op_ne (pe_fld (pv 6) rfl) (pv 8) (nomark _))))))) (pss_one (ps_ret pe_bl)) pss_nil)
    (pss_cons (ps_if (PW.pt (pw_or (pt_not (pt_cmpR (MyP.op_ownEq T.isq (fn_Paper_eq T) (hr.mono (by decide)) hg) (pv 5) (pv 6) (nomark _))) (pw_or (pt_cmpR op_ne (pe_callB (MyD.call_reprR T.sm hg hr.units) (by rfl) T.n_repr (by decide +kernel) (pa_cons (pe_fld (pv 6) rfl) pa_nil)) (pe_callB (MyD.call_reprR T.sm hg hr.units) (by rfl) T.n_repr (by decide +kernel) (pa_cons (pv 1) pa_nil)) (nomark _)) (pw_or1 (pt_cmpR op_ne (pe_callTy (MyP.call_boolO (n := 1) (hr.mono (by decide)) hg) (by rfl) T.n_bool (by decide +kernel) (pa_cons (pv 5) pa_nil)) (pe_cmpR op_notIn_seq (pv 8) (pv 2) (by rfl)) (nomark _)))))) (pss_one (ps_ret pe_bl)) pss_nil)
    (pss_cons (ps_if (PW.pt (pw_or (pt_cmpR op_ne (pe_callB call_isi (by rfl) T.n_isinstance (by decide +kernel) (pa_cons (pv 5) (pa_cons (pe_glob (v := .ref A.c_Denial) (u := .ref A.c_Denial) rfl T.m_Denial rfl) pa_nil))) (pe_cmpR op_in_seq (pv 8) (pv 2) (by rfl)) (nomark _)) (pw_or1 (pt_not (pt_val (pe_callB call_isi (by rfl) T.n_isinstance (by decide +kernel) (pa_cons (pv 5) (pa_cons (pe_glob (v := .ref A.c_Paper) (u := .ref A.c_Paper) rfl T.m_Paper rfl) pa_nil)))))))) (pss_one (ps_ret pe_bl)) pss_nil)
    (pss_one (ps_if (PW.pt (pw_or (pt_cmpR (op_neD hr.units) (pe_lc (own := [(("_law_spot" : PySem.Str), 9), (("_law_other" : PySem.Str), 10)]) rfl sc_l_rows_right.nd (pi_enum (by rfl) T.n_enumerate (pa_cons (pv 0) pa_nil)) (blkOk_by (own := [(("_law_spot" : PySem.Str), 9), (("_law_other" : PySem.Str), 10)]) (N := [("_law_rows" : PySem.Str), ("_law_due" : PySem.Str), ("_law_denials" : PySem.Str), ("_law_at" : PySem.Str), ("_law_row" : PySem.Str), ("_law_place" : PySem.Str), ("_law_named" : PySem.Str), ("_law_told" : PySem.Str), ("_law_word" : PySem.Str), ("_law_spot" : PySem.Str), ("_law_other" : PySem.Str)]) (sc := defScope s_l_rows_right) (by decide +kernel)) (fun _ _ _ _ _ => (show PG _ _ (gTup K 2 _) from (pg_tup (by rfl) (pgs_cons (pg_name (i := 9) sc_l_rows_right.nd rfl (Or.inl rfl)) (pgs_cons (pg_name (i := 10) sc_l_rows_right.nd rfl (Or.inl rfl)) pgs_nil))))) (fun _ _ _ _ _ => (pts_one (PW.pt (pw_and (pt_cmpR op_ne (pv 9) (pv 3) (nomark _)) (pw_and1 (pt_cmpR (show OpR _ _ (rOwnEq K A.q (spEq K A)) from MyP.op_ownEq T.isq (fn_Paper_eq T) (hr.mono (by decide)) hg) (pe_ix (show IxR _ (rIxT K) from ix_tup) (pv 10) pe_int (fun _ _ => rfl)) (pv 5) (nomark _))))))) (fun _ _ _ _ _ => (pv 10))) (pe_lst pa_nil) (nomark _)) (pw_or1 (pt_cmpR (MyP.op_ownEq T.isq (fn_Paper_eq T) (hr.mono (by decide)) hg) (pv 5) (pv 1) (nomark _))))) (pss_one (ps_ret pe_bl)) pss_nil)))))))
    (pss_one (ps_ret pe_bl))))), ?_⟩
  obtain ⟨ts, hp, R⟩ := R
  have lts : ts.length = cs.length := R.length
  have tup : TupAll es := fx.tupA hok
  have les : es.length ≤ 5 := by rw [← fx.length]; exact hl5
  have sf : Shf 9 (_) (.tuple es) := Shf.tuple (n := 8) (l := Ln 4) (m := 5) les (FxAll.shf (n := 4) fx hok)
  have r1 : PyData.showable (.tuple es) = true := sf.s
  have r2 : PyData.depth (.tuple es) ≤ 60 := Nat.le_trans sf.d (by decide)
  have r3 : (PyData.shown (.tuple es)).length ≤ sizeLine := Nat.le_trans sf.l (line_le (by decide))
  clear sf
  refine sq (as1 (tl1 ?_))
  refine ⟨line_le (by exact Nat.le_of_ble_eq_true rfl), fun dn hdn => ?_⟩
  refine nx1 (σ := [some (.ref p), some (.ref u), some (.ref dn), none, none, none, none, none, none, none, none]) ?_
  have S1 := Same.new (o := .lst (denials.map V.str)) (Same.refl H) hdn
  have hd1 : upd H dn (.lst (denials.map V.str)) dn = some (.lst (denials.map V.str)) := upd_same
  change (tSeq _ _) _ _ (upd H dn (.lst (denials.map V.str)))
  generalize upd H dn (.lst (denials.map V.str)) = H1 at S1 hd1 ⊢
  refine sq ?_
  refine ⟨_, rfl, _, ts, rfl, SqL.of (S1 _ _ hp), ?_⟩
  refine for_it (walk_enum (xs := ts)) (fun i σ H' => Iv (∃ a b c d e f g k : Option V, σ = [some (.ref p), some (.ref u), some (.ref dn), a, b, c, d, e, f, g, k] ∧ Same H1 H')) (Iv.mk ⟨_, _, _, _, _, _, _, _, rfl, Same.refl _⟩) (fun i σ H' _ h => SqL.of (by obtain ⟨_, _, _, _, _, _, _, _, _, S⟩ := h.out; exact S _ _ (S1 _ _ hp))) ?_ ?_
  · intro i x σ H2 H3 hi hI hy
    obtain ⟨tu, x1, x2, rfl, hT, rfl, e1, e2⟩ := hy
    cases e1
    obtain ⟨a, b, c, d, e, f, g, k, rfl, S2⟩ := hI.out
    obtain ⟨c0, hc, tp, told, px, py, rfl, k1, X, Y, dt⟩ := R.at_ e2
    have S3 : Same H (upd H2 tu (.tup [.int i, .ref tp])) := (S1.trans S2).trans (Same.new (Same.refl _) hT)
    have hdn3 : upd H2 tu (.tup [.int i, .ref tp]) dn = some (.lst (denials.map V.str)) := (Same.new (Same.refl _) hT) _ _ (S2 _ _ hd1)
    have S13 : Same H1 (upd H2 tu (.tup [.int i, .ref tp])) := S2.trans (Same.new (Same.refl _) hT)
    refine ⟨tu, _, rfl, SqT.of upd_same, rfl, _, _, rfl, _, _, rfl, rfl, ?_⟩
    generalize upd H2 tu (.tup [.int i, .ref tp]) = H3 at S3 hdn3 S13 ⊢
    refine ⟨_, rfl, tp, _, rfl, SqT.of (S3 _ _ k1), rfl, _, _, rfl, _, _, rfl, _, _, rfl, _, _, rfl, rfl, ?_⟩
    have X3 := X.same S3
    have Y3 := Y.same S3
    have dt3 := dt.same S3
    have du3 : DpR H3 (.ref u) (.tuple es) := .tup (S3 _ _ hu) (hus.same S3)
    obtain ⟨kc, ⟨xa, xfl, rfl, xdx, xfs, xp, xvs, x1, x2, x3, x4, x5, x6, x7⟩, xsh⟩ := id X3
    obtain ⟨_, ⟨ya, yfl, rfl, ydx, yfs, yp, yvs, y1, y2, y3, y4, y5, y6, y7⟩, ysh⟩ := id Y3
    refine nx1 (σ := [some (.ref p), some (.ref u), some (.ref dn), some (.int i), some (.ref tp), some (.ref xa), some (.ref ya), some (.ref told), some (.str c0.z), g, k]) ?_
    refine sq ?_
    refine ⟨_, rfl, .ref told, _, rfl, dt3, r1, r2, r3, ?_⟩
    refine ⟨_, rfl, .ref u, _, rfl, du3, r1, r2, r3, ?_⟩
    refine ⟨rfl, _, rfl, ?_⟩
    refine if_f (by simp) ?_
    refine ⟨_, rfl, xa, _, xdx, xfs, _, rfl, x1, kc.o.c, kc.p, x3, ?_⟩
    refine ⟨.ref xp, _, rfl, .tup x4 x5, r1, r2, r3, ?_⟩
    refine ⟨_, rfl, .ref u, _, rfl, du3, r1, r2, r3, ?_⟩
    refine ⟨rfl, _, rfl, ?_⟩
    refine if_f (by simp) ?_
    refine ⟨_, rfl, xa, _, xdx, xfs, _, rfl, x1, kc.o.c, kc.w, x2, ?_⟩
    refine ⟨_, rfl, rfl, _, rfl, ?_⟩
    refine if_f (by simp) ?_
    refine ⟨_, rfl, ya, _, ydx, yfs, _, rfl, y1, kc.o.c, kc.w, y2, ?_⟩
    refine ⟨_, rfl, rfl, _, rfl, ?_⟩
    refine if_f (by simp) ?_
    refine sq ?_
    have eqs : PyData.eqv (.tuple es) (.tuple es) = true := (Tup.tup tup).eqv
    refine ⟨_, rfl, _, rfl, own_eqP T X3 Y3 (b := true) (by simp [eqs]) (fun z => absurd rfl z) ?_⟩
    refine ⟨_, rfl, if_f (by simp) ?_⟩
    refine ⟨_, rfl, ya, _, ydx, yfs, _, rfl, y1, kc.o.c, kc.p, y3, ?_⟩
    refine ⟨.ref yp, _, rfl, .tup y4 y5, r1, r2, r3, ?_⟩
    refine ⟨_, rfl, .ref u, _, rfl, du3, r1, r2, r3, ?_⟩
    refine ⟨rfl, _, rfl, ?_⟩
    refine if_f (by simp) ?_
    have ci0 := ci c0 (List.mem_of_getElem? hc)
    refine ⟨_, rfl, xa, _, xdx, xfs, _, rfl, x1, ci0.bo, ?_⟩
    refine ⟨_, rfl, _, rfl, dn, _, rfl, .inl (SqL.of hdn3), rfl, flat_den, ?_⟩
    rw [in_den]
    refine ⟨by rfl, _, rfl, ?_⟩
    refine if_f (by cases den c0.z <;> decide) ?_
    refine sq ?_
    refine ⟨_, rfl, _, _, _, _, _, rfl, ClsV.own _, kc.o.ty x1, ci0.kd, ?_⟩
    refine ⟨_, rfl, _, rfl, dn, _, rfl, .inl (SqL.of hdn3), rfl, flat_den, ?_⟩
    rw [in_den]
    refine ⟨by rfl, _, rfl, ?_⟩
    refine if_f (by simp) ?_
    refine ⟨_, rfl, _, _, _, _, _, rfl, ClsV.own _, kc.o.ty x1, kc.kP, ?_⟩
    refine ⟨_, rfl, if_f (by decide) ?_⟩
    refine sq ?_
    refine ⟨_, rfl, _, ts, rfl, SqL.of (S3 _ _ hp), fun D hD => ?_⟩
    refine lc_it (walk_enum (xs := ts)) (fun i H' => Iv (Same H3 H' ∧ H' D = some (.lst []))) (Iv.mk ⟨Same.new (Same.refl _) hD, upd_same⟩) (fun i H' _ h => SqL.of (h.out.1 _ _ (S3 _ _ hp))) ?_ ?_
    · intro i2 x H4 H5 hi2 hI2 hy
      obtain ⟨t2, z1, z2, rfl, hT2, rfl, e3, e4⟩ := hy
      cases e3
      obtain ⟨S4, hDl⟩ := hI2.out
      obtain ⟨c2, hc2, tp2, told2, qx, qy, rfl, k2, X2, _, _⟩ := R.at_ e4
      have S5 : Same H4 (upd H4 t2 (.tup [.int i2, .ref tp2])) := Same.new (Same.refl _) hT2
      refine ⟨t2, _, rfl, SqT.of upd_same, rfl, _, _, rfl, _, _, rfl, rfl, ?_⟩
      generalize upd H4 t2 (.tup [.int i2, .ref tp2]) = H5 at S5 ⊢
      refine ⟨rfl, ?_⟩
      refine ⟨_, rfl, _, rfl, by rfl, _, rfl, ?_⟩
      have S35 := S4.trans S5
      have fin : Iv (Same H3 H5 ∧ H5 D = some (.lst [])) := Iv.mk ⟨S35, S5 _ _ hDl⟩
      by_cases e : i2 = i
      · subst e
        refine if_f (by simp) ?_
        exact if_f (by decide) fin
      · refine if_t (by simp; omega) ?_
        refine ⟨_, rfl, tp2, _, _, qx, rfl, rfl, SqT.of (S35 _ _ (S3 _ _ k2)), rfl, ?_⟩
        have nn : c2.nm ≠ c0.nm := fun z => e (by
          have h1 : (cs.map (·.nm))[i2]? = some c0.nm := by rw [List.getElem?_map, hc2]; exact congrArg some z
          have h2 : (cs.map (·.nm))[i]? = some c0.nm := by rw [List.getElem?_map, hc]; rfl
          exact nodup_ix nd h1 h2)
        refine ⟨_, rfl, own_eqP T ((X2.same S3).same S35) (X3.same S35) (b := false) (by simp [nn]) (fun _ => by simp [Ne.symm nn]) ?_⟩
        refine ⟨_, rfl, ?_⟩
        exact if_f (by decide) fin
    · intro H4 hI2
      obtain ⟨S4, hDl⟩ := hI2.out
      refine ⟨line_le (by exact Nat.le_of_ble_eq_true rfl), fun D2 hD2 => ?_⟩
      have S5 := Same.new (o := .lst []) (Same.refl H4) hD2
      refine ⟨_, _, .lst (SqL.of (S5 _ _ hDl)) .nil, .lst (SqL.of upd_same) .nil, rfl, rfl, ?_⟩
      generalize upd H4 D2 (.lst []) = H5 at S5 ⊢
      refine ⟨_, rfl, ?_⟩
      refine if_f (by decide) ?_
      have S35 := S4.trans S5
      refine ⟨_, rfl, _, rfl, own_eqT T (X3.same S35) (S35 _ _ (S3 _ _ hu)) ?_⟩
      refine ⟨_, rfl, if_f (by decide) ?_⟩
      exact Iv.mk ⟨_, _, _, _, _, _, _, _, rfl, S13.trans S35⟩
  · intro σ H2 hI
    obtain ⟨a, b, c, d, e, f, g, k, rfl, S2⟩ := hI.out
    exact q _ (S1.trans S2)
end
end K56

namespace K56
open PySem PySem.Spec PyProof.Rows L2 MyL MyD MyP
mutual
theorem eqv_depth : ∀ {d e : PyData}, Tup d → Tup e → PyData.eqv d e = true → d.depth = e.depth
  | _, _, .flat a, .flat b, _ => by cases a <;> cases b <;> simp only [PyData.depth]
  | _, _, .flat a, .tup _, h => by cases a <;> simp [PyData.eqv] at h
  | _, _, .tup _, .flat b, h => by cases b <;> simp [PyData.eqv] at h
  | _, _, .tup a, .tup b, h => by
    simp only [PyData.eqv] at h
    simp only [PyData.depth]
    rw [eqvs_depth a b h]
theorem eqvs_depth : ∀ {d e : List PyData}, TupAll d → TupAll e → PyData.eqvAll d e = true → PyData.depthAll d = PyData.depthAll e
  | _, _, .nil, .nil, _ => rfl
  | _, _, .nil, .cons _ _, h => by simp [PyData.eqvAll] at h
  | _, _, .cons _ _, .nil, h => by simp [PyData.eqvAll] at h
  | _, _, .cons a q, .cons b r, h => by
    simp only [PyData.eqvAll, Bool.and_eq_true] at h
    simp only [PyData.depthAll]
    rw [eqv_depth a b h.1, eqvs_depth q r h.2]
end
theorem eqv_wrap {e : PyData} (h : Tup e) : PyData.eqv e (.tuple [e, .int 0]) = false := by
  cases q : PyData.eqv e (.tuple [e, .int 0]) with
  | false => rfl
  | true =>
    have := eqv_depth h (.tup (.cons h (.cons (.flat (.int 0)) .nil))) q
    simp only [PyData.depth, PyData.depthAll] at this
    omega
theorem eqvAll_at : ∀ {xs ys : List PyData} {i : Nat} {x y : PyData}, PyData.eqvAll xs ys = true → xs[i]? = some x → ys[i]? = some y → PyData.eqv x y = true
  | _ :: _, _ :: _, 0, _, _, h, h1, h2 => by
    cases h1; cases h2
    simp only [PyData.eqvAll, Bool.and_eq_true] at h
    exact h.1
  | _ :: xs, _ :: ys, i + 1, _, _, h, h1, h2 => by
    simp only [PyData.eqvAll, Bool.and_eq_true] at h
    exact eqvAll_at (i := i) h.2 (by simpa using h1) (by simpa using h2)
  | [], _, _, _, _, _, h1, _ => by simp at h1
  | _ :: _, [], _, _, _, _, _, h2 => by simp at h2
theorem eqv_at {xs ys : List PyData} {i : Nat} {x y : PyData} (h1 : xs[i]? = some x) (h2 : ys[i]? = some y) (h : PyData.eqv x y = false) : PyData.eqv (.tuple xs) (.tuple ys) = false := by
  simp only [PyData.eqv]
  cases q : PyData.eqvAll xs ys with
  | false => rfl
  | true => rw [eqvAll_at q h1 h2] at h; cases h
/-- rows of papers and of unlike ones -/
inductive Prs2 (K : PySem.W.Frag) (A : Adr) (H : Hp) : List V → List V → Prop
  | nil : Prs2 K A H [] []
  | cons {t u : V} {ts us : List V} {C : Addr} {nm z : Str} {es fs : List PyData} : RowAt K A H t C nm z es → RowAt K A H u C nm z fs → PyData.eqv (.tuple es) (.tuple fs) = false → PyData.eqv (.tuple es) (.tuple es) = true → Prs2 K A H ts us → Prs2 K A H (t :: ts) (u :: us)
theorem Prs2.same {K : PySem.W.Frag} {A : Adr} {H H' : Hp} (S : Same H H') : ∀ {ts us : List V}, Prs2 K A H ts us → Prs2 K A H' ts us
  | _, _, .nil => .nil
  | _, _, .cons a b c d q => .cons (a.same S) (b.same S) c d (q.same S)
theorem Prs2.app {K : PySem.W.Frag} {A : Adr} {H : Hp} : ∀ {ts us ts' us' : List V}, Prs2 K A H ts us → Prs2 K A H ts' us' → Prs2 K A H (ts ++ ts') (us ++ us')
  | _, _, _, _, .nil, h => h
  | _, _, _, _, .cons a b c d q, h => .cons a b c d (q.app h)
theorem Prs2.length {K : PySem.W.Frag} {A : Adr} {H : Hp} : ∀ {ts us : List V}, Prs2 K A H ts us → ts.length = us.length
  | _, _, .nil => rfl
  | _, _, .cons _ _ _ _ q => by rw [List.length_cons, List.length_cons, q.length]
theorem Prs2.at_ {K : PySem.W.Frag} {A : Adr} {H : Hp} : ∀ {ts us : List V} {i : Nat} {t : V}, Prs2 K A H ts us → ts[i]? = some t → ∃ u C nm z es fs, us[i]? = some u ∧ RowAt K A H t C nm z es ∧ RowAt K A H u C nm z fs ∧ PyData.eqv (.tuple es) (.tuple fs) = false ∧ PyData.eqv (.tuple es) (.tuple es) = true
  | _, _, 0, _, .cons a b c d q, h => by cases h; exact ⟨_, _, _, _, _, _, rfl, a, b, c, d⟩
  | _, _, i + 1, _, .cons a b c d q, h => Prs2.at_ (i := i) q (by simpa using h)
theorem Prs2.of {K : PySem.W.Frag} {A : Adr} {H : Hp} {es fs : List PyData} (h : PyData.eqv (.tuple es) (.tuple fs) = false) (h2 : PyData.eqv (.tuple es) (.tuple es) = true) : ∀ {ts us : List V} {cs : List Cl}, RowsIs K A H es ts cs → RowsIs K A H fs us cs → Prs2 K A H ts us
  | _, _, _, .nil, .nil => .nil
  | _, _, _, .cons a q, .cons b r => .cons a b h h2 (Prs2.of h h2 q r)
def PrsAt (K : PySem.W.Frag) (A : Adr) (H : Hp) (l o : Addr) (n : Nat) : Prop := ∃ ts us, H l = some (.lst ts) ∧ H o = some (.lst us) ∧ Prs2 K A H ts us ∧ ts.length ≤ n
theorem PrsAt.same {K : PySem.W.Frag} {A : Adr} {H H' : Hp} {l o : Addr} {n : Nat} (h : PrsAt K A H l o n) (S : Same H H') : PrsAt K A H' l o n := by
  obtain ⟨ts, us, h1, h2, h3, h4⟩ := h
  exact ⟨ts, us, S _ _ h1, S _ _ h2, h3.same S, h4⟩
/-- a row's part, exchanged -/
def spUnlike (K : PySem.W.Frag) : Sp := fun vs H Q _ => ∃ (W : Wl) (m : Nat) (a : Addr) (ws : List V) (ds es : List PyData), vs = [.ref W.w, .ref a] ∧ WellAt H W m ∧ m < 900000 ∧ a ≠ W.w ∧ H a = some (.lst ws) ∧ (∀ H', Kp W.w H H' → DpRs H' ws ds) ∧ FxAll ds es ∧ (∀ d ∈ ds, Okd 3 d) ∧ ds.length = 5 ∧ ∀ H', Kp W.w H H' → Q (.bl true) H'
theorem cut_set {ws : List V} {k : Nat} (h : ws.length = 5) (hk : k < 5) (x : V) : cutV ws none (some (k : Int)) ++ [x] ++ cutV ws (some ((k : Int) + 1)) none = ws.set k x := by
  match ws, h with
  | [w1, w2, w3, w4, w5], _ =>
    match k, hk with
    | 0, _ => rfl
    | 1, _ => rfl
    | 2, _ => rfl
    | 3, _ => rfl
    | 4, _ => rfl
theorem dprs_set {H : Hp} {v : V} {d : PyData} : ∀ {vs : List V} {ds : List PyData} (k : Nat), DpRs H vs ds → DpR H v d → DpRs H (vs.set k v) (ds.set k d)
  | _, _, _, .nil, _ => .nil
  | _, _, 0, .cons _ q, h => .cons h q
  | _, _, k + 1, .cons a q, h => .cons a (dprs_set k q h)
theorem _root_.MyD.Okd.mono {n : Nat} {d : PyData} (h : Okd n d) : ∀ m, n ≤ m → Okd m d := by
  induction h with
  | leaf l => exact fun m _ => .leaf l
  | list hl _ ih =>
    intro m hm
    obtain ⟨m, rfl⟩ : ∃ j, m = j + 1 := ⟨m - 1, by omega⟩
    exact .list hl fun x hx => ih x hx m (by omega)
  | tup hl _ ih =>
    intro m hm
    obtain ⟨m, rfl⟩ : ∃ j, m = j + 1 := ⟨m - 1, by omega⟩
    exact .tup hl fun x hx => ih x hx m (by omega)
  | dict hl h1 h2 h3 _ ih =>
    intro m hm
    obtain ⟨m, rfl⟩ : ∃ j, m = j + 1 := ⟨m - 1, by omega⟩
    exact .dict hl h1 h2 h3 fun x hx => ih x hx m (by omega)
theorem tupAll_take : ∀ {es : List PyData} (j : Nat), TupAll es → TupAll (es.take j)
  | _, 0, _ => .nil
  | _, _ + 1, .nil => .nil
  | _, j + 1, .cons a q => .cons a (tupAll_take j q)
theorem sqg {t u : TS} {D : Ends} {σ : L2.St} {H : Hp} {G : L2.St → Hp → Prop} (rest : ∀ σ' H', G σ' H' → u D σ' H') (main : (∀ σ' H', G σ' H' → u D σ' H') → t { D with nx := u D } σ H) : tSeq t u D σ H := main rest
theorem PrsAt.mono {K : PySem.W.Frag} {A : Adr} {H : Hp} {l o : Addr} {n m : Nat} (h : PrsAt K A H l o n) (hm : n ≤ m) : PrsAt K A H l o m := by
  obtain ⟨ts, us, h1, h2, h3, h4⟩ := h
  exact ⟨ts, us, h1, h2, h3, Nat.le_trans h4 hm⟩
/-- rows, others = rows + .., others + .. -/
theorem stepX {K K' : PySem.W.Frag} {A : Adr} {H : Hp} {σ : L2.St} {D : Ends} {l o : Addr} {n m N : Nat} {e1 e2 : TE} {cs : List Cl} {es fs : List PyData} (h4 : σ[4]? = some (some (.ref l))) (h5 : σ[5]? = some (some (.ref o))) (hP : PrsAt K A H l o n) (hnm : n + m ≤ 1000) (hl : cs.length ≤ m) (hN : 2 = N)
    (r1 : ∀ R : VK, (∀ H' p, Same H H' → RowsAt K A H' es p cs → R (.ref p) H') → e1 σ H R) (r2 : ∀ {H1}, Same H H1 → ∀ R : VK, (∀ H' p, Same H1 H' → RowsAt K A H' fs p cs → R (.ref p) H') → e2 σ H1 R)
    (ne : PyData.eqv (.tuple es) (.tuple fs) = false) (tr : PyData.eqv (.tuple es) (.tuple es) = true)
    (q : ∀ H' l o, Same H H' → PrsAt K A H' l o (n + m) → D.nx ((σ.set 4 (some (.ref l))).set 5 (some (.ref o))) H') :
    tAsg (tTup (tCons (tOp rCat (tVar 4) e1) (tCons (tOp rCat (tVar 5) e2) tNil))) (gTup K' N (gCons (gName 4) (gCons (gName 5) gNil))) D σ H := by
  subst hN
  obtain ⟨ts, us, hts, hus, hPr, hn⟩ := hP
  have hul := hPr.length
  refine ⟨_, h4, ?_⟩
  refine r1 _ fun H1 p1 S1 ⟨ts1, g1, R1⟩ => ?_
  have l1 := R1.length
  refine ⟨l, p1, ts, ts1, rfl, rfl, S1 _ _ hts, g1, line_le (by omega), fun a1 ha1 => ?_⟩
  have T1 := Same.new (o := .lst (ts ++ ts1)) (Same.refl H1) ha1
  have k1 : upd H1 a1 (.lst (ts ++ ts1)) a1 = some (.lst (ts ++ ts1)) := upd_same
  change tCons _ _ _ (upd H1 a1 (.lst (ts ++ ts1))) _
  generalize upd H1 a1 (.lst (ts ++ ts1)) = H2 at T1 k1 ⊢
  refine ⟨_, h5, ?_⟩
  have S02 := S1.trans T1
  refine r2 S02 _ fun H3 p2 S3 ⟨us1, g2, R2⟩ => ?_
  have l2 := R2.length
  refine ⟨o, p2, us, us1, rfl, rfl, (S02.trans S3) _ _ hus, g2, line_le (by omega), fun a2 ha2 => ?_⟩
  have T2 := Same.new (o := .lst (us ++ us1)) (Same.refl H3) ha2
  have k2 : upd H3 a2 (.lst (us ++ us1)) a2 = some (.lst (us ++ us1)) := upd_same
  change tNil _ (upd H3 a2 (.lst (us ++ us1))) _
  generalize upd H3 a2 (.lst (us ++ us1)) = H4 at T2 k2 ⊢
  refine ⟨line_le (by exact Nat.le_of_ble_eq_true rfl), fun tt htt => ?_⟩
  have T3 := Same.new (o := .tup [.ref a1, .ref a2]) (Same.refl H4) htt
  refine ⟨tt, _, rfl, SqT.of upd_same, rfl, _, _, rfl, _, _, rfl, rfl, ?_⟩
  have S35 := T2.trans T3
  have S25 := S3.trans S35
  have S05 := S02.trans S25
  refine q _ a1 a2 S05 ⟨ts ++ ts1, us ++ us1, S25 _ _ k1, T3 _ _ k2, (hPr.same S05).app (Prs2.of ne tr (R1.same (T1.trans S25)) (R2.same S35)), by rw [List.length_append]; omega⟩
section
variable {P : Program} {w : World} {K : PySem.W.Frag} {mg : Str → Option Value} {base : Heap} {A : Adr}
local macro_rules | `(tactic| walk_at "sames") => `(tactic| repeat (first
  | exact Same.refl _
  | refine Same.new ?_ (by assumption)
  | refine Same.trans ?_ (by assumption)))
local macro_rules | `(tactic| walk_at "ne") => `(tactic| first
  | assumption
  | exact Ne.symm (by assumption)
  | exact ne_new (by assumption) (by walk_at "look")
  | exact ne_new' (by assumption) (by walk_at "look")
  | exact ne_of (by walk_at "look") (by walk_at "look") (by intro z; cases z))
local macro_rules | `(tactic| walk_at "look") => `(tactic| first
  | assumption
  | exact upd_same
  | (refine upd_new (by assumption) ?_
     walk_at "look")
  | (refine (upd_ne ?_).trans ?_
     · walk_at "ne"
     · walk_at "look")
  | (refine Kp.get (by assumption) ?_ ?_
     · walk_at "ne"
     · walk_at "look")
  | (refine Same.get (by assumption) ?_
     walk_at "look"))
local macro_rules | `(tactic| walk_at "lenv") => `(tactic| first
  | exact Or.inl ⟨_, SqL.of (by walk_at "look"), rfl⟩
  | exact Or.inr ⟨_, SqT.of (by walk_at "look"), rfl⟩
  | exact ⟨line_le (by omega), rfl⟩)
local macro_rules | `(tactic| walk_at "cond") => `(tactic| first
  | assumption
  | rfl
  | exact Nat.zero_le _
  | exact Nat.le_of_ble_eq_true rfl
  | decide
  | omega
  | exact line_lt (by (try simp only [List.length_map, List.length_append, List.length_cons, List.length_nil]); omega)
  | exact line_le (by (try simp only [List.length_map, List.length_append, List.length_cons, List.length_nil]); omega)
  | (dsimp only; omega)
  | exact ⟨by decide, by decide⟩
  | exact ⟨by decide, by decide, by decide⟩
  | exact Or.inl ⟨by decide, by decide⟩
  | exact Or.inl ⟨by omega, by omega⟩
  | exact Or.inr ⟨by omega, by omega⟩)
local macro_rules | `(tactic| walk_at "kit") => `(tactic| first | assumption | exact kit_NoneType_int | exact kit_NoneType_bool | exact kit_NoneType_str | exact kit_NoneType_list | exact kit_NoneType_tuple | exact kit_NoneType_dict | exact kit_bool_int | exact kit_bool_bool | exact kit_bool_str | exact kit_bool_list | exact kit_bool_tuple | exact kit_bool_dict | exact kit_int_int | exact kit_int_bool | exact kit_int_str | exact kit_int_list | exact kit_int_tuple | exact kit_int_dict | exact kit_str_int | exact kit_str_bool | exact kit_str_str | exact kit_str_list | exact kit_str_tuple | exact kit_str_dict | exact kit_list_int | exact kit_list_bool | exact kit_list_str | exact kit_list_list | exact kit_list_tuple | exact kit_list_dict | exact kit_tuple_int | exact kit_tuple_bool | exact kit_tuple_str | exact kit_tuple_list | exact kit_tuple_tuple | exact kit_tuple_dict | exact kit_dict_int | exact kit_dict_bool | exact kit_dict_str | exact kit_dict_list | exact kit_dict_tuple | exact kit_dict_dict)
local macro_rules | `(tactic| walk_at "ty") => `(tactic| first | assumption | exact tyx_str | exact tyx_int | exact tyx_bl | exact tyx_non | exact tyx_lst (by walk_at "look") | exact tyx_tup (by walk_at "look") | exact tyx_dK (by walk_at "look"))
local macro_rules | `(tactic| walk_at "s") => `(tactic| first
  | refine ⟨_, rfl, ?_⟩
  | refine ⟨_, _, rfl, rfl, ?_⟩
  | refine ⟨_, _, _, _, rfl, rfl, SqL.of (by walk_at "look"), by rfl, ?_⟩
  | refine ⟨_, _, _, _, rfl, rfl, SqT.of (by walk_at "look"), by rfl, ?_⟩
  | refine ⟨_, _, _, _, rfl, rfl, by walk_at "look", by rfl, ?_⟩
  | refine ⟨_, _, rfl, by walk_at "lenv", ?_⟩
  | refine Or.inl ⟨_, rfl, ?_⟩
  | refine ⟨_, _, _, _, _, rfl, ClsV.ty _, by walk_at "ty", by walk_at "kit", ?_⟩
  | refine And.intro (by walk_at "cond") ?_
  | refine ⟨_, _, rfl, SqT.of (by walk_at "look"), rfl, ?_⟩
  | refine ⟨_, _, rfl, SqL.of (by walk_at "look"), rfl, ?_⟩
  | refine And.intro (Or.inl ⟨rfl, _, SqL.of (by walk_at "look")⟩) ?_
  | refine ⟨_, _, _, rfl, rfl, by walk_at "look", by walk_at "cond", ?_⟩
  | refine ⟨_, _, _, _, rfl, rfl, by walk_at "look", by walk_at "look", by walk_at "cond", ?_⟩
  | refine And.intro ⟨_, rfl⟩ ?_
  | refine And.intro ⟨_, SqL.of (by walk_at "look")⟩ ?_
  | refine ⟨_, _, rfl, SqL.of (by walk_at "look"), ?_⟩
  | refine ⟨_, _, rfl, (by assumption : SqL _ _ _ _), ?_⟩
  | refine ⟨_, by walk_at "look", by walk_at "cond", ?_⟩
  | refine ⟨_, _, rfl, Or.inr (SqT.of (by walk_at "look")), ?_⟩
  | refine ⟨_, _, rfl, Or.inl (SqL.of (by walk_at "look")), ?_⟩
  | refine ⟨_, _, rfl, ?_⟩
  | refine ⟨_, _, _, rfl, by walk_at "look", by assumption, ?_⟩
  | refine ⟨_, _, true, _, _, rfl, rfl, ClsV.own _, kit_own (by assumption) (by assumption), rfl, by walk_at "look", ?_⟩
  | refine ⟨_, _, _, _, rfl, ErAt.same (by assumption) (by walk_at "sames"), by assumption, by assumption, ?_⟩
  | refine ⟨_, _, _, _, rfl, ErAt.same (by assumption) (by walk_at "sames"), by assumption, by assumption, by assumption, ?_⟩
  | refine if_t (by first | rfl | assumption | decide) ?_
  | refine if_f (by assumption) ?_
  | refine if_f (by first | decide | exact Bool.false_ne_true) ?_
  | refine fun (_ : _ ≠ sysModules) => ?_
  | refine fun (_ : ErAt _ _ _ _) => ?_
  | refine fun _ _ => ?_)

theorem ok_l_unlike_right (PF : Prg P) (T : Txt K mg A) : FnG P w K mg base CX0 11 A.l_unlike_right (spUnlike K) := by
  obtain ⟨fd, F⟩ := T.F_l_unlike_right
  refine Fun_okN F sc_l_unlike_right (fun vs H Q E h => ?_) (fun _ _ _ _ _ _ us hl => match us, hl with | [_, _], _ => rfl) (fun cdv A' outer s H vs Q E hr hg h => ?_)
  · obtain ⟨_, _, _, _, _, _, rfl, _⟩ := h
    rfl
  obtain ⟨W, m, a, ws, ds, es, rfl, hW, hm, hne, ha, hst, fx, hok, hl5, q⟩ := h
  refine ⟨_, ((pss_cons (ps_set (i := 2) sc_l_unlike_right.nd rfl (Or.inl rfl) (pe_callGd (ok_l_drip T) (hr.mono (by decide)) hg rfl T.m_l_drip T.k_l_drip pass0 (pa_cons (pv 0) (pa_cons pe_int pa_nil))))
    (pss_cons (ps_set (i := 3) sc_l_unlike_right.nd rfl (Or.inl rfl) (pe_op op_cat (pe_op op_cat (pe_slice sl_list (pv 1) po_none (po_some (pv 2))) (pe_lst (pa_cons (pe_lst (pa_cons (pe_ix ix_list (pv 1) (pv 2) (fun _ _ => rfl)) (pa_cons pe_int pa_nil))) pa_nil))) (pe_slice sl_list (pv 1) (po_some (pe_op op_add (pv 2) pe_int)) po_none)))
    (pss_cons (ps_asg (pe_tup (pa_cons (pe_callGd (ok_l_more PF T) (hr.mono (by decide)) hg rfl T.m_l_more T.k_l_more pass0 (pa_cons (pe_ix ix_list (pv 1) pe_int (fun _ _ => rfl)) (pa_cons (pe_ix ix_list (pv 1) pe_int (fun _ _ => rfl)) (pa_cons (pe_ix ix_list (pv 1) pe_int (fun _ _ => rfl)) (pa_cons (pe_ix ix_list (pv 1) pe_int (fun _ _ => rfl)) (pa_cons (pe_ix ix_list (pv 1) pe_int (fun _ _ => rfl)) pa_nil)))))) (pa_cons (pe_callGd (ok_l_more PF T) (hr.mono (by decide)) hg rfl T.m_l_more T.k_l_more pass0 (pa_cons (pe_ix ix_list (pv 3) pe_int (fun _ _ => rfl)) (pa_cons (pe_ix ix_list (pv 3) pe_int (fun _ _ => rfl)) (pa_cons (pe_ix ix_list (pv 3) pe_int (fun _ _ => rfl)) (pa_cons (pe_ix ix_list (pv 3) pe_int (fun _ _ => rfl)) (pa_cons (pe_ix ix_list (pv 3) pe_int (fun _ _ => rfl)) pa_nil)))))) pa_nil))) (pg_tup (by rfl) (pgs_cons (pg_name (i := 4) sc_l_unlike_right.nd rfl (Or.inl rfl)) (pgs_cons (pg_name (i := 5) sc_l_unlike_right.nd rfl (Or.inr rfl)) pgs_nil))))
    (pss_cons (ps_asg (pe_tup (pa_cons (pe_ifExp (pt_cmpR op_eq (pv 2) pe_int (nomark _)) (pe_slice sl_list (pv 4) (po_some pe_int) po_none) (pv 4)) (pa_cons (pe_ifExp (pt_cmpR op_eq (pv 2) pe_int (nomark _)) (pe_slice sl_list (pv 5) (po_some pe_int) po_none) (pv 5)) pa_nil))) (pg_tup (by rfl) (pgs_cons (pg_name (i := 4) sc_l_unlike_right.nd rfl (Or.inl rfl)) (pgs_cons (pg_name (i := 5) sc_l_unlike_right.nd rfl (Or.inr rfl)) pgs_nil))))
    (pss_cons (ps_if (pt_cmpR op_lt (pv 2) pe_int (nomark _)) (pss_one (ps_asg (pe_tup (pa_cons (pe_op op_cat (pv 4) (pe_callGd (ok_l_threes PF T) (hr.mono (by decide)) hg rfl T.m_l_threes T.k_l_threes pass0 (pa_cons (pe_ix ix_list (pv 1) pe_int (fun _ _ => rfl)) (pa_cons (pe_ix ix_list (pv 1) pe_int (fun _ _ => rfl)) (pa_cons (pe_ix ix_list (pv 1) pe_int (fun _ _ => rfl)) pa_nil))))) (pa_cons (pe_op op_cat (pv 5) (pe_callGd (ok_l_threes PF T) (hr.mono (by decide)) hg rfl T.m_l_threes T.k_l_threes pass0 (pa_cons (pe_ix ix_list (pv 3) pe_int (fun _ _ => rfl)) (pa_cons (pe_ix ix_list (pv 3) pe_int (fun _ _ => rfl)) (pa_cons (pe_ix ix_list (pv 3) pe_int (fun _ _ => rfl)) pa_nil))))) pa_nil))) (pg_tup (by rfl) (pgs_cons (pg_name (i := 4) sc_l_unlike_right.nd rfl (Or.inl rfl)) (pgs_cons (pg_name (i := 5) sc_l_unlike_right.nd rfl (Or.inr rfl)) pgs_nil))))) pss_nil)
    (pss_cons (ps_if (pt_cmpR op_lt (pv 2) pe_int (nomark _)) (pss_one (ps_asg (pe_tup (pa_cons (pe_op op_cat (pv 4) (pe_callGd (ok_l_twos PF T) (hr.mono (by decide)) hg rfl T.m_l_twos T.k_l_twos pass0 (pa_cons (pe_ix ix_list (pv 1) pe_int (fun _ _ => rfl)) (pa_cons (pe_ix ix_list (pv 1) pe_int (fun _ _ => rfl)) pa_nil)))) (pa_cons (pe_op op_cat (pv 5) (pe_callGd (ok_l_twos PF T) (hr.mono (by decide)) hg rfl T.m_l_twos T.k_l_twos pass0 (pa_cons (pe_ix ix_list (pv 3) pe_int (fun _ _ => rfl)) (pa_cons (pe_ix ix_list (pv 3) pe_int (fun _ _ => rfl)) pa_nil)))) pa_nil))) (pg_tup (by rfl) (pgs_cons (pg_name (i := 4) sc_l_unlike_right.nd rfl (Or.inl rfl)) (pgs_cons (pg_name (i := 5) sc_l_unlike_right.nd rfl (Or.inr rfl)) pgs_nil))))) pss_nil)
    (pss_cons (ps_if (pt_cmpR op_lt (pv 2) pe_int (nomark _)) (pss_one (ps_asg (pe_tup (pa_cons (pe_op op_cat (pv 4) (pe_callGd (ok_l_ones PF T) (hr.mono (by decide)) hg rfl T.m_l_ones T.k_l_ones pass0 (pa_cons (pe_ix ix_list (pv 1) pe_int (fun _ _ => rfl)) pa_nil))) (pa_cons (pe_op op_cat (pv 5) (pe_callGd (ok_l_ones PF T) (hr.mono (by decide)) hg rfl T.m_l_ones T.k_l_ones pass0 (pa_cons (pe_ix ix_list (pv 3) pe_int (fun _ _ => rfl)) pa_nil))) pa_nil))) (pg_tup (by rfl) (pgs_cons (pg_name (i := 4) sc_l_unlike_right.nd rfl (Or.inl rfl)) (pgs_cons (pg_name (i := 5) sc_l_unlike_right.nd rfl (Or.inr rfl)) pgs_nil))))) pss_nil)
    (pss_one (ps_ret (pe_cmpR (op_eqD hr.units) (pe_lc (own := [(("_law_at" : PySem.Str), 6), (("_law_row" : PySem.Str), 7)]) rfl sc_l_unlike_right.nd (pi_enum (by rfl) T.n_enumerate (pa_cons (pv 4) pa_nil)) (blkOk_by (own := [(("_law_at" : PySem.Str), 6), (("_law_row" : PySem.Str), 7)]) (N := [("_law_font_here" : PySem.Str), ("_law_parts" : PySem.Str), ("_law_spot" : PySem.Str), ("_law_more_here" : PySem.Str), ("_law_rows" : PySem.Str), ("_law_others" : PySem.Str), ("_law_at" : PySem.Str), ("_law_row" : PySem.Str)]) (sc := defScope s_l_unlike_right) (by decide +kernel)) (fun _ _ _ _ _ => (show PG _ _ (gTup K 2 _) from (pg_tup (by rfl) (pgs_cons (pg_name (i := 6) sc_l_unlike_right.nd rfl (Or.inl rfl)) (pgs_cons (pg_name (i := 7) sc_l_unlike_right.nd rfl (Or.inl rfl)) pgs_nil))))) (fun _ _ _ _ _ => (pts_one (PW.pt (pw_or (pt_cmpR (show OpR _ _ (rOwnEq K A.q (spEq K A)) from MyP.op_ownEq T.isq (fn_Paper_eq T) (hr.mono (by decide)) hg) (pe_ix (show IxR _ (rIxT K) from ix_tup) (pv 7) pe_int (fun _ _ => rfl)) (pe_ix (show IxR _ (rIxT K) from ix_tup) (pe_ix (show IxR _ (rIxL K) from ix_list) (pv 5) (pv 6) (fun _ _ => rfl)) pe_int (fun _ _ => rfl)) (nomark _)) (pw_or1 (pt_not (pt_cmpR (show OpR _ _ (rOwnEq K A.q (spEq K A)) from MyP.op_ownEq T.isq (fn_Paper_eq T) (hr.mono (by decide)) hg) (pe_ix (show IxR _ (rIxT K) from ix_tup) (pv 7) pe_int (fun _ _ => rfl)) (pe_ix (show IxR _ (rIxT K) from ix_tup) (pv 7) pe_int (fun _ _ => rfl)) (nomark _)))))))) (fun _ _ _ _ _ => (pv 6))) (pe_lst pa_nil) (nomark _)))))))))))), ?_⟩
  refine sq (as1 ?_)
  refine ⟨_, rfl, Iv.mk ⟨W, 5, m, rfl, hW, by omega, by decide, by decide, fun H1 r r0 r1 W1 K1 => ?_⟩⟩
  obtain ⟨k, rfl⟩ : ∃ k : Nat, r = k := ⟨r.toNat, by omega⟩
  have hk : k < 5 := by omega
  refine nx1 (σ := [some (.ref W.w), some (.ref a), some (.int k), none, none, none, none, none]) ?_
  have hd1 := hst H1 K1
  have ha1 := K1 a _ hne ha
  have lws : ws.length = 5 := by rw [hd1.length, hl5]
  clear hst r0 r1 hW hm W1 hne ha
  refine sq (as1 ?_)
  obtain ⟨wk, hwk⟩ : ∃ v, ws[k]? = some v := ⟨ws[k], List.getElem?_eq_getElem (by omega)⟩
  obtain ⟨dk, hdk, rk⟩ := hd1.at_ hwk
  refine ⟨_, rfl, _, rfl, _, rfl, a, ws, rfl, SqL.of ha1, fun p1 hp1 => ?_⟩
  have T1 := Same.new (o := .lst (cutV ws none (some (k : Int)))) (Same.refl H1) hp1
  have h1 : upd H1 p1 (.lst (cutV ws none (some (k : Int)))) p1 = some (.lst (cutV ws none (some (k : Int)))) := upd_same
  generalize upd H1 p1 (.lst (cutV ws none (some (k : Int)))) = H2 at T1 h1 ⊢
  refine ⟨_, rfl, _, rfl, a, ws, _, wk, rfl, rfl, SqL.of (T1 _ _ ha1), atI_nat hwk, ?_⟩
  refine ⟨line_le (by exact Nat.le_of_ble_eq_true rfl), fun qq hqq => ?_⟩
  have T2 := Same.new (o := .lst [wk, .int 0]) (Same.refl H2) hqq
  have h2 : upd H2 qq (.lst [wk, .int 0]) qq = some (.lst [wk, .int 0]) := upd_same
  generalize upd H2 qq (.lst [wk, .int 0]) = H3 at T2 h2 ⊢
  refine ⟨line_le (by exact Nat.le_of_ble_eq_true rfl), fun p2 hp2 => ?_⟩
  have T3 := Same.new (o := .lst [.ref qq]) (Same.refl H3) hp2
  have h3 : upd H3 p2 (.lst [.ref qq]) p2 = some (.lst [.ref qq]) := upd_same
  generalize upd H3 p2 (.lst [.ref qq]) = H4 at T3 h3 ⊢
  refine ⟨p1, p2, _, _, rfl, rfl, (T2.trans T3) _ _ h1, h3, line_le (by have := cutV_length ws none (some (k : Int)); simp only [List.length_singleton]; omega), fun p3 hp3 => ?_⟩
  have T4 := Same.new (o := .lst (cutV ws none (some (k : Int)) ++ [.ref qq])) (Same.refl H4) hp3
  have h4 : upd H4 p3 (.lst (cutV ws none (some (k : Int)) ++ [.ref qq])) p3 = some (.lst (cutV ws none (some (k : Int)) ++ [.ref qq])) := upd_same
  generalize upd H4 p3 (.lst (cutV ws none (some (k : Int)) ++ [.ref qq])) = H5 at T4 h4 ⊢
  have T15 := T1.trans (T2.trans (T3.trans T4))
  refine ⟨_, rfl, _, rfl, _, _, rfl, rfl, _, rfl, a, ws, rfl, SqL.of (T15 _ _ ha1), fun p4 hp4 => ?_⟩
  have T5 := Same.new (o := .lst (cutV ws (some ((k : Int) + 1)) none)) (Same.refl H5) hp4
  have h5 : upd H5 p4 (.lst (cutV ws (some ((k : Int) + 1)) none)) p4 = some (.lst (cutV ws (some ((k : Int) + 1)) none)) := upd_same
  generalize upd H5 p4 (.lst (cutV ws (some ((k : Int) + 1)) none)) = H6 at T5 h5 ⊢
  refine ⟨p3, p4, _, _, rfl, rfl, T5 _ _ h4, h5, line_le (by have := cutV_length ws none (some (k : Int)); have := cutV_length ws (some ((k : Int) + 1)) none; rw [List.length_append]; simp only [List.length_singleton]; omega), fun p5 hp5 => ?_⟩
  have ec : cutV ws none (some (k : Int)) ++ [.ref qq] ++ cutV ws (some ((k : Int) + 1)) none = ws.set k (.ref qq) := cut_set lws hk _
  rw [ec]
  have T6 := Same.new (o := .lst (ws.set k (.ref qq))) (Same.refl H6) hp5
  have h6 : upd H6 p5 (.lst (ws.set k (.ref qq))) p5 = some (.lst (ws.set k (.ref qq))) := upd_same
  generalize upd H6 p5 (.lst (ws.set k (.ref qq))) = H7 at T6 h6 ⊢
  have T17 := T15.trans (T5.trans T6)
  have K7 := K1.trans (Kp.of_same T17)
  have ha7 := T17 _ _ ha1
  have hd7 := hd1.same T17
  have hq7 := (T3.trans (T4.trans (T5.trans T6))) _ _ h2
  have hs7 : DpRs H7 (ws.set k (.ref qq)) (ds.set k (.list [dk, .int 0])) := dprs_set k hd7 (.lst (.inl hq7) (.cons (rk.same T17) (.cons (.int 0) .nil)))
  have okd : ∀ d ∈ ds, Okd 4 d := fun d hd => (hok d hd).mono 4 (by decide)
  have oks : ∀ d ∈ ds.set k (.list [dk, .int 0]), Okd 4 d := fun d hd => by
    rcases List.mem_or_eq_of_mem_set hd with h | h
    · exact okd d h
    · rw [h]
      refine .list (by show 2 ≤ 3; decide) fun x hx => ?_
      simp only [List.mem_cons, List.not_mem_nil, or_false] at hx
      rcases hx with rfl | rfl
      · exact hok _ (List.mem_of_getElem? hdk)
      · exact .leaf (leaf_int (by decide) (by decide))
  clear h1 h2 h3 h4 h5 T1 T2 T3 T4 T5 T6 T15 T17 ec hd1 rk ha1 hp1 hp2 hp3 hp4 hp5 hqq hq7
  refine nx1 (σ := [some (.ref W.w), some (.ref a), some (.int k), some (.ref p5), none, none, none, none]) ?_
  refine sq ?_
  have lss : (ws.set k (.ref qq)).length = 5 := by rw [List.length_set, lws]
  have lds : (ds.set k (.list [dk, .int 0])).length = 5 := by rw [List.length_set, hl5]
  have fxk : ∀ es', FxAll (ds.set k (.list [dk, .int 0])) es' → ∃ ek, es[k]? = some ek ∧ es'[k]? = some (.tuple [ek, .int 0]) ∧ Tup ek := fun es' f => by
    obtain ⟨ek, he, fe⟩ := fxall_at fx hdk
    obtain ⟨e', he', fe'⟩ := fxall_at (i := k) f (by rw [List.getElem?_set_self (by omega)])
    have te := (fx.tupA okd)
    cases fe' with
    | flat z => cases z
    | list z =>
      cases z with
      | cons z1 z => cases z with
        | cons z2 z =>
          cases z
          obtain rfl := fe.det z1
          cases z2
          exact ⟨_, he, he', tup_at te he⟩
  generalize ws.set k (.ref qq) = wt at lss h6 hs7
  generalize ds.set k (.list [dk, .int 0]) = dt at lds hs7 oks fxk
  match ws, wt, lws, lss with
  | [w1, w2, w3, w4, w5], [u1, u2, u3, u4, u5], _, _ =>
  match ds, dt, hd7, hs7, hl5, lds with
  | [d1, d2, d3, d4, d5], [g1, g2, g3, g4, g5], .cons q1 (.cons q2 (.cons q3 (.cons q4 (.cons q5 .nil)))), .cons s1 (.cons s2 (.cons s3 (.cons s4 (.cons s5 .nil)))), _, _ =>
  refine ⟨_, rfl, a, _, _, w1, rfl, rfl, SqL.of ha7, rfl, _, rfl, a, _, _, w2, rfl, rfl, SqL.of ha7, rfl, _, rfl, a, _, _, w3, rfl, rfl, SqL.of ha7, rfl, _, rfl, a, _, _, w4, rfl, rfl, SqL.of ha7, rfl, _, rfl, a, _, _, w5, rfl, rfl, SqL.of ha7, rfl, ?_⟩
  refine Iv.mk ⟨[w1, w2, w3, w4, w5], [d1, d2, d3, d4, d5], rfl, rfl, .cons q1 (.cons q2 (.cons q3 (.cons q4 (.cons q5 .nil)))), okd, fun H8 l1 t1 t2 es8 S8 f8 hl1 A1 A2 => ?_⟩
  obtain rfl := f8.det fx
  have h68 := S8 _ _ h6
  refine ⟨_, rfl, p5, _, _, u1, rfl, rfl, SqL.of h68, rfl, _, rfl, p5, _, _, u2, rfl, rfl, SqL.of h68, rfl, _, rfl, p5, _, _, u3, rfl, rfl, SqL.of h68, rfl, _, rfl, p5, _, _, u4, rfl, rfl, SqL.of h68, rfl, _, rfl, p5, _, _, u5, rfl, rfl, SqL.of h68, rfl, ?_⟩
  refine Iv.mk ⟨[u1, u2, u3, u4, u5], [g1, g2, g3, g4, g5], rfl, rfl, .cons (s1.same S8) (.cons (s2.same S8) (.cons (s3.same S8) (.cons (s4.same S8) (.cons (s5.same S8) .nil)))), oks, fun H9 l2 t3 t4 es9 S9 f9 hl2 B1 B2 => ?_⟩
  obtain ⟨ek, hk1, hk2, tk⟩ := fxk _ f9
  clear fxk
  have tA : TupAll es8 := f8.tupA okd
  obtain ⟨e1, e2, e3, e4, e5, rfl, fe1, fe2, fe3, fe4, fe5⟩ := fx5 f8
  obtain ⟨b1, b2, b3, b4, b5, rfl, fb1, fb2, fb3, fb4, fb5⟩ := fx5 f9
  have ne : PyData.eqv ek (.tuple [ek, .int 0]) = false := eqv_wrap tk
  have nF : PyData.eqv (.tuple [e1, e2, e3, e4, e5]) (.tuple [b1, b2, b3, b4, b5]) = false := eqv_at hk1 hk2 ne
  have nT : ∀ j, k < j → PyData.eqv (.tuple ([e1, e2, e3, e4, e5].take j)) (.tuple ([b1, b2, b3, b4, b5].take j)) = false := fun j hj => eqv_at (i := k) (by rw [List.getElem?_take_of_lt hj]; exact hk1) (by rw [List.getElem?_take_of_lt hj]; exact hk2) ne
  have tT : ∀ j, PyData.eqv (.tuple ([e1, e2, e3, e4, e5].take j)) (.tuple ([e1, e2, e3, e4, e5].take j)) = true := fun j => (Tup.tup (tupAll_take j tA)).eqv
  have tF : PyData.eqv (.tuple [e1, e2, e3, e4, e5]) (.tuple [e1, e2, e3, e4, e5]) = true := (Tup.tup tA).eqv
  refine ⟨line_le (by exact Nat.le_of_ble_eq_true rfl), fun tt htt => ?_⟩
  have S10 := Same.new (o := .tup [.ref l1, .ref l2]) (Same.refl H9) htt
  refine ⟨tt, _, rfl, SqT.of upd_same, rfl, _, _, rfl, _, _, rfl, rfl, ?_⟩
  generalize upd H9 tt (.tup [.ref l1, .ref l2]) = H10 at S10 ⊢
  have S0 := S8.trans (S9.trans S10)
  have m1 := (S9.trans S10) _ _ hl1
  have m2 := S10 _ _ hl2
  have A1' := A1.same (S9.trans S10)
  have A2' := A2.same (S9.trans S10)
  have B1' := B1.same S10
  have B2' := B2.same S10
  have Ha := S0 _ _ ha7
  have K10 := K7.trans (Kp.of_same S0)
  have Hpp := S0 _ _ h6
  have Q1 := q1.same S0
  have Q2 := q2.same S0
  have Q3 := q3.same S0
  have R1 := s1.same S0
  have R2 := s2.same S0
  have R3 := s3.same S0
  clear hl1 hl2 A1 A2 B1 B2 S8 S9 S10 q1 q2 q3 q4 q5 s1 s2 s3 s4 s5 htt h68 ha7 h6 hk1 hk2 lds lss S0
  refine nx1 (σ := [some (.ref W.w), some (.ref a), some (.int k), some (.ref p5), some (.ref l1), some (.ref l2), none, none]) ?_
  let G : Nat → L2.St → L2.Hp → Prop := fun B σ' H' => ∃ (l o : Addr), σ' = [some (.ref W.w), some (.ref a), some (.int k), some (.ref p5), some (.ref l), some (.ref o), none, none] ∧ Same H10 H' ∧ PrsAt K A H' l o B
  refine sqg (G := G 2) ?_ (fun fin => ?_)
  rotate_left
  · refine ⟨_, rfl, by rfl, _, rfl, ?_⟩
    by_cases hk4 : k = 4
    · subst hk4
      refine if_t rfl ?_
      refine ⟨_, rfl, _, rfl, l1, _, rfl, SqL.of m1, fun p1 hp1 => ?_⟩
      have T1 := Same.new (o := .lst [t2]) (Same.refl H10) hp1
      have n1 : upd H10 p1 (.lst [t2]) p1 = some (.lst [t2]) := upd_same
      change tCons _ _ _ (upd H10 p1 (.lst [t2])) _
      generalize upd H10 p1 (.lst [t2]) = H11 at T1 n1 ⊢
      refine ⟨_, rfl, by rfl, _, rfl, ?_⟩
      refine if_t rfl ?_
      refine ⟨_, rfl, _, rfl, l2, _, rfl, SqL.of (T1 _ _ m2), fun p2 hp2 => ?_⟩
      have T2 := Same.new (o := .lst [t4]) (Same.refl H11) hp2
      have n2 : upd H11 p2 (.lst [t4]) p2 = some (.lst [t4]) := upd_same
      change tNil _ (upd H11 p2 (.lst [t4])) _
      generalize upd H11 p2 (.lst [t4]) = H12 at T2 n2 ⊢
      refine ⟨line_le (by exact Nat.le_of_ble_eq_true rfl), fun tt htt => ?_⟩
      have T3 := Same.new (o := .tup [.ref p1, .ref p2]) (Same.refl H12) htt
      refine ⟨tt, _, rfl, SqT.of upd_same, rfl, _, _, rfl, _, _, rfl, rfl, ?_⟩
      have S := T1.trans (T2.trans T3)
      exact fin _ _ ⟨p1, p2, rfl, S, [t2], [t4], (T2.trans T3) _ _ n1, T3 _ _ n2, .cons (A2'.same S) (B2'.same S) nF tF .nil, Nat.le_of_ble_eq_true rfl⟩
    · refine if_f (fun h => by
        have h := of_decide_eq_true h
        injection h with h
        omega) ?_
      refine ⟨_, rfl, ?_⟩
      refine ⟨_, rfl, by rfl, _, rfl, ?_⟩
      refine if_f (fun h => by
        have h := of_decide_eq_true h
        injection h with h
        omega) ?_
      refine ⟨_, rfl, ?_⟩
      refine ⟨line_le (by exact Nat.le_of_ble_eq_true rfl), fun tt htt => ?_⟩
      have S := Same.new (o := .tup [.ref l1, .ref l2]) (Same.refl H10) htt
      refine ⟨tt, _, rfl, SqT.of upd_same, rfl, _, _, rfl, _, _, rfl, rfl, ?_⟩
      exact fin _ _ ⟨l1, l2, rfl, S, [t1, t2], [t3, t4], S _ _ m1, S _ _ m2, .cons (A1'.same S) (B1'.same S) (nT 4 (by omega)) (tT 4) (.cons (A2'.same S) (B2'.same S) nF tF .nil), Nat.le_of_ble_eq_true rfl⟩
  rintro σ3 H11 ⟨l, o, rfl, S11, hP⟩
  refine sqg (G := G 15) ?_ (fun fin => ?_)
  rotate_left
  · refine ⟨_, rfl, _, _, rfl, rfl, _, rfl, ?_⟩
    by_cases hkn : k < 3
    · refine if_t (decide_eq_true (by omega)) ?_
      refine stepX (K := K) (A := A) (cs := csThrees A) (es := [e1, e2, e3]) (fs := [b1, b2, b3]) (m := 13) rfl rfl hP (by omega) (Nat.le_of_ble_eq_true rfl) (by rfl) (fun R r => ⟨_, rfl, a, _, _, w1, rfl, rfl, SqL.of (S11 _ _ Ha), rfl, _, rfl, a, _, _, w2, rfl, rfl, SqL.of (S11 _ _ Ha), rfl, _, rfl, a, _, _, w3, rfl, rfl, SqL.of (S11 _ _ Ha), rfl, Iv.mk ⟨[w1, w2, w3], [d1, d2, d3], rfl, rfl, .cons (Q1.same (S11)) (.cons (Q2.same (S11)) (.cons (Q3.same (S11)) .nil)), (fun d hd => okd d (List.mem_of_mem_take (i := 3) (show d ∈ List.take 3 _ from hd))), fun H' p es Sm f RA => by have e := FxAll.det f (show FxAll [d1, d2, d3] [e1, e2, e3] from .cons fe1 (.cons fe2 (.cons fe3 .nil))); subst e; exact r _ p Sm RA⟩⟩) (fun S R r => ⟨_, rfl, p5, _, _, u1, rfl, rfl, SqL.of ((S11.trans S) _ _ Hpp), rfl, _, rfl, p5, _, _, u2, rfl, rfl, SqL.of ((S11.trans S) _ _ Hpp), rfl, _, rfl, p5, _, _, u3, rfl, rfl, SqL.of ((S11.trans S) _ _ Hpp), rfl, Iv.mk ⟨[u1, u2, u3], [g1, g2, g3], rfl, rfl, .cons (R1.same (S11.trans S)) (.cons (R2.same (S11.trans S)) (.cons (R3.same (S11.trans S)) .nil)), (fun d hd => oks d (List.mem_of_mem_take (i := 3) (show d ∈ List.take 3 _ from hd))), fun H' p es Sm f RA => by have e := FxAll.det f (show FxAll [g1, g2, g3] [b1, b2, b3] from .cons fb1 (.cons fb2 (.cons fb3 .nil))); subst e; exact r _ p Sm RA⟩⟩) (nT 3 hkn) (tT 3) (fun H' l o S hQ => fin _ _ ⟨l, o, rfl, S11.trans S, hQ⟩)
    · refine if_f (fun h => by have := of_decide_eq_true h; omega) ?_
      exact fin _ _ ⟨l, o, rfl, S11, hP.mono (by omega)⟩
  rintro σ2 H11 ⟨l, o, rfl, S11, hP⟩
  refine sqg (G := G 25) ?_ (fun fin => ?_)
  rotate_left
  · refine ⟨_, rfl, _, _, rfl, rfl, _, rfl, ?_⟩
    by_cases hkn : k < 2
    · refine if_t (decide_eq_true (by omega)) ?_
      refine stepX (K := K) (A := A) (cs := csTwos A) (es := [e1, e2]) (fs := [b1, b2]) (m := 10) rfl rfl hP (by omega) (Nat.le_of_ble_eq_true rfl) (by rfl) (fun R r => ⟨_, rfl, a, _, _, w1, rfl, rfl, SqL.of (S11 _ _ Ha), rfl, _, rfl, a, _, _, w2, rfl, rfl, SqL.of (S11 _ _ Ha), rfl, Iv.mk ⟨[w1, w2], [d1, d2], rfl, rfl, .cons (Q1.same (S11)) (.cons (Q2.same (S11)) .nil), (fun d hd => okd d (List.mem_of_mem_take (i := 2) (show d ∈ List.take 2 _ from hd))), fun H' p es Sm f RA => by have e := FxAll.det f (show FxAll [d1, d2] [e1, e2] from .cons fe1 (.cons fe2 .nil)); subst e; exact r _ p Sm RA⟩⟩) (fun S R r => ⟨_, rfl, p5, _, _, u1, rfl, rfl, SqL.of ((S11.trans S) _ _ Hpp), rfl, _, rfl, p5, _, _, u2, rfl, rfl, SqL.of ((S11.trans S) _ _ Hpp), rfl, Iv.mk ⟨[u1, u2], [g1, g2], rfl, rfl, .cons (R1.same (S11.trans S)) (.cons (R2.same (S11.trans S)) .nil), (fun d hd => oks d (List.mem_of_mem_take (i := 2) (show d ∈ List.take 2 _ from hd))), fun H' p es Sm f RA => by have e := FxAll.det f (show FxAll [g1, g2] [b1, b2] from .cons fb1 (.cons fb2 .nil)); subst e; exact r _ p Sm RA⟩⟩) (nT 2 hkn) (tT 2) (fun H' l o S hQ => fin _ _ ⟨l, o, rfl, S11.trans S, hQ⟩)
    · refine if_f (fun h => by have := of_decide_eq_true h; omega) ?_
      exact fin _ _ ⟨l, o, rfl, S11, hP.mono (by omega)⟩
  rintro σ1 H11 ⟨l, o, rfl, S11, hP⟩
  refine sqg (G := G 33) ?_ (fun fin => ?_)
  rotate_left
  · refine ⟨_, rfl, _, _, rfl, rfl, _, rfl, ?_⟩
    by_cases hkn : k < 1
    · refine if_t (decide_eq_true (by omega)) ?_
      refine stepX (K := K) (A := A) (cs := csOnes A) (es := [e1]) (fs := [b1]) (m := 8) rfl rfl hP (by omega) (Nat.le_of_ble_eq_true rfl) (by rfl) (fun R r => ⟨_, rfl, a, _, _, w1, rfl, rfl, SqL.of (S11 _ _ Ha), rfl, Iv.mk ⟨w1, d1, e1, rfl, Q1.same S11, okd d1 List.mem_cons_self, fe1, fun H' p Sm RA => r _ p Sm RA⟩⟩) (fun S R r => ⟨_, rfl, p5, _, _, u1, rfl, rfl, SqL.of ((S11.trans S) _ _ Hpp), rfl, Iv.mk ⟨u1, g1, b1, rfl, R1.same (S11.trans S), oks g1 List.mem_cons_self, fb1, fun H' p Sm RA => r _ p Sm RA⟩⟩) (nT 1 hkn) (tT 1) (fun H' l o S hQ => fin _ _ ⟨l, o, rfl, S11.trans S, hQ⟩)
    · refine if_f (fun h => by have := of_decide_eq_true h; omega) ?_
      exact fin _ _ ⟨l, o, rfl, S11, hP.mono (by omega)⟩
  rintro σ2 H11 ⟨l, o, rfl, S11, ts, us, hts, hus, hP, hl33⟩
  refine rt1 ?_
  refine ⟨_, rfl, l, ts, rfl, SqL.of hts, fun D hD => ?_⟩
  refine lc_it (walk_enum (xs := ts)) (fun i H' => Iv (Same H11 H' ∧ H' D = some (.lst []))) (Iv.mk ⟨Same.new (Same.refl _) hD, upd_same⟩) (fun i H' _ h => SqL.of (h.out.1 _ _ hts)) ?_ ?_
  · intro i2 x H12 H13 hi2 hI2 hy
    obtain ⟨tu, z1, z2, rfl, hT2, rfl, x3, x4⟩ := hy
    cases x3
    obtain ⟨S4, hDl⟩ := hI2.out
    obtain ⟨u, C, nm, z, es, fs, hu, ⟨tp, told, px, py, rfl, k1, X, Y, _⟩, ⟨tp2, told2, px2, py2, rfl, k2, X2, Y2, _⟩, n0, t0⟩ := hP.at_ x4
    have S5 : Same H12 (upd H12 tu (.tup [.int i2, .ref tp])) := Same.new (Same.refl _) hT2
    refine ⟨tu, _, rfl, SqT.of upd_same, rfl, _, _, rfl, _, _, rfl, rfl, ?_⟩
    generalize upd H12 tu (.tup [.int i2, .ref tp]) = H13 at S5 ⊢
    refine ⟨rfl, ?_⟩
    have S35 := S4.trans S5
    refine ⟨_, rfl, tp, _, _, px, rfl, rfl, SqT.of (S35 _ _ k1), rfl, ?_⟩
    refine ⟨_, rfl, _, rfl, o, us, _, .ref tp2, rfl, rfl, SqL.of (S35 _ _ hus), atI_nat hu, ?_⟩
    refine ⟨tp2, _, _, px2, rfl, rfl, SqT.of (S35 _ _ k2), rfl, ?_⟩
    refine own_eqP T (X.same S35) (X2.same S35) (b := false) (by simp [n0]) (fun z => absurd rfl z) ?_
    refine ⟨_, rfl, ?_⟩
    refine if_f (by decide) ?_
    refine ⟨_, rfl, tp, _, _, px, rfl, rfl, SqT.of (S35 _ _ k1), rfl, ?_⟩
    refine ⟨_, rfl, tp, _, _, py, rfl, rfl, SqT.of (S35 _ _ k1), rfl, ?_⟩
    refine own_eqP T (X.same S35) (Y.same S35) (b := true) (by simp [t0]) (fun z => absurd rfl z) ?_
    refine ⟨_, rfl, ?_⟩
    refine if_f (by decide) ?_
    exact Iv.mk ⟨S35, S5 _ _ hDl⟩
  · intro H12 hI2
    obtain ⟨S4, hDl⟩ := hI2.out
    refine ⟨line_le (by exact Nat.le_of_ble_eq_true rfl), fun D2 hD2 => ?_⟩
    have S5 := Same.new (o := .lst []) (Same.refl H12) hD2
    refine ⟨_, _, .lst (SqL.of (S5 _ _ hDl)) .nil, .lst (SqL.of upd_same) .nil, rfl, rfl, ?_⟩
    exact q _ (K10.trans (Kp.of_same (S11.trans (S4.trans S5))))
end
end K56

namespace K56
open PySem PySem.Spec PyProof.Rows L2 MyL MyD MyP
def spLaw (K : PySem.W.Frag) : Sp := fun vs H Q _ => ∃ (a : Addr) (ns : List Int), vs = [.ref a] ∧ SqL K H a (ns.map V.int) ∧ ns.length ≤ 63 ∧ ∀ H', Q (.bl true) H'
section
variable {P : Program} {w : World} {K : PySem.W.Frag} {mg : Str → Option Value} {base : Heap} {A : Adr}
local macro_rules | `(tactic| walk_at "sames") => `(tactic| repeat (first
  | exact Same.refl _
  | refine Same.new ?_ (by assumption)
  | refine Same.trans ?_ (by assumption)))
local macro_rules | `(tactic| walk_at "ne") => `(tactic| first
  | assumption
  | exact Ne.symm (by assumption)
  | exact ne_new (by assumption) (by walk_at "look")
  | exact ne_new' (by assumption) (by walk_at "look")
  | exact ne_of (by walk_at "look") (by walk_at "look") (by intro z; cases z))
local macro_rules | `(tactic| walk_at "look") => `(tactic| first
  | assumption
  | exact upd_same
  | (refine upd_new (by assumption) ?_
     walk_at "look")
  | (refine (upd_ne ?_).trans ?_
     · walk_at "ne"
     · walk_at "look")
  | (refine Kp.get (by assumption) ?_ ?_
     · walk_at "ne"
     · walk_at "look")
  | (refine Same.get (by assumption) ?_
     walk_at "look"))
local macro_rules | `(tactic| walk_at "lenv") => `(tactic| first
  | exact Or.inl ⟨_, SqL.of (by walk_at "look"), rfl⟩
  | exact Or.inr ⟨_, SqT.of (by walk_at "look"), rfl⟩
  | exact ⟨line_le (by omega), rfl⟩)
local macro_rules | `(tactic| walk_at "cond") => `(tactic| first
  | assumption
  | rfl
  | exact Nat.zero_le _
  | exact Nat.le_of_ble_eq_true rfl
  | decide
  | omega
  | exact line_lt (by (try simp only [List.length_map, List.length_append, List.length_cons, List.length_nil]); omega)
  | exact line_le (by (try simp only [List.length_map, List.length_append, List.length_cons, List.length_nil]); omega)
  | (dsimp only; omega)
  | exact ⟨by decide, by decide⟩
  | exact ⟨by decide, by decide, by decide⟩
  | exact Or.inl ⟨by decide, by decide⟩
  | exact Or.inl ⟨by omega, by omega⟩
  | exact Or.inr ⟨by omega, by omega⟩)
local macro_rules | `(tactic| walk_at "kit") => `(tactic| first | assumption | exact kit_NoneType_int | exact kit_NoneType_bool | exact kit_NoneType_str | exact kit_NoneType_list | exact kit_NoneType_tuple | exact kit_NoneType_dict | exact kit_bool_int | exact kit_bool_bool | exact kit_bool_str | exact kit_bool_list | exact kit_bool_tuple | exact kit_bool_dict | exact kit_int_int | exact kit_int_bool | exact kit_int_str | exact kit_int_list | exact kit_int_tuple | exact kit_int_dict | exact kit_str_int | exact kit_str_bool | exact kit_str_str | exact kit_str_list | exact kit_str_tuple | exact kit_str_dict | exact kit_list_int | exact kit_list_bool | exact kit_list_str | exact kit_list_list | exact kit_list_tuple | exact kit_list_dict | exact kit_tuple_int | exact kit_tuple_bool | exact kit_tuple_str | exact kit_tuple_list | exact kit_tuple_tuple | exact kit_tuple_dict | exact kit_dict_int | exact kit_dict_bool | exact kit_dict_str | exact kit_dict_list | exact kit_dict_tuple | exact kit_dict_dict)
local macro_rules | `(tactic| walk_at "ty") => `(tactic| first | assumption | exact tyx_str | exact tyx_int | exact tyx_bl | exact tyx_non | exact tyx_lst (by walk_at "look") | exact tyx_tup (by walk_at "look") | exact tyx_dK (by walk_at "look"))
local macro_rules | `(tactic| walk_at "s") => `(tactic| first
  | refine ⟨_, rfl, ?_⟩
  | refine ⟨_, _, rfl, rfl, ?_⟩
  | refine ⟨_, _, _, _, rfl, rfl, SqL.of (by walk_at "look"), by rfl, ?_⟩
  | refine ⟨_, _, _, _, rfl, rfl, SqT.of (by walk_at "look"), by rfl, ?_⟩
  | refine ⟨_, _, _, _, rfl, rfl, by walk_at "look", by rfl, ?_⟩
  | refine ⟨_, _, rfl, by walk_at "lenv", ?_⟩
  | refine Or.inl ⟨_, rfl, ?_⟩
  | refine ⟨_, _, _, _, _, rfl, ClsV.ty _, by walk_at "ty", by walk_at "kit", ?_⟩
  | refine And.intro (by walk_at "cond") ?_
  | refine ⟨_, _, rfl, SqT.of (by walk_at "look"), rfl, ?_⟩
  | refine ⟨_, _, rfl, SqL.of (by walk_at "look"), rfl, ?_⟩
  | refine And.intro (Or.inl ⟨rfl, _, SqL.of (by walk_at "look")⟩) ?_
  | refine ⟨_, _, _, rfl, rfl, by walk_at "look", by walk_at "cond", ?_⟩
  | refine ⟨_, _, _, _, rfl, rfl, by walk_at "look", by walk_at "look", by walk_at "cond", ?_⟩
  | refine And.intro ⟨_, rfl⟩ ?_
  | refine And.intro ⟨_, SqL.of (by walk_at "look")⟩ ?_
  | refine ⟨_, _, rfl, SqL.of (by walk_at "look"), ?_⟩
  | refine ⟨_, _, rfl, (by assumption : SqL _ _ _ _), ?_⟩
  | refine ⟨_, by walk_at "look", by walk_at "cond", ?_⟩
  | refine ⟨_, _, rfl, Or.inr (SqT.of (by walk_at "look")), ?_⟩
  | refine ⟨_, _, rfl, Or.inl (SqL.of (by walk_at "look")), ?_⟩
  | refine ⟨_, _, rfl, ?_⟩
  | refine ⟨_, _, _, rfl, by walk_at "look", by assumption, ?_⟩
  | refine ⟨_, _, true, _, _, rfl, rfl, ClsV.own _, kit_own (by assumption) (by assumption), rfl, by walk_at "look", ?_⟩
  | refine ⟨_, _, _, _, rfl, ErAt.same (by assumption) (by walk_at "sames"), by assumption, by assumption, ?_⟩
  | refine ⟨_, _, _, _, rfl, ErAt.same (by assumption) (by walk_at "sames"), by assumption, by assumption, by assumption, ?_⟩
  | refine if_t (by first | rfl | assumption | decide) ?_
  | refine if_f (by assumption) ?_
  | refine if_f (by first | decide | exact Bool.false_ne_true) ?_
  | refine fun (_ : _ ≠ sysModules) => ?_
  | refine fun (_ : ErAt _ _ _ _) => ?_
  | refine fun _ _ => ?_)

section
variable {σ : L2.St} {H : Hp}
theorem if1 {c : TT} {t u : TS} {D : Ends} (h : c σ H fun b H1 => if b = true then t D σ H1 else u D σ H1) : tIfS c t u D σ H := h
theorem or1 {t u : TT} {Q : Bool → Hp → Prop} (h : t σ H fun c H1 => if c = true then Q true H1 else u σ H1 Q) : tOr t u σ H Q := h
theorem no1 {t : TT} {Q : Bool → Hp → Prop} (h : t σ H fun c H1 => Q (!c) H1) : tNot t σ H Q := h
theorem te1 {t : TE} {Q : Bool → Hp → Prop} (h : t σ H fun x H' => ∃ k, x = .bl k ∧ Q k H') : tTest t σ H Q := h
theorem op1 {r : R2} {ta tb : TE} {Q : VK} (h : ta σ H fun x H1 => tb σ H1 fun y H2 => r x y H2 Q) : tOp r ta tb σ H Q := h
theorem an1 {ta tb : TE} {Q : VK} (h : ta σ H fun x H1 => ∃ c, x = .bl c ∧ if c = true then tb σ H1 Q else Q (.bl false) H1) : tAndV ta tb σ H Q := h
theorem nv1 {ta : TE} {Q : VK} (h : ta σ H fun x H1 => ∃ c, x = .bl c ∧ Q (.bl (!c)) H1) : tNotV ta σ H Q := h
end
theorem mkD {H : Hp} {σ : L2.St} {Q : VK} {t : TA} {ds es : List PyData} {fl : List Str} {C : Addr} {nm z : Str} (ht : ∀ R : List V → Hp → Prop, (∀ H' xs, Same H H' → DpRs H' xs ds → R xs H') → t σ H R) (k : KCls K A C nm) (hok : ∀ d ∈ ds, Okd 4 d) (hl : ds.length = fl.length) (h5 : fl.length ≤ 5) (fx : FxAll ds es)
    (q : ∀ H' x, Same H H' → IsP K A H' (.ref x) C nm z es → Q (.ref x) H') : tMakeG C (spC C z fl) t σ H Q :=
  ht _ fun H1 xs S1 D1 x dx hx hdx _ => own_newQ hx hdx k D1 hok (by rw [D1.length, hl]) h5 fun H' es' S X P f => ⟨rfl, q H' x (S1.trans S) (by rw [← f.det fx]; exact X)⟩
theorem eq_k {e : PyData} (h : PyData.eqv e e = true) : PyData.eqv (.tuple [.int 1, e, .tuple [.int 0]]) (.tuple [.bool true, e, .tuple [.bool false]]) = true := by
  simp [PyData.eqv, PyData.eqvAll, h]
theorem ne_k {e : PyData} : PyData.eqv (.tuple [.int 1, e, .tuple [.int 0]]) (.tuple [.int 1, e, .tuple [.int 1]]) = false := by
  simp [PyData.eqv, PyData.eqvAll]
theorem ne_h {e : PyData} : PyData.eqv (.tuple [e, .int 1]) (.tuple [e, .int 2]) = false := by
  simp [PyData.eqv, PyData.eqvAll]
theorem ne_l {e b : PyData} : PyData.eqv (.tuple [e, .str "x", b]) (.tuple [e, .str "y", b]) = false := by
  have : ("x" : PySem.Str) ≠ "y" := by decide +kernel
  simp [PyData.eqv, PyData.eqvAll, this]
theorem eq_p {e b c : PyData} (h : PyData.eqv e e = true) (h2 : PyData.eqv b b = true) (h3 : PyData.eqv c c = true) : PyData.eqv (.tuple [e, b, c, .int 0]) (.tuple [e, b, c, .bool false]) = true := by
  simp [PyData.eqv, PyData.eqvAll, h, h2, h3]
theorem leaf_x : Leaf (.str "x") := leaf_str (by decide +kernel) (by simp only [PyData.shown]; decide +kernel)
theorem leaf_y : Leaf (.str "y") := leaf_str (by decide +kernel) (by simp only [PyData.shown]; decide +kernel)
theorem ci_Safe (T : Txt K mg A) : CI P w K mg base A ⟨A.c_Safe, "Safe", "safe"⟩ := by
  have e : den "safe" = false := by decide +kernel
  refine ⟨?_, ?_⟩
  · show _ = some (den "safe")
    rw [e]
    exact T.kD_Safe
  · show BoolC P w K mg base 1 _ (!den "safe")
    rw [e]
    exact ⟨A.b_Paper, T.b_Safe.1, T.b_Safe.2, fn_Paper_bool T⟩
theorem ci_Implied (T : Txt K mg A) : CI P w K mg base A ⟨A.c_Implied, "Implied", "implied"⟩ := by
  have e : den "implied" = false := by decide +kernel
  refine ⟨?_, ?_⟩
  · show _ = some (den "implied")
    rw [e]
    exact T.kD_Implied
  · show BoolC P w K mg base 1 _ (!den "implied")
    rw [e]
    exact ⟨A.b_Paper, T.b_Implied.1, T.b_Implied.2, fn_Paper_bool T⟩
theorem ci_Serves (T : Txt K mg A) : CI P w K mg base A ⟨A.c_Serves, "Serves", "serves"⟩ := by
  have e : den "serves" = false := by decide +kernel
  refine ⟨?_, ?_⟩
  · show _ = some (den "serves")
    rw [e]
    exact T.kD_Serves
  · show BoolC P w K mg base 1 _ (!den "serves")
    rw [e]
    exact ⟨A.b_Paper, T.b_Serves.1, T.b_Serves.2, fn_Paper_bool T⟩
theorem ci_Holds (T : Txt K mg A) : CI P w K mg base A ⟨A.c_Holds, "Holds", "holds"⟩ := by
  have e : den "holds" = false := by decide +kernel
  refine ⟨?_, ?_⟩
  · show _ = some (den "holds")
    rw [e]
    exact T.kD_Holds
  · show BoolC P w K mg base 1 _ (!den "holds")
    rw [e]
    exact ⟨A.b_Paper, T.b_Holds.1, T.b_Holds.2, fn_Paper_bool T⟩
theorem ci_Handed (T : Txt K mg A) : CI P w K mg base A ⟨A.c_Handed, "Handed", "handed"⟩ := by
  have e : den "handed" = false := by decide +kernel
  refine ⟨?_, ?_⟩
  · show _ = some (den "handed")
    rw [e]
    exact T.kD_Handed
  · show BoolC P w K mg base 1 _ (!den "handed")
    rw [e]
    exact ⟨A.b_Paper, T.b_Handed.1, T.b_Handed.2, fn_Paper_bool T⟩
theorem ci_Shared (T : Txt K mg A) : CI P w K mg base A ⟨A.c_Shared, "Shared", "shared"⟩ := by
  have e : den "shared" = false := by decide +kernel
  refine ⟨?_, ?_⟩
  · show _ = some (den "shared")
    rw [e]
    exact T.kD_Shared
  · show BoolC P w K mg base 1 _ (!den "shared")
    rw [e]
    exact ⟨A.b_Paper, T.b_Shared.1, T.b_Shared.2, fn_Paper_bool T⟩
theorem ci_Never (T : Txt K mg A) : CI P w K mg base A ⟨A.c_Never, "Never", "never"⟩ := by
  have e : den "never" = true := by decide +kernel
  refine ⟨?_, ?_⟩
  · show _ = some (den "never")
    rw [e]
    exact T.kD_Never
  · show BoolC P w K mg base 1 _ (!den "never")
    rw [e]
    exact ⟨A.b_Denial, T.b_Never.1, T.b_Never.2, fn_Denial_bool T⟩
theorem ci_Stays (T : Txt K mg A) : CI P w K mg base A ⟨A.c_Stays, "Stays", "stays"⟩ := by
  have e : den "stays" = false := by decide +kernel
  refine ⟨?_, ?_⟩
  · show _ = some (den "stays")
    rw [e]
    exact T.kD_Stays
  · show BoolC P w K mg base 1 _ (!den "stays")
    rw [e]
    exact ⟨A.b_Paper, T.b_Stays.1, T.b_Stays.2, fn_Paper_bool T⟩
theorem ci_Unsafe (T : Txt K mg A) : CI P w K mg base A ⟨A.c_Unsafe, "Unsafe", "unsafe"⟩ := by
  have e : den "unsafe" = true := by decide +kernel
  refine ⟨?_, ?_⟩
  · show _ = some (den "unsafe")
    rw [e]
    exact T.kD_Unsafe
  · show BoolC P w K mg base 1 _ (!den "unsafe")
    rw [e]
    exact ⟨A.b_Denial, T.b_Unsafe.1, T.b_Unsafe.2, fn_Denial_bool T⟩
theorem ci_Apart (T : Txt K mg A) : CI P w K mg base A ⟨A.c_Apart, "Apart", "apart"⟩ := by
  have e : den "apart" = true := by decide +kernel
  refine ⟨?_, ?_⟩
  · show _ = some (den "apart")
    rw [e]
    exact T.kD_Apart
  · show BoolC P w K mg base 1 _ (!den "apart")
    rw [e]
    exact ⟨A.b_Denial, T.b_Apart.1, T.b_Apart.2, fn_Denial_bool T⟩
theorem ci_Held (T : Txt K mg A) : CI P w K mg base A ⟨A.c_Held, "Held", "held"⟩ := by
  have e : den "held" = false := by decide +kernel
  refine ⟨?_, ?_⟩
  · show _ = some (den "held")
    rw [e]
    exact T.kD_Held
  · show BoolC P w K mg base 1 _ (!den "held")
    rw [e]
    exact ⟨A.b_Paper, T.b_Held.1, T.b_Held.2, fn_Paper_bool T⟩
theorem ci_Broken (T : Txt K mg A) : CI P w K mg base A ⟨A.c_Broken, "Broken", "broken"⟩ := by
  have e : den "broken" = true := by decide +kernel
  refine ⟨?_, ?_⟩
  · show _ = some (den "broken")
    rw [e]
    exact T.kD_Broken
  · show BoolC P w K mg base 1 _ (!den "broken")
    rw [e]
    exact ⟨A.b_Denial, T.b_Broken.1, T.b_Broken.2, fn_Denial_bool T⟩
theorem ci_Uncovered (T : Txt K mg A) : CI P w K mg base A ⟨A.c_Uncovered, "Uncovered", "uncovered"⟩ := by
  have e : den "uncovered" = true := by decide +kernel
  refine ⟨?_, ?_⟩
  · show _ = some (den "uncovered")
    rw [e]
    exact T.kD_Uncovered
  · show BoolC P w K mg base 1 _ (!den "uncovered")
    rw [e]
    exact ⟨A.b_Denial, T.b_Uncovered.1, T.b_Uncovered.2, fn_Denial_bool T⟩
theorem ci_Refusal (T : Txt K mg A) : CI P w K mg base A ⟨A.c_Refusal, "Refusal", "refusal"⟩ := by
  have e : den "refusal" = true := by decide +kernel
  refine ⟨?_, ?_⟩
  · show _ = some (den "refusal")
    rw [e]
    exact T.kD_Refusal
  · show BoolC P w K mg base 1 _ (!den "refusal")
    rw [e]
    exact ⟨A.b_Denial, T.b_Refusal.1, T.b_Refusal.2, fn_Denial_bool T⟩
theorem ci_Ring (T : Txt K mg A) : CI P w K mg base A ⟨A.c_Ring, "Ring", "ring"⟩ := by
  have e : den "ring" = true := by decide +kernel
  refine ⟨?_, ?_⟩
  · show _ = some (den "ring")
    rw [e]
    exact T.kD_Ring
  · show BoolC P w K mg base 1 _ (!den "ring")
    rw [e]
    exact ⟨A.b_Denial, T.b_Ring.1, T.b_Ring.2, fn_Denial_bool T⟩
theorem ci_SightFront (T : Txt K mg A) : CI P w K mg base A ⟨A.c_SightFront, "SightFront", "sightfront"⟩ := by
  have e : den "sightfront" = false := by decide +kernel
  refine ⟨?_, ?_⟩
  · show _ = some (den "sightfront")
    rw [e]
    exact T.kD_SightFront
  · show BoolC P w K mg base 1 _ (!den "sightfront")
    rw [e]
    exact ⟨A.b_Paper, T.b_SightFront.1, T.b_SightFront.2, fn_Paper_bool T⟩
theorem ci_PromiseFront (T : Txt K mg A) : CI P w K mg base A ⟨A.c_PromiseFront, "PromiseFront", "promisefront"⟩ := by
  have e : den "promisefront" = false := by decide +kernel
  refine ⟨?_, ?_⟩
  · show _ = some (den "promisefront")
    rw [e]
    exact T.kD_PromiseFront
  · show BoolC P w K mg base 1 _ (!den "promisefront")
    rw [e]
    exact ⟨A.b_Paper, T.b_PromiseFront.1, T.b_PromiseFront.2, fn_Paper_bool T⟩
theorem ci_Unfirm (T : Txt K mg A) : CI P w K mg base A ⟨A.c_Unfirm, "Unfirm", "unfirm"⟩ := by
  have e : den "unfirm" = true := by decide +kernel
  refine ⟨?_, ?_⟩
  · show _ = some (den "unfirm")
    rw [e]
    exact T.kD_Unfirm
  · show BoolC P w K mg base 1 _ (!den "unfirm")
    rw [e]
    exact ⟨A.b_Denial, T.b_Unfirm.1, T.b_Unfirm.2, fn_Denial_bool T⟩
theorem ci_Lost (T : Txt K mg A) : CI P w K mg base A ⟨A.c_Lost, "Lost", "lost"⟩ := by
  have e : den "lost" = true := by decide +kernel
  refine ⟨?_, ?_⟩
  · show _ = some (den "lost")
    rw [e]
    exact T.kD_Lost
  · show BoolC P w K mg base 1 _ (!den "lost")
    rw [e]
    exact ⟨A.b_Denial, T.b_Lost.1, T.b_Lost.2, fn_Denial_bool T⟩
theorem ci_Lacks (T : Txt K mg A) : CI P w K mg base A ⟨A.c_Lacks, "Lacks", "lacks"⟩ := by
  have e : den "lacks" = true := by decide +kernel
  refine ⟨?_, ?_⟩
  · show _ = some (den "lacks")
    rw [e]
    exact T.kD_Lacks
  · show BoolC P w K mg base 1 _ (!den "lacks")
    rw [e]
    exact ⟨A.b_Denial, T.b_Lacks.1, T.b_Lacks.2, fn_Denial_bool T⟩
theorem ci_Dropped (T : Txt K mg A) : CI P w K mg base A ⟨A.c_Dropped, "Dropped", "dropped"⟩ := by
  have e : den "dropped" = true := by decide +kernel
  refine ⟨?_, ?_⟩
  · show _ = some (den "dropped")
    rw [e]
    exact T.kD_Dropped
  · show BoolC P w K mg base 1 _ (!den "dropped")
    rw [e]
    exact ⟨A.b_Denial, T.b_Dropped.1, T.b_Dropped.2, fn_Denial_bool T⟩
theorem ci_Kept (T : Txt K mg A) : CI P w K mg base A ⟨A.c_Kept, "Kept", "kept"⟩ := by
  have e : den "kept" = false := by decide +kernel
  refine ⟨?_, ?_⟩
  · show _ = some (den "kept")
    rw [e]
    exact T.kD_Kept
  · show BoolC P w K mg base 1 _ (!den "kept")
    rw [e]
    exact ⟨A.b_Paper, T.b_Kept.1, T.b_Kept.2, fn_Paper_bool T⟩
theorem ci_Least (T : Txt K mg A) : CI P w K mg base A ⟨A.c_Least, "Least", "least"⟩ := by
  have e : den "least" = false := by decide +kernel
  refine ⟨?_, ?_⟩
  · show _ = some (den "least")
    rw [e]
    exact T.kD_Least
  · show BoolC P w K mg base 1 _ (!den "least")
    rw [e]
    exact ⟨A.b_Paper, T.b_Least.1, T.b_Least.2, fn_Paper_bool T⟩
theorem ci_Parting (T : Txt K mg A) : CI P w K mg base A ⟨A.c_Parting, "Parting", "parting"⟩ := by
  have e : den "parting" = true := by decide +kernel
  refine ⟨?_, ?_⟩
  · show _ = some (den "parting")
    rw [e]
    exact T.kD_Parting
  · show BoolC P w K mg base 1 _ (!den "parting")
    rw [e]
    exact ⟨A.b_Denial, T.b_Parting.1, T.b_Parting.2, fn_Denial_bool T⟩
theorem ci_Delay (T : Txt K mg A) : CI P w K mg base A ⟨A.c_Delay, "Delay", "delay"⟩ := by
  have e : den "delay" = false := by decide +kernel
  refine ⟨?_, ?_⟩
  · show _ = some (den "delay")
    rw [e]
    exact T.kD_Delay
  · show BoolC P w K mg base 1 _ (!den "delay")
    rw [e]
    exact ⟨A.b_Paper, T.b_Delay.1, T.b_Delay.2, fn_Paper_bool T⟩
theorem ci_SureTime (T : Txt K mg A) : CI P w K mg base A ⟨A.c_SureTime, "SureTime", "suretime"⟩ := by
  have e : den "suretime" = false := by decide +kernel
  refine ⟨?_, ?_⟩
  · show _ = some (den "suretime")
    rw [e]
    exact T.kD_SureTime
  · show BoolC P w K mg base 1 _ (!den "suretime")
    rw [e]
    exact ⟨A.b_Paper, T.b_SureTime.1, T.b_SureTime.2, fn_Paper_bool T⟩
theorem ci_DelayFront (T : Txt K mg A) : CI P w K mg base A ⟨A.c_DelayFront, "DelayFront", "delayfront"⟩ := by
  have e : den "delayfront" = false := by decide +kernel
  refine ⟨?_, ?_⟩
  · show _ = some (den "delayfront")
    rw [e]
    exact T.kD_DelayFront
  · show BoolC P w K mg base 1 _ (!den "delayfront")
    rw [e]
    exact ⟨A.b_Paper, T.b_DelayFront.1, T.b_DelayFront.2, fn_Paper_bool T⟩
theorem ci_MomentFront (T : Txt K mg A) : CI P w K mg base A ⟨A.c_MomentFront, "MomentFront", "momentfront"⟩ := by
  have e : den "momentfront" = false := by decide +kernel
  refine ⟨?_, ?_⟩
  · show _ = some (den "momentfront")
    rw [e]
    exact T.kD_MomentFront
  · show BoolC P w K mg base 1 _ (!den "momentfront")
    rw [e]
    exact ⟨A.b_Paper, T.b_MomentFront.1, T.b_MomentFront.2, fn_Paper_bool T⟩
theorem ci_Slips (T : Txt K mg A) : CI P w K mg base A ⟨A.c_Slips, "Slips", "slips"⟩ := by
  have e : den "slips" = true := by decide +kernel
  refine ⟨?_, ?_⟩
  · show _ = some (den "slips")
    rw [e]
    exact T.kD_Slips
  · show BoolC P w K mg base 1 _ (!den "slips")
    rw [e]
    exact ⟨A.b_Denial, T.b_Slips.1, T.b_Slips.2, fn_Denial_bool T⟩
theorem ci_Firm (T : Txt K mg A) : CI P w K mg base A ⟨A.c_Firm, "Firm", "firm"⟩ := by
  have e : den "firm" = false := by decide +kernel
  refine ⟨?_, ?_⟩
  · show _ = some (den "firm")
    rw [e]
    exact T.kD_Firm
  · show BoolC P w K mg base 1 _ (!den "firm")
    rw [e]
    exact ⟨A.b_Paper, T.b_Firm.1, T.b_Firm.2, fn_Paper_bool T⟩
theorem ci_Steady (T : Txt K mg A) : CI P w K mg base A ⟨A.c_Steady, "Steady", "steady"⟩ := by
  have e : den "steady" = false := by decide +kernel
  refine ⟨?_, ?_⟩
  · show _ = some (den "steady")
    rw [e]
    exact T.kD_Steady
  · show BoolC P w K mg base 1 _ (!den "steady")
    rw [e]
    exact ⟨A.b_Paper, T.b_Steady.1, T.b_Steady.2, fn_Paper_bool T⟩
theorem ci_Patience (T : Txt K mg A) : CI P w K mg base A ⟨A.c_Patience, "Patience", "patience"⟩ := by
  have e : den "patience" = false := by decide +kernel
  refine ⟨?_, ?_⟩
  · show _ = some (den "patience")
    rw [e]
    exact T.kD_Patience
  · show BoolC P w K mg base 1 _ (!den "patience")
    rw [e]
    exact ⟨A.b_Paper, T.b_Patience.1, T.b_Patience.2, fn_Paper_bool T⟩
theorem ci_Losing (T : Txt K mg A) : CI P w K mg base A ⟨A.c_Losing, "Losing", "losing"⟩ := by
  have e : den "losing" = false := by decide +kernel
  refine ⟨?_, ?_⟩
  · show _ = some (den "losing")
    rw [e]
    exact T.kD_Losing
  · show BoolC P w K mg base 1 _ (!den "losing")
    rw [e]
    exact ⟨A.b_Paper, T.b_Losing.1, T.b_Losing.2, fn_Paper_bool T⟩
theorem ci_Ones (T : Txt K mg A) : ∀ c ∈ csOnes A, CI P w K mg base A c := by
  intro c hc
  simp only [csOnes, List.mem_cons, List.not_mem_nil, or_false] at hc
  rcases hc with rfl | rfl | rfl | rfl | rfl | rfl | rfl | rfl
  · exact ci_Safe T
  · exact ci_Implied T
  · exact ci_Serves T
  · exact ci_Holds T
  · exact ci_Handed T
  · exact ci_Shared T
  · exact ci_Never T
  · exact ci_Stays T
theorem nd_Ones (A : Adr) : ((csOnes A).map (·.nm)).Nodup := by
  show (["Safe", "Implied", "Serves", "Holds", "Handed", "Shared", "Never", "Stays"] : List PySem.Str).Nodup
  decide +kernel
theorem ci_Twos (T : Txt K mg A) : ∀ c ∈ csTwos A, CI P w K mg base A c := by
  intro c hc
  simp only [csTwos, List.mem_cons, List.not_mem_nil, or_false] at hc
  rcases hc with rfl | rfl | rfl | rfl | rfl | rfl | rfl | rfl | rfl | rfl
  · exact ci_Unsafe T
  · exact ci_Apart T
  · exact ci_Held T
  · exact ci_Broken T
  · exact ci_Uncovered T
  · exact ci_Refusal T
  · exact ci_Ring T
  · exact ci_SightFront T
  · exact ci_PromiseFront T
  · exact ci_Unfirm T
theorem nd_Twos (A : Adr) : ((csTwos A).map (·.nm)).Nodup := by
  show (["Unsafe", "Apart", "Held", "Broken", "Uncovered", "Refusal", "Ring", "SightFront", "PromiseFront", "Unfirm"] : List PySem.Str).Nodup
  decide +kernel
theorem ci_Threes (T : Txt K mg A) : ∀ c ∈ csThrees A, CI P w K mg base A c := by
  intro c hc
  simp only [csThrees, List.mem_cons, List.not_mem_nil, or_false] at hc
  rcases hc with rfl | rfl | rfl | rfl | rfl | rfl | rfl | rfl | rfl | rfl | rfl | rfl | rfl
  · exact ci_Lost T
  · exact ci_Lacks T
  · exact ci_Dropped T
  · exact ci_Kept T
  · exact ci_Least T
  · exact ci_Parting T
  · exact ci_Delay T
  · exact ci_SureTime T
  · exact ci_DelayFront T
  · exact ci_MomentFront T
  · exact ci_Slips T
  · exact ci_Firm T
  · exact ci_Steady T
theorem nd_Threes (A : Adr) : ((csThrees A).map (·.nm)).Nodup := by
  show (["Lost", "Lacks", "Dropped", "Kept", "Least", "Parting", "Delay", "SureTime", "DelayFront", "MomentFront", "Slips", "Firm", "Steady"] : List PySem.Str).Nodup
  decide +kernel
theorem ok_law (PF : Prg P) (T : Txt K mg A) : FnG P w K mg base CX0 12 A.law (spLaw K) := by
  obtain ⟨fd, F⟩ := T.F_law
  refine Fun_okN F sc_law (fun vs H Q E h => ?_) (fun _ _ _ _ _ _ us hl => match us, hl with | [_], _ => rfl) (fun cdv A' outer s H vs Q E hr hg h => ?_)
  · obtain ⟨_, _, rfl, _⟩ := h
    rfl
  obtain ⟨a, ns, rfl, hS, hl, q⟩ := h
  refine ⟨_, ((pss_cons (ps_set (i := 1) sc_law.nd rfl (Or.inr rfl) (pe_callGd (ok_l_font T) (hr.mono (by decide)) hg rfl T.m_l_font T.k_l_font pass0 (pa_cons (pv 0) pa_nil)))
    (pss_cons (ps_setLc (own := [(("_law_turn" : PySem.Str), 3)]) (i := 2) rfl sc_law.nd rfl rfl (sw_true rfl rfl rfl (by decide +kernel)) (pi_range1 (by rfl) T.n_range (pa_cons pe_int pa_nil)) (blkOk_by (own := [(("_law_turn" : PySem.Str), 3)]) (N := [("_law_script" : PySem.Str), ("_law_font_here" : PySem.Str), ("_law_pairs" : PySem.Str), ("_law_turn" : PySem.Str), ("_law_a" : PySem.Str), ("_law_b" : PySem.Str), ("_law_c" : PySem.Str), ("_law_d" : PySem.Str), ("_law_e" : PySem.Str), ("_law_pair" : PySem.Str), ("_law_due" : PySem.Str), ("_law_more_here" : PySem.Str)]) (sc := defScope s_law) (by decide +kernel)) (fun _ _ _ _ _ => (pg_name (i := 3) sc_law.nd rfl (Or.inl rfl))) (fun _ _ _ _ _ => pts_nil) (fun _ _ _ _ _ => (pe_callGd (ok_l_value T 2) (hr.mono (by decide)) hg rfl T.m_l_value T.k_l_value pass0 (pa_cons (pv 1) (pa_cons pe_int pa_nil)))))
    (pss_cons (ps_asg (pe_lc (own := [(("_law_pair" : PySem.Str), 9)]) rfl sc_law.nd (pi_list (pv 2)) (blkOk_by (own := [(("_law_pair" : PySem.Str), 9)]) (N := [("_law_script" : PySem.Str), ("_law_font_here" : PySem.Str), ("_law_pairs" : PySem.Str), ("_law_turn" : PySem.Str), ("_law_a" : PySem.Str), ("_law_b" : PySem.Str), ("_law_c" : PySem.Str), ("_law_d" : PySem.Str), ("_law_e" : PySem.Str), ("_law_pair" : PySem.Str), ("_law_due" : PySem.Str), ("_law_more_here" : PySem.Str)]) (sc := defScope s_law) (by decide +kernel)) (fun _ _ _ _ _ => (pg_name (i := 9) sc_law.nd rfl (Or.inl rfl))) (fun _ _ _ _ _ => pts_nil) (fun _ _ _ _ _ => (pe_ix (show IxR _ (rIxT K) from ix_tup) (pv 9) pe_int (fun _ _ => rfl)))) (pg_unl (by rfl) (pgs_cons (pg_name (i := 4) sc_law.nd rfl (Or.inl rfl)) (pgs_cons (pg_name (i := 5) sc_law.nd rfl (Or.inl rfl)) (pgs_cons (pg_name (i := 6) sc_law.nd rfl (Or.inl rfl)) (pgs_cons (pg_name (i := 7) sc_law.nd rfl (Or.inl rfl)) (pgs_cons (pg_name (i := 8) sc_law.nd rfl (Or.inl rfl)) pgs_nil)))))))
    (pss_cons (ps_set (i := 10) sc_law.nd rfl (Or.inl rfl) (pe_callTy call_tuple_of (by rfl) T.n_tuple (by decide +kernel) (pa_cons (pe_lc (own := [(("_law_pair" : PySem.Str), 9)]) rfl sc_law.nd (pi_list (pv 2)) (blkOk_by (own := [(("_law_pair" : PySem.Str), 9)]) (N := [("_law_script" : PySem.Str), ("_law_font_here" : PySem.Str), ("_law_pairs" : PySem.Str), ("_law_turn" : PySem.Str), ("_law_a" : PySem.Str), ("_law_b" : PySem.Str), ("_law_c" : PySem.Str), ("_law_d" : PySem.Str), ("_law_e" : PySem.Str), ("_law_pair" : PySem.Str), ("_law_due" : PySem.Str), ("_law_more_here" : PySem.Str)]) (sc := defScope s_law) (by decide +kernel)) (fun _ _ _ _ _ => (pg_name (i := 9) sc_law.nd rfl (Or.inl rfl))) (fun _ _ _ _ _ => pts_nil) (fun _ _ _ _ _ => (pe_ix (show IxR _ (rIxT K) from ix_tup) (pv 9) pe_int (fun _ _ => rfl)))) pa_nil)))
    (pss_cons (ps_if (PW.pt (pw_or (pt_not (pt_val (pe_callGd (ok_l_rows_right PF T) (hr.mono (by decide)) hg rfl T.m_l_rows_right T.k_l_rows_right pass0 (pa_cons (pe_callGd (ok_l_ones PF T) (hr.mono (by decide)) hg rfl T.m_l_ones T.k_l_ones pass0 (pa_cons (pv 4) pa_nil)) (pa_cons (pe_slice sl_tupA (pv 10) po_none (po_some pe_int)) pa_nil))))) (pw_or1 (pt_not (pt_val (pe_callGd (ok_l_rows_right PF T) (hr.mono (by decide)) hg rfl T.m_l_rows_right T.k_l_rows_right pass0 (pa_cons (pe_callGd (ok_l_twos PF T) (hr.mono (by decide)) hg rfl T.m_l_twos T.k_l_twos pass0 (pa_cons (pv 4) (pa_cons (pv 5) pa_nil))) (pa_cons (pe_slice sl_tupA (pv 10) po_none (po_some pe_int)) pa_nil)))))))) (pss_one (ps_ret pe_bl)) pss_nil)
    (pss_cons (ps_if (pt_not (pt_val (pe_callGd (ok_l_rows_right PF T) (hr.mono (by decide)) hg rfl T.m_l_rows_right T.k_l_rows_right pass0 (pa_cons (pe_callGd (ok_l_threes PF T) (hr.mono (by decide)) hg rfl T.m_l_threes T.k_l_threes pass0 (pa_cons (pv 4) (pa_cons (pv 5) (pa_cons (pv 6) pa_nil)))) (pa_cons (pe_slice sl_tupA (pv 10) po_none (po_some pe_int)) pa_nil))))) (pss_one (ps_ret pe_bl)) pss_nil)
    (pss_cons (ps_set (i := 11) sc_law.nd rfl (Or.inl rfl) (pe_callGd (ok_l_more PF T) (hr.mono (by decide)) hg rfl T.m_l_more T.k_l_more pass0 (pa_cons (pv 4) (pa_cons (pv 5) (pa_cons (pv 6) (pa_cons (pv 7) (pa_cons (pv 8) pa_nil)))))))
    (pss_cons (ps_if (PW.pt (pw_or (pt_not (pt_val (pe_callGd (ok_l_rows_right PF T) (hr.mono (by decide)) hg rfl T.m_l_rows_right T.k_l_rows_right pass0 (pa_cons (pe_slice sl_list (pv 11) po_none (po_some pe_int)) (pa_cons (pe_slice sl_tupA (pv 10) po_none (po_some pe_int)) pa_nil))))) (pw_or1 (pt_not (pt_val (pe_callGd (ok_l_rows_right PF T) (hr.mono (by decide)) hg rfl T.m_l_rows_right T.k_l_rows_right pass0 (pa_cons (pe_slice sl_list (pv 11) (po_some pe_int) po_none) (pa_cons (pv 10) pa_nil)))))))) (pss_one (ps_ret pe_bl)) pss_nil)
    (pss_cons (ps_if (pt_not (pt_val (pe_callGd (ok_l_unlike_right PF T) (hr.mono (by decide)) hg rfl T.m_l_unlike_right T.k_l_unlike_right pass0 (pa_cons (pv 1) (pa_cons (pe_lst (pa_cons (pv 4) (pa_cons (pv 5) (pa_cons (pv 6) (pa_cons (pv 7) (pa_cons (pv 8) pa_nil)))))) pa_nil))))) (pss_one (ps_ret pe_bl)) pss_nil)
    (pss_cons (ps_if (PW.pt (pw_or (pt_not (pt_cmpR (MyP.op_ownEq T.isq (fn_Paper_eq T) (hr.mono (by decide)) hg) (pe_makeG T.Mk_Kept (fn_Kept_init PF T) (hr.mono (by decide)) hg rfl T.m_Kept (pa_cons pe_int (pa_cons (pv 4) (pa_cons (pe_lst (pa_cons pe_int pa_nil)) pa_nil)))) (pe_makeG T.Mk_Kept (fn_Kept_init PF T) (hr.mono (by decide)) hg rfl T.m_Kept (pa_cons pe_bl (pa_cons (pv 4) (pa_cons (pe_lst (pa_cons pe_bl pa_nil)) pa_nil)))) (nomark _))) (pw_or (pt_cmpR (MyP.op_ownEq T.isq (fn_Paper_eq T) (hr.mono (by decide)) hg) (pe_makeG T.Mk_Kept (fn_Kept_init PF T) (hr.mono (by decide)) hg rfl T.m_Kept (pa_cons pe_int (pa_cons (pv 4) (pa_cons (pe_lst (pa_cons pe_int pa_nil)) pa_nil)))) (pe_makeG T.Mk_Kept (fn_Kept_init PF T) (hr.mono (by decide)) hg rfl T.m_Kept (pa_cons pe_int (pa_cons (pv 4) (pa_cons (pe_lst (pa_cons pe_int pa_nil)) pa_nil)))) (nomark _)) (pw_or1 (pt_cmpR (MyP.op_ownEq T.isq (fn_Paper_eq T) (hr.mono (by decide)) hg) (pe_makeG T.Mk_Held (fn_Held_init PF T) (hr.mono (by decide)) hg rfl T.m_Held (pa_cons (pv 4) (pa_cons pe_int pa_nil))) (pe_makeG T.Mk_Held (fn_Held_init PF T) (hr.mono (by decide)) hg rfl T.m_Held (pa_cons (pv 4) (pa_cons pe_int pa_nil))) (nomark _)))))) (pss_one (ps_ret pe_bl)) pss_nil)
    (pss_one (ps_ret (pe_and (pe_not (pe_cmpR (MyP.op_ownEq T.isq (fn_Paper_eq T) (hr.mono (by decide)) hg) (pe_makeG T.Mk_Lacks (fn_Lacks_init PF T) (hr.mono (by decide)) hg rfl T.m_Lacks (pa_cons (pv 4) (pa_cons pe_str (pa_cons (pv 5) pa_nil)))) (pe_makeG T.Mk_Lacks (fn_Lacks_init PF T) (hr.mono (by decide)) hg rfl T.m_Lacks (pa_cons (pv 4) (pa_cons pe_str (pa_cons (pv 5) pa_nil)))) (nomark _))) (pe_one (pe_cmpR (MyP.op_ownEq T.isq (fn_Paper_eq T) (hr.mono (by decide)) hg) (pe_makeG T.Mk_Patience (fn_Patience_init PF T) (hr.mono (by decide)) hg rfl T.m_Patience (pa_cons (pv 4) (pa_cons (pv 5) (pa_cons (pv 6) (pa_cons pe_int pa_nil))))) (pe_makeG T.Mk_Patience (fn_Patience_init PF T) (hr.mono (by decide)) hg rfl T.m_Patience (pa_cons (pv 4) (pa_cons (pv 5) (pa_cons (pv 6) (pa_cons pe_bl pa_nil))))) (nomark _))))))))))))))))), ?_⟩
  have c2 : Cst 2 = 39 := rfl
  refine sq (as1 ?_)
  refine ⟨_, rfl, Iv.mk ⟨a, ns, rfl, hS, hl, fun H1 p S1 hp ⟨c, cs, W1⟩ => ?_⟩⟩
  refine nx1 (σ := [some (.ref a), some (.ref p), none, none, none, none, none, none, none, none, none, none]) ?_
  refine sq ?_
  refine as1 ?_
  refine ⟨5, rfl, by decide, by decide, fun D hD => ?_⟩
  have hDW := W1.ne hD
  obtain ⟨oW, hoW⟩ := W1.at
  refine lc_it walk_range (fun i H' => Iv (WellAt H' ⟨p, c, cs⟩ (39 * i) ∧ (∀ b, H' b = none → upd H1 D (.lst []) b = none) ∧ ∃ ts vs us ds es, H' D = some (.lst ts) ∧ ts.length = i ∧ Prs (nw (upd H1 D (.lst [])) H') ts vs us ds es ∧ ∀ d ∈ ds, Okd 2 d))
    (Iv.mk ⟨W1.new hD, fun _ h => h, [], [], [], [], [], upd_same, rfl, .nil, fun d h => absurd h List.not_mem_nil⟩) (fun _ _ _ _ => trivial) ?_ ?_
  · rintro i x H4 H5 hi hI5 ⟨rfl, rfl⟩
    obtain ⟨W5, dm, ts, vs, us, ds, es, hDl, hl, hps, hok⟩ := hI5.out
    have hi4 : i ≤ 4 := by have : i < (5 : Int).toNat := hi; have e : (5 : Int).toNat = 5 := rfl; omega
    refine ⟨rfl, ?_⟩
    refine ⟨_, rfl, Iv.mk ⟨⟨p, c, cs⟩, 39 * i, rfl, W5, by omega, fun H6 t v u d e W6 K6 ht dv du okd fx => ?_⟩⟩
    have hD6 : H6 D = some (.lst ts) := K6 D _ hDW.1 hDl
    have nD : ∀ b, upd H1 D (.lst []) b = none → b ≠ D ∧ b ≠ p := fun b hb => by
      have h1 : b ≠ D := fun e => by (rw [e, upd_same] at hb; cases hb)
      refine ⟨h1, fun e => ?_⟩
      rw [upd_ne h1, e, show H1 p = some oW from hoW] at hb
      cases hb
    have SA : ∀ xs, Same (nw (upd H1 D (.lst [])) H5) (nw (upd H1 D (.lst [])) (upd H6 D (.lst xs))) := fun xs => nw_same (fun _ h => h) fun b o hb e => by
      rw [upd_ne (nD b hb).1]
      exact K6 b o (nD b hb).2 e
    have SB : ∀ xs, Same (nw H5 H6) (nw (upd H1 D (.lst [])) (upd H6 D (.lst xs))) := fun xs => nw_same dm fun b o hb e => by
      rw [upd_ne (nD b (dm b hb)).1]
      exact e
    refine ⟨ts, hD6, line_lt (by omega), Iv.mk ⟨(W6.mono (by omega)).put hDW, fun b hb => ?_, ts ++ [.ref t], vs ++ [v], us ++ [u], ds ++ [d], es ++ [e], upd_same, by rw [List.length_append, hl]; rfl, (hps.same (SA _)).snoc (SB _ _ _ ht) (dv.same (SB _)) (du.same (SB _)) fx, ?_⟩⟩
    · by_cases e : b = D
      · subst e
        rw [upd_same] at hb
        cases hb
      · rw [upd_ne e] at hb
        obtain ⟨o6, ho6⟩ := W6.at
        exact dm b (Kp.free K6 ⟨_, ho6⟩ hb)
    · intro d' hd'
      rcases List.mem_append.mp hd' with h | h
      · exact hok d' h
      · rw [List.mem_singleton.mp h]; exact okd
  · intro H2 hI5
    obtain ⟨W2, dm, ts, vs, us, ds, es, hDl, hl, hps, hok⟩ := hI5.out
    have hl : ts.length = 5 := hl
    obtain ⟨hdv, hdu, hfx, l1, l2, l3⟩ := hps.all
    have hDp : upd H1 D (.lst []) p = some oW := by rw [upd_ne (Ne.symm hDW.1)]; exact hoW
    generalize upd H1 D (.lst []) = H0 at hps hdv hdu hDp dm
    have ps2 := hps.same nw_all
    clear hD hDW hoW W1 hp S1 hS hl dm
    have hl : ts.length = 5 := by omega
    refine nx1 (σ := [some (.ref a), some (.ref p), some (.ref D), none, none, none, none, none, none, none, none, none]) ?_
    refine sq ?_
    refine ⟨_, rfl, D, rfl, ⟨ts, SqL.of hDl⟩, fun E1 hE1 => ?_⟩
    refine lc_it (walk_list (xs := ts)) (fun i H' => Iv (Same H2 H' ∧ H' E1 = some (.lst (vs.take i))))
      (Iv.mk ⟨Same.new (Same.refl _) hE1, upd_same⟩) (fun i H' _ h => SqL.of (h.out.1 _ _ hDl)) ?_ ?_
    · rintro i x Hp1 Hp2 hi hI5 ⟨rfl, hx⟩
      obtain ⟨sm, hEl⟩ := hI5.out
      obtain ⟨t, v, u, rfl, ht, hv, hu⟩ := ps2.at_ hx
      have ht' := sm _ _ ht
      refine ⟨rfl, _, rfl, _, _, _, _, rfl, rfl, SqT.of ht', by rfl, ?_⟩
      exact ⟨_, hEl, line_lt (by rw [List.length_take]; omega), Iv.mk ⟨Same.put sm hE1, by rw [upd_same, take_one hv]⟩⟩
    · intro H3 hI5
      obtain ⟨S23, hEl⟩ := hI5.out
      have el : vs.take ts.length = vs := by rw [l1, List.take_length]
      rw [el] at hEl
      clear el hI5
      have lv : vs.length = 5 := by omega
      have lu : us.length = 5 := by omega
      have ld : ds.length = 5 := by omega
      match vs, us, ds, lv, lu, ld with
      | [v1, v2, v3, v4, v5], [u1, u2, u3, u4, u5], [d1, d2, d3, d4, d5], _, _, _ =>
      refine ⟨E1, _, rfl, SqL.of hEl, rfl, _, _, rfl, _, _, rfl, _, _, rfl, _, _, rfl, _, _, rfl, rfl, ?_⟩
      refine nx1 (σ := [some (.ref a), some (.ref p), some (.ref D), none, some v1, some v2, some v3, some v4, some v5, none, none, none]) ?_
      refine sq (as1 ?_)
      refine ⟨_, rfl, D, rfl, ⟨ts, SqL.of (S23 _ _ hDl)⟩, fun E2 hE2 => ?_⟩
      refine lc_it (walk_list (xs := ts)) (fun i H' => Iv (Same H3 H' ∧ H' E2 = some (.lst ([u1, u2, u3, u4, u5].take i))))
        (Iv.mk ⟨Same.new (Same.refl _) hE2, upd_same⟩) (fun i H' _ h => SqL.of (h.out.1 _ _ (S23 _ _ hDl))) ?_ ?_
      · rintro i x Hp1 Hp2 hi hI5 ⟨rfl, hx⟩
        obtain ⟨sm, hEl⟩ := hI5.out
        obtain ⟨t, v, u, rfl, ht, hv, hu⟩ := ps2.at_ hx
        have ht' := sm _ _ (S23 _ _ ht)
        refine ⟨rfl, _, rfl, _, _, _, _, rfl, rfl, SqT.of ht', by rfl, ?_⟩
        exact ⟨_, hEl, line_lt (by rw [List.length_take]; omega), Iv.mk ⟨Same.put sm hE2, by rw [upd_same, take_one hu]⟩⟩
      · intro H4 hI5
        obtain ⟨S34, hE2l⟩ := hI5.out
        rw [hl] at hE2l
        refine ⟨E2, _, rfl, .inl ⟨SqL.of hE2l, fun du hdu' => ?_⟩⟩
        have S45 := Same.new (o := .tup [u1, u2, u3, u4, u5]) (Same.refl H4) hdu'
        have hu5 : upd H4 du (.tup [u1, u2, u3, u4, u5]) du = some (.tup [u1, u2, u3, u4, u5]) := upd_same
        change Ends.nx _ _ (upd H4 du (.tup [u1, u2, u3, u4, u5]))
        generalize upd H4 du (.tup [u1, u2, u3, u4, u5]) = H5 at S45 hu5 ⊢
        have S25 := S23.trans (S34.trans S45)
        have sN : Same (nw H0 H2) (nw H0 H5) := nw_same (fun _ h => h) fun b o hb e => S25 b o e
        have W5 := W2.same S25
        have hv5 := hdv.same sN
        have hw5 := (hdu.same sN).same nw_all
        refine nx1 (σ := [some (.ref a), some (.ref p), some (.ref D), none, some v1, some v2, some v3, some v4, some v5, none, some (.ref du), none]) ?_
        clear ps2 hps hdv hdu hDl hEl hE2l hE1 hE2 S23 S34 S45 S25 W2 sN l1 l2 l3
        obtain ⟨e1, e2, e3, e4, e5, rfl, f1, f2, f3, f4, f5⟩ := fx5 hfx
        have ok4 : ∀ d ∈ [d1, d2, d3, d4, d5], Okd 4 d := fun d hd => (hok d hd).mono 4 (by decide)
        match hv5.same nw_all, hw5 with
        | .cons q1 (.cons q2 (.cons q3 (.cons q4 (.cons q5 .nil)))), .cons r1 (.cons r2 (.cons r3 (.cons r4 (.cons r5 .nil)))) =>
        have okt : ∀ n, ∀ d ∈ List.take n [d1, d2, d3, d4, d5], Okd 4 d := fun n d hd => ok4 d (List.mem_of_mem_take hd)
        refine ⟨_, rfl, Iv.mk ⟨v1, d1, e1, rfl, q1, ok4 _ List.mem_cons_self, f1, fun H6 p1 S6 RA => ?_⟩⟩
        refine ⟨_, rfl, _, rfl, du, _, rfl, SqT.of (S6 _ _ hu5), (fun h => absurd (show HT.sIx 5 5 (some 1) = 5 from h.2) (by decide)), fun _ t1 ht1 => ?_⟩
        have T1 : Same H6 (upd H6 t1 (.tup [u1])) := Same.new (Same.refl _) ht1
        have T5 := S6.trans T1
        refine Iv.mk ⟨p1, t1, [u1], _, [d1], [e1], rfl, RA.same T1, upd_same, .cons (r1.same T5) .nil, .cons f1 .nil, okt 1, by show 1 ≤ 5; decide, Nat.le_of_ble_eq_true rfl, ci_Ones T, nd_Ones A, fun H7 S7 => ?_⟩
        have S57 := T5.trans S7
        clear RA T1 T5 S6 S7 ht1
        refine ⟨_, rfl, if_f (by decide) ?_⟩
        refine ⟨_, rfl, _, rfl, Iv.mk ⟨[v1, v2], [d1, d2], rfl, rfl, .cons (q1.same S57) (.cons (q2.same S57) .nil), okt 2, fun H8 p2 ex S8 fx RA => ?_⟩⟩
        obtain rfl := fx.det (.cons f1 (.cons f2 .nil))
        refine ⟨_, rfl, _, rfl, du, _, rfl, SqT.of ((S57.trans S8) _ _ hu5), (fun h => absurd (show HT.sIx 5 5 (some 2) = 5 from h.2) (by decide)), fun _ t1 ht1 => ?_⟩
        have T1 : Same H8 (upd H8 t1 (.tup [u1, u2])) := Same.new (Same.refl _) ht1
        have T5 := S57.trans (S8.trans T1)
        refine Iv.mk ⟨p2, t1, [u1, u2], _, [d1, d2], _, rfl, RA.same T1, upd_same, .cons (r1.same T5) (.cons (r2.same T5) .nil), .cons f1 (.cons f2 .nil), okt 2, by show 2 ≤ 5; decide, Nat.le_of_ble_eq_true rfl, ci_Twos T, nd_Twos A, fun H9 S9 => ?_⟩
        have S59 := T5.trans S9
        clear RA T1 T5 S8 S9 S57 ht1 fx
        refine ⟨_, rfl, if_f (by decide) ?_⟩
        refine sq ?_
        refine ⟨_, rfl, _, rfl, _, rfl, Iv.mk ⟨[v1, v2, v3], [d1, d2, d3], rfl, rfl, .cons (q1.same S59) (.cons (q2.same S59) (.cons (q3.same S59) .nil)), okt 3, fun H8 p2 ex S8 fx RA => ?_⟩⟩
        obtain rfl := fx.det (.cons f1 (.cons f2 (.cons f3 .nil)))
        refine ⟨_, rfl, _, rfl, du, _, rfl, SqT.of ((S59.trans S8) _ _ hu5), (fun h => absurd (show HT.sIx 5 5 (some 3) = 5 from h.2) (by decide)), fun _ t1 ht1 => ?_⟩
        have T1 : Same H8 (upd H8 t1 (.tup [u1, u2, u3])) := Same.new (Same.refl _) ht1
        have T5 := S59.trans (S8.trans T1)
        refine Iv.mk ⟨p2, t1, [u1, u2, u3], _, [d1, d2, d3], _, rfl, RA.same T1, upd_same, .cons (r1.same T5) (.cons (r2.same T5) (.cons (r3.same T5) .nil)), .cons f1 (.cons f2 (.cons f3 .nil)), okt 3, by show 3 ≤ 5; decide, Nat.le_of_ble_eq_true rfl, ci_Threes T, nd_Threes A, fun H10 S10 => ?_⟩
        have S510 := T5.trans S10
        clear RA T1 T5 S8 S10 S59 ht1 fx
        refine ⟨_, rfl, if_f (by decide) ?_⟩
        refine nx1 (σ := [some (.ref a), some (.ref p), some (.ref D), none, some v1, some v2, some v3, some v4, some v5, none, some (.ref du), none]) ?_
        refine sq (as1 ?_)
        refine ⟨_, rfl, _, rfl, _, rfl, _, rfl, _, rfl, Iv.mk ⟨[v1, v2, v3, v4, v5], [d1, d2, d3, d4, d5], rfl, rfl, .cons (q1.same S510) (.cons (q2.same S510) (.cons (q3.same S510) (.cons (q4.same S510) (.cons (q5.same S510) .nil)))), ok4, fun H11 pm t1 t2 ex S11 fx hpm A1 A2 => ?_⟩⟩
        obtain rfl := fx.det (.cons f1 (.cons f2 (.cons f3 (.cons f4 (.cons f5 .nil)))))
        have S5 := S510.trans S11
        refine nx1 (σ := [some (.ref a), some (.ref p), some (.ref D), none, some v1, some v2, some v3, some v4, some v5, none, some (.ref du), some (.ref pm)]) ?_
        clear S510 S11
        refine sq ?_
        refine ⟨_, rfl, _, rfl, pm, _, rfl, SqL.of hpm, fun ps hps => ?_⟩
        have T1 : Same H11 (upd H11 ps (.lst [t1])) := Same.new (Same.refl _) hps
        have k1 : upd H11 ps (.lst [t1]) ps = some (.lst [t1]) := upd_same
        change tCons _ _ _ (upd H11 ps (.lst [t1])) _
        generalize upd H11 ps (.lst [t1]) = H12 at T1 k1 ⊢
        have S6 := S5.trans T1
        refine ⟨_, rfl, _, rfl, du, _, rfl, SqT.of (S6 _ _ hu5), (fun h => absurd (show HT.sIx 5 5 (some 4) = 5 from h.2) (by decide)), fun _ t0 ht0 => ?_⟩
        have T2 : Same H12 (upd H12 t0 (.tup [u1, u2, u3, u4])) := Same.new (Same.refl _) ht0
        have S7 := S6.trans T2
        refine Iv.mk ⟨ps, t0, [u1, u2, u3, u4], [⟨A.c_Patience, "Patience", "patience"⟩], [d1, d2, d3, d4], [e1, e2, e3, e4], rfl, ⟨[t1], T2 _ _ k1, .cons (A1.same (T1.trans T2)) .nil⟩, upd_same, .cons (r1.same S7) (.cons (r2.same S7) (.cons (r3.same S7) (.cons (r4.same S7) .nil))), .cons f1 (.cons f2 (.cons f3 (.cons f4 .nil))), okt 4, by show 4 ≤ 5; decide, Nat.le_of_ble_eq_true rfl, (fun c hc => by rw [List.mem_singleton.mp hc]; exact ci_Patience T), (by show ([_] : List PySem.Str).Nodup; simp), fun H13 S8 => ?_⟩
        have S13 := S7.trans S8
        have X13 := T1.trans (T2.trans S8)
        refine ⟨_, rfl, if_f (by decide) ?_⟩
        have hpm := X13 _ _ hpm
        have A2 := A2.same X13
        clear A1 T1 T2 S6 S7 S8 X13 k1 S5 hps ht0
        refine ⟨_, rfl, _, rfl, pm, _, rfl, SqL.of hpm, fun ps hps => ?_⟩
        have T1 : Same H13 (upd H13 ps (.lst [t2])) := Same.new (Same.refl _) hps
        have k1 : upd H13 ps (.lst [t2]) ps = some (.lst [t2]) := upd_same
        change tCons _ _ _ (upd H13 ps (.lst [t2])) _
        generalize upd H13 ps (.lst [t2]) = H14 at T1 k1 ⊢
        have S6 := S13.trans T1
        refine ⟨_, rfl, ?_⟩
        refine Iv.mk ⟨ps, du, [u1, u2, u3, u4, u5], [⟨A.c_Losing, "Losing", "losing"⟩], [d1, d2, d3, d4, d5], [e1, e2, e3, e4, e5], rfl, ⟨[t2], k1, .cons (A2.same T1) .nil⟩, S6 _ _ hu5, .cons (r1.same S6) (.cons (r2.same S6) (.cons (r3.same S6) (.cons (r4.same S6) (.cons (r5.same S6) .nil)))), .cons f1 (.cons f2 (.cons f3 (.cons f4 (.cons f5 .nil)))), ok4, Nat.le_of_ble_eq_true rfl, Nat.le_of_ble_eq_true rfl, (fun c hc => by rw [List.mem_singleton.mp hc]; exact ci_Losing T), (by show ([_] : List PySem.Str).Nodup; simp), fun H15 S8 => ?_⟩
        have S15 := S6.trans S8
        refine ⟨_, rfl, if_f (by decide) ?_⟩
        clear A2 T1 S6 S8 S13 k1 hps hpm r1 r2 r3 r4 r5 hw5 hu5
        refine sq ?_
        refine ⟨_, rfl, _, rfl, _, rfl, _, rfl, _, rfl, _, rfl, Nat.le_of_ble_eq_true rfl, fun al hal => ?_⟩
        have T1 : Same H15 (upd H15 al (.lst [v1, v2, v3, v4, v5])) := Same.new (Same.refl _) hal
        have S16 := S15.trans T1
        have W6 := W5.same S16
        have hDp5 : ∀ {H' : Hp}, Kp p (upd H15 al (.lst [v1, v2, v3, v4, v5])) H' → DpRs H' [v1, v2, v3, v4, v5] [d1, d2, d3, d4, d5] := fun {H'} k => (hv5.same (nw_same (H' := H') (fun _ h => h) fun b o hb e => k b o (fun z => by rw [z, hDp] at hb; cases hb) (S16 _ _ e))).same nw_all
        refine Iv.mk ⟨⟨p, c, cs⟩, 195, al, [v1, v2, v3, v4, v5], [d1, d2, d3, d4, d5], [e1, e2, e3, e4, e5], rfl, W6, by decide, ((W5.same S15).ne hal).1, upd_same, fun H' k => hDp5 k, .cons f1 (.cons f2 (.cons f3 (.cons f4 (.cons f5 .nil)))), fun d hd => (hok d hd).mono 3 (by decide), rfl, fun H16 k16 => ?_⟩
        have hv16 := hDp5 k16
        refine ⟨_, rfl, if_f (by decide) ?_⟩
        clear q1 q2 q3 q4 q5 hDp5 k16 W6 S16 T1 S15 hv5 W5 hal
        match hv16 with
        | .cons q1 (.cons q2 (.cons q3 (.cons q4 (.cons q5 .nil)))) =>
        refine sq ?_
        have tupA : TupAll [e1, e2, e3, e4, e5] := FxAll.tupA (d := [d1, d2, d3, d4, d5]) (.cons f1 (.cons f2 (.cons f3 (.cons f4 (.cons f5 .nil))))) ok4
        have v1e : PyData.eqv e1 e1 = true := (tup_at tupA (i := 0) rfl).eqv
        have v2e : PyData.eqv e2 e2 = true := (tup_at tupA (i := 1) rfl).eqv
        have v3e : PyData.eqv e3 e3 = true := (tup_at tupA (i := 2) rfl).eqv
        have o1 : Okd 4 d1 := ok4 _ List.mem_cons_self
        have okk : ∀ k1 k2 : PyData, Leaf k1 → Leaf k2 → ∀ d ∈ [k1, d1, .list [k2]], Okd 4 d := fun k1 k2 L1 L2 d hd => by
          simp only [List.mem_cons, List.not_mem_nil, or_false] at hd
          rcases hd with rfl | rfl | rfl
          · exact .leaf L1
          · exact o1
          · exact .list (by show 1 ≤ 3; decide) fun x hx => by rw [List.mem_singleton.mp hx]; exact .leaf L2
        have o2 : Okd 4 d2 := okt 2 _ (List.mem_cons_of_mem _ List.mem_cons_self)
        have o3 : Okd 4 d3 := okt 3 _ (List.mem_cons_of_mem _ (List.mem_cons_of_mem _ List.mem_cons_self))
        refine nx1 (σ := [some (.ref a), some (.ref p), some (.ref D), none, some v1, some v2, some v3, some v4, some v5, none, some (.ref du), some (.ref pm)]) ?_
        refine sq ?_
        refine if1 (or1 (no1 (te1 (op1 ?_))))
        refine mkD (ds := [.int 1, d1, .list [.int 0]]) (es := [.int 1, e1, .tuple [.int 0]]) (fun R r => ⟨_, rfl, line_le (by exact Nat.le_of_ble_eq_true rfl), fun l hl => r _ _ (Same.new (Same.refl _) hl) (.cons (.int 1) (.cons ((q1.same (Same.refl _)).same (Same.new (Same.refl _) hl)) (.cons (.lst (.inl upd_same) (.cons (.int 0) .nil)) .nil)))⟩) (kc_Kept T) (okk _ _ (leaf_int (by decide) (by decide)) (leaf_int (by decide) (by decide))) rfl (by decide) (.cons (.flat (leaf_int (by decide) (by decide)).flat) (.cons f1 (.cons (.list (.cons (.flat (leaf_int (by decide) (by decide)).flat) .nil)) .nil))) fun Ha xa Sa Xa => ?_
        refine mkD (ds := [.bool true, d1, .list [.bool false]]) (es := [.bool true, e1, .tuple [.bool false]]) (fun R r => ⟨_, rfl, line_le (by exact Nat.le_of_ble_eq_true rfl), fun l hl => r _ _ (Same.new (Same.refl _) hl) (.cons (.bl true) (.cons ((q1.same (Sa)).same (Same.new (Same.refl _) hl)) (.cons (.lst (.inl upd_same) (.cons (.bl false) .nil)) .nil)))⟩) (kc_Kept T) (okk _ _ (leaf_bl true) (leaf_bl false)) rfl (by decide) (.cons (.flat (leaf_bl true).flat) (.cons f1 (.cons (.list (.cons (.flat (leaf_bl false).flat) .nil)) .nil))) fun Hb xb Sb Xb => ?_
        have Sab := Sa.trans Sb
        refine own_eqP T (Xa.same Sb) Xb (b := true) (by simp [eq_k v1e]) (fun z => absurd rfl z) ?_
        refine ⟨_, rfl, if_f (by decide) ?_⟩
        refine or1 (te1 (op1 ?_))
        refine mkD (ds := [.int 1, d1, .list [.int 0]]) (es := [.int 1, e1, .tuple [.int 0]]) (fun R r => ⟨_, rfl, line_le (by exact Nat.le_of_ble_eq_true rfl), fun l hl => r _ _ (Same.new (Same.refl _) hl) (.cons (.int 1) (.cons ((q1.same (Sab)).same (Same.new (Same.refl _) hl)) (.cons (.lst (.inl upd_same) (.cons (.int 0) .nil)) .nil)))⟩) (kc_Kept T) (okk _ _ (leaf_int (by decide) (by decide)) (leaf_int (by decide) (by decide))) rfl (by decide) (.cons (.flat (leaf_int (by decide) (by decide)).flat) (.cons f1 (.cons (.list (.cons (.flat (leaf_int (by decide) (by decide)).flat) .nil)) .nil))) fun Hc xc Sc Xc => ?_
        refine mkD (ds := [.int 1, d1, .list [.int 1]]) (es := [.int 1, e1, .tuple [.int 1]]) (fun R r => ⟨_, rfl, line_le (by exact Nat.le_of_ble_eq_true rfl), fun l hl => r _ _ (Same.new (Same.refl _) hl) (.cons (.int 1) (.cons ((q1.same (Sab.trans Sc)).same (Same.new (Same.refl _) hl)) (.cons (.lst (.inl upd_same) (.cons (.int 1) .nil)) .nil)))⟩) (kc_Kept T) (okk _ _ (leaf_int (by decide) (by decide)) (leaf_int (by decide) (by decide))) rfl (by decide) (.cons (.flat (leaf_int (by decide) (by decide)).flat) (.cons f1 (.cons (.list (.cons (.flat (leaf_int (by decide) (by decide)).flat) .nil)) .nil))) fun Hd xd Sd Xd => ?_
        have Sad := Sab.trans (Sc.trans Sd)
        refine own_eqP T (Xc.same Sd) Xd (b := false) (by simp [ne_k]) (fun z => absurd rfl z) ?_
        refine ⟨_, rfl, if_f (by decide) ?_⟩
        have okh : ∀ i : Int, 0 ≤ i → i < 10 ^ 60 → ∀ d ∈ [d1, PyData.int i], Okd 4 d := fun i h0 h1 d hd => by
          simp only [List.mem_cons, List.not_mem_nil, or_false] at hd
          rcases hd with rfl | rfl
          · exact o1
          · exact .leaf (leaf_int h0 h1)
        refine te1 (op1 ?_)
        refine mkD (ds := [d1, .int 1]) (es := [e1, .int 1]) (fun R r => ⟨_, rfl, r _ _ (Same.refl _) (.cons (q1.same Sad) (.cons (.int 1) .nil))⟩) (kc_Held T) (okh 1 (by decide) (by decide)) rfl (by decide) (.cons f1 (.cons (.flat (.int 1)) .nil)) fun He xe Se Xe => ?_
        refine mkD (ds := [d1, .int 2]) (es := [e1, .int 2]) (fun R r => ⟨_, rfl, r _ _ (Same.refl _) (.cons (q1.same (Sad.trans Se)) (.cons (.int 2) .nil))⟩) (kc_Held T) (okh 2 (by decide) (by decide)) rfl (by decide) (.cons f1 (.cons (.flat (.int 2)) .nil)) fun Hf xf Sf Xf => ?_
        refine own_eqP T (Xe.same Sf) Xf (b := false) (by simp [ne_h]) (fun z => absurd rfl z) ?_
        refine ⟨_, rfl, if_f (by decide) ?_⟩
        have Saf := Sad.trans (Se.trans Sf)
        have okl : ∀ z : PySem.Str, Leaf (.str z) → ∀ d ∈ [d1, PyData.str z, d2], Okd 4 d := fun z h d hd => by
          simp only [List.mem_cons, List.not_mem_nil, or_false] at hd
          rcases hd with rfl | rfl | rfl
          · exact o1
          · exact .leaf h
          · exact o2
        refine nx1 (σ := [some (.ref a), some (.ref p), some (.ref D), none, some v1, some v2, some v3, some v4, some v5, none, some (.ref du), some (.ref pm)]) ?_
        refine rt1 (an1 (nv1 (op1 ?_)))
        refine mkD (ds := [d1, .str "x", d2]) (es := [e1, .str "x", e2]) (fun R r => ⟨_, rfl, _, rfl, r _ _ (Same.refl _) (.cons (q1.same Saf) (.cons (.str "x") (.cons (q2.same Saf) .nil)))⟩) (kc_Lacks T) (okl _ leaf_x) rfl (by decide) (.cons f1 (.cons (.flat leaf_x.flat) (.cons f2 .nil))) fun Hg xg Sg Xg => ?_
        have Sag := Saf.trans Sg
        refine mkD (ds := [d1, .str "y", d2]) (es := [e1, .str "y", e2]) (fun R r => ⟨_, rfl, _, rfl, r _ _ (Same.refl _) (.cons (q1.same Sag) (.cons (.str "y") (.cons (q2.same Sag) .nil)))⟩) (kc_Lacks T) (okl _ leaf_y) rfl (by decide) (.cons f1 (.cons (.flat leaf_y.flat) (.cons f2 .nil))) fun Hh xh Sh Xh => ?_
        have Sah := Sag.trans Sh
        refine own_eqP T (Xg.same Sh) Xh (b := false) (by simp [ne_l]) (fun z => absurd rfl z) ?_
        refine ⟨_, rfl, ?_⟩
        refine ⟨_, rfl, if_t (by decide) ?_⟩
        have okp : ∀ k : PyData, Leaf k → ∀ d ∈ [d1, d2, d3, k], Okd 4 d := fun k h d hd => by
          simp only [List.mem_cons, List.not_mem_nil, or_false] at hd
          rcases hd with rfl | rfl | rfl | rfl
          · exact o1
          · exact o2
          · exact o3
          · exact .leaf h
        refine op1 ?_
        refine mkD (ds := [d1, d2, d3, .int 0]) (es := [e1, e2, e3, .int 0]) (fun R r => ⟨_, rfl, _, rfl, _, rfl, r _ _ (Same.refl _) (.cons (q1.same Sah) (.cons (q2.same Sah) (.cons (q3.same Sah) (.cons (.int 0) .nil))))⟩) (kc_Patience T) (okp _ (leaf_int (by decide) (by decide))) rfl (by decide) (.cons f1 (.cons f2 (.cons f3 (.cons (.flat (.int 0)) .nil)))) fun Hi xi Si Xi => ?_
        have Sai := Sah.trans Si
        refine mkD (ds := [d1, d2, d3, .bool false]) (es := [e1, e2, e3, .bool false]) (fun R r => ⟨_, rfl, _, rfl, _, rfl, r _ _ (Same.refl _) (.cons (q1.same Sai) (.cons (q2.same Sai) (.cons (q3.same Sai) (.cons (.bl false) .nil))))⟩) (kc_Patience T) (okp _ (leaf_bl false)) rfl (by decide) (.cons f1 (.cons f2 (.cons f3 (.cons (.flat (.bool false)) .nil)))) fun Hj xj Sj Xj => ?_
        refine own_eqP T (Xi.same Sj) Xj (b := true) (by simp [eq_p v1e v2e v3e]) (fun z => absurd rfl z) ?_
        exact q _
end
end K56

open PySem PySem.W PySem.Calls PyProof.Rows in
set_option maxRecDepth 100000 in
set_option maxHeartbeats 0 in
theorem PySem.Challenge.cw_dimkeeper_k56_papers_of_every_class_holds : PySem.Challenge.rw_dimkeeper_k56_papers_of_every_class.Holds := by
  w_on; o_law
  refine HandSHeadRun.head_any (r := K56.R) (q := view K56.R.prog [K56.lawAt]) (H := K56.hk) (ob := K56.ob) (M := 20000) (loose := K56.loose) (d := HandSHeadRun.topDef K56.R.prog K56.lawAt) (kwd := []) K56.ob_eq
    (by kernel_rfl) (fun s => by kernel_rfl) K56.run (by kernel_rfl) (by kernel_rfl) (by kernel_rfl) (by rfl) (by first | assumption | decide +kernel) (by decide +kernel) ⟨rfl, rfl, rfl, rfl, rfl, by decide +kernel⟩ ?hw ?hc
  case hw => w_witness2
  case hc =>
    refine MyH.walk_ofGE (l := PySem.Challenge.rw_dimkeeper_k56_papers_of_every_class) (n := 63) (k := 12) (CX := fun _ => L2.CX0) rfl (by decide) (by kernel_rfl) ⟨rfl, by decide, by decide⟩ ?F (fun _ _ _ _ _ z => z)
    intro w mg fa h Y G hmg0
    obtain ⟨K, KX, c⟩ := Y
    have hmg : mg ("law" : PySem.Str) = some (.ref fa) := by
      have e : (HandSHeadRun.topDef K56.R.prog K56.lawAt).name = ("law" : PySem.Str) := by kernel_rfl
      rw [← e]
      exact hmg0
    have T := K56.txt_of KX G c
    have e := hmg.symm.trans T.m_law
    cases e
    have PF : MyP.Prg PySem.Challenge.rw_dimkeeper_k56_papers_of_every_class.prog := ⟨by kernel_rfl, by kernel_rfl⟩
    exact ⟨K, K56.spLaw K, KX, fun H a ns hl _ hS => ⟨a, ns, rfl, hS, hl, fun _ => rfl⟩, fun base _ _ => K56.ok_law PF T⟩
