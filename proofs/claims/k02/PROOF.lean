import PyProof.Rows.All
import PySem.Challenge.RW_dimkeeper_k02_papers_keep_what_they_tell
import Wide.All
import OpenK.AllK
import Wide.FinOn
import PyProof.EqAt
import PyProof.EqKinds
import PyProof.TupleCall
import PyProof.ReprRoads
import PyProof.Draws
import PyProof.EnumMake
import PyProof.EnumFor
import HandS.ForMost
import HandS.Wide
import HandS.IsInst
import HandS.Walk
import HandS.Star
import HandS.Exc
import KE.KExcIs
import HandS.ExcOwn
import HandS.ExcInit
import HandS.ExcField
import HandS.ExcIs
import HandS.WordsExc
import HandS.ExcValue
import HandS.RaiseMore
import HandS.Ends
import HandS.Head0
import HandS.Head1
import HandS.Head2
import HandS.HeadEnd
import HandS.HeadHook1
import KE.KSuper
import KE.KTypeName
import HandS.Nested
import HandS.SlotsOwn
import PyProof.AssignAttr
import HandS.Codes
import PyProof.Rows.StrJoinMade
import HandS.Small
import HandS.Style
set_option Elab.async false
set_option linter.all false
set_option maxRecDepth 100000
set_option maxHeartbeats 4000000
/-! Rules that the layer lacks: repr of data, enumerate of a text, defs that are called where no repr is under way. -/
namespace MyL
open PySem PySem.Spec PyProof.Rows L2

/-- an invariant, closed to the stepper -/
@[irreducible] def Iv (p : Prop) : Prop := p
theorem Iv.mk {p : Prop} (h : p) : Iv p := by unfold Iv; exact h
theorem Iv.out {p : Prop} (h : Iv p) : p := by unfold Iv at h; exact h
/-! ### repr of data without dicts -/
def rRepr (K : PySem.W.Frag) : List V → Hp → VK → Prop := fun xs H Q => ∃ (a : Addr) (d : PyData), xs = [.ref a] ∧ Dp K H (.ref a) d ∧ d.showable = true ∧ d.hasDict = false ∧ d.depth ≤ 60 ∧ d.shown.length ≤ sizeLine ∧ Q (.str d.shown) H
theorem call_repr_data {X : Cx} (hg : X.A.guards = some []) (hu : X.A.units + 64 < cLine) : CallR X (.builtin "repr") (rRepr X.K) := by
  intro pins s σ H xs us Q I r h
  obtain ⟨a, d, rfl, hd, hs, hn, hz, hl, q⟩ := h
  obtain ⟨u, rfl, ru⟩ := vals1 r
  obtain rfl : u = Value.ref a := ru
  obtain ⟨as, rd⟩ := Dp.reads I d _ (.ref a) hd rfl
  refine repr_of_reads' rd hs (PyData.noDict_hsm hn) hg (by omega) (fun b o e => e) (fun h' u tk hk => ?_) hl
  exact ⟨.str d.shown, H, I.kept (t' := tk) hk, ⟨u, rfl⟩, q⟩

/-! ### enumerate over a text -/
def Ites (x : Str) : It :=
  ⟨fun i _ => i < x.cps.size, fun i H v H' => ∃ T c, v = .ref T ∧ H T = none ∧ H' = upd H T (.tup [.int (i : Nat), .str ⟨#[c]⟩]) ∧ x.cps[i]? = some c, fun i _ => i = x.cps.size⟩
theorem turn_enum_str {P : Program} {w : World} {K : PySem.W.Frag} {elts : List Expr} {kk : Nat} {tpos : Pos} (x : Str) (t : Tok) (ty : String) (hty : ty = "str_ascii_iterator" ∨ ty = "str_iterator") (e it : Addr) :
    Turn P w K (.Tuple elts kk tpos) (Ites x) [e, it] e (fun i h => (∃ old, IsEnum h e it ((i : Nat) : Int) old) ∧ h.IsStrIter it ty x t i ∧ e ≠ it) where
  mem := by simp
  obj := by
    rintro i h ⟨⟨old, he⟩, ⟨o, ho, _, hd⟩, _⟩ b hb
    rcases (show b = e ∨ b = it by simpa using hb) with rfl | rfl
    · exact ⟨_, he, fun v z => nomatch z⟩
    · exact ⟨o, ho, fun v z => by rw [hd] at z; cases z⟩
  keep := by
    rintro i h h' ⟨⟨old, he⟩, ⟨o, ho, hr⟩, hne⟩ k
    exact ⟨⟨old, k e (by simp) _ he⟩, ⟨o, k it (by simp) o ho, hr⟩, hne⟩
  item := by
    intro X hP hw hK hc i pins s σ H E I hf st hg
    subst hP hw hK
    obtain ⟨⟨old, he⟩, hit, hne⟩ := st
    have lt1 : e < s.heap.objs.size := Heap.lt_size he
    have lt2 : it < s.heap.objs.size := by
      obtain ⟨_, z, _⟩ := id hit
      exact Heap.lt_size z
    have D : Draws X.prog X.w X.A.in1 it [it] x.cps.size (fun i v => ∃ c u, x.cps[i]? = some c ∧ v = .str ⟨#[c]⟩ u) (fun i h => h.IsStrIter it ty x t i) := by
      rcases hty with rfl | rfl
      · exact Draws.strAscii (A := X.A.in1) (I.ok.hd hc) it x t
      · exact Draws.strWide (A := X.A.in1) (I.ok.hd hc) it x t
    refine wpAny_pyNext_enum_itemD D he hit hg hne (by simpa using hne) fun v h' tk hv ho hit' hT hsz hk => ?_
    obtain ⟨c, u, hcx, rfl⟩ := hv
    refine ⟨_, rfl, wpAny_letOwnedTupleGo_enum (s := { s with heap := h', toks := tk + 1 }) ho fun h2 he2 sb => ?_⟩
    have hT2 := (sb.2 _ (Nat.ne_of_gt lt1)).trans hT
    have nw : ObjOk X.prog X.w (upd H s.heap.objs.size (.tup [.int (i : Nat), .str ⟨#[c]⟩])) h2 s.heap.objs.size (.tup [.int (i : Nat), .str ⟨#[c]⟩]) :=
      ⟨by show 2 ≤ sizeLine; decide, [.int i tk, .str ⟨#[c]⟩ u], .cons ⟨_, rfl⟩ (.cons ⟨_, rfl⟩ .nil), ⟨_, hT2, rfl, _, rfl⟩⟩
    have J : Inv X pins σ (upd H s.heap.objs.size (.tup [.int (i : Nat), .str ⟨#[c]⟩])) { s with heap := h2, toks := tk + 1 } := by
      refine I.turnedNew (t' := tk + 1) (ch := [e, it]) (fun b ob hb q => ?_) hf (Nat.le_refl _) nw
      have b1 : b ≠ e := fun z => hb (by simp [z])
      have b2 : b ≠ it := fun z => hb (by simp [z])
      exact (sb.2 b b1).trans (hk b ob b1 b2 q)
    refine ⟨.ref s.heap.objs.size, _, J, rfl, ⟨_, c, rfl, I.hok.fresh (Nat.le_refl _), rfl, hcx⟩, ⟨⟨.str ⟨#[c]⟩ u, ?_⟩, ?_, hne⟩, fun b hb => ?_⟩
    · have e1 : ((i + 1 : Nat) : Int) = (i : Int) + 1 := by omega
      rw [e1]
      exact he2
    · obtain ⟨o, ho2, hr⟩ := hit'
      exact ⟨o, (sb.2 it (Ne.symm hne)).trans ho2, hr⟩
    · have lb : b < s.heap.objs.size := by
        rcases (show b = e ∨ b = it by simpa using hb) with rfl | rfl
        · exact lt1
        · exact lt2
      rw [upd_ne (Nat.ne_of_lt lb)]
      exact (hf b hb).1
  done := by
    intro X hP hw hK hc i pins s σ H E I hf st hg
    subst hP hw hK
    obtain ⟨⟨old, he⟩, hit, hne⟩ := st
    obtain ⟨f0, f1, f2, f3, f4, f5⟩ := hf it (by simp)
    have D : Draws X.prog X.w X.A.in1 it [it] x.cps.size (fun i v => ∃ c u, x.cps[i]? = some c ∧ v = .str ⟨#[c]⟩ u) (fun i h => h.IsStrIter it ty x t i) := by
      rcases hty with rfl | rfl
      · exact Draws.strAscii (A := X.A.in1) (I.ok.hd hc) it x t
      · exact Draws.strWide (A := X.A.in1) (I.ok.hd hc) it x t
    have ei : i = x.cps.size := hg
    subst ei
    exact wpAny_pyNext_enum_endD D he hit fun h' eb => ⟨rfl, I.turned (t' := s.toks) (fun b o hb q => eb b o hb q) f0 f1 f3 f4 f5⟩
  self := fun A i s Q E st h => let ⟨⟨_, he⟩, _⟩ := st; wpAny_pyIter_enum he h

def iEnumS (ta : TA) : TI := fun σ H R => ta σ H fun vs H1 => ∃ x : Str, vs = [.str x] ∧ R (Ites x) H1
theorem pi_enum_str {X : Cx} {e : Expr} {ta : TA} {p pos tpos : Pos} {elts : List Expr} {kk : Nat} (hg : Gl X "enumerate") (hm : X.mg "enumerate" = none) (ha : PA X [e] ta) (hs : starEach [e] X.env = [(false, eval e X.env)] := by rfl) :
    PI X (.Tuple elts kk tpos) (.Call (.Name "enumerate" p) [e] [] pos) (iEnumS ta) := by
  refine ⟨fun pins s σ H R I h => ?_⟩
  refine Call_ (ld_blt I hg hm boot_enumerate (PyProof.Rows.callWith_type1 ?_ hs rfl))
  refine thn (ha.run pos pins s σ H _ I h) fun us s1 ⟨vs, H1, I1, r1, x, ex, q⟩ => ?_
  subst ex
  obtain ⟨u, rfl, ru⟩ := vals1 r1
  obtain ⟨t, rfl⟩ := ru
  refine call_enumerate_str fun h' he hit hsz hk => wpAny_pyIter_enum he ?_
  have hty : strIterType x = "str_ascii_iterator" ∨ strIterType x = "str_iterator" := by
    unfold strIterType
    split
    · exact .inl rfl
    · exact .inr rfl
  refine ⟨s1.heap.objs.size + 1, [s1.heap.objs.size + 1, s1.heap.objs.size], _, _, H1, rfl, I1.kept (t' := s1.toks) hk, turn_enum_str x t _ hty (s1.heap.objs.size + 1) s1.heap.objs.size, ⟨⟨.none, he⟩, hit, Nat.succ_ne_self _⟩, fun b hb => ?_, q⟩
  have hle : s1.heap.objs.size ≤ b := by
    rcases (show b = s1.heap.objs.size + 1 ∨ b = s1.heap.objs.size by simpa using hb) with z | z
    · rw [z]; exact Nat.le_add_right _ _
    · rw [z]; exact Nat.le_refl _
  exact I1.fpOk hle (I1.hok.fresh hle)
theorem walk_enum_str {x : Str} : Walk (Ites x) x.cps.size (fun _ => True) (YPair (fun i => some (.int (i : Nat))) (fun i => (x.cps[i]?).map fun c => .str ⟨#[c]⟩)) := by
  refine ⟨fun _ _ hi _ => hi, fun _ _ => rfl, fun i H v H' _ _ y => ?_⟩
  obtain ⟨T, c, h1, h2, h3, h4⟩ := y
  exact ⟨T, .int (i : Nat), .str ⟨#[c]⟩, h1, h2, h3, rfl, (by show (x.cps[i]?).map _ = _; rw [h4] <;> rfl)⟩

/-! ### defs that want to know that no repr is under way -/
def FnG (P : Program) (w : World) (K : PySem.W.Frag) (mg : Str → Option Value) (base : Heap) (CX : CXT) (k : Nat) (f : Addr) (sp : Sp) : Prop :=
  ∀ (A : Around) (outer : List Env) (s : Shared) (H : Hp) (us : List Value) (vs : List V) (Q : VK) (E : XK), Room k A → A.guards = some [] → Env0 P w K mg base A outer s H → Vals vs us → sp vs H Q E →
    codeAny (model P w) A (.call (.ref f) ⟨us, []⟩) (CR CX outer P w H s Q E) s
section
variable {P : Program} {w : World} {K : PySem.W.Frag} {mg : Str → Option Value} {base : Heap} {CX : CXT} {k : Nat} {f : Addr} {sp : Sp}
theorem FnG.mono {j : Nat} (F : FnG P w K mg base CX j f sp) (h : j ≤ k) : FnG P w K mg base CX k f sp := fun A outer s H us vs Q E hr hg => F A outer s H us vs Q E (hr.mono h) hg
/-- a def of the text, by its body -/
theorem Fun_okG {x qual : Str} {st : Stmt} {fd : FuncData} {N ps : List Str} (F : Fun K x qual st f fd) (S : FnScope N ps (defScope st)) (len : ∀ vs H Q E, sp vs H Q E → vs.length = ps.length)
    (hb : ∀ (kV doc pm : Value) (an : Option Addr) (cdv ct : Value) (us : List Value), us.length = ps.length → bindArgs (PySem.W.fnOf x qual (defArgs st) (defBody st) (defScope st) .none kV doc pm an cdv ct) ⟨us, []⟩ = pure (ps.zip us))
    (hbody : ∀ (cdv : Value) (A : Around) (outer : List Env) (s : Shared) (H : Hp) (vs : List V) (Q : VK) (E : XK), Room k (A.deeper (envOfC qual (defScope st) s.heap.objs.size f cdv)) → A.guards = some [] → sp vs H Q E →
      ∃ t, PSs (cxOf CX P w K mg base N qual (defScope st) f cdv A outer s H E) (defBody st) t ∧ t { nx := fun _ H' => Q .non H', rt := Q } (start N vs) H) : FnG P w K mg base CX (k + 1) f sp := by
  obtain ⟨oc, od, kV, doc, pm, an, cdv, ct, osl, rfl, lk, hcd⟩ := F.ex
  intro A outer s H us vs Q E hr hg e0 r hsp
  have hl := len _ _ _ _ hsp
  have hul : us.length = ps.length := by rw [← r.length]; exact hl
  refine StX.run_bnd lk hcd S hr e0 (G := fun xs H2 => xs = vs ∧ H2 = H) (fun A' Ex Q' h => ?_) fun s2 H2 xs ⟨e1, e2⟩ hr' => ?_
  · rw [hb kV doc pm an cdv ct us hul]
    exact wpAny_pure (h s H vs us e0 Un.refl rfl (fun e s' z => z) r hl ⟨rfl, rfl⟩)
  · subst e1 e2
    exact hbody cdv A outer s2 _ _ Q E hr' hg hsp
end
section
variable {P : Program} {w : World} {K : PySem.W.Frag} {mg : Str → Option Value} {base : Heap} {CX : CXT} {k : Nat} {f : Addr} {sp : Sp}
/-- .. for a def that no exception leaves -/
theorem Fun_okN {x qual : Str} {st : Stmt} {fd : FuncData} {N ps : List Str} (F : Fun K x qual st f fd) (S : FnScope N ps (defScope st)) (len : ∀ vs H Q E, sp vs H Q E → vs.length = ps.length)
    (hb : ∀ (kV doc pm : Value) (an : Option Addr) (cdv ct : Value) (us : List Value), us.length = ps.length → bindArgs (PySem.W.fnOf x qual (defArgs st) (defBody st) (defScope st) .none kV doc pm an cdv ct) ⟨us, []⟩ = pure (ps.zip us))
    (hbody : ∀ (cdv : Value) (A : Around) (outer : List Env) (s : Shared) (H : Hp) (vs : List V) (Q : VK) (E : XK), Room k (A.deeper (envOfC qual (defScope st) s.heap.objs.size f cdv)) → A.guards = some [] → sp vs H Q E →
      ∃ t, PSs (cxOf CX P w K mg base N qual (defScope st) f cdv A outer s H E).nox (defBody st) t ∧ t { nx := fun _ H' => Q .non H', rt := Q } (start N vs) H) : FnG P w K mg base CX (k + 1) f sp := by
  refine Fun_okG F S len hb fun cdv A outer s H vs Q E hr hg h => ?_
  obtain ⟨t, ht, hq⟩ := hbody cdv A outer s H vs Q E hr hg h
  exact ⟨t, ht.nox, hq⟩
end
section
variable {X : Cx} {CX : CXT} {k : Nat} {f : Addr} {sp : Sp} {E : XK} {x : Str} {p pos : Pos} {e : Expr} {es : List Expr} {t : TA}
def tCallG (sp : Sp) (E : XK) (t : TA) : TE := fun σ H Q => t σ H fun vs H1 => Iv (sp vs H1 Q E)
theorem pe_callGd (F : FnG X.prog X.w X.K X.mg X.base CX k f sp) (hr : Room k X.A) (hgd : X.A.guards = some []) (hg : Gl X x) (hm : X.mg x = some (.ref f)) (hk : PySem.W.keepIn X.K (.ref f) = true) (hx : Passes CX X E) (ha : PA X (e :: es) t)
    (hdb : (x == ("__debug__" : Str)) = false := by decide) (he : starEach (e :: es) X.env = (false, eval e X.env) :: starEach es X.env := by rfl) (hpl : (backTo pos (starEach es X.env)).any (·.1) = false := by rfl) :
    PE X (.Call (.Name x p) (e :: es) [] pos) (tCallG sp E t) := by
  refine ⟨fun pins s σ H Q I h => ?_⟩
  refine wpAny_Call_Name_kw (ld_glob I hg hm ?_ hdb)
  refine PySem.W.callWith_K (h₀ := X.base) I.ok.mod.kin hk ?_ he hpl
  refine thn (ha.run pos pins s σ H _ I h) fun us s1 ⟨vs, H1, I1, r, q⟩ => ⟨I1.kIn, ?_⟩
  refine wpAny_call (codeAny_mono (F X.A X.stack s1 H1 us vs Q E hr hgd I1.env0 r q.out) fun r' s' hq => ?_)
  cases r' with
  | error er => exact hx pins σ H1 s1 er s' I1 hq
  | ok fl =>
    cases fl with
    | ret u => exact I1.after hq
    | next => exact False.elim hq
    | brk => exact False.elim hq
    | cont => exact False.elim hq
end

/-! ### heaps, what draws -/
/-- all but what stands at w is as it was -/
def Kp (w : Addr) (H H' : Hp) : Prop := ∀ b o, b ≠ w → H b = some o → H' b = some o
theorem Kp.refl (w : Addr) (H : Hp) : Kp w H H := fun _ _ _ h => h
theorem Kp.trans {w : Addr} {H H1 H2 : Hp} (a : Kp w H H1) (b : Kp w H1 H2) : Kp w H H2 := fun c o n h => b c o n (a c o n h)
theorem Kp.put {w : Addr} {H H' : Hp} {o : HO} (a : Kp w H H') : Kp w H (upd H' w o) := fun b u n h => by rw [upd_ne n]; exact a b u n h
theorem Kp.get {w : Addr} {H H' : Hp} {b : Addr} {o : HO} (a : Kp w H H') (n : b ≠ w) (h : H b = some o) : H' b = some o := a b o n h
theorem Kp.new {w : Addr} {H H' : Hp} {p : Addr} {o : HO} (a : Kp w H H') (n : H' p = none) : Kp w H (upd H' p o) := fun b u nb h => by
  have e := a b u nb h
  rw [upd_ne (ne_of_none e n)]
  exact e
theorem Kp.of_same {w : Addr} {H H' : Hp} (a : Same H H') : Kp w H H' := fun b o _ h => a b o h
theorem Kp.free {w : Addr} {H H' : Hp} {p : Addr} (a : Kp w H H') (hw : ∃ o, H' w = some o) (n : H' p = none) : H p = none := by
  cases e : H p with
  | none => rfl
  | some o =>
    have np : p ≠ w := fun z => by
      obtain ⟨u, hu⟩ := hw
      rw [z, hu] at n
      cases n
    rw [a p o np e] at n
    cases n
theorem Same.get {H H' : Hp} {b : Addr} {o : HO} (a : Same H H') (h : H b = some o) : H' b = some o := a b o h
theorem Same.new {H H' : Hp} {p : Addr} {o : HO} (a : Same H H') (n : H' p = none) : Same H (upd H' p o) := fun b u h => by
  have e := a b u h
  rw [upd_ne (ne_of_none e n)]
  exact e
/-- an own new object is written -/
theorem Same.put {H H' : Hp} {p : Addr} {o : HO} (a : Same H H') (n : H p = none) : Same H (upd H' p o) := fun b u h => by
  rw [upd_ne (ne_of_none h n)]
  exact a b u h
theorem Kp.put2 {w : Addr} {H H' : Hp} {p : Addr} {o : HO} (a : Kp w H H') (n : H p = none) : Kp w H (upd H' p o) := fun b u nb h => by
  rw [upd_ne (ne_of_none h n)]
  exact a b u nb h
/-- what draws: where it stands, where its cells stand, the cells -/
structure Wl where
  (w c : Addr) (cs : List Int)
/-- .. the cells, how many were begun (at most n), the rest -/
def WellAt (H : Hp) (W : Wl) (n : Nat) : Prop := ∃ (b r : Int), H W.w = some (.lst [.ref W.c, .int b, .int r]) ∧ H W.c = some (.lst (W.cs.map V.int)) ∧ W.c ≠ W.w ∧ W.cs.length ≤ 63 ∧ 0 ≤ b ∧ b ≤ n
theorem WellAt.mono {H : Hp} {W : Wl} {n m : Nat} (h : WellAt H W n) (l : n ≤ m) : WellAt H W m := by
  obtain ⟨b, r, h1, h2, h3, h4, h5, h6⟩ := h
  exact ⟨b, r, h1, h2, h3, h4, h5, by omega⟩
theorem WellAt.same {H H' : Hp} {W : Wl} {n : Nat} (h : WellAt H W n) (k : Same H H') : WellAt H' W n := by
  obtain ⟨b, r, h1, h2, h3⟩ := h
  exact ⟨b, r, k _ _ h1, k _ _ h2, h3⟩
theorem WellAt.at {H : Hp} {W : Wl} {n : Nat} (h : WellAt H W n) : ∃ o, H W.w = some o := by
  obtain ⟨b, r, h1, _⟩ := h
  exact ⟨_, h1⟩
theorem WellAt.ne {H : Hp} {W : Wl} {n : Nat} (h : WellAt H W n) {p : Addr} (hp : H p = none) : p ≠ W.w ∧ p ≠ W.c := by
  obtain ⟨b, r, h1, h2, _⟩ := h
  exact ⟨Ne.symm (ne_of_none h1 hp), Ne.symm (ne_of_none h2 hp)⟩
theorem WellAt.put {H : Hp} {W : Wl} {n : Nat} (h : WellAt H W n) {p : Addr} {o : HO} (hp : p ≠ W.w ∧ p ≠ W.c) : WellAt (upd H p o) W n := by
  obtain ⟨b, r, h1, h2, h3⟩ := h
  exact ⟨b, r, by rw [upd_ne (Ne.symm hp.1)]; exact h1, by rw [upd_ne (Ne.symm hp.2)]; exact h2, h3⟩
theorem WellAt.new {H : Hp} {W : Wl} {n : Nat} (h : WellAt H W n) {p : Addr} {o : HO} (hp : H p = none) : WellAt (upd H p o) W n := h.put (h.ne hp)
def spDip : Sp := fun vs H Q _ => ∃ (W : Wl) (many : Int) (n : Nat), vs = [.ref W.w, .int many] ∧ WellAt H W n ∧ n < 1000000 ∧ 0 < many ∧ many.natAbs < 2 ^ 300 ∧
  ∀ H' r, 0 ≤ r → r < many → WellAt H' W (n + 1) → Kp W.w H H' → Q (.int r) H'
theorem pow_lt {a b : Int} (h0 : 0 ≤ a) (h : a < b) (hb : b ≤ 2 ^ 64) : a.natAbs < 2 ^ 64 := by omega
/-- the numbers that the draw reckons with stay small -/
theorem draw_one {x b c1 c2 : Int} (hx0 : 0 ≤ x) (hx : x < 2147483543) (hb0 : 0 ≤ b) (hb : b < 1000000) (h1 : 0 ≤ c1) (h1' : c1 < 1000000) (h2 : 0 ≤ c2) (h2' : c2 < 1000000) : (x + c1 * b + c2).natAbs < 2 ^ 64 := by
  have h3 : 0 ≤ c1 * b := Int.mul_nonneg h1 hb0
  have h4 : c1 * b ≤ 1000000 * 1000000 := Int.mul_le_mul (by omega) (by omega) hb0 (by decide)
  omega
theorem draw_two {x b c1 c2 : Int} (hx0 : 0 ≤ x) (hx : x < 2147483647) (hb0 : 0 ≤ b) (hb : b < 1000000) (h1 : 0 ≤ c1) (h1' : c1 < 1000000) (h2 : 0 ≤ c2) (h2' : c2 < 1000000) : (x * (2 * b + 1301) + c1 * b * b + c2).natAbs < 2 ^ 64 := by
  have h3 : 0 ≤ x * (2 * b + 1301) := Int.mul_nonneg hx0 (by omega)
  have h4 : x * (2 * b + 1301) ≤ 2147483647 * 2001301 := Int.mul_le_mul (by omega) (by omega) (by omega) (by decide)
  have h5 : 0 ≤ c1 * b := Int.mul_nonneg h1 hb0
  have h6 : c1 * b ≤ 1000000 * 1000000 := Int.mul_le_mul (by omega) (by omega) hb0 (by decide)
  have h7 : 0 ≤ c1 * b * b := Int.mul_nonneg h5 hb0
  have h8 : c1 * b * b ≤ 1000000000000 * 1000000 := Int.mul_le_mul (by omega) (by omega) hb0 (by decide)
  omega

theorem ne_new {H : Hp} {a b : Addr} {o : HO} (n : H b = none) (h : H a = some o) : a ≠ b := ne_of_none h n
theorem upd_new {H : Hp} {a b : Addr} {o u : HO} (n : H b = none) (h : H a = some o) : upd H b u a = some o := by
  rw [upd_ne (ne_of_none h n)]
  exact h
theorem ne_new' {H : Hp} {a b : Addr} {o : HO} (n : H b = none) (h : H a = some o) : b ≠ a := Ne.symm (ne_of_none h n)
/-! ### data of flat items -/
/-- a flat value's datum -/
def flatD : V → Option PyData
  | .non => some .none
  | .bl b => some (.bool b)
  | .int i => some (.int i)
  | .str x => some (.str x)
  | _ => none
theorem dp_flat {K : PySem.W.Frag} {H : Hp} : ∀ {v : V} {d : PyData}, flatD v = some d → Dp K H v d
  | .non, _, h => by cases h; exact .non
  | .bl b, _, h => by cases h; exact .bl b
  | .int i, _, h => by cases h; exact .int i
  | .str x, _, h => by cases h; exact .str x
  | .byt _, _, h => by cases h
  | .flt _, _, h => by cases h
  | .ref _, _, h => by cases h
  | .ty _, _, h => by cases h
theorem dpAll_ints {K : PySem.W.Frag} {H : Hp} : ∀ ns : List Int, DpAll K H (ns.map V.int) (ns.map PyData.int)
  | [] => .nil
  | n :: ns => .cons (.int n) (dpAll_ints ns)
theorem dpAll_strs {K : PySem.W.Frag} {H : Hp} : ∀ zs : List Str, DpAll K H (zs.map V.str) (zs.map PyData.str)
  | [] => .nil
  | z :: zs => .cons (.str z) (dpAll_strs zs)
theorem canLay_ints : ∀ ns : List Int, PyData.canLayAll0 (ns.map PyData.int) = true
  | [] => rfl
  | n :: ns => by
    simp only [List.map_cons, PyData.canLayAll0, PyData.canLay0, canLay_ints ns, Bool.and_self]
theorem canLay_strs : ∀ zs : List Str, (∀ z ∈ zs, PyData.strOk z = true) → PyData.canLayAll0 (zs.map PyData.str) = true
  | [], _ => rfl
  | z :: zs, h => by
    simp only [List.map_cons, PyData.canLayAll0, PyData.canLay0, canLay_strs zs (fun y hy => h y (List.mem_cons_of_mem _ hy)), h z List.mem_cons_self, Bool.and_self]
theorem depth_ints : ∀ ns : List Int, PyData.depthAll (ns.map PyData.int) = 0
  | [] => rfl
  | n :: ns => by
    simp only [List.map_cons, PyData.depthAll, PyData.depth, depth_ints ns]
    rfl
theorem depth_strs : ∀ zs : List Str, PyData.depthAll (zs.map PyData.str) = 0
  | [] => rfl
  | z :: zs => by
    simp only [List.map_cons, PyData.depthAll, PyData.depth, depth_strs zs]
    rfl
theorem shaped_ints (ns : List Int) : SeqAt.shaped (.list (ns.map PyData.int)) = true := by
  unfold SeqAt.shaped
  simp only [PyData.canLay0, canLay_ints, PyData.depth, depth_ints]
  rfl
theorem shaped_strs (zs : List Str) (h : ∀ z ∈ zs, PyData.strOk z = true) : SeqAt.shaped (.list (zs.map PyData.str)) = true := by
  unfold SeqAt.shaped
  simp only [PyData.canLay0, canLay_strs zs h, PyData.depth, depth_strs]
  rfl
theorem eqv_nil : ∀ ds : List PyData, PyData.eqv (.list ds) (.list []) = ds.isEmpty
  | [] => rfl
  | _ :: _ => rfl
theorem shaped_nil : SeqAt.shaped (.list []) = true := by decide +kernel
theorem at_mod_ints {cs : List Int} (b : Int) (h : 0 < cs.length) : ∃ (j : Nat) (x : Int), j < cs.length ∧ atI (cs.map V.int) (b % ((cs.map V.int).length : Int)) = some (.int x) := by
  have hl : (0 : Int) < ((cs.map V.int).length : Int) := by rw [List.length_map]; omega
  have h0 := Int.emod_nonneg b (show ((cs.map V.int).length : Int) ≠ 0 by omega)
  have h1 := Int.emod_lt_of_pos b hl
  obtain ⟨j, hj⟩ : ∃ j : Nat, b % ((cs.map V.int).length : Int) = j := ⟨(b % ((cs.map V.int).length : Int)).toNat, by omega⟩
  have hj2 : j < cs.length := by rw [hj, List.length_map] at h1; omega
  refine ⟨j, cs[j], hj2, ?_⟩
  rw [hj]
  exact atI_nat (by rw [List.getElem?_map, List.getElem?_eq_getElem hj2] <;> rfl)
/-! ### isinstance of built-in kinds -/
theorem kit_NoneType_int {K : PySem.W.Frag} : PySem.W.kitOne K (.type "NoneType") (.type "int") = some false := kit_ty (by decide +kernel)
theorem kit_NoneType_bool {K : PySem.W.Frag} : PySem.W.kitOne K (.type "NoneType") (.type "bool") = some false := kit_ty (by decide +kernel)
theorem kit_NoneType_str {K : PySem.W.Frag} : PySem.W.kitOne K (.type "NoneType") (.type "str") = some false := kit_ty (by decide +kernel)
theorem kit_NoneType_list {K : PySem.W.Frag} : PySem.W.kitOne K (.type "NoneType") (.type "list") = some false := kit_ty (by decide +kernel)
theorem kit_NoneType_tuple {K : PySem.W.Frag} : PySem.W.kitOne K (.type "NoneType") (.type "tuple") = some false := kit_ty (by decide +kernel)
theorem kit_NoneType_dict {K : PySem.W.Frag} : PySem.W.kitOne K (.type "NoneType") (.type "dict") = some false := kit_ty (by decide +kernel)
theorem kit_bool_int {K : PySem.W.Frag} : PySem.W.kitOne K (.type "bool") (.type "int") = some true := kit_ty (by decide +kernel)
theorem kit_bool_bool {K : PySem.W.Frag} : PySem.W.kitOne K (.type "bool") (.type "bool") = some true := kit_ty (by decide +kernel)
theorem kit_bool_str {K : PySem.W.Frag} : PySem.W.kitOne K (.type "bool") (.type "str") = some false := kit_ty (by decide +kernel)
theorem kit_bool_list {K : PySem.W.Frag} : PySem.W.kitOne K (.type "bool") (.type "list") = some false := kit_ty (by decide +kernel)
theorem kit_bool_tuple {K : PySem.W.Frag} : PySem.W.kitOne K (.type "bool") (.type "tuple") = some false := kit_ty (by decide +kernel)
theorem kit_bool_dict {K : PySem.W.Frag} : PySem.W.kitOne K (.type "bool") (.type "dict") = some false := kit_ty (by decide +kernel)
theorem kit_int_int {K : PySem.W.Frag} : PySem.W.kitOne K (.type "int") (.type "int") = some true := kit_ty (by decide +kernel)
theorem kit_int_bool {K : PySem.W.Frag} : PySem.W.kitOne K (.type "int") (.type "bool") = some false := kit_ty (by decide +kernel)
theorem kit_int_str {K : PySem.W.Frag} : PySem.W.kitOne K (.type "int") (.type "str") = some false := kit_ty (by decide +kernel)
theorem kit_int_list {K : PySem.W.Frag} : PySem.W.kitOne K (.type "int") (.type "list") = some false := kit_ty (by decide +kernel)
theorem kit_int_tuple {K : PySem.W.Frag} : PySem.W.kitOne K (.type "int") (.type "tuple") = some false := kit_ty (by decide +kernel)
theorem kit_int_dict {K : PySem.W.Frag} : PySem.W.kitOne K (.type "int") (.type "dict") = some false := kit_ty (by decide +kernel)
theorem kit_str_int {K : PySem.W.Frag} : PySem.W.kitOne K (.type "str") (.type "int") = some false := kit_ty (by decide +kernel)
theorem kit_str_bool {K : PySem.W.Frag} : PySem.W.kitOne K (.type "str") (.type "bool") = some false := kit_ty (by decide +kernel)
theorem kit_str_str {K : PySem.W.Frag} : PySem.W.kitOne K (.type "str") (.type "str") = some true := kit_ty (by decide +kernel)
theorem kit_str_list {K : PySem.W.Frag} : PySem.W.kitOne K (.type "str") (.type "list") = some false := kit_ty (by decide +kernel)
theorem kit_str_tuple {K : PySem.W.Frag} : PySem.W.kitOne K (.type "str") (.type "tuple") = some false := kit_ty (by decide +kernel)
theorem kit_str_dict {K : PySem.W.Frag} : PySem.W.kitOne K (.type "str") (.type "dict") = some false := kit_ty (by decide +kernel)
theorem kit_list_int {K : PySem.W.Frag} : PySem.W.kitOne K (.type "list") (.type "int") = some false := kit_ty (by decide +kernel)
theorem kit_list_bool {K : PySem.W.Frag} : PySem.W.kitOne K (.type "list") (.type "bool") = some false := kit_ty (by decide +kernel)
theorem kit_list_str {K : PySem.W.Frag} : PySem.W.kitOne K (.type "list") (.type "str") = some false := kit_ty (by decide +kernel)
theorem kit_list_list {K : PySem.W.Frag} : PySem.W.kitOne K (.type "list") (.type "list") = some true := kit_ty (by decide +kernel)
theorem kit_list_tuple {K : PySem.W.Frag} : PySem.W.kitOne K (.type "list") (.type "tuple") = some false := kit_ty (by decide +kernel)
theorem kit_list_dict {K : PySem.W.Frag} : PySem.W.kitOne K (.type "list") (.type "dict") = some false := kit_ty (by decide +kernel)
theorem kit_tuple_int {K : PySem.W.Frag} : PySem.W.kitOne K (.type "tuple") (.type "int") = some false := kit_ty (by decide +kernel)
theorem kit_tuple_bool {K : PySem.W.Frag} : PySem.W.kitOne K (.type "tuple") (.type "bool") = some false := kit_ty (by decide +kernel)
theorem kit_tuple_str {K : PySem.W.Frag} : PySem.W.kitOne K (.type "tuple") (.type "str") = some false := kit_ty (by decide +kernel)
theorem kit_tuple_list {K : PySem.W.Frag} : PySem.W.kitOne K (.type "tuple") (.type "list") = some false := kit_ty (by decide +kernel)
theorem kit_tuple_tuple {K : PySem.W.Frag} : PySem.W.kitOne K (.type "tuple") (.type "tuple") = some true := kit_ty (by decide +kernel)
theorem kit_tuple_dict {K : PySem.W.Frag} : PySem.W.kitOne K (.type "tuple") (.type "dict") = some false := kit_ty (by decide +kernel)
theorem kit_dict_int {K : PySem.W.Frag} : PySem.W.kitOne K (.type "dict") (.type "int") = some false := kit_ty (by decide +kernel)
theorem kit_dict_bool {K : PySem.W.Frag} : PySem.W.kitOne K (.type "dict") (.type "bool") = some false := kit_ty (by decide +kernel)
theorem kit_dict_str {K : PySem.W.Frag} : PySem.W.kitOne K (.type "dict") (.type "str") = some false := kit_ty (by decide +kernel)
theorem kit_dict_list {K : PySem.W.Frag} : PySem.W.kitOne K (.type "dict") (.type "list") = some false := kit_ty (by decide +kernel)
theorem kit_dict_tuple {K : PySem.W.Frag} : PySem.W.kitOne K (.type "dict") (.type "tuple") = some false := kit_ty (by decide +kernel)
theorem kit_dict_dict {K : PySem.W.Frag} : PySem.W.kitOne K (.type "dict") (.type "dict") = some true := kit_ty (by decide +kernel)
/-- a value's kind, by the abstract heap -/
theorem tyx_str {K : PySem.W.Frag} {H : Hp} {z : Str} : TyX K H (.str z) (.type "str") := .base (.str z)
theorem tyx_int {K : PySem.W.Frag} {H : Hp} {i : Int} : TyX K H (.int i) (.type "int") := .base (.int i)
theorem tyx_bl {K : PySem.W.Frag} {H : Hp} {b : Bool} : TyX K H (.bl b) (.type "bool") := .base (.bl b)
theorem tyx_non {K : PySem.W.Frag} {H : Hp} : TyX K H .non (.type "NoneType") := .base .non
theorem tyx_lst {K : PySem.W.Frag} {H : Hp} {a : Addr} {xs : List V} (h : H a = some (.lst xs)) : TyX K H (.ref a) (.type "list") := .base (.lst h)
theorem tyx_tup {K : PySem.W.Frag} {H : Hp} {a : Addr} {xs : List V} (h : H a = some (.tup xs)) : TyX K H (.ref a) (.type "tuple") := .base (.tup h)
theorem tyx_dK {K : PySem.W.Frag} {H : Hp} {a : Addr} {xs : List (Key × V)} (h : H a = some (.dK xs)) : TyX K H (.ref a) (.type "dict") := .base (.dK h)
/-- a draw from a row or a text -/
def spPick : Sp := fun vs H Q _ => ∃ (W : Wl) (x : V) (n : Nat), vs = [.ref W.w, x] ∧ WellAt H W n ∧ n < 1000000 ∧
  ((∃ (p : Addr) (xs : List V), x = .ref p ∧ p ≠ W.w ∧ H p = some (.lst xs) ∧ 0 < xs.length ∧ xs.length ≤ 1000 ∧ ∀ H' v, v ∈ xs → WellAt H' W (n + 1) → Kp W.w H H' → Q v H') ∨
   (∃ z : Str, x = .str z ∧ 0 < z.length ∧ z.length ≤ 1000 ∧ ∀ H' c, c ∈ z.cps.toList → WellAt H' W (n + 1) → Kp W.w H H' → Q (.str ⟨#[c]⟩) H'))
theorem natAbs_small {i : Int} {n : Nat} (h0 : 0 ≤ i) (h : i ≤ n) (hn : n ≤ 2 ^ 200) : i.natAbs < 2 ^ 300 := by
  have e : i.natAbs ≤ n := by omega
  exact Nat.lt_of_le_of_lt (Nat.le_trans e hn) (Nat.pow_lt_pow_right (by decide) (by decide))
theorem atI_of {α : Type} {xs : List α} {i : Int} (h0 : 0 ≤ i) (h : i < xs.length) : ∃ v, atI xs i = some v ∧ v ∈ xs := by
  obtain ⟨j, rfl⟩ : ∃ j : Nat, i = j := ⟨i.toNat, by omega⟩
  have hj : j < xs.length := by omega
  exact ⟨xs[j], atI_nat (List.getElem?_eq_getElem hj), List.getElem_mem hj⟩
theorem line_le {n : Nat} (h : n ≤ 16777216) : n ≤ sizeLine := by rw [sizeLine_eq]; exact h
theorem line_lt {n : Nat} (h : n < 16777216) : n < sizeLine := by rw [sizeLine_eq]; exact h
theorem if_t {c A B : Prop} [Decidable c] (h : c) (a : A) : if c then A else B := by rw [if_pos h]; exact a
theorem if_f {c A B : Prop} [Decidable c] (h : ¬ c) (b : B) : if c then A else B := by rw [if_neg h]; exact b
/-- two ways of an answer k -/
theorem if_2 {k : Bool} {A B : Prop} (h1 : k = true → A) (h2 : k = false → B) : if k = true then A else B := by
  cases k with
  | true => exact if_t rfl (h1 rfl)
  | false => exact if_f Bool.false_ne_true (h2 rfl)

/-! ### texts -/
open TL in
theorem cutS_mem {z : Str} {lo hi : Option Int} {c : Nat} (h : c ∈ tl (cutS z lo hi)) : c ∈ tl z := by
  have h' : c ∈ (z.cps.toList.drop (HT.sIx z.length 0 lo)).take (HT.sIx z.length z.length hi - HT.sIx z.length 0 lo) := h
  exact List.mem_of_mem_drop (List.mem_of_mem_take h')
open TL in
theorem joinL_mem {S : List Nat} {c : Nat} : ∀ {ps : List (List Nat)}, c ∈ joinL S ps → c ∈ S ∨ ∃ p ∈ ps, c ∈ p
  | [], h => absurd h List.not_mem_nil
  | [p], h => .inr ⟨p, List.mem_singleton.mpr rfl, h⟩
  | p :: q :: r, h => by
    have h' : c ∈ p ++ (S ++ joinL S (q :: r)) := h
    rcases List.mem_append.mp h' with h1 | h1
    · exact .inr ⟨p, List.mem_cons_self, h1⟩
    · rcases List.mem_append.mp h1 with h2 | h2
      · exact .inl h2
      · rcases joinL_mem h2 with h3 | ⟨p', hp, h3⟩
        · exact .inl h3
        · exact .inr ⟨p', List.mem_cons_of_mem _ hp, h3⟩
open TL in
theorem joinL_len {S : List Nat} {m : Nat} : ∀ {ps : List (List Nat)}, (∀ p ∈ ps, p.length ≤ m) → (joinL S ps).length ≤ ps.length * (m + S.length)
  | [], _ => Nat.zero_le _
  | [p], h => by
    have := h p (List.mem_singleton.mpr rfl)
    show p.length ≤ 1 * (m + S.length)
    omega
  | p :: q :: r, h => by
    have h1 := h p List.mem_cons_self
    have h2 := joinL_len (S := S) (ps := q :: r) fun z hz => h z (List.mem_cons_of_mem _ hz)
    show (p ++ (S ++ joinL S (q :: r))).length ≤ (r.length + 1 + 1) * (m + S.length)
    rw [List.length_append, List.length_append, Nat.succ_mul]
    have h3 : (q :: r).length * (m + S.length) = (r.length + 1) * (m + S.length) := rfl
    omega
open TL in
theorem join_mem {y : Str} {ys : List Str} {c : Nat} (h : c ∈ tl (Txt.join y ys)) : c ∈ tl y ∨ ∃ p ∈ ys, c ∈ tl p := by
  rw [join_eq, tl_join] at h
  rcases joinL_mem h with h | ⟨p, hp, h⟩
  · exact .inl h
  · obtain ⟨z, hz, rfl⟩ := List.mem_map.mp hp
    exact .inr ⟨z, hz, h⟩
open TL in
theorem join_len {y : Str} {ys : List Str} {m : Nat} (h : ∀ p ∈ ys, p.length ≤ m) : (Txt.join y ys).length ≤ ys.length * (m + y.length) := by
  rw [len_tl, join_eq, tl_join, len_tl y]
  have := joinL_len (S := tl y) (ps := ys.map tl) (m := m) fun p hp => by
    obtain ⟨z, hz, rfl⟩ := List.mem_map.mp hp
    rw [← len_tl]
    exact h z hz
  rw [List.length_map] at this
  exact this
theorem sum_len {ys : List Str} {m : Nat} (h : ∀ p ∈ ys, p.length ≤ m) : (ys.map (·.length)).sum ≤ ys.length * m := by
  induction ys with
  | nil => exact Nat.zero_le _
  | cons p ys ih =>
    rw [List.map_cons, List.sum_cons, List.length_cons, Nat.succ_mul]
    have h1 := h p List.mem_cons_self
    have h2 := ih fun z hz => h z (List.mem_cons_of_mem _ hz)
    omega
open TL in
theorem spl_mem : ∀ (l acc : List Nat), ∀ p ∈ spl [46] 0 acc l, p.length ≤ acc.length + l.length ∧ ∀ c ∈ p, c ∈ acc ∨ c ∈ l
  | [], acc, p, h => by
    rw [spl_nil] at h
    rw [List.mem_singleton.mp h]
    exact ⟨Nat.le_add_right _ _, fun c hc => .inl hc⟩
  | d :: l, acc, p, h => by
    by_cases e : d = 46
    · subst e
      rw [show spl [46] 0 acc (46 :: l) = acc :: spl [46] 0 [] l from spl_hit (by rfl)] at h
      rcases List.mem_cons.mp h with h | h
      · rw [h]
        exact ⟨Nat.le_add_right _ _, fun c hc => .inl hc⟩
      · obtain ⟨h1, h2⟩ := spl_mem l [] p h
        refine ⟨by simp only [List.length_nil, List.length_cons] at h1 ⊢; omega, fun c hc => ?_⟩
        rcases h2 c hc with h3 | h3
        · exact absurd h3 List.not_mem_nil
        · exact .inr (List.mem_cons_of_mem _ h3)
    · rw [spl_miss (pre_of_head [] l e)] at h
      obtain ⟨h1, h2⟩ := spl_mem l (acc ++ [d]) p h
      refine ⟨by simp only [List.length_append, List.length_cons, List.length_nil] at h1 ⊢; omega, fun c hc => ?_⟩
      rcases h2 c hc with h3 | h3
      · rcases List.mem_append.mp h3 with h4 | h4
        · exact .inl h4
        · rw [List.mem_singleton.mp h4]
          exact .inr List.mem_cons_self
      · exact .inr (List.mem_cons_of_mem _ h3)
open TL in
theorem split_dot_mem {z y : Str} (ey : y = Str.ofString ".") : ∀ p ∈ Txt.split z y, p.length ≤ z.length ∧ ∀ c ∈ tl p, c ∈ tl z := by
  intro p hp
  subst ey
  have e := split_spl z (Str.ofString ".") (by decide +kernel) (kind_ok (by decide +kernel))
  have e1 : tl (Str.ofString ".") = [46] := by decide +kernel
  rw [e1] at e
  have h : tl p ∈ spl [46] 0 [] (tl z) := by rw [← e]; exact List.mem_map_of_mem hp
  obtain ⟨h1, h2⟩ := spl_mem _ _ _ h
  refine ⟨by rw [len_tl, len_tl]; simpa using h1, fun c hc => ?_⟩
  rcases h2 c hc with h3 | h3
  · exact absurd h3 List.not_mem_nil
  · exact h3
theorem cutV_ints (ns : List Int) (lo hi : Option Int) : ∃ cs : List Int, cutV (ns.map V.int) lo hi = cs.map V.int ∧ cs.length ≤ ns.length := by
  refine ⟨(ns.drop (HT.sIx (ns.map V.int).length 0 lo)).take (HT.sIx (ns.map V.int).length (ns.map V.int).length hi - HT.sIx (ns.map V.int).length 0 lo), ?_, ?_⟩
  · unfold cutV
    rw [List.map_take, List.map_drop]
  · rw [List.length_take, List.length_drop]
    omega
section
variable {X : Cx} {CX : CXT} {k : Nat} {f : Addr} {sp : Sp} {E : XK} {x : Str} {p pos : Pos}
theorem pe_callGd0 (F : FnG X.prog X.w X.K X.mg X.base CX k f sp) (hr : Room k X.A) (hgd : X.A.guards = some []) (hg : Gl X x) (hm : X.mg x = some (.ref f)) (hk : PySem.W.keepIn X.K (.ref f) = true) (hx : Passes CX X E)
    (hdb : (x == ("__debug__" : Str)) = false := by decide) : PE X (.Call (.Name x p) [] [] pos) (tCallG sp E tNil) := by
  refine ⟨fun pins s σ H Q I h => ?_⟩
  refine wpAny_Call_Name_kw (ld_glob I hg hm ?_ hdb)
  refine PySem.W.callWith_K0 I.kIn hk (wpAny_call (codeAny_mono (F X.A X.stack s H [] [] Q E hr hgd I.env0 .nil (show Iv (sp [] H Q E) from h).out) fun r' s' hq => ?_))
  cases r' with
  | error er => exact hx pins σ H s er s' I hq
  | ok fl =>
    cases fl with
    | ret u => exact I.after hq
    | next => exact False.elim hq
    | brk => exact False.elim hq
    | cont => exact False.elim hq
end

/-- a and b: both ways meet in R -/
theorem and_two {c : Bool} {tb : TE} {σ : L2.St} {H : Hp} {Q : VK} (R : V → Hp → Prop) (fin : ∀ v H', R v H' → Q v H') (h1 : c = true → (∀ v H', R v H' → Q v H') → tb σ H Q) (h2 : c = false → R (.bl false) H) : if c = true then tb σ H Q else Q (.bl false) H := by
  cases c with
  | true => exact if_t rfl (h1 rfl fin)
  | false => exact if_f Bool.false_ne_true (fin _ _ (h2 rfl))
theorem strOk_of {z : Str} (h : ∀ c ∈ z.cps.toList, c < 128) : PyData.strOk z = true := by
  unfold PyData.strOk
  rw [Array.all_eq_true]
  intro i hi
  have := h z.cps[i] (by rw [Array.mem_toList_iff]; exact Array.getElem_mem hi)
  exact decide_eq_true (by omega)
theorem map_at {α : Type} {f : α → V} {xs : List α} {i : Nat} {v : V} (h : (xs.map f)[i]? = some v) : ∃ x, xs[i]? = some x ∧ v = f x := by
  rw [List.getElem?_map] at h
  cases e : xs[i]? with
  | none => rw [e] at h; cases h
  | some s => rw [e] at h; exact ⟨s, rfl, (Option.some.inj h).symm⟩
theorem take_one {α : Type} {xs : List α} {i : Nat} {x : α} (h : xs[i]? = some x) : xs.take (i + 1) = xs.take i ++ [x] := by
  rw [List.take_add_one, h]
  rfl
end MyL

/-! Own errors with fields: made, raised, caught; a def with a star parameter. -/
namespace MyL
open PySem PySem.Spec PyProof.Rows L2

/-- an own error's class: what the top has written of it -/
structure ErrC (K : PySem.W.Frag) (C : Addr) : Prop where
  o : OexC K C
  x : XfC K C
  e : ExcC K C
/-- two fields -/
structure ErrC2 (K : PySem.W.Frag) (C : Addr) (f g : Str) : Prop extends ErrC K C where
  f1 : PySem.W.findIn K (.ref C) f = some none
  f2 : PySem.W.findIn K (.ref C) g = some none
/-- def __init__(self, x, y): self.f = x; self.g = y -/
def spInit2 (C : Addr) (f g : Str) : Sp := fun vs H Q _ => ∃ (a : Addr) (x y : V), vs = [.ref a, x, y] ∧ H a = some (exo a C none) ∧
  ∀ d, H d = none → d ≠ a → Q .non (upd (upd (upd H d (exd d [(f, x)])) a (exo a C (some d))) d (exd d [(g, y), (f, x)]))
/-- a reading of arguments, weakened -/
def tMon (ta : TA) : TA := fun σ H R => ∃ R' : List V → Hp → Prop, ta σ H R' ∧ ∀ vs H1, R' vs H1 → R vs H1
theorem pa_mon {X : Cx} {es : List Expr} {ta : TA} (h : PA X es ta) : PA X es (tMon ta) := by
  refine ⟨fun pos pins s σ H Q I q => ?_⟩
  obtain ⟨R', q1, q2⟩ := q
  exact thn (h.run pos pins s σ H R' I q1) fun us s1 ⟨vs, H1, I1, r, z⟩ => ⟨vs, H1, I1, r, q2 vs H1 z⟩
/-- C(x, y) -/
def tMk2 (C : Addr) (f g : Str) (ta : TA) : L2.St → Hp → XK → Prop := fun σ H Q => ta σ H fun vs H1 => ∃ x y : V, vs = [x, y] ∧ ∀ d, H1 d = none → Q (.ref C) (some d) (upd H1 d (.xd [(g, y), (f, x)]))
theorem mk2_heap {H : Hp} {a d : Addr} {o1 o2 o3 o4 u : HO} (ha : H a = none) (hd : H d = none) (ne : d ≠ a) : upd (del (upd (upd (upd (upd H a o1) d o2) a o3) d o4) a) d u = upd H d u := by
  funext b
  by_cases hbd : b = d
  · rw [hbd, upd_same, upd_same]
  · rw [upd_ne hbd, upd_ne hbd]
    by_cases hba : b = a
    · rw [hba, del_same, ha]
    · rw [del_ne hba, upd_ne hbd, upd_ne hba, upd_ne hbd, upd_ne hba]
section
variable {X : Cx} {e : Expr} {es : List Expr} {ta : TA} {p pos : Pos}
theorem pmk_2 {CX : CXT} {x : Str} {C fI : Addr} {k : Nat} {fd : FuncData} {ps : List Str} {f g : Str} (T : OexC X.K C) (iC : PySem.W.findIn X.K (.ref C) "__init__" = some (some (.ref fI))) (tI : PySem.W.typeIn X.K (.ref fI) = some (.type "function"))
    (F1 : FnOk X.prog X.w X.K X.mg X.base CX k fI fd ps (spInit2 C f g)) (hr : Room (k + 1) X.A) (hb : Binds X.K fd ps []) (hx : Passes CX X (fun _ _ _ => False)) (hg : Gl X x) (hm : X.mg x = some (.ref C)) (ha : PA X (e :: es) ta)
    (hdb : (x == ("__debug__" : Str)) = false := by decide) (he : starEach (e :: es) X.env = (false, eval e X.env) :: starEach es X.env := by rfl) (hpl : (backTo pos (starEach es X.env)).any (·.1) = false := by rfl) :
    PMk X (.Call (.Name x p) (e :: es) [] pos) (tMk2 C f g ta) := by
  intro pins s σ H Q I h
  refine pmk_oex (sp := spInit2 C f g) (ds := []) (dvs := []) T iC tI F1 hr hb .nil hx hg hm (pa_mon ha) hdb he hpl pins s σ H Q I ?_
  refine ⟨_, h, ?_⟩
  rintro vs H1 ⟨v1, v2, rfl, q⟩
  refine ⟨(by show 2 ≤ 1000; decide), fun a ha1 => ⟨a, v1, v2, rfl, upd_same, fun d hd hne => ⟨rfl, d, _, (upd_ne (Ne.symm hne)).trans upd_same, upd_same, ?_, ?_⟩⟩⟩
  · rw [upd_ne hne] at hd
    exact hd
  · rw [upd_ne hne] at hd
    rw [mk2_heap ha1 hd hne]
    exact q d hd
end
/-- the two stores -/
theorem init2_ok {P : Program} {w : World} {K : PySem.W.Frag} {mg : Str → Option Value} {base : Heap} {C fI : Addr} {fd : FuncData} {q n1 n2 f g : Str} {st : Stmt} (T : ErrC2 K C f g)
    (F : Fun K "__init__" q st fI fd) (S : FnScope ["self", n1, n2] ["self", n1, n2] (defScope st))
    (hb : ∀ (cdv : Value) (A : Around) (outer : List Env) (s : Shared) (H : Hp) (E : XK), PSs (cxOf CX0 P w K mg base ["self", n1, n2] q (defScope st) fI cdv A outer s H E).nox (defBody st) (tSeq (tOst K f (tVar 0) (tVar 1)) (tOst K g (tVar 0) (tVar 2)))) :
    FnOk P w K mg base CX0 1 fI fd ["self", n1, n2] (spInit2 C f g) := by
  refine F.ok S (fun vs H Q E h => ?_) (fun cdv A outer s H vs Q E hr h => ⟨_, hb cdv A outer s H E, ?_⟩)
  · obtain ⟨_, _, _, rfl, _⟩ := h
    rfl
  · obtain ⟨a, v1, v2, rfl, ha, q⟩ := h
    refine ⟨_, rfl, _, rfl, a, C, rfl, T.o, T.f1, .inl ⟨ha, fun d hd hne => ⟨_, rfl, _, rfl, a, C, rfl, T.o, T.f2, .inr ⟨d, _, upd_same, (upd_ne hne).trans upd_same, by show 1 ≤ 900; decide, q d hd hne⟩⟩⟩⟩

/-! ### a def f(*v) -/
section
variable {P : Program} {w : World} {K : PySem.W.Frag} {mg : Str → Option Value} {base : Heap} {CX : CXT} {k : Nat} {f : Addr} {sp : Sp}
theorem Fun_starG {x qual pv : Str} {st : Stmt} {fd : FuncData} {N : List Str} (F : Fun K x qual st f fd) (S : FnScope N [pv] (defScope st)) (hCX : StX.CXUp CX)
    (hb : ∀ (kV doc pm : Value) (an : Option Addr) (cdv ct : Value) (us : List Value), bindArgs (PySem.W.fnOf x qual (defArgs st) (defBody st) (defScope st) .none kV doc pm an cdv ct) ⟨us, []⟩ = (newTuple us >>= fun t => pure [(pv, t)]))
    (hbody : ∀ (cdv : Value) (A : Around) (outer : List Env) (s : Shared) (H : Hp) (vs : List V) (Q : VK) (E : XK), Room k (A.deeper (envOfC qual (defScope st) s.heap.objs.size f cdv)) → A.guards = some [] → sp vs H Q E →
      ∃ t, PSs (cxOf CX P w K mg base N qual (defScope st) f cdv A outer s H E) (defBody st) t ∧ t { nx := fun _ H' => Q .non H', rt := Q } (start N vs) H) :
    FnG P w K mg base CX (k + 1) f (fun vs H Q E => vs.length ≤ sizeLine ∧ ∀ p, H p = none → sp [.ref p] (upd H p (.tup vs)) Q E) := by
  obtain ⟨oc, od, kV, doc, pm, an, cdv, ct, osl, rfl, lk, hcd⟩ := F.ex
  intro A outer s H us vs Q E hr hg e0 r hsp
  obtain ⟨hz, hq⟩ := hsp
  have hn : H s.heap.objs.size = none := e0.hok.fresh (Nat.le_refl _)
  have hl : us.length ≤ sizeLine := by rw [← r.length]; exact hz
  refine StX.run_bnd lk hcd S hr e0 (G := fun xs H2 => ∃ p, H p = none ∧ xs = [V.ref p] ∧ H2 = upd H p (.tup vs)) (fun A' Ex Q' h => ?_) fun s2 H2 xs ⟨p, hp, ex, eH⟩ hr' => ?_
  · rw [hb kV doc pm an cdv ct us]
    refine wpAny_bind (wpAny_newTuple (wpAny_pure ?_) hl)
    have new : ObjOk P w (upd H s.heap.objs.size (.tup vs)) (s.heap.push ({ cls := .type "tuple", data := .seq us.toArray } : Obj)) s.heap.objs.size (.tup vs) := ⟨hz, us, r, ⟨_, Heap.get?_push_size _ rfl, rfl, _, rfl⟩⟩
    have un := StX.un_laid (fs := frs outer) (s := s) (o := ({ cls := .type "tuple", data := .seq us.toArray } : Obj)) (u := .tup vs) hn
    exact h _ _ [V.ref s.heap.objs.size] [Value.ref s.heap.objs.size] (StX.env0_laid e0 new) un rfl (fun e s' => hCX outer s H _ _ E e s' un (fun b o q => Heap.get?_push_of_some _ q) rfl) (.cons rfl .nil) rfl ⟨_, hn, rfl, rfl⟩
  · subst ex eH
    exact hbody cdv A outer s2 _ _ Q E hr' hg (hq p hp)
end

/-! ### a def called in a try -/
section
variable {X : Cx} {CX : CXT} {k : Nat} {f : Addr} {sp : Sp} {E : L2.St → XK} {x : Str} {p pos : Pos} {e : Expr} {es : List Expr} {t : TA}
def tCallGS (sp : Sp) (E : L2.St → XK) (t : TA) : TE := fun σ H Q => t σ H fun vs H1 => Iv (sp vs H1 Q (E σ))
theorem pe_callGS (F : FnG X.prog X.w X.K X.mg X.base CX k f sp) (hr : Room k X.A) (hgd : X.A.guards = some []) (hg : Gl X x) (hm : X.mg x = some (.ref f)) (hk : PySem.W.keepIn X.K (.ref f) = true) (hx : ∀ σ, PassesAt CX X σ (E σ)) (ha : PA X (e :: es) t)
    (hdb : (x == ("__debug__" : Str)) = false := by decide) (he : starEach (e :: es) X.env = (false, eval e X.env) :: starEach es X.env := by rfl) (hpl : (backTo pos (starEach es X.env)).any (·.1) = false := by rfl) :
    PE X (.Call (.Name x p) (e :: es) [] pos) (tCallGS sp E t) := by
  refine ⟨fun pins s σ H Q I h => ?_⟩
  refine wpAny_Call_Name_kw (ld_glob I hg hm ?_ hdb)
  refine PySem.W.callWith_K (h₀ := X.base) I.ok.mod.kin hk ?_ he hpl
  refine thn (ha.run pos pins s σ H _ I h) fun us s1 ⟨vs, H1, I1, r, q⟩ => ⟨I1.kIn, ?_⟩
  refine wpAny_call (codeAny_mono (F X.A X.stack s1 H1 us vs Q (E σ) hr hgd I1.env0 r q.out) fun r' s' hq => ?_)
  cases r' with
  | error er => exact hx σ pins H1 s1 er s' I1 hq
  | ok fl =>
    cases fl with
    | ret u => exact I1.after hq
    | next => exact False.elim hq
    | brk => exact False.elim hq
    | cont => exact False.elim hq
theorem pss_eq {body : List Stmt} {t u : TS} (h : PSs X body t) (e : t = u) : PSs X body u := e ▸ h
end

/-! ### isinstance of a caught error that has fields -/
def rIsED (K : PySem.W.Frag) (D a : Addr) (cls : Value) (d : Option Addr) : List V → Hp → VK → Prop := fun xs H Q => ∃ (c : V) (cv : Value) (b : Bool) (dd : Addr) (fs : List (Str × V)), xs = [.ref a, c] ∧ cls = .ref D ∧ ClsV c cv ∧ PySem.W.kitOne K (.ref D) cv = some b ∧ d = some dd ∧ H dd = some (.xd fs) ∧ Q (.bl b) H
theorem call_isED {X : Cx} {a D : Addr} {oe : Obj} {cls : Value} {d : Option Addr} {pn : List (Addr × Obj)} (C : ExcC X.K D) (hz : Zc cls d oe) (hf : ∃ vs, oe.data = .fields vs) : CallR (X.suite a ((a, oe) :: pn)) (.builtin "isinstance") (rIsED X.K D a cls d) := by
  intro pins s σ H xs us Q I r h
  obtain ⟨c, cv, b, dd, fs, rfl, rfl, hcv, e, rfl, hd, q⟩ := h
  cases r with
  | cons rx rr =>
    cases rr with
    | cons rt rr =>
      cases rr
      cases rx
      have ec := hcv.eq rt
      subst ec
      obtain ⟨hget, _⟩ := I.pin (a, oe) (List.mem_append.mpr (.inl List.mem_cons_self))
      obtain ⟨vs, hv⟩ := hf
      have hx : ObjOk X.prog X.w H s.heap dd (.xd fs) := I.hok dd _ hd
      obtain ⟨mA, hns, _⟩ := hx
      obtain ⟨od, ho, _⟩ := lookIn_ns hns
      have J : PySem.W.InstAt s.heap a oe D (some od) := ⟨hget, hz.1, by unfold PySem.W.notCls; rw [hv] <;> rfl, by rw [hz.2]; exact ho⟩
      obtain ⟨cd, hc, _⟩ := PySem.W.any_some C.hd
      exact PySem.W.kia_one (PySem.W.kitx_exc (by rw [hc] <;> rfl) C.hg C.hk C.hs C.ha C.hn C.ht C.hm) I.kIn J e (fun z => nomatch z) fun tk => ⟨.bl b, H, I.kept (t' := tk) fun _ _ z => z, rfl, q⟩
/-- an error's class in an except clause -/
theorem exm_of {K : PySem.W.Frag} {C : Addr} {cls : Value} {b : Bool} (E : ErrC K C) (h : PySem.W.subIn K cls (.ref C) = some b) : PySem.W.exmOne K cls (.ref C) = some b := PySem.W.exm_ref E.o.exC E.e.hd E.o.tyC h
theorem kit_own {K : PySem.W.Frag} {D : Addr} {t : Value} (E : ErrC K D) (h : PySem.W.subIn K t (.ref D) = some true) : PySem.W.kitOne K t (.ref D) = some true := by
  unfold PySem.W.kitOne
  by_cases e : (t == Value.ref D) = true
  · rw [if_pos e]
  · rw [if_neg e]
    obtain ⟨cd, hc, _⟩ := PySem.W.any_some E.e.hd
    have e2 : ((PySem.W.clsIn K D).isSome && PySem.W.typeIn K (.ref D) == some (.type "type")) = true := by rw [hc, E.o.tyC] <;> rfl
    show (if ((PySem.W.clsIn K D).isSome && PySem.W.typeIn K (.ref D) == some (.type "type")) = true then PySem.W.subIn K t (.ref D) else none) = some true
    rw [if_pos e2]
    exact h
end MyL

/-! Own errors as values: made by place and by name, their fields, isinstance. -/
namespace MyX
open PySem PySem.Spec PySem.Calls PyProof.Rows PySem.HandSPX
section
variable {prog : Program} {w : World} {A : Around} {E : Value → Shared → Prop} {R : Result → Shared → Prop} {h : Heap} {g : Array GenState} {d : Drawn} {t : Nat} {os : OsState}
variable {nm q : Str} {C N : Addr} {bs bm bmB : List Value} {hdct : Bool} {sn : List Str} {sub : List Value} {ab : Bool} {col : Option Bool} {dd : Option Addr} {k0 k1 k2 k3 k5 : Option Value} {B newId initId : String}
/-- the class's maker is asked, keywords or not -/
theorem kw_check {M : Model} (F : ExcBaseFacts B newId initId bmB) (hT : ∀ X : String, bm.contains (.type X) = bmB.contains (.type X)) {us : List Value} {kw : List (Str × Value)} {Q : Unit → Shared → Prop}
    (hC : h.get? C = some (excClassObj nm q C N bs bm hdct sn sub ab col dd k0 k1 k2 k3 k5 newId)) (hq : Q () ⟨h, g, d, t, os⟩) :
    wpAny M A (checkBuiltinCall newId ⟨.ref C :: us, kw⟩) Q E ⟨h, g, d, t, os⟩ := by
  have inB : (Value.ref C :: bm).contains (.type B) = true := by
    rw [List.contains_cons, hT, F.hasB, Bool.or_true]
  have z := F.noStar
  simp only [checkBuiltinCall, F.newKind, F.newSplit, F.newRow]
  repeat (first
    | refine wpAny_loadPart_at hC ?_
    | (refine wpAny_isSubtype_exc hC ?_
       rw [inB])
    | refine wpAny_staticBase_exc hC ?_
    | refine wpAny_madeBy_exc hC ?_
    | simp only [bne_self_eq_false, Bool.false_eq_true, if_false]
    | wp_step)
  exact hq
theorem kw_new (F : ExcBaseFacts B newId initId bmB) (hT : ∀ X : String, bm.contains (.type X) = bmB.contains (.type X)) {us : List Value} {kw : List (Str × Value)}
    (hC : h.get? C = some (excClassObj nm q C N bs bm hdct sn sub ab col dd k0 k1 k2 k3 k5 newId)) (hl : us.length ≤ sizeLine)
    (hq : R (.ok (.ret (.ref (h.objs.size + 1)))) ⟨(h.push { cls := .type "tuple", data := .seq us.toArray }).push { cls := .ref C, data := .fields #[.ref h.objs.size, .none, .none, .none, .bool false, .none] }, g, d, t, os⟩) :
    codeAny (model prog w) A (.builtin newId ⟨.ref C :: us, kw⟩) R ⟨h, g, d, t, os⟩ := by
  have z := F.ends
  have inB : (Value.ref C :: bm).contains (.type B) = true := by
    rw [List.contains_cons, hT, F.hasB, Bool.or_true]
  have noA : (Value.ref C :: bm).contains (.type "AttributeError") = false := by
    rw [List.contains_cons, hT, F.noAttr]
    rfl
  have noN : (Value.ref C :: bm).contains (.type "NameError") = false := by
    rw [List.contains_cons, hT, F.noName]
    rfl
  refine codeAny_builtinAt F.entry ?_
  unfold Builtin.«BaseException.__new__»
  refine PySem.wpAt_bind ?_
  show PySem.wpAt _ _ _ (stack >>= _) _ _ _
  refine PySem.wpAt_bind (PySem.wpAt_stack fun p below => PySem.wpAt_of_wpAny ?_)
  wp_walk
  refine PySem.wpAt_of_wpAny ?_
  rw [F.owner]
  repeat (first
    | with_reducible refine wpAny_madeHere_exc F.canon hC ?_
    | with_reducible refine wpAny_loadPart_at hC ?_
    | (with_reducible refine wpAny_isSubtype_exc hC ?_
       first
         | rw [inB]
         | rw [noA]
         | rw [noN])
    | wp_step)
  show R _ _
  rw [Heap.size_push]
  exact hq
theorem kw_type (F : ExcBaseFacts B newId initId bmB) (hT : ∀ X : String, bm.contains (.type X) = bmB.contains (.type X)) {us : List Value} {kw : List (Str × Value)} {fI : Addr} {Q : Fin → Shared → Prop}
    (hC : h.get? C = some (excClassObj nm q C N bs bm hdct sn sub ab col dd k0 k1 k2 k3 k5 newId))
    (hi : W.Looks (model prog w) h (typeLookup (.ref C) "__init__") (some (.ref fI))) (hb : ∀ self, W.Looks (model prog w) h (bindSpecial (.ref fI) self) (.ref fI, [self])) (hl : us.length ≤ sizeLine)
    (hq : codeAny (model prog w) A (.call (.ref fI) ⟨.ref (h.objs.size + 1) :: us, kw⟩)
      (fun r s' => match r with | .ok (.ret v) => v = .none ∧ Q (.done (.ret (.ref (h.objs.size + 1)))) s' | .ok _ => False | .error e => E e s')
      ⟨(h.push (W.kdv_tup us)).push (excO C h.objs.size), g, d, t, os⟩) :
    wpAny (model prog w) A (Builtin.«type.__call__» ⟨.ref C :: us, kw⟩) Q E ⟨h, g, d, t, os⟩ := by
  repeat (first
    | with_reducible refine wpAny_loadPart_at hC ?_
    | with_reducible refine wpAny_madeBy_exc hC ?_
    | wp_step)
  refine codeAny_call_builtin_code (Code.quiet_builtin _ F.quiet) (kw_check F hT hC ?_)
  refine kw_new F hT hC hl ?_
  show wpAny _ _ _ _ _ _
  have up : ∀ b o, h.get? b = some o → ((h.push (W.kdv_tup us)).push (excO C h.objs.size)).get? b = some o := fun b o e =>
    Heap.get?_push_of_some _ (Heap.get?_push_of_some _ e)
  have hC1 := up _ _ hC
  have at1 : ((h.push (W.kdv_tup us)).push (excO C h.objs.size)).get? (h.objs.size + 1) = some (excO C h.objs.size) := by
    heap_get
  have own : (Value.ref C :: bm).contains (.ref C) = true := by
    simp
  have i1 := hi.keeps up
  have b1 := (hb (.ref (h.objs.size + 1))).keeps up
  unfold isInstance
  repeat (first
    | with_reducible refine wpAny_loadPart_at at1 ?_
    | (with_reducible refine wpAny_isSubtype_exc hC1 ?_
       rw [own])
    | wp_step)
  show wpAny _ _ (typeLookup (.ref C) _) _ _ _
  refine i1.at ?_
  refine wpAny_holding (wpAny_bind (b1.at ?_))
  refine wpAny_bind (wpAny_call (codeAny_mono hq fun r s' z => ?_))
  rcases r with e | (v | _ | _ | _)
  all_goals first
    | exact z
    | exact z.elim
    | skip
  obtain ⟨rfl, z⟩ := z
  first
    | exact wpAny_pure (wpAny_pure z)
    | (wp_walk
       exact z)
theorem kw_call (F : ExcBaseFacts B newId initId bmB) (hT : ∀ X : String, bm.contains (.type X) = bmB.contains (.type X)) {us : List Value} {kw : List (Str × Value)} {fI : Addr}
    (hC : h.get? C = some (excClassObj nm q C N bs bm hdct sn sub ab col dd k0 k1 k2 k3 k5 newId))
    (hi : W.Looks (model prog w) h (typeLookup (.ref C) "__init__") (some (.ref fI))) (hb : ∀ self, W.Looks (model prog w) h (bindSpecial (.ref fI) self) (.ref fI, [self])) (hl : us.length ≤ sizeLine)
    (hq : codeAny (model prog w) (A.under (.builtin "type.__call__" ⟨.ref C :: us, kw⟩)) (.call (.ref fI) ⟨.ref (h.objs.size + 1) :: us, kw⟩) (W.InitBack (h.objs.size + 1) R)
      ⟨(h.push (W.kdv_tup us)).push (excO C h.objs.size), g, d, t, os⟩) :
    codeAny (model prog w) A (.call (.ref C) ⟨us, kw⟩) R ⟨h, g, d, t, os⟩ := by
  have f1 := tc_lookup
  have f2 := tc_bind (.ref C)
  have ty : (⟨h, g, d, t, os⟩ : Shared).TypeIs (.ref C) "type" := ⟨_, hC, rfl⟩
  have f3 := tc_sub
  refine codeAny_of_tree ?_
  show wpAny _ _ (callAny (.ref C) _) _ _ _
  repeat (any_goals (first
    | assumption
    | with_reducible refine wpAny_loadPart_at hC ?_
    | wp_step))
  refine ⟨rfl, ?_⟩
  refine codeAny_call_builtin_at (Code.quiet_builtin _ (by decide +kernel)) entry_typeCall ?_
  have chk : ∀ {Q : Unit → Shared → Prop} {E : Value → Shared → Prop} {A : Around}, Q () ⟨h, g, d, t, os⟩ → wpAny (model prog w) A (checkBuiltinCall "type.__call__" ⟨.ref C :: us, kw⟩) Q E ⟨h, g, d, t, os⟩ := by
    intro Q E A hq
    simp only [checkBuiltinCall, tc_kind, tc_split]
    repeat (any_goals (first
      | assumption
      | with_reducible refine wpAny_loadPart_at hC ?_
      | with_reducible refine wpAny_onRaise ?_
      | with_reducible refine wpAny_map ?_
      | wp_step))
  refine chk (kw_type F hT hC hi hb hl ?_)
  refine codeAny_mono hq fun r s' z => ?_
  rcases r with e | (v | _ | _ | _) <;> exact z
end
end MyX
namespace MyL
open PySem PySem.Spec PyProof.Rows L2
/-- at x: an own error of the class at C, its fields fs -/
def ErAt (H : Hp) (x C : Addr) (fs : List (Str × V)) : Prop := (fs = [] ∧ H x = some (exo x C none)) ∨ ∃ d, H x = some (exo x C (some d)) ∧ H d = some (exd d fs)
theorem ErAt.same {H H' : Hp} {x C : Addr} {fs : List (Str × V)} (h : ErAt H x C fs) (S : Same H H') : ErAt H' x C fs := by
  rcases h with ⟨e, h⟩ | ⟨d, h1, h2⟩
  · exact .inl ⟨e, S _ _ h⟩
  · exact .inr ⟨d, S _ _ h1, S _ _ h2⟩
/-- one field -/
structure ErrC1 (K : PySem.W.Frag) (C : Addr) (f : Str) : Prop extends ErrC K C where
  f1 : PySem.W.findIn K (.ref C) f = some none
def spInit1 (C : Addr) (f : Str) : Sp := fun vs H Q _ => ∃ (a : Addr) (x : V), vs = [.ref a, x] ∧ H a = some (exo a C none) ∧
  ∀ d, H d = none → d ≠ a → Q .non (upd (upd H d (exd d [(f, x)])) a (exo a C (some d)))
/-- an __init__ of one field, n its parameter's name, as it may be called -/
def Init1 (P : Program) (w : World) (K : PySem.W.Frag) (mg : Str → Option Value) (base : Heap) (C fI : Addr) (f : Str) : Prop :=
  PySem.W.findIn K (.ref C) "__init__" = some (some (.ref fI)) ∧ PySem.W.typeIn K (.ref fI) = some (.type "function") ∧
  ∃ fd, FnOk P w K mg base CX0 1 fI fd ["self", f] (spInit1 C f) ∧ (∀ (s : Shared) (e u : Value), BindsTo s fd ⟨[e, u], []⟩ (([("self" : Str), f] : List Str).zip [e, u])) ∧ (∀ (s : Shared) (e u : Value), BindsTo s fd ⟨[e], [(f, u)]⟩ (([("self" : Str), f] : List Str).zip [e, u]))
def Init2 (P : Program) (w : World) (K : PySem.W.Frag) (mg : Str → Option Value) (base : Heap) (C fI : Addr) (f g : Str) : Prop :=
  PySem.W.findIn K (.ref C) "__init__" = some (some (.ref fI)) ∧ PySem.W.typeIn K (.ref fI) = some (.type "function") ∧
  ∃ fd, FnOk P w K mg base CX0 1 fI fd ["self", f, g] (spInit2 C f g) ∧ (∀ (s : Shared) (e u v : Value), BindsTo s fd ⟨[e, u, v], []⟩ (([("self" : Str), f, g] : List Str).zip [e, u, v])) ∧ (∀ (s : Shared) (e u v : Value), BindsTo s fd ⟨[e], [(g, v), (f, u)]⟩ (([("self" : Str), f, g] : List Str).zip [e, u, v]))
theorem init1_ok {P : Program} {w : World} {K : PySem.W.Frag} {mg : Str → Option Value} {base : Heap} {C fI : Addr} {fd : FuncData} {q f : Str} {st : Stmt} (T : ErrC1 K C f)
    (F : Fun K "__init__" q st fI fd) (S : FnScope ["self", f] ["self", f] (defScope st))
    (hb : ∀ (cdv : Value) (A : Around) (outer : List Env) (s : Shared) (H : Hp) (E : XK), PSs (cxOf CX0 P w K mg base ["self", f] q (defScope st) fI cdv A outer s H E).nox (defBody st) (tOst K f (tVar 0) (tVar 1))) :
    FnOk P w K mg base CX0 1 fI fd ["self", f] (spInit1 C f) := by
  refine F.ok S (fun vs H Q E h => ?_) (fun cdv A outer s H vs Q E hr h => ⟨_, hb cdv A outer s H E, ?_⟩)
  · obtain ⟨_, _, rfl, _⟩ := h
    rfl
  · obtain ⟨a, v1, rfl, ha, q⟩ := h
    exact ⟨_, rfl, _, rfl, a, C, rfl, T.o, T.f1, .inl ⟨ha, fun d hd hne => q d hd hne⟩⟩
section
variable {X : Cx} {x : Str} {C fI : Addr} {f g : Str} {e : Expr} {es : List Expr} {kws : List Keyword} {ta : TA} {p pos : Pos}
theorem run_mkX {k : Nat} {fd : FuncData} {ps : List Str} {sp : Sp} {pins : List (Addr × Obj)} {σ : L2.St} {H : Hp} {s : Shared} {Q : VK} {us ws' : List Value} {kw : List (Str × Value)} {vs' : List V} (T : OexC X.K C)
    (iC : PySem.W.findIn X.K (.ref C) "__init__" = some (some (.ref fI))) (tI : PySem.W.typeIn X.K (.ref fI) = some (.type "function")) (F1 : FnOk X.prog X.w X.K X.mg X.base CX0 k fI fd ps sp) (hr : Room (k + 1) X.A) (I : Inv X pins σ H s)
    (hb : ∀ (s : Shared) (e : Value), BindsTo s fd ⟨e :: us, kw⟩ (ps.zip (e :: ws'))) (r : Vals vs' ws') (hl : us.length ≤ sizeLine)
    (h : ∀ a, H a = none → sp (.ref a :: vs') (upd H a (exo a C none)) (fun v H2 => v = .non ∧ Q (.ref a) H2) (fun _ _ _ => False)) : wpAny (model X.prog X.w) X.A (call (.ref C) us kw) (EP X pins σ Q) X.xe s := by
  obtain ⟨nm, q, N, bs, bm, sn, sub, ab, col, dd, k0, k1, k2, k3, k5, hC, hbm⟩ := T.cls
  obtain ⟨hp, gg, dr, tk, os⟩ := s
  have hsz : hp.objs.size ≤ hp.objs.size + 1 := Nat.le_succ _
  have hq := h (hp.objs.size + 1) (I.hok.fresh hsz)
  have up : ∀ b o, hp.get? b = some o → ((hp.push (PySem.W.kdv_tup us)).push (PySem.HandSPX.excO C hp.objs.size)).get? b = some o := fun b o z =>
    Heap.get?_push_of_some _ (Heap.get?_push_of_some _ z)
  have at1 : ((hp.push (PySem.W.kdv_tup us)).push (PySem.HandSPX.excO C hp.objs.size)).get? (hp.objs.size + 1) = some (PySem.HandSPX.excO C hp.objs.size) := by
    heap_get
  have I2 : Inv X pins σ (upd H (hp.objs.size + 1) (exo (hp.objs.size + 1) C none)) ⟨(hp.push (PySem.W.kdv_tup us)).push (PySem.HandSPX.excO C hp.objs.size), gg, dr, tk, os⟩ :=
    I.laid (t' := tk) (a := hp.objs.size + 1) (o := exo (hp.objs.size + 1) C none) up hsz (exo_ok at1)
  have r2 : Vals (V.ref (hp.objs.size + 1) :: vs') (Value.ref (hp.objs.size + 1) :: ws') := .cons rfl r
  refine wpAny_call (MyX.kw_call F.excBase_ValueError (fun Y => PySem.HandSPX.refsVE_contains Y bm hbm) (I.kIn _ _ hC) (PySem.W.looks_findIn I.kIn iC) (fun self => PySem.W.bind_fn I.kIn self tI) hl
    (codeAny_mono (F1.run _ X.stack _ _ ⟨Value.ref (hp.objs.size + 1) :: us, kw⟩ (Value.ref (hp.objs.size + 1) :: ws') _ _ (fun _ _ _ => False) (hr.make C us kw) (I2.env0.make C us kw) (hb _ _) r2 hq) fun r' s' hq' => ?_))
  cases r' with
  | error er => exact hq'.elim
  | ok fl =>
    cases fl with
    | ret u =>
      obtain ⟨v, H', I3, rv, ev, q3⟩ := I2.after hq'
      subst ev
      exact ⟨rv, ⟨V.ref (hp.objs.size + 1), H', I3, rfl, q3⟩⟩
    | next => exact hq'.elim
    | brk => exact hq'.elim
    | cont => exact hq'.elim
/-- an error made of one value, of two -/
def tX1 (C : Addr) (f : Str) (ta : TA) : TE := fun σ H Q => ta σ H fun vs H1 => ∃ v : V, vs = [v] ∧ ∀ H' x, Same H1 H' → H1 x = none → ErAt H' x C [(f, v)] → Q (.ref x) H'
def tX2 (C : Addr) (f g : Str) (ta : TA) : TE := fun σ H Q => ta σ H fun vs H1 => ∃ v u : V, vs = [v, u] ∧ ∀ H' x, Same H1 H' → H1 x = none → ErAt H' x C [(g, u), (f, v)] → Q (.ref x) H'
def tX2r (C : Addr) (f g : Str) (ta : TA) : TE := fun σ H Q => ta σ H fun vs H1 => ∃ v u : V, vs = [u, v] ∧ ∀ H' x, Same H1 H' → H1 x = none → ErAt H' x C [(g, u), (f, v)] → Q (.ref x) H'
theorem sp1_of {H : Hp} {Q : VK} {v : V} (q : ∀ H' x, Same H H' → H x = none → ErAt H' x C [(f, v)] → Q (.ref x) H') (a : Addr) (ha : H a = none) : spInit1 C f [.ref a, v] (upd H a (exo a C none)) (fun w H2 => w = .non ∧ Q (.ref a) H2) (fun _ _ _ => False) := by
  refine ⟨a, v, rfl, upd_same, fun d hd hne => ⟨rfl, q _ a ?_ ha (.inr ⟨d, upd_same, (upd_ne hne).trans upd_same⟩)⟩⟩
  have hd0 : H d = none := by rw [upd_ne hne] at hd; exact hd
  exact Same.put (Same.put (Same.put (Same.refl H) ha) hd0) ha
theorem sp2_of {H : Hp} {Q : VK} {v u : V} (q : ∀ H' x, Same H H' → H x = none → ErAt H' x C [(g, u), (f, v)] → Q (.ref x) H') (a : Addr) (ha : H a = none) : spInit2 C f g [.ref a, v, u] (upd H a (exo a C none)) (fun w H2 => w = .non ∧ Q (.ref a) H2) (fun _ _ _ => False) := by
  refine ⟨a, v, u, rfl, upd_same, fun d hd hne => ⟨rfl, q _ a ?_ ha (.inr ⟨d, (upd_ne (Ne.symm hne)).trans upd_same, upd_same⟩)⟩⟩
  have hd0 : H d = none := by rw [upd_ne hne] at hd; exact hd
  exact Same.put (Same.put (Same.put (Same.put (Same.refl H) ha) hd0) ha) hd0
theorem pe_x1 (T : OexC X.K C) (J : Init1 X.prog X.w X.K X.mg X.base C fI f) (hr : Room 2 X.A) (hg : Gl X x) (hm : X.mg x = some (.ref C)) (ha : PA X [e] ta)
    (hdb : (x == ("__debug__" : Str)) = false := by decide) (he : starEach [e] X.env = (false, eval e X.env) :: starEach [] X.env := by rfl) (hpl : (backTo pos (starEach [] X.env)).any (·.1) = false := by rfl) :
    PE X (.Call (.Name x p) [e] [] pos) (tX1 C f ta) := by
  obtain ⟨iC, tI, fd, F1, b1, _⟩ := J
  refine ⟨fun pins s σ H Q I h => ?_⟩
  refine wpAny_Call_Name_kw (ld_glob I hg hm ?_ hdb)
  refine PySem.W.callWith_K (h₀ := X.base) I.ok.mod.kin T.kC (thn (ha.run pos pins s σ H _ I h) fun us s1 ⟨vs, H1, I1, r1, v, ev, q1⟩ => ⟨I1.kIn, ?_⟩) he hpl
  subst ev
  cases r1 with
  | cons rv rn =>
    cases rn
    exact run_mkX T iC tI F1 hr I1 (fun s e => b1 s e _) (.cons rv .nil) (by show 1 ≤ sizeLine; rw [sizeLine_eq]; decide) (fun a n => sp1_of q1 a n)
theorem pe_x2 {e2 : Expr} (T : OexC X.K C) (J : Init2 X.prog X.w X.K X.mg X.base C fI f g) (hr : Room 2 X.A) (hg : Gl X x) (hm : X.mg x = some (.ref C)) (ha : PA X [e, e2] ta)
    (hdb : (x == ("__debug__" : Str)) = false := by decide) (he : starEach [e, e2] X.env = (false, eval e X.env) :: starEach [e2] X.env := by rfl) (hpl : (backTo pos (starEach [e2] X.env)).any (·.1) = false := by rfl) :
    PE X (.Call (.Name x p) [e, e2] [] pos) (tX2 C f g ta) := by
  obtain ⟨iC, tI, fd, F1, b1, _⟩ := J
  refine ⟨fun pins s σ H Q I h => ?_⟩
  refine wpAny_Call_Name_kw (ld_glob I hg hm ?_ hdb)
  refine PySem.W.callWith_K (h₀ := X.base) I.ok.mod.kin T.kC (thn (ha.run pos pins s σ H _ I h) fun us s1 ⟨vs, H1, I1, r1, v, u, ev, q1⟩ => ⟨I1.kIn, ?_⟩) he hpl
  subst ev
  cases r1 with
  | cons rv rn =>
    cases rn with
    | cons ru rn =>
      cases rn
      exact run_mkX T iC tI F1 hr I1 (fun s e => b1 s e _ _) (.cons rv (.cons ru .nil)) (by show 2 ≤ sizeLine; rw [sizeLine_eq]; decide) (fun a n => sp2_of q1 a n)
theorem pe_x1k (T : OexC X.K C) (J : Init1 X.prog X.w X.K X.mg X.base C fI f) (hr : Room 2 X.A) (hg : Gl X x) (hm : X.mg x = some (.ref C)) (hkw : PK X kws ta)
    (hall : (backToKw pos (keywordEach kws X.env)).all (·.1.isSome) = true := by rfl) (hks : (backToKw pos (keywordEach kws X.env)).filterMap (·.1) = [f] := by rfl) (hdb : (x == ("__debug__" : Str)) = false := by decide)
    (hpl : ((backTo pos (starEach [] X.env)).any (·.1) || (backToKw pos (keywordEach kws X.env)).any (·.1.isNone)) = false := by rfl) :
    PE X (.Call (.Name x p) [] kws pos) (tX1 C f ta) := by
  obtain ⟨iC, tI, fd, F1, _, b2⟩ := J
  refine ⟨fun pins s σ H Q I h => ?_⟩
  refine wpAny_Call_Name_kw (ld_glob I hg hm ?_ hdb)
  refine PySem.W.callWith_KW0 (h₀ := X.base) I.ok.mod.kin T.kC hall ?_ hpl
  refine thn (hkw.run pos pins s σ H _ I h) fun ws s1 ⟨vs, H1, I1, r1, v, ev, q1⟩ => ⟨I1.kIn, ?_⟩
  subst ev
  rw [hks]
  cases r1 with
  | cons rv rn =>
    cases rn
    exact run_mkX T iC tI F1 hr I1 (fun s e => b2 s e _) (.cons rv .nil) (Nat.zero_le _) (fun a n => sp1_of q1 a n)
theorem pe_x2k (T : OexC X.K C) (J : Init2 X.prog X.w X.K X.mg X.base C fI f g) (hr : Room 2 X.A) (hg : Gl X x) (hm : X.mg x = some (.ref C)) (hkw : PK X kws ta)
    (hall : (backToKw pos (keywordEach kws X.env)).all (·.1.isSome) = true := by rfl) (hks : (backToKw pos (keywordEach kws X.env)).filterMap (·.1) = [g, f] := by rfl) (hdb : (x == ("__debug__" : Str)) = false := by decide)
    (hpl : ((backTo pos (starEach [] X.env)).any (·.1) || (backToKw pos (keywordEach kws X.env)).any (·.1.isNone)) = false := by rfl) :
    PE X (.Call (.Name x p) [] kws pos) (tX2r C f g ta) := by
  obtain ⟨iC, tI, fd, F1, _, b2⟩ := J
  refine ⟨fun pins s σ H Q I h => ?_⟩
  refine wpAny_Call_Name_kw (ld_glob I hg hm ?_ hdb)
  refine PySem.W.callWith_KW0 (h₀ := X.base) I.ok.mod.kin T.kC hall ?_ hpl
  refine thn (hkw.run pos pins s σ H _ I h) fun ws s1 ⟨vs, H1, I1, r1, v, u, ev, q1⟩ => ⟨I1.kIn, ?_⟩
  subst ev
  rw [hks]
  cases r1 with
  | cons ru rn =>
    cases rn with
    | cons rv rn =>
      cases rn
      exact run_mkX T iC tI F1 hr I1 (fun s e => b2 s e _ _) (.cons rv (.cons ru .nil)) (Nat.zero_le _) (fun a n => sp2_of q1 a n)
end
end MyL

/-! repr of any nested data, dicts among it; fields and kinds of errors that are held as values. -/
namespace MyL
open PySem PySem.Spec PyProof.Rows L2
def keyD : Key → PyData
  | .inl i => .int i
  | .inr x => .str x
mutual
/-- the value reads as the data -/
inductive DpX (H : Hp) : V → PyData → Prop
  | non : DpX H .non .none
  | bl (b : Bool) : DpX H (.bl b) (.bool b)
  | int (i : Int) : DpX H (.int i) (.int i)
  | str (z : Str) : DpX H (.str z) (.str z)
  | lst {a : Addr} {xs : List V} {ds : List PyData} : H a = some (.lst xs) → a ≠ sysModules → DpXs H xs ds → DpX H (.ref a) (.list ds)
  | tup {a : Addr} {xs : List V} {ds : List PyData} : H a = some (.tup xs) → DpXs H xs ds → DpX H (.ref a) (.tuple ds)
  | dct {a : Addr} {kvs : List (Key × V)} {ds : List (PyData × PyData)} : H a = some (.dK kvs) → DpXp H kvs ds → DpX H (.ref a) (.dict ds)
inductive DpXs (H : Hp) : List V → List PyData → Prop
  | nil : DpXs H [] []
  | cons {v : V} {vs : List V} {d : PyData} {ds : List PyData} : DpX H v d → DpXs H vs ds → DpXs H (v :: vs) (d :: ds)
inductive DpXp (H : Hp) : List (Key × V) → List (PyData × PyData) → Prop
  | nil : DpXp H [] []
  | cons {k : Key} {v : V} {vs : List (Key × V)} {d : PyData} {ds : List (PyData × PyData)} : DpX H v d → DpXp H vs ds → DpXp H ((k, v) :: vs) ((keyD k, d) :: ds)
end
section
variable {H H' : Hp}
mutual
theorem DpX.same (S : Same H H') : ∀ {v : V} {d : PyData}, DpX H v d → DpX H' v d
  | _, _, .non => .non
  | _, _, .bl b => .bl b
  | _, _, .int i => .int i
  | _, _, .str z => .str z
  | _, _, .lst h n q => .lst (S _ _ h) n (DpXs.same S q)
  | _, _, .tup h q => .tup (S _ _ h) (DpXs.same S q)
  | _, _, .dct h q => .dct (S _ _ h) (DpXp.same S q)
theorem DpXs.same (S : Same H H') : ∀ {v : List V} {d : List PyData}, DpXs H v d → DpXs H' v d
  | _, _, .nil => .nil
  | _, _, .cons h q => .cons (DpX.same S h) (DpXs.same S q)
theorem DpXp.same (S : Same H H') : ∀ {v : List (Key × V)} {d : List (PyData × PyData)}, DpXp H v d → DpXp H' v d
  | _, _, .nil => .nil
  | _, _, .cons h q => .cons (DpX.same S h) (DpXp.same S q)
end
end
section
variable {P : Program} {w : World} {H : Hp} {h : Heap}
theorem key_reads {k : Key} {u : Value} (e : keyIs k u = true) : Reads h u (keyD k) [] := by
  rcases keyIs_shape e with ⟨i, t, rfl, rfl⟩ | ⟨z, t, rfl, rfl⟩
  · exact Reads.int i t
  · exact Reads.str z t
mutual
theorem DpX.reads (hok : HOk P w H h) : ∀ {v : V} {d : PyData} {u : Value}, DpX H v d → RelV v u → ∃ as, Reads h u d as ∧ sysModules ∉ as
  | _, _, _, .non, r => by
    cases r
    exact ⟨_, Reads.none, List.not_mem_nil⟩
  | _, _, _, .bl b, r => by
    cases r
    exact ⟨_, Reads.bool b, List.not_mem_nil⟩
  | _, _, _, .int i, r => by
    obtain ⟨t, rfl⟩ := r
    exact ⟨_, Reads.int i t, List.not_mem_nil⟩
  | _, _, _, .str z, r => by
    obtain ⟨t, rfl⟩ := r
    exact ⟨_, Reads.str z t, List.not_mem_nil⟩
  | _, _, _, .lst (a := a) ha n q, r => by
    cases r
    obtain ⟨_, its, m, rv, e⟩ := hok a _ ha
    obtain ⟨as, hr, hn⟩ := DpXs.reads hok q rv
    exact ⟨_, Reads.list e rfl rfl hr, fun z => (List.mem_cons.mp z).elim (fun y => n y.symm) hn⟩
  | _, _, _, .tup (a := a) ha q, r => by
    cases r
    obtain ⟨_, its, rv, o, e, c, m, hd⟩ := hok a _ ha
    obtain ⟨as, hr, hn⟩ := DpXs.reads hok q rv
    exact ⟨_, Reads.tuple e c hd hr, hn⟩
  | _, _, _, .dct (a := a) ha q, r => by
    cases r
    obtain ⟨_, hne, vs, kv, o, es, ep, e, hx, hd, _, prs, _⟩ := hok a _ ha
    obtain ⟨as, bs, h1, h2, n1, n2⟩ := DpXp.reads hok q kv prs
    refine ⟨_, Reads.dict e hx.1 hd h1 h2, fun z => ?_⟩
    rcases List.mem_cons.mp z with y | y
    · rw [← y] at hne
      simp at hne
    · exact (List.mem_append.mp y).elim n1 n2
theorem DpXs.reads (hok : HOk P w H h) : ∀ {v : List V} {d : List PyData} {u : List Value}, DpXs H v d → Vals v u → ∃ as, ReadsAll h u d as ∧ sysModules ∉ as
  | _, _, _, .nil, r => by
    cases r
    exact ⟨_, ReadsAll.nil, List.not_mem_nil⟩
  | _, _, _, .cons p q, r => by
    cases r with
    | cons r1 r2 =>
      obtain ⟨as, h1, n1⟩ := DpX.reads hok p r1
      obtain ⟨bs, h2, n2⟩ := DpXs.reads hok q r2
      exact ⟨_, ReadsAll.cons h1 h2, fun z => (List.mem_append.mp z).elim n1 n2⟩
theorem DpXp.reads (hok : HOk P w H h) : ∀ {v : List (Key × V)} {d : List (PyData × PyData)} {us : List (Key × Value)} {es : List DictEntry}, DpXp H v d → KV v us → Pairs (mixKind P w) es us →
    ∃ as bs, ReadsAll h (es.map (·.key)) (d.map (·.1)) as ∧ ReadsAll h (es.map (·.val)) (d.map (·.2)) bs ∧ sysModules ∉ as ∧ sysModules ∉ bs
  | _, _, _, _, .nil, kv, prs => by
    cases kv
    cases prs
    exact ⟨[], [], ReadsAll.nil, ReadsAll.nil, List.not_mem_nil, List.not_mem_nil⟩
  | _, _, _, _, .cons p q, kv, prs => by
    cases kv with
    | cons r1 r2 =>
      cases prs with
      | cons k1 v1 prs =>
        obtain ⟨e1, e2⟩ := r1
        obtain ⟨as, h1, n1⟩ := DpX.reads hok p e2
        obtain ⟨cs, bs, h2, h3, n2, n3⟩ := DpXp.reads hok q r2 prs
        dsimp only at e1 h1
        rw [← e1] at k1
        rw [← v1] at h1
        exact ⟨_, _, ReadsAll.cons (key_reads k1) h2, ReadsAll.cons h1 h3, fun z => (List.mem_append.mp z).elim List.not_mem_nil n2, fun z => (List.mem_append.mp z).elim n1 n3⟩
end
end
/-- repr of a value that reads as data -/
def rReprX (K : PySem.W.Frag) : List V → Hp → VK → Prop := fun xs H Q => ∃ (v : V) (d : PyData), xs = [v] ∧ DpX H v d ∧ d.showable = true ∧ d.depth ≤ 60 ∧ d.shown.length ≤ sizeLine ∧ Q (.str d.shown) H
theorem call_reprX {X : Cx} (hg : X.A.guards = some []) (hu : X.A.units + 64 < cLine) : CallR X (.builtin "repr") (rReprX X.K) := by
  intro pins s σ H xs us Q I r h
  obtain ⟨v, d, rfl, hd, hs, hz, hl, q⟩ := h
  obtain ⟨u, rfl, ru⟩ := vals1 r
  obtain ⟨as, rd, hn⟩ := DpX.reads I.hok hd ru
  cases rd with
  | none =>
    simp only [PyData.shown] at q
    exact PySem.P.repr_of_none ⟨.str _, H, I.tok _, ⟨_, rfl⟩, q⟩
  | bool b =>
    simp only [PyData.shown] at q
    exact PySem.P.repr_of_bool ⟨.str _, H, I.tok _, ⟨_, rfl⟩, q⟩
  | int i t =>
    simp only [PyData.shown] at q
    exact PySem.P.repr_of_int (by simpa [PyData.showable] using hs) ⟨.str _, H, I.tok _, ⟨_, rfl⟩, q⟩
  | str x t =>
    simp only [PyData.shown] at q hl
    exact PySem.P.repr_of_str ⟨.str _, H, I.tok _, ⟨_, rfl⟩, q⟩ hl
  | list h1 h2 h3 h4 => exact repr_of_reads' (Reads.list h1 h2 h3 h4) hs (fun _ => hn) hg (by omega) (fun b o e => e) (fun h' u tk hk => ⟨.str _, H, I.kept (t' := tk) hk, ⟨_, rfl⟩, q⟩) hl
  | tuple h1 h2 h3 h4 => exact repr_of_reads' (Reads.tuple h1 h2 h3 h4) hs (fun _ => hn) hg (by omega) (fun b o e => e) (fun h' u tk hk => ⟨.str _, H, I.kept (t' := tk) hk, ⟨_, rfl⟩, q⟩) hl
  | dict h1 h2 h3 h4 h5 => exact repr_of_reads' (Reads.dict h1 h2 h3 h4 h5) hs (fun _ => hn) hg (by omega) (fun b o e => e) (fun h' u tk hk => ⟨.str _, H, I.kept (t' := tk) hk, ⟨_, rfl⟩, q⟩) hl
/-- a list display: the new address is not the module table's -/
def tLstX (t : TA) : TE := fun σ H Q => t σ H fun xs H1 => xs.length ≤ sizeLine ∧ ∀ p, H1 p = none → p ≠ sysModules → Q (.ref p) (upd H1 p (.lst xs))
theorem pe_lstX {X : Cx} {es : List Expr} {t : TA} {pos : Pos} (h : PA X es t) : PE X (.List es pos) (tLstX t) := by
  refine ⟨fun pins s σ H Q I hq => ?_⟩
  refine wpAny_List_spliced (thn (h.run pos pins s σ H _ I hq) fun us s1 ⟨xs, H1, I1, r, z, q⟩ => ⟨by rw [← r.length]; exact z, ?_⟩)
  have fresh : H1 s1.heap.objs.size = none := I1.hok.fresh (Nat.le_refl _)
  have big : s1.heap.objs.size ≠ sysModules := Nat.ne_of_gt (StX.env0_big I1.env0)
  have new : ObjOk X.prog X.w (upd H1 s1.heap.objs.size (.lst xs)) (s1.heap.push { cls := .type "list", data := .seq us.toArray 0 }) s1.heap.objs.size (.lst xs) := ⟨z, us, 0, r, Heap.get?_push_size _ rfl⟩
  exact ⟨.ref s1.heap.objs.size, _, I1.laid (t' := s1.toks) (fun b u e => Heap.get?_push_of_some _ e) (Nat.le_refl _) new, rfl, q _ fresh big⟩

/-! ### errors as values: fields, kinds -/
def tXo (K : PySem.W.Frag) (f : Str) (te : TE) : TE := fun σ H Q => te σ H fun v H1 => ∃ (x C : Addr) (fs : List (Str × V)) (y : V), v = .ref x ∧ ErAt H1 x C fs ∧ XfC K C ∧ PySem.W.findIn K (.ref C) f = some none ∧ fs.lookup f = some y ∧ Q y H1
theorem pe_xo {X : Cx} {e : Expr} {te : TE} {pos : Pos} {n : Str} (he : PE X e te) (hb : attributeBase e n X.env (eval e X.env) = eval e X.env := by rfl) : PE X (.Attribute e n pos) (tXo X.K n te) := by
  refine ⟨fun pins s σ H Q I h => ?_⟩
  refine attr_of hb (thn (he.run pins s σ H _ I h) fun u s1 hh => ?_)
  obtain ⟨v, H1, I1, rx, x, C, fs, y, rfl, hE, T, hno, l, q⟩ := hh
  obtain rfl : u = Value.ref x := rx
  rcases hE with ⟨rfl, _⟩ | ⟨d, h1, h2⟩
  · cases l
  · obtain ⟨t1, ho⟩ := exo_at I1.hok h1
    obtain ⟨mA, hns, hr⟩ := exd_at I1.hok h2
    obtain ⟨od, hod, hl⟩ := lookIn_ns hns
    obtain ⟨uv, hu, ru⟩ := RelO.some_of (v := y) (o := mA n) (by rw [← l]; exact hr n)
    have J : PySem.W.InstAt s1.heap x ({ cls := .ref C, dict := some d, data := .fields #[.ref t1, .none, .none, .none, .bool false, .none] } : Obj) C (some od) := ⟨ho, rfl, rfl, hod⟩
    exact HandSPX.exc_get I1.kIn J T.ga T.gg T.exC (PySem.W.findObj_own T.hdC hno rfl (by rw [hl, hu])) (handed_of ru) ⟨y, H1, I1.tok _, ru, q⟩
/-- isinstance of an error that is held as a value -/
def rIsX (K : PySem.W.Frag) : List V → Hp → VK → Prop := fun xs H Q => ∃ (x C : Addr) (fs : List (Str × V)) (c : V) (cv : Value) (b : Bool), xs = [.ref x, c] ∧ ErAt H x C fs ∧ ExcC K C ∧ ClsV c cv ∧ PySem.W.kitOne K (.ref C) cv = some b ∧ Q (.bl b) H
theorem call_isX {X : Cx} : CallR X (.builtin "isinstance") (rIsX X.K) := by
  intro pins s σ H xs us Q I r h
  obtain ⟨x, C, fs, c, cv, b, rfl, hE, T, hcv, e, q⟩ := h
  cases r with
  | cons rx rr =>
    cases rr with
    | cons rt rr =>
      cases rr
      cases rx
      have ec := hcv.eq rt
      subst ec
      obtain ⟨cd, hc, _⟩ := PySem.W.any_some T.hd
      have J : ∃ (ox : Obj) (od : Option Obj), PySem.W.InstAt s.heap x ox C od := by
        rcases hE with ⟨_, h1⟩ | ⟨d, h1, h2⟩
        · obtain ⟨t1, ho⟩ := exo_at I.hok h1
          exact ⟨_, none, ho, rfl, rfl, trivial⟩
        · obtain ⟨t1, ho⟩ := exo_at I.hok h1
          obtain ⟨mA, hns, _⟩ := exd_at I.hok h2
          obtain ⟨od, hod, _⟩ := lookIn_ns hns
          exact ⟨_, some od, ho, rfl, rfl, hod⟩
      obtain ⟨ox, od, J⟩ := J
      exact PySem.W.kia_one (PySem.W.kitx_exc (by rw [hc] <;> rfl) T.hg T.hk T.hs T.ha T.hn T.ht T.hm) I.kIn J e (fun z => nomatch z) fun tk => ⟨.bl b, H, I.kept (t' := tk) fun _ _ z => z, rfl, q⟩
/-- C(), no __init__ of its own -/
theorem pe_x0 {X : Cx} {C : Addr} {x : Str} {p pos : Pos} (q : PySem.W.excIn X.K C [.type "ValueError", .type "Exception", .type "BaseException", .type "object"] "ValueError.__new__" = true) (gC : X.mg x = some (.ref C)) (kC : PySem.W.keepIn X.K (.ref C) = true) (hg : Gl X x)
    (hdb : (x == ("__debug__" : Str)) = false := by decide) :
    PE X (.Call (.Name x p) [] [] pos) (fun _ H Q => ∀ H' x, Same H H' → H x = none → ErAt H' x C [] → Q (.ref x) H') := by
  refine ⟨fun pins s σ H Q I h => ?_⟩
  refine wpAny_Call_Name_kw (ld_glob I hg gC ?_ hdb)
  refine PySem.W.callWith_K0 I.kIn kC ?_
  show wpAny _ _ (call (.ref C) []) _ _ _
  obtain ⟨bm, N, nm, qn, bs, hdct, sn, sub, ab, col, dd, k0, k1, k2, k3, k5, mN, hC, hN, hni, T⟩ := exc_obj I.kIn q
  refine wpAny_call_exc_subT F.excBase_ValueError T hC hN hni (fun h' a hm => ?_) (Nat.zero_le _)
  have hn : H a = none := I.hok.gone hm.new
  obtain ⟨t, ht, _, _⟩ := hm.there
  exact ⟨.ref a, upd H a (exo a C none), I.laidN hm.keeps hm.new hn (exo_ok ht), rfl, h _ a (Same.new (Same.refl H) hn) hn (.inl ⟨rfl, upd_same⟩)⟩
/-- a class's chain -/
def MroAt (K : PySem.W.Frag) (C : Addr) (l : List Value) : Prop := l ≠ [] ∧ ∃ cd, PySem.W.clsIn K C = some cd ∧ cd.mro = l
/-- what a class's chain tells -/
theorem kit_mro {K : PySem.W.Frag} {C : Addr} {cd : ClassData} {l : List Value} (hc : PySem.W.clsIn K C = some cd) (e : cd.mro = l) (hl : l ≠ []) (t : Value) : PySem.W.subIn K (.ref C) t = some (l.contains t) := by
  subst e
  show ((PySem.W.clsIn K C).bind fun cd => if cd.mro.isEmpty then none else some (cd.mro.contains t)) = _
  rw [hc, Option.bind_some, if_neg (by simpa using hl)]
theorem MroAt.sub {K : PySem.W.Frag} {C : Addr} {l : List Value} (M : MroAt K C l) (t : Value) : PySem.W.subIn K (.ref C) t = some (l.contains t) := by
  obtain ⟨h, cd, hc, e⟩ := M
  exact kit_mro hc e h t
theorem MroAt.own {K : PySem.W.Frag} {C D : Addr} {l : List Value} (M : MroAt K C (.ref C :: l)) (E : ErrC K D) : PySem.W.kitOne K (.ref C) (.ref D) = some ((Value.ref C :: l).contains (.ref D)) := by
  have h := M.sub (.ref D)
  cases b : (Value.ref C :: l).contains (.ref D) with
  | true =>
    rw [b] at h
    exact kit_own E h
  | false =>
    rw [b] at h
    have ne : (Value.ref C == Value.ref D) = false := by
      rw [List.contains_cons] at b
      have b1 := (Bool.or_eq_false_iff.mp b).1
      rw [Bool.eq_false_iff] at b1 ⊢
      exact fun z => b1 (by rw [beq_iff_eq] at z ⊢; exact z.symm)
    unfold PySem.W.kitOne
    rw [if_neg (by rw [ne]; exact Bool.false_ne_true)]
    obtain ⟨cd, hc, _⟩ := PySem.W.any_some E.e.hd
    have e2 : ((PySem.W.clsIn K D).isSome && PySem.W.typeIn K (.ref D) == some (.type "type")) = true := by rw [hc, E.o.tyC] <;> rfl
    show (if ((PySem.W.clsIn K D).isSome && PySem.W.typeIn K (.ref D) == some (.type "type")) = true then PySem.W.subIn K (.ref C) (.ref D) else none) = some false
    rw [if_pos e2]
    exact h
theorem MroAt.ty {K : PySem.W.Frag} {C : Addr} {l : List Value} {N : String} (M : MroAt K C l) (hm : PySem.W.kitMeta N = true) : PySem.W.kitOne K (.ref C) (.type N) = some (l.contains (.type N)) := by
  have ne : (Value.ref C == Value.type N) = false := by
    rw [Bool.eq_false_iff]
    exact fun z => nomatch (beq_iff_eq.mp z)
  unfold PySem.W.kitOne
  rw [if_neg (by rw [ne]; exact Bool.false_ne_true)]
  show (if PySem.W.kitMeta N = true then PySem.W.subIn K (.ref C) (.type N) else none) = _
  rw [if_pos hm]
  exact M.sub _
/-- isinstance(e, D), D an own class; a built-in one -/
def rIsXD (K : PySem.W.Frag) (D : Addr) : List V → Hp → VK → Prop := fun xs H Q => ∃ (x C : Addr) (fs : List (Str × V)) (l : List Value), xs = [.ref x, .ref D] ∧ ErAt H x C fs ∧ ExcC K C ∧ MroAt K C (.ref C :: l) ∧ Q (.bl ((Value.ref C :: l).contains (.ref D))) H
theorem call_isXD {X : Cx} {D : Addr} (E : ErrC X.K D) : CallR X (.builtin "isinstance") (rIsXD X.K D) := by
  intro pins s σ H xs us Q I r h
  obtain ⟨x, C, fs, l, rfl, hE, T, M, q⟩ := h
  exact call_isX pins s σ H _ us Q I r ⟨x, C, fs, _, _, _, rfl, hE, T, ClsV.own D, M.own E, q⟩
def rIsXT (K : PySem.W.Frag) (N : String) : List V → Hp → VK → Prop := fun xs H Q => ∃ (x C : Addr) (fs : List (Str × V)) (l : List Value), xs = [.ref x, .ty N] ∧ ErAt H x C fs ∧ ExcC K C ∧ MroAt K C l ∧ Q (.bl (l.contains (.type N))) H
theorem call_isXT {X : Cx} {N : String} (hm : PySem.W.kitMeta N = true) : CallR X (.builtin "isinstance") (rIsXT X.K N) := by
  intro pins s σ H xs us Q I r h
  obtain ⟨x, C, fs, l, rfl, hE, T, M, q⟩ := h
  exact call_isX pins s σ H _ us Q I r ⟨x, C, fs, _, _, _, rfl, hE, T, ClsV.ty N, M.ty hm, q⟩
theorem cls_of {K : PySem.W.Frag} {nm q : Str} {C N : Addr} {bs bm : List Value} {hdct : Bool} {sn : List Str} {sub : List Value} {ab : Bool} {col : Option Bool} {dd : Option Addr} {k0 k1 k2 k3 k5 : Option Value} {newId : String}
    (hC : K.lookup C = some (excClassObj nm q C N bs bm hdct sn sub ab col dd k0 k1 k2 k3 k5 newId)) :
    PySem.W.clsIn K C = some { name := nm, bases := bs, mro := .ref C :: bm, ns := N, qualname := q, hasDict := hdct, slotNames := sn, subclasses := sub, abstract := ab, collection := col, hasDel := false } := by
  unfold PySem.W.clsIn
  rw [hC] <;> rfl
end MyL

namespace MyL
open PySem PySem.Spec PyProof.Rows L2
/-! ### the end of a law whose def is called where no repr is under way -/
section
variable {P : Program} {w : World} {K : PySem.W.Frag} {mg mb : Str → Option Value} {CX : CXT} {k : Nat} {fa a : Addr} {sp : Sp} {s1 : Shared} {vs : List Value} {ns : List Int}
/-- what the abstract heap at the law's entry must be -/
structure EntryH (P : Program) (w : World) (K : PySem.W.Frag) (s1 : Shared) (a : Addr) (H : Hp) : Prop where
  only : Only H
  ok : HOk P w H s1.heap
  at_ : ∀ b, H b ≠ none → b = a
  off : H a ≠ none → K.lookup a = none
theorem entry_run {H : Hp} (EH : EntryH P w K s1 a H) (KX : K.In s1.heap) (hns : s1.heap.Ns mainGlobals mg) (hb : s1.heap.Ns builtinsNs mb) (hbb : ∀ x : Str, x ≠ "__name__" → mb x = bootBuiltins x) (hlim : s1.heap.NoLimit) (hg : s1.gens = #[])
    (ha : s1.heap.get? a = some { cls := .type "list", data := .seq vs.toArray }) (hr : Room k callerA)
    (F : ∀ base : Heap, K.In base → base.Ns mainGlobals mg → FnG P w K mg base CX k fa sp)
    (hsp : sp [.ref a] H (fun v _ => v = .bl true) fun _ _ _ => False) (hCX : ∀ e s', CX [] H s1 (fun _ _ _ => False) e s' → False) :
    codeAny (model P w) callerA (.call (.ref fa) ⟨[.ref a], []⟩) (fun r s' => r = .ok (.ret (.bool true)) ∧ OldK s1.heap s'.heap ∧ s'.os = s1.os ∧ AllBare s'.gens) s1 := by
  have untr : ∀ {b : Addr} {o : Obj}, s1.heap.get? b = some o → o ≠ { cls := .type "list", data := .seq vs.toArray } → H b = none := by
    intro b o e d
    cases q : H b with
    | none => rfl
    | some u =>
      have z : b = a := EH.at_ b (by rw [q]; exact fun z => nomatch z)
      rw [z, ha] at e
      exact absurd (Option.some.inj e).symm d
  have hid : ∀ {b : Addr} {m : Str → Option Value}, s1.heap.Ns b m → (hidT s1.heap H).Ns b m := by
    rintro b m ⟨o, es, ep, e, d, r⟩
    refine ⟨o, es, ep, hidT_get e (untr e fun z => ?_), d, r⟩
    rw [z] at d
    exact nomatch d
  have KB : K.In (hidT s1.heap H) := by
    intro b o e
    refine hidT_get (KX b o e) ?_
    cases q : H b with
    | none => rfl
    | some u =>
      have z : b = a := EH.at_ b (by rw [q]; exact fun z => nomatch z)
      subst z
      rw [EH.off (by rw [q]; exact fun z => nomatch z)] at e
      exact nomatch e
  obtain ⟨mc, l1, l2⟩ := hlim
  have M : Mod K mg (hidT s1.heap H) := { kin := KB, glob := hid hns, blt := ⟨mb, hid hb, hbb⟩, nolimit := ⟨mc, hid l1, l2⟩ }
  have E0 : Env0 P w K mg (hidT s1.heap H) callerA [] s1 H :=
    { frames := rfl, mod := M, bs := fun b o e => of_hidT e, bsz := Nat.le_of_eq (hidT_size _ _), funs := trivial, frf := (fun b z => nomatch z), hok := EH.ok, bare := .of_eq hg }
  refine codeAny_mono (F _ KB (hid hns) callerA [] s1 H [.ref a] [.ref a] _ _ hr rfl E0 (.cons rfl .nil) hsp) fun r s' h => ?_
  match r, h with
  | .error e, h => exact (hCX e s' h).elim
  | .ok .next, h => exact h.elim
  | .ok .brk, h => exact h.elim
  | .ok .cont, h => exact h.elim
  | .ok (.ret u), h =>
    obtain ⟨v, H2, hos, hbare, un, hok2, ru, rfl⟩ := h
    obtain rfl : u = Value.bool true := ru
    refine ⟨rfl, OldK.of_keep fun b o e => ?_, hos, hbare⟩
    rcases EH.only b with z | ⟨ob, xs, z⟩
    · exact un.keep b o e z (fun q => nomatch q) (fun q => nomatch q)
    · have e1 := (EH.ok b _ z).1
      have e2 := (hok2 b _ (un.frzs b ob _ z)).1
      rw [e] at e1
      rw [e2, Option.some.inj e1]
theorem entry_at (KX : K.In s1.heap) (ha : s1.heap.get? a = some { cls := .type "list", data := .seq vs.toArray }) (hi : IntsAre vs ns) (hl : ns.length ≤ sizeLine) : ∃ H, EntryH P w K s1 a H ∧ SqL K H a (ns.map V.int) := by
  have rv := vals_ints hi
  cases hk : K.lookup a with
  | some o =>
    have e := KX a o hk
    rw [ha] at e
    obtain rfl := Option.some.inj e
    refine ⟨fun _ => none, ⟨fun _ => .inl rfl, (fun b u z => nomatch z), fun b z => absurd rfl z, fun z => absurd rfl z⟩, .inr ⟨_, vs.toArray, _, hk, rfl, rfl, rfl, ?_, by simpa using rv⟩⟩
    rw [List.size_toArray, hi.length]
    exact hl
  | none =>
    refine ⟨fun b => if b = a then some (.frz { cls := .type "list", data := .seq vs.toArray } (.lst (ns.map V.int))) else none, ⟨fun b => ?_, fun b u z => ?_, fun b z => ?_, fun _ => hk⟩, .inl (.inr ⟨_, if_pos rfl⟩)⟩
    · by_cases c : b = a
      · exact .inr ⟨_, _, if_pos c⟩
      · exact .inl (if_neg c)
    · by_cases c : b = a
      · subst c
        rw [if_pos rfl] at z
        obtain rfl := Option.some.inj z
        exact ⟨ha, (by rw [List.length_map]; exact hl), vs, _, rv, ha⟩
      · rw [if_neg c] at z
        exact nomatch z
    · by_cases c : b = a
      · exact c
      · exact absurd (if_neg c) z
end
theorem walk_ofG {l : PySem.W.OpenLaw} {n k : Nat} {q : Program} {loose : List Str} {XP : (Str → Option Value) → Heap → Prop} {YP : World → Heap → Prop} {d : DefRec} {K : Params → PySem.W.Frag} {CX : World → CXT} {sp : World → Sp}
    (hn : l.most = some n) (hn2 : n ≤ sizeLine) (hdf : d.params.defaults = []) (hr : Room k callerA) (hY : ∀ (w : World) (h : Heap), YP w h → (K w.params).In h)
    (F : ∀ (w : World) (mg : Str → Option Value) (fa : Addr) (h : Heap), (K w.params).In h → h.Ns mainGlobals mg → mg d.name = some (.ref fa) →
      ∀ base : Heap, (K w.params).In base → base.Ns mainGlobals mg → FnG l.prog w (K w.params) mg base (CX w) k fa (sp w))
    (hsp : ∀ (w : World) (H : Hp) (a : Addr) (ns : List Int), ns.length ≤ n → Only H → SqL (K w.params) H a (ns.map V.int) → sp w [.ref a] H (fun v _ => v = .bl true) fun _ _ _ => False)
    (hCX : ∀ (w : World) (H : Hp) (s : Shared) (e : Value) (s' : Shared), CX w [] H s (fun _ _ _ => False) e s' → False) :
    PySem.W.WalkO q loose XP YP l.row.toRowW d [] (fun f vs => PySem.call f vs) := by
  refine Att.attach_call hn hdf fun w s₀ s₁ mg mb fa o pm cd doc a vs ns G Y ho hd hcd hmg hobj hints hlen hg => ?_
  have KX := hY w _ Y
  obtain ⟨H, EH, hS⟩ := entry_at (P := l.prog) (w := w) KX hobj hints (Nat.le_trans hlen hn2)
  exact entry_run EH KX G.T.g G.T.b G.T.builtins G.T.nolimit hg hobj hr (fun base h1 h2 => F w mg fa _ KX G.T.g hmg base h1 h2) (hsp w H a ns hlen EH.only hS) fun e s' => hCX w H s₁ e s'
end MyL

/-! A law's head by one run: what the top has written is read by a check. -/
namespace MyH
open PySem PySem.Spec PyProof.Rows L2 MyL He
/-- a check of the written part -/
abbrev Chk := PySem.W.Frag → Bool
def obsM (chk : List Chk) (fn : List FnD) (K : PySem.W.Frag) : Al := ((chk.all fun f => f K) && fn.all fun d => (Fa.code d.at_ d.qual).ok K && PySem.W.keepIn K (.ref (fAd K d.at_)), fn.map fun d => fnObs K d.at_)
def SaysM (chk : List Chk) (fn : List FnD) (K : PySem.W.Frag) : Prop := obsM chk fn K = valE fn
def obsMG (n : Nat) (chk : List Chk) (fn : List FnD) (g : Addr → Option Obj) : Al := obsM chk fn (frG g (asG g n))
def hookM (n : Nat) (chk : List Chk) (fn : List FnD) : PySem.W.Hook where
  α := Al
  obs := fun s => obsMG n chk fn s.heap.get?
  val := fun _ => valE fn
  says := fun _ h => ∃ K : PySem.W.Frag, K.In h ∧ SaysM chk fn K
  of := fun _ _ e => ⟨_, frG_in, e⟩
  keeps := fun _ _ _ ⟨K, hK, c⟩ k => ⟨K, PySem.W.Frag.In.keeps hK k, c⟩
theorem obsMG_eq {n : Nat} {chk : List Chk} {fn : List FnD} {g : Addr → Option Obj} {s : Shared} (h : ∀ a, g a = s.heap.get? a) : obsMG n chk fn g = (hookM n chk fn).obs s := by
  have e : g = s.heap.get? := funext h
  rw [e] <;> rfl
section
variable {chk : List Chk} {fn : List FnD} {K : PySem.W.Frag}
theorem SaysM.fact (c : SaysM chk fn K) (i : Nat) {f : Chk} (h : chk[i]? = some f := by rfl) : f K = true := by
  have c1 := (ba (show ((chk.all fun f => f K) && fn.all fun d => (Fa.code d.at_ d.qual).ok K && PySem.W.keepIn K (.ref (fAd K d.at_))) = true from congrArg (fun z : Al => z.1) c)).1
  exact List.all_eq_true.mp c1 f (List.mem_of_getElem? h)
theorem SaysM.def_ (c : SaysM chk fn K) (i : Nat) {x q : Str} {st : Stmt} {p : Str × Option Str} (h : fn[i]? = some ⟨p, x, q, defArgs st, defBody st, defScope st⟩ := by rfl) : ∃ fd, Fun K x q st (fAd K p) fd := by
  have c2 := (ba (show ((chk.all fun f => f K) && fn.all fun d => (Fa.code d.at_ d.qual).ok K && PySem.W.keepIn K (.ref (fAd K d.at_))) = true from congrArg (fun z : Al => z.1) c)).2
  have e : fn.map (fun d => fnObs K d.at_) = fn.map FnD.val := congrArg (fun z : Al => z.2) c
  have e2 : (fn.map fun d => fnObs K d.at_)[i]? = (fn.map FnD.val)[i]? := by rw [e]
  rw [List.getElem?_map, List.getElem?_map, h] at e2
  obtain ⟨k1, k2⟩ := ba (List.all_eq_true.mp c2 _ (List.mem_of_getElem? h))
  obtain ⟨oc, od, osl, kV, doc, pm, an, cdv, ct, lk, hc⟩ := fn_ok (Option.some.inj e2) k1
  exact ⟨_, fun_mk (st := st) lk hc k2⟩
end
/-! ### own errors -/
def xclsB (K : PySem.W.Frag) (C : Addr) (bm : List Value) : Bool := match K.lookup C with
  | some ⟨.type "type", _, .cls cd, sl⟩ => decide (cd.mro = .ref C :: bm) && (cd.hasDict && (!cd.hasDel && (match sl.toList with
    | [_, _, _, _, some (.builtin n), _] => decide (n = "ValueError.__new__")
    | _ => false)))
  | _ => false
theorem xclsB_ok {K : PySem.W.Frag} {C : Addr} {bm : List Value} (h : xclsB K C bm = true) :
    ∃ nm q N bs sn sub ab col dd k0 k1 k2 k3 k5, K.lookup C = some (excClassObj nm q C N bs bm true sn sub ab col dd k0 k1 k2 k3 k5 "ValueError.__new__") := by
  unfold xclsB at h
  split at h
  · rename_i dd cd sl ho
    obtain ⟨h1, h⟩ := ba h
    obtain ⟨h2, h⟩ := ba h
    obtain ⟨h3, h4⟩ := ba h
    split at h4
    · rename_i k0 k1 k2 k3 n k5 hl
      have en := of_decide_eq_true h4
      subst en
      have e1 := of_decide_eq_true h1
      obtain ⟨nm, bs, mro, ns, q, hd, sn, sb, ab, col, del⟩ := cd
      dsimp only at e1 h2 h3
      subst e1 h2
      have e3 : del = false := by cases del <;> first | rfl | cases h3
      subst e3
      obtain ⟨l⟩ := sl
      have hl' : l = [k0, k1, k2, k3, some (.builtin "ValueError.__new__"), k5] := hl
      subst hl'
      exact ⟨nm, q, ns, bs, sn, sb, ab, col, dd, k0, k1, k2, k3, k5, ho⟩
    · cases h4
  · cases h
def errB (K : PySem.W.Frag) (C : Addr) (bm : List Value) : Bool := xclsB K C bm && (PySem.HandSPX.refsVE bm && (eqO (PySem.W.findIn K (.ref C) "__setattr__") (some (some (.builtin "object.__setattr__"))) && (PySem.W.keepIn K (.ref C) && (decide (PySem.W.typeIn K (.ref C) = some (.type "type")) &&
  (xfB K C && (eqO (PySem.W.findIn K (.ref C) "__class__") (some (some (.builtin "object.__class__"))) && (eqO (PySem.W.specialIn K (.builtin "object.__class__") "__get__") (some (some (.builtin "getset_descriptor.__get__"))) &&
  (decide (PySem.W.takesIn K (.builtin "object.__class__") = some true) && decide (PySem.W.mroIn K C (.type "object") = some true)))))))))
theorem errB_ok {K : PySem.W.Frag} {C : Addr} {bm : List Value} (h : errB K C bm = true) : ErrC K C ∧ MroAt K C (.ref C :: bm) := by
  obtain ⟨h1, h⟩ := ba h
  obtain ⟨h2, h⟩ := ba h
  obtain ⟨h3, h⟩ := ba h
  obtain ⟨h4, h⟩ := ba h
  obtain ⟨h5, h⟩ := ba h
  obtain ⟨h6, h⟩ := ba h
  obtain ⟨h7, h⟩ := ba h
  obtain ⟨h8, h⟩ := ba h
  obtain ⟨h9, h10⟩ := ba h
  obtain ⟨nm, q, N, bs, sn, sub, ab, col, dd, k0, k1, k2, k3, k5, lk⟩ := xclsB_ok h1
  have xf := xfB_ok h6
  exact ⟨⟨⟨⟨nm, q, N, bs, _, sn, sub, ab, col, dd, k0, k1, k2, k3, k5, lk, h2⟩, eqO_ok h3, xf.exC, of_decide_eq_true h5, h4⟩, xf, ⟨xf.ga, xf.gg, xf.exC, xf.hdC, eqO_ok h7, eqO_ok h8, of_decide_eq_true h9, of_decide_eq_true h10⟩⟩,
    List.cons_ne_nil _ _, _, cls_of lk, rfl⟩
/-- the classes above -/
def upV (K : PySem.W.Frag) (up : List Str) : List Value := up.map (fun x => .ref (ga K x)) ++ veBase
def ndB (K : PySem.W.Frag) (xs : List Str) : Bool := decide (xs.map (ga K)).Nodup
def fnoB (K : PySem.W.Frag) (x f : Str) : Bool := eqO (PySem.W.findIn K (.ref (ga K x)) f) (some none)
def fatB (K : PySem.W.Frag) (x f : Str) (y : Str) : Bool := eqO (PySem.W.findIn K (.ref (ga K x)) f) (some (some (.ref (ma K (ga K y) f))))
def tyfB (K : PySem.W.Frag) (x f : Str) : Bool := decide (PySem.W.typeIn K (.ref (ma K (ga K x) f)) = some (.type "function"))
def xinB (K : PySem.W.Frag) (x : Str) : Bool := PySem.W.excIn K (ga K x) veBase "ValueError.__new__"
def subB (K : PySem.W.Frag) (x y : Str) : Bool := decide (PySem.W.subIn K (.ref (ga K x)) (.ref (ga K y)) = some true)
/-! ### the end -/
theorem walk_ofGE {l : PySem.W.OpenLaw} {n k : Nat} {q : Program} {loose : List Str} {XP : (Str → Option Value) → Heap → Prop} {YP : World → Heap → Prop} {d : DefRec} {CX : World → CXT}
    (hn : l.most = some n) (hn2 : n ≤ sizeLine) (hdf : d.params.defaults = []) (hr : Room k callerA)
    (F : ∀ (w : World) (mg : Str → Option Value) (fa : Addr) (h : Heap), YP w h → h.Ns mainGlobals mg → mg d.name = some (.ref fa) →
      ∃ (K : PySem.W.Frag) (sp : Sp), K.In h ∧ (∀ (H : Hp) (a : Addr) (ns : List Int), ns.length ≤ n → Only H → SqL K H a (ns.map V.int) → sp [.ref a] H (fun v _ => v = .bl true) fun _ _ _ => False) ∧
        ∀ base : Heap, K.In base → base.Ns mainGlobals mg → FnG l.prog w K mg base (CX w) k fa sp)
    (hCX : ∀ (w : World) (H : Hp) (s : Shared) (e : Value) (s' : Shared), CX w [] H s (fun _ _ _ => False) e s' → False) :
    PySem.W.WalkO q loose XP YP l.row.toRowW d [] (fun f vs => PySem.call f vs) := by
  refine Att.attach_call hn hdf fun w s₀ s₁ mg mb fa o pm cd doc a vs ns G Y ho hd hcd hmg hobj hints hlen hg => ?_
  obtain ⟨K, sp, KX, hsp, hF⟩ := F w mg fa _ Y G.T.g hmg
  obtain ⟨H, EH, hS⟩ := entry_at (P := l.prog) (w := w) KX hobj hints (Nat.le_trans hlen hn2)
  exact entry_run EH KX G.T.g G.T.b G.T.builtins G.T.nolimit hg hobj hr hF (hsp H a ns hlen EH.only hS) fun e s' => hCX w H s₁ e s'
end MyH

/-! Own classes: super() in __init__, the class's name, truth and == by own defs. -/
namespace MyP
open PySem PySem.Spec PySem.Calls PyProof.Rows L2 MyL NdefX

/-- what of the program super() asks -/
structure Prg (P : Program) : Prop where
  file : P.main.file = Str.ofString "/claim/cut.py"
  top : (P.main.scope.names.lookup ("super" : Str)).isSome = false
/-- what the top has written that super() asks -/
structure Sup0 (K : PySem.W.Frag) (mg : Str → Option Value) : Prop where
  gl : mg "super" = none
  op : PySem.W.nsIn K cStatics "thirdparty.any" = some none
/-- a def of the class at D that says super() -/
structure FunC (K : PySem.W.Frag) (x qual : Str) (st : Stmt) (f : Addr) (fd : FuncData) (D : Addr) : Prop where
  ex : ∃ (oc kV doc pm : Value) (od an : Option Addr) (cda cc : Addr) (ct : Value) (osl : Array (Option Value)) (ccl : Value) (cdd : Option Addr) (vs : Array Value) (ccs : Array (Option Value)) (tf : Tok) (cl : Value) (cld : Option Addr) (csl : Array (Option Value)) (cdD : ClassData),
    fd = PySem.W.fnX x qual (defArgs st) (defBody st) (defScope st) [("__class__", cc)] .none kV doc pm an (.ref cda) ct ∧ K.lookup f = some ⟨oc, od, .func fd, osl⟩ ∧ PySem.W.codeIn K (.ref cda) qual = true ∧
    K.lookup cda = some ⟨ccl, cdd, .fields vs, ccs⟩ ∧ vs[2]? = some (.str (Str.ofString "/claim/cut.py") tf) ∧ K.lookup cc = some ⟨cl, cld, .cell (some (.ref D)), csl⟩ ∧ PySem.W.clsIn K D = some cdD
/-- an instance's class C below D: the __init__ above D is at g -/
structure SupC (K : PySem.W.Frag) (C D g : Addr) : Prop where
  sub : PySem.W.mroIn K C (.ref D) = some true
  at_ : PySem.W.ks_superIn K C D "__init__" = some (some (.ref g))
  ty : PySem.W.typeIn K (.ref g) = some (.type "function")
  fn : PySem.W.fnIn K g = true

/-- a promise of a def called where no repr is under way, the arguments bound in any way -/
structure FnA (P : Program) (w : World) (K : PySem.W.Frag) (mg : Str → Option Value) (base : Heap) (CX : CXT) (k : Nat) (f : Addr) (fd : FuncData) (ps : List Str) (sp : Sp) : Prop where
  len : ∀ vs H Q E, sp vs H Q E → vs.length = ps.length
  run : ∀ (A : Around) (outer : List Env) (s : Shared) (H : Hp) (args : Args) (us : List Value) (vs : List V) (Q : VK) (E : XK), Room k A → A.guards = some [] → Env0 P w K mg base A outer s H → BindsTo s fd args (ps.zip us) → Vals vs us → sp vs H Q E →
    codeAny (model P w) A (.call (.ref f) args) (CR CX outer P w H s Q E) s
theorem FnA.fnG {P : Program} {w : World} {K : PySem.W.Frag} {mg : Str → Option Value} {base : Heap} {CX : CXT} {k : Nat} {f : Addr} {fd : FuncData} {ps : List Str} {sp : Sp} (F : FnA P w K mg base CX k f fd ps sp)
    (hb : ∀ us : List Value, us.length = ps.length → bindArgs fd ⟨us, []⟩ = pure (ps.zip us)) : FnG P w K mg base CX k f sp := fun A outer s H us vs Q E hr hg e0 r h =>
  F.run A outer s H ⟨us, []⟩ us vs Q E hr hg e0 (.of_eq (hb us (by rw [← r.length]; exact F.len _ _ _ _ h))) r h
section
variable {P : Program} {w : World} {K : PySem.W.Frag} {mg : Str → Option Value} {base : Heap} {CX : CXT}
/-- a def of a class whose first statement is super().__init__(e, ..) -/
theorem fnc_super {x qual : Str} {st : Stmt} {f g D : Addr} {fd : FuncData} {j k : Nat} {sp spI : Sp} {N ps : List Str} {p0 p1 apos pos pos' : Pos} {e : Expr} {es : List Expr} {rest : List Stmt} {ar : Arg} {EI : XK} {pl : Sem Bool}
    (PF : Prg P) (S0 : Sup0 K mg) (F : FunC K x qual st f fd D) (S : NScope N ps ["__class__"] (defScope st))
    (hst : defBody st = .Expr (.Call (.Attribute (.Call (.Name "super" p0) [] [] p1) "__init__" apos) (e :: es) [] pos) pos' :: rest)
    (har : ((defArgs st).posonlyargs ++ (defArgs st).args).head? = some ar) (hp0 : ps[0]? = some ar.arg)
    (hks : (defScope st).names.lookup ("super" : Str) = some .globalImplicit)
    (ht : ∀ env : Env, eval (.Call (.Attribute (.Call (.Name "super" p0) [] [] p1) "__init__" apos) (e :: es) [] pos) env = (do
      let ov ← attributeBase (.Call (.Name "super" p0) [] [] p1) "__init__" env (eval (.Call (.Name "super" p0) [] [] p1) env)
      standAt apos.atName
      let (f, first) ← holding [ov] (getMethod ov "__init__" pl)
      callWith pos f first (backTo pos (starEach (e :: es) env)) []))
    (hse : ∀ env : Env, starEach (e :: es) env = (false, eval e env) :: starEach es env) (hpl : ∀ env : Env, (backTo pos (starEach es env)).any (·.1) = false)
    (len : ∀ vs H Q E, sp vs H Q E → vs.length = ps.length)
    (G : FnG P w K mg base CX j g spI)
    (hbody : ∀ (NFv : NF) (A : Around) (outer : List Env) (s : Shared) (H : Hp) (vs : List V) (Q : VK) (E : XK), NFv.scope = defScope st → NFv.qual = qual → Room (max j k) (A.deeper (envF NFv f s.heap.objs.size)) → A.guards = some [] → sp vs H Q E →
      ∃ (a C dx : Addr) (fs : List (Str × V)) (vs' : List V) (ta : TA) (tr : TS), vs = .ref a :: vs' ∧ H a = some (.ins C dx fs) ∧ SupC K C D g ∧
        PA (ncx CX P w K mg base N NFv f A outer s H E) (e :: es) ta ∧ PSs (ncx CX P w K mg base N NFv f A outer s H E) rest tr ∧ Passes CX (ncx CX P w K mg base N NFv f A outer s H E) EI ∧
        ta (startF N vs [some (.ref D)]) H fun us H1 => Iv (spI (.ref a :: us) H1 (fun _ H2 => tr { nx := fun _ H' => Q .non H', rt := Q } (startF N vs [some (.ref D)]) H2) EI)) :
    FnA P w K mg base CX (max j k + 1) f fd ps sp := by
  obtain ⟨oc, kV, doc, pm, od, an, cda, cc, ct, osl, ccl, cdd, vcs, ccs, tf, cl, cld, csl, cdD, rfl, lk, hcd, lcode, hfile, lcell, hclsD⟩ := F.ex
  refine ⟨len, fun A outer s H args us vs Q E hr hg e0 hbind r hsp => ?_⟩
  have hl := len _ _ _ _ hsp
  have KX : K.In s.heap := e0.mod.kin.keeps fun b o e => (e0.bs b o e).1
  have lim : s.heap.NoLimit := e0.mod.nolimit.keeps fun b o e => (e0.bs b o e).1
  let NFv : NF := ⟨x, qual, defArgs st, defBody st, defScope st, [("__class__", cc)], cda⟩
  obtain ⟨a, C, dx, fs, vs', ta, tr, ev, ha, SC, pa, pr, hx, q⟩ := hbody NFv A outer s H vs Q E rfl rfl (hr.deeper _) hg hsp
  have X0 := KX
  have CA : CellsAt NFv.cl ["__class__"] [some (V.ref D)] s.heap H := by
    have hc : ∀ y c, List.lookup y [(("__class__" : Str), cc)] = some c → c = cc ∧ y = "__class__" := fun y c h => by
      rw [List.lookup_cons] at h
      split at h
      · rename_i z
        exact ⟨(Option.some.inj h).symm, beq_iff_eq.mp z⟩
      · cases h
    have nH : H cc = none := by
      have hb := e0.mod.kin _ _ lcell
      exact (e0.bs _ _ hb).2
    refine ⟨rfl, fun y c h => ?_, fun y z c h1 h2 => ?_, fun i y h => ?_⟩
    · obtain ⟨rfl, _⟩ := hc y c h
      exact ⟨nH, _, _, X0 _ _ lcell, rfl⟩
    · rw [(hc _ _ h1).2, (hc _ _ h2).2]
    · cases i with
      | zero =>
        obtain rfl : "__class__" = y := Option.some.inj h
        refine ⟨cc, rfl, fun v hv => ?_⟩
        obtain rfl : V.ref D = v := Option.some.inj (Option.some.inj hv)
        exact ⟨_, rfl, _, X0 _ _ lcell, rfl⟩
      | succ i => simp at h
  refine ks_codeAny_call_defAt (prog := P) (w := w) (binds := ps.zip us) hr.depth (KX _ _ lk) rfl lim (PySem.W.codeRec_of KX hcd) rfl hbind (fun y hy => S.nocell y hy) (fun y hy => S.par _ (List.of_mem_zip hy).1) (fun h₁ hns kp => ?_) S.co S.gen S.kind
  have I : Inv (ncx CX P w K mg base N NFv f A outer s H E) [] (startF N vs [some (V.ref D)]) H { s with heap := h₁, toks := s.toks + (ps.zip us).length } := inv_startN (F := NFv) (ws := [some (V.ref D)]) S hr.hd e0 hl r CA hns kp
  have hex : execs (defBody st) (envF NFv f s.heap.objs.size) = execs (.Expr (.Call (.Attribute (.Call (.Name "super" p0) [] [] p1) "__init__" apos) (e :: es) [] pos) pos' :: rest) (envF NFv f s.heap.objs.size) := by rw [hst]
  show PySem.wpAt (model P w) (A.deeper (envF NFv f s.heap.objs.size)) (.func (defBody st) (envF NFv f s.heap.objs.size)) (execs (defBody st) (envF NFv f s.heap.objs.size)) _ _ _
  rw [hex]
  generalize hs1 : ({ s with heap := h₁, toks := s.toks + (ps.zip us).length } : Shared) = s1 at I
  have hns1 : s1.heap.Ns s.heap.objs.size (fun x => (ps.zip us).reverse.lookup x) := by rw [← hs1]; exact hns
  have hint : interactive (envF NFv f s.heap.objs.size) = false := by
    show ((defScope st).kind == .module && _) = false
    rw [S.kind]
    rfl
  refine ks_wpAt_execs_cons (ks_wpAt_Expr_any (ks_wpAt_MethodCall (pl := pl) ?_ (ht _)) hint rfl)
  have X1 : K.In s1.heap := I.kIn
  obtain ⟨mA, OM, _, _, _, _⟩ := ins_get I.hok ha
  obtain ⟨od1, IA, _⟩ := OM.look
  have hself : (ps.zip us).reverse.lookup ar.arg = some (.ref a) := by
    obtain ⟨u, hu, ru⟩ := r.get (i := 0) (x := .ref a) (by rw [ev] <;> rfl)
    cases (show u = Value.ref a from ru)
    have ndP : ps.Nodup := by
      have q := S.nd.sublist (List.take_sublist (ps.length + 1) N)
      have e : N.take (ps.length + 1) = ps ++ ([("__class__" : Str)] : List Str) := S.pre
      rw [e] at q
      exact (List.nodup_append.mp q).1
    exact zip_look ndP hp0 hu
  obtain ⟨oD, hD1, hD2⟩ : ∃ oD, s1.heap.get? D = some oD ∧ oD.data = .cls cdD := by
    have hc := hclsD
    unfold PySem.W.clsIn at hc
    split at hc
    · rename_i c d cd' sl ho
      cases hc
      exact ⟨_, X1 _ _ ho, rfl⟩
    · cases hc
  have ga : s1.heap.Ns mainGlobals mg := I.mod.glob.keeps I.bk
  obtain ⟨mb, gb, hbb⟩ := I.mod.blt
  have gb1 : s1.heap.Ns builtinsNs mb := gb.keeps I.bk
  refine ks_wpAt_super_base (env := envF NFv f s.heap.objs.size) hks (S.frk _ (List.mem_singleton.mpr rfl)) (by decide) rfl (X1 _ _ lk) rfl har rfl (X1 _ _ lcode) rfl hfile (by rw [PF.file]; exact beq_self_eq_true _) PF.top ?_
  refine PySem.W.ks_loadName_global S.kind hks (PySem.Calls.loadGlobal_builtin (env := envF NFv f s.heap.objs.size) ga S0.gl gb1 ((hbb _ (by decide +kernel)).trans (by first | boot_by_name | rfl | decide +kernel)) ⟨rfl, ?_⟩)
  refine wpAny_loadName_free S.kind (S.frk _ (List.mem_singleton.mpr rfl)) rfl ⟨_, X1 _ _ lcell, rfl⟩ ?_
  refine wpAny_loadName_local S.kind (S.par _ (List.mem_of_getElem? hp0)) hns1 hself ?_
  refine ks_wpAny_isType_cls hD1 hD2 ⟨rfl, ?_⟩
  obtain ⟨hh, gg, dd, tt, oos⟩ := s1
  refine ks_wpAny_call_super hD1 hD2 IA.at_ IA.cls (fun c e => ?_) (PySem.W.looks_mroIn X1 SC.sub) (fun h2 e2 k2 => ?_)
  · have := IA.no
    unfold PySem.W.notCls at this
    rw [e] at this
    exact Bool.noConfusion this
  have I2 := I.kept (t' := tt) k2
  have X2 : K.In h2 := I2.kIn
  obtain ⟨mA2, OM2, _, _, _, _⟩ := ins_get I2.hok ha
  obtain ⟨od2, IA2, _⟩ := OM2.look
  cases hcC : PySem.W.clsIn K C with
  | none =>
    have h := SC.at_
    unfold PySem.W.ks_superIn at h
    rw [hcC] at h
    cases h
  | some cdC =>
    have hat := SC.at_
    unfold PySem.W.ks_superIn at hat
    rw [hcC] at hat
    obtain ⟨of, hof, hofc⟩ : ∃ of, h2.get? g = some of ∧ of.cls = .type "function" := by
      have ht' : (K.lookup g).map (·.cls) = some (.type "function") := SC.ty
      cases z : K.lookup g with
      | none => rw [z] at ht'; cases ht'
      | some of => rw [z] at ht'; exact ⟨of, X2 _ _ z, Option.some.inj ht'⟩
    refine ks_wpAny_getMethod_super e2 (PySem.W.looks_opaque X2 S0.op) (l₀ := cdC.mro) ?_ rfl X2 hat hof hofc (PySem.W.ks_ne X2 IA2 hcC) (by decide) ?_
    · exact fun A Q E s k q => wpAny_bind ((PySem.W.looks_clsIn X2 hcC) A _ E s k (wpAny_pure q))
    have I3 := I2.kept (t' := tt + 1) (h' := h2.push { cls := .type "method", data := .fields #[.ref g, .ref a] }) (fun b o e => Heap.get?_push_of_some _ e)
    have hm3 : (h2.push { cls := .type "method", data := .fields #[.ref g, .ref a] }).get? h2.objs.size = some (PySem.W.methodObj (.ref g) (.ref a)) := Heap.get?_push_at rfl rfl
    have I4 := I3.pins_of (pins' := [(h2.objs.size, PySem.W.methodObj (.ref g) (.ref a))]) (fun p hp => by
      rcases List.mem_singleton.mp hp with rfl
      exact ⟨hm3, I2.hok.fresh (Nat.le_refl _), Nat.ne_of_gt I2.lt, I2.nofs (Nat.le_refl _), fun v z => nomatch z⟩)
    refine PySem.W.callWith_of (P := PySem.W.MethP K h2.objs.size g (.ref a)) ?_ (PySem.W.keeps_M SC.fn) ?_
    · rw [hse]
      show ((false || (backTo pos (starEach es _)).any (·.1)) || false) = false
      rw [hpl]
      rfl
    have hpin : ∀ {σ' : L2.St} {H' : Hp} {s' : Shared}, Inv (ncx CX P w K mg base N NFv f A outer s H E) [(h2.objs.size, PySem.W.methodObj (.ref g) (.ref a))] σ' H' s' → s'.heap.get? h2.objs.size = some (PySem.W.methodObj (.ref g) (.ref a)) := fun J => (J.pin (h2.objs.size, PySem.W.methodObj (.ref g) (.ref a)) (List.mem_append.mpr (.inr (List.mem_singleton.mpr rfl)))).1
    rw [hse]
    refine evalArgs_plain ?_
    show wpAny _ _ (spliced (backTo pos ((false, eval e (envF NFv f s.heap.objs.size)) :: starEach es (envF NFv f s.heap.objs.size)))) _ _ _
    rw [← hse]
    refine thn (pa.run pos _ _ _ _ _ I4 q) fun us2 s5 ⟨vs2, H5, I5, r5, q5⟩ => ⟨⟨hpin I5, I5.kIn⟩, ?_⟩
    refine wpAny_call (PySem.W.method_call (hpin I5) (codeAny_mono (G (A.deeper (envF NFv f s.heap.objs.size)) (envF NFv f s.heap.objs.size :: outer) s5 H5 (.ref a :: us2) (.ref a :: vs2) _ EI ((hr.deeper _).mono (Nat.le_max_left _ _)) hg I5.env0 (.cons rfl r5) q5.out) fun r' s' hq => ?_))
    cases r' with
    | error er => exact hx _ _ _ _ er s' I5 hq
    | ok fl =>
      cases fl with
      | next => exact False.elim hq
      | brk => exact False.elim hq
      | cont => exact False.elim hq
      | ret u =>
        obtain ⟨v6, H6, I6, r6, q6⟩ := I5.after hq
        refine wpAt_of_wpAny (wpAny_mono (pr.run _ s' _ H6 _ I6 q6) (fun fl s'' hs => ?_) fun e s'' hs => hs)
        have fin : ∀ {σ' : L2.St} {H' : Hp} {v' : V} {u' : Value}, Inv (ncx CX P w K mg base N NFv f A outer s H E) [(h2.objs.size, PySem.W.methodObj (.ref g) (.ref a))] σ' H' s'' → RelV v' u' → Q v' H' → CE outer P w H s Q u' s'' :=
          fun {σ' H' v' u'} J rv' q => ⟨v', H', J.os, J.bare, J.base, J.hok, rv', q⟩
        cases fl with
        | ret u' =>
          obtain ⟨v', σ', H', J, rv', q⟩ := hs
          exact fin J rv' q
        | next =>
          obtain ⟨σ', H', J, q⟩ := hs
          exact fin (v' := V.non) (u' := Value.none) J rfl q
        | brk =>
          obtain ⟨_, _, _, q⟩ := hs
          exact False.elim q
        | cont =>
          obtain ⟨_, _, _, q⟩ := hs
          exact False.elim q
end

/-! ### the class's name -/
/-- what the top has written of an own class: its name stands in its object -/
structure NmC (K : PySem.W.Frag) (C : Addr) (nm : Str) : Prop where
  ex : ∃ (dd : Option Addr) (cd : ClassData) (tk : Tok) (k0 k1 k3 k4 k5 : Option Value), K.lookup C = some ⟨.type "type", dd, .cls cd, #[k0, k1, some (.str nm tk), k3, k4, k5]⟩
  fc : PySem.W.findCls K (.ref C) (.type "type") "__name__" = some (.get (.builtin "getset_descriptor.__get__") (.builtin "type.__name__") (.ref C) (.type "type"))
section
open PySem.W Builtin Builtin.ObjectAttr Builtin.Getset_descriptor
variable {prog : Program} {w : World} {A : Around} {E : Value → Shared → Prop} {s : Shared} {K : PySem.W.Frag} {R : Result → Shared → Prop} {C : Addr} {nm : Str} {mg : Str → Option Value}
theorem cn_dga {C : Addr} (d tp : Value) : Builtin.Getset_descriptor.descrGetArgs ⟨[d, .ref C, tp], []⟩ = pure (d, some (.ref C), given tp) := by kernel_rfl
theorem cn_get {tp : Value} {dd : Option Addr} {cd : ClassData} {tk : Tok} {k0 k1 k3 k4 k5 : Option Value} (hC : s.heap.get? C = some ⟨.type "type", dd, .cls cd, #[k0, k1, some (.str nm tk), k3, k4, k5]⟩) (h : R (.ok (.ret (.str nm tk))) s) :
    codeAny (model prog w) A (.call (.builtin "getset_descriptor.__get__") ⟨[.builtin "type.__name__", .ref C, tp], []⟩) R s := by
  obtain ⟨hh, g, dr, t, os⟩ := s
  have L0 : Looks (model prog w) hh (typeOf (.ref C)) (.type "type") := (Looks.ld hC).andThen .now
  have L1 : Looks (model prog w) hh (isSubtype (.type "type") (.type "type")) true := Looks.of_pure (by rw [isSubtype_type]; kernel_rfl)
  refine codeAny_call_builtin KF.slot_gs.plain KF.entry_gs (KF.slot_gs.check _ _ _ _ _ _ _ _ ktyn_type (KF.args_gs _ _ _) ?_)
  unfold Builtin.«getset_descriptor.__get__» descrGet
  rw [cn_dga]
  refine wpAny_bind (wpAny_pure ?_)
  unfold descrGetter descrCheckInstance descrNameAndClass isInstance
  simp only [ktyn_owner]
  repeat lk
  refine ⟨Code.quiet_builtin _ (by decide +kernel), codeAny_builtin ktyn_entry ?_⟩
  unfold Builtin.«type.__name__»
  dsimp only
  unfold keptObject PySem.slotAt
  dsimp only
  refine wpAny_bind (wpAny_bind (wpAny_loadPart_at hC ?_))
  refine wpAny_pure ?_
  show wpAny _ _ (ret (.str nm tk)) _ _ _
  exact wpAny_pure h
theorem cn_attr {expr : Bool} {Q : Value → Shared → Prop} (X : K.In s.heap) (op : PySem.W.nsIn K cStatics "thirdparty.any" = some none) (T : NmC K C nm) (h : ∀ tk u, Q (.str nm tk) { s with toks := u }) : wpAny (model prog w) A (getAttr (.ref C) "__name__" expr) Q E s := by
  obtain ⟨dd, cd, tk, k0, k1, k3, k4, k5, lk⟩ := T.ex
  have hC := X _ _ lk
  have L0 : Looks (model prog w) s.heap (typeOf (.ref C)) (.type "type") := (Looks.ld hC).andThen .now
  have LO : Looks (model prog w) s.heap (opaqueClassAbove (.ref C)) none := looks_opaque X op
  have hg : findIn K (.type "type") "__getattribute__" = some (some (.builtin "type.__getattribute__")) := type_tga
  refine cls_open X LO L0 hg (looks_hook X (r := none) (by rfl)) (by show subIn K _ _ = _; rfl) T.fc ?_
  show wpAny _ _ (do ret (← holding [Value.builtin "type.__name__"] (call (.builtin "getset_descriptor.__get__") [.builtin "type.__name__", .ref C, .type "type"]))) _ _ _
  refine wpAny_bind (wpAny_holding (wpAny_call (cn_get (s := { s with toks := s.toks + 1 }) hC ?_)))
  exact wpAny_pure (handed_on rfl (h _ _))
end
/-- an own class -/
structure OwnC (K : PySem.W.Frag) (C : Addr) (nm : Str) : Prop where
  c : Cls K C
  n : NmC K C nm
  ha : PySem.W.findIn K (.ref C) "__class__" = some (some (.builtin "object.__class__"))
  hn : PySem.W.specialIn K (.builtin "object.__class__") "__get__" = some (some (.builtin "getset_descriptor.__get__"))
  ht : PySem.W.takesIn K (.builtin "object.__class__") = some true
  hm : PySem.W.mroIn K C (.type "object") = some true
theorem OwnC.ty {K : PySem.W.Frag} {C a dx : Addr} {nm : Str} {fs : List (Str × V)} {H : Hp} (O : OwnC K C nm) (h : H a = some (.ins C dx fs)) : TyX K H (.ref a) (.ref C) := .base (.ins h O.c O.ha O.hn O.ht O.hm)
/-- e.__class__.__name__ -/
def tClsNm (K : PySem.W.Frag) (ta : TE) : TE := fun σ H Q => ta σ H fun x H1 => ∃ a C dx fs nm, x = .ref a ∧ H1 a = some (.ins C dx fs) ∧ OwnC K C nm ∧ Q (.str nm) H1
section
variable {X : Cx} {e : Expr} {pos pos' : Pos} {ta : TE}
theorem pe_clsNm (op : PySem.W.nsIn X.K cStatics "thirdparty.any" = some none) (he : PE X e ta) (hb : attributeBase e "__class__" X.env (eval e X.env) = eval e X.env := by rfl)
    (hb2 : attributeBase (.Attribute e "__class__" pos) "__name__" X.env (eval (.Attribute e "__class__" pos) X.env) = eval (.Attribute e "__class__" pos) X.env := by rfl) : PE X (.Attribute (.Attribute e "__class__" pos) "__name__" pos') (tClsNm X.K ta) := by
  refine ⟨fun pins s σ H Q I h => ?_⟩
  refine attr_of hb2 (attr_of hb (thn (he.run pins s σ H _ I h) fun u s1 ⟨x, H1, I1, rx, a, C, dx, fs, nm, ex, ea, O, q⟩ => ?_))
  subst ex
  obtain rfl : u = Value.ref a := rx
  obtain ⟨mA, OM, _, _, _, _⟩ := ins_get I1.hok ea
  obtain ⟨od, J, _⟩ := OM.look
  obtain ⟨m, hF⟩ := I1.fr
  refine PySem.W.get_class hF I1.ok.mod.kin J (O.c.get _) O.c.hd O.ha O.hn O.ht O.hm ?_
  refine cn_attr (I1.tok _).kIn op O.n fun tk u => ⟨.str nm, H1, I1.tok _, ⟨_, rfl⟩, q⟩
end

/-! ### truth by an own __bool__ -/
section
variable {prog : Program} {w : World} {A : Around} {E : Value → Shared → Prop} {s : Shared} {K : PySem.W.Frag} {x C L f : Addr} {h₀ : Heap} {m : Str → Option Value} {ox : Obj} {od : Option Obj}
theorem bool_own {Q : Value → Shared → Prop} (F : Fr h₀ L s.heap m) (X₀ : K.In h₀) (I : PySem.W.InstAt s.heap x ox C od) (hs : PySem.W.findIn K (.ref C) "__bool__" = some (some (.ref f))) (hf : PySem.W.isFn K (.ref f) = true)
    (h : wpAny (model prog w) A.in1.in1 (call (.ref f) [.ref x]) (fun r s₁ => ∃ b, r = Value.bool b ∧ Q r s₁) E s) : wpAny (model prog w) A (call (.type "bool") [.ref x]) Q E s := by
  refine callType_codes (T := "bool") (Bi := Builtin.«object.__init__») (Q₁ := fun r s₁ => ∃ b, r = Value.bool b ∧ Q r s₁) PySem.F.called_bool (PySem.F.typeCall_bool_1 _) PySem.F.entry_object_init ?_ ?_
  · refine codeAny_of_tree ?_
    show wpAny _ A.in1.in1 (do checkBuiltinCall "bool.__new__" ⟨[.type "bool", .ref x], []⟩; again (.builtin "bool.__new__" ⟨[.type "bool", .ref x], []⟩)) _ _ s
    refine wpAny_bind (wpAny_of_eq (PySem.F.newCall_bool_1 _) (wpAny_pure ⟨plainId_quiet (by decide +kernel) _, codeAny_builtin PySem.F.entry_bool_new ?_⟩))
    rw [Around.under_plainId (by decide +kernel) _]
    have f1 := PySem.F.conv_sub_bool
    unfold Builtin.«bool.__new__»
    refine wpAny_bind (wpAny_of_eq (a := true) (by rfl) ?_)
    refine PySem.W.KFB.if_not rfl ?_
    refine wpAny_bind (wpAny_of_eq (a := true) f1 ?_)
    refine PySem.W.KFB.if_not rfl ?_
    refine wpAny_bind (wpAny_of_eq (a := [.ref x]) (by rfl) ?_)
    refine wpAny_bind (PySem.W.truthy_K F X₀ I hs hf (wpAny_mono h (fun r s₁ hr => ?_) fun _ _ y => y))
    obtain ⟨b, rfl, hq⟩ := hr
    exact wpAny_pure ⟨b, rfl, hq⟩
  · rintro obj s₁ ⟨b, rfl, hq⟩
    exact ⟨PySem.typeIs_bool _ _, PySem.F.args_object_init_2 _ _, object_init_meets PySem.F.called_bool.init.lookup PySem.F.called_bool.made (by decide) prog w A.in1 _ s₁ ⟨PySem.typeIs_bool _ _, rfl, hq⟩⟩
end
/-- the own __bool__ of the class at C answers b -/
def spB (b : Bool) : Sp := fun vs H Q _ => ∃ a : Addr, vs = [.ref a] ∧ Q (.bl b) H
structure BoolC (P : Program) (w : World) (K : PySem.W.Frag) (mg : Str → Option Value) (base : Heap) (n : Nat) (C : Addr) (b : Bool) : Prop where
  ex : ∃ f : Addr, PySem.W.findIn K (.ref C) "__bool__" = some (some (.ref f)) ∧ PySem.W.isFn K (.ref f) = true ∧ FnG P w K mg base CX0 n f (spB b)
def rBoolO (P : Program) (w : World) (K : PySem.W.Frag) (mg : Str → Option Value) (base : Heap) (n : Nat) : List V → Hp → VK → Prop := fun xs H Q => ∃ a C dx fs b, xs = [V.ref a] ∧ H a = some (.ins C dx fs) ∧ BoolC P w K mg base n C b ∧ Q (.bl b) H
theorem call_boolO {X : Cx} {n : Nat} (hr : Room (n + 2) X.A) (hg : X.A.guards = some []) : CallR X (.type "bool") (rBoolO X.prog X.w X.K X.mg X.base n) := by
  intro pins s σ H xs us Q I r h
  obtain ⟨a, C, dx, fs, b, rfl, ha, B, q⟩ := h
  obtain ⟨u, rfl, ru⟩ := vals1 r
  obtain rfl : u = Value.ref a := ru
  obtain ⟨f, hs, hf, F⟩ := B.ex
  obtain ⟨mA, OM, _, _, _, _⟩ := ins_get I.hok ha
  obtain ⟨od, J, _⟩ := OM.look
  obtain ⟨m, hF⟩ := I.fr
  refine bool_own hF I.ok.mod.kin J hs hf (wpAny_call (codeAny_mono (F X.A.in1.in1 X.stack s H [.ref a] [.ref a] (fun v H' => v = .bl b ∧ Q (.bl b) H') (fun _ _ _ => False) ((show Room (n + 1) X.A.in1 from Room.in1 hr).in1) hg I.env0.in1.in1 (.cons rfl .nil) ⟨a, rfl, rfl, q⟩) fun r' s' hq => ?_))
  cases r' with
  | error er => exact hq.elim
  | ok fl =>
    cases fl with
    | next => exact False.elim hq
    | brk => exact False.elim hq
    | cont => exact False.elim hq
    | ret u =>
      obtain ⟨v, H', I', rv, rfl, q'⟩ := I.after hq
      obtain rfl : u = Value.bool b := rv
      exact ⟨b, rfl, .bl b, H', I', rfl, q'⟩

/-! ### == by an own def -/
section
open PySem.W
variable {prog : Program} {w : World} {A : Around} {E : Value → Shared → Prop} {s : Shared} {K : PySem.W.Frag} {x y C C' L f : Addr} {h₀ : Heap} {m : Str → Option Value} {ox oy : Obj} {od od' : Option Obj}
/-- the right operand's class is below the left one's: it is asked first -/
theorem cmp_KR {op : CmpOp} {Q : Value → Shared → Prop} (hu : A.units < cLine) (F : Fr h₀ L s.heap m) (X₀ : K.In h₀) (I : InstAt s.heap x ox C od) (J : InstAt s.heap y oy C' od') (hne : C' ≠ C) (hsub : subIn K (.ref C') (.ref C) = some true)
    (hs : findIn K (.ref C') (cmpInfo op).2.2 = some (some (.ref f))) (hf : isFn K (.ref f) = true)
    (h : wpAny (model prog w) A (call (.ref f) [.ref y, .ref x]) (PySem.W.CmpBack Q) E s) : wpAny (model prog w) A (richCompare op (.ref x) (.ref y)) Q E s := by
  have X := X₀.keeps F.keep
  have one : wpAny (model prog w) A (tryCompare (.ref y) (cmpInfo op).2.2 (.ref x)) (fun r s' => ∃ v, r = some v ∧ Q v s') E s := by
    unfold tryCompare
    refine wpAny_bind (ifBound_K X J hs hf (wpAny_mono h (fun v s' hv => ?_) fun _ _ e => e))
    cases v <;> first | exact hv.elim | exact wpAny_pure ⟨_, rfl, hv⟩
  unfold richCompare
  simp only [oneThing_ref]
  refine wpAny_holding (wpAny_bind (wpAny_cRoomFor hu ?_))
  refine wpAny_bind (I.type.here (wpAny_bind (J.type.here ?_)))
  split
  · refine wpAny_bind ((looks_subIn X hsub).here ?_)
    simp only [if_true]
    refine wpAny_bind (wpAny_mono one (fun r s' z => ?_) fun _ _ e => e)
    obtain ⟨v, rfl, hq⟩ := z
    exact wpAny_bind (wpAny_rule (wpAny_pure hq))
  · rename_i q
    exact absurd (by simp [hne.symm]) q
end

/-- a value's type at the heap: an instance, a tuple -/
inductive TyL (H : Hp) : V → Value → Prop
  | ins {a C dx : Addr} {fs : List (Str × V)} (h : H a = some (.ins C dx fs)) : TyL H (.ref a) (.ref C)
  | tup {a : Addr} {xs : List V} (h : H a = some (.tup xs)) : TyL H (.ref a) (.type "tuple")
theorem TyL.looks {X : Cx} {pins : List (Addr × Obj)} {σ : L2.St} {H : Hp} {s : Shared} {x : V} {u t : Value} (I : Inv X pins σ H s) (r : RelV x u) (h : TyL H x t) : PySem.W.Looks (model X.prog X.w) s.heap (typeOf u) t := by
  cases h with
  | @ins a C dx fs ea =>
    cases (show u = Value.ref a from r)
    obtain ⟨mA, OM, _, _, _, _⟩ := ins_get I.hok ea
    obtain ⟨od, J, _⟩ := OM.look
    exact J.type
  | @tup a xs ea =>
    cases (show u = Value.ref a from r)
    obtain ⟨_, its, rv, o, ho, hc, n, hd⟩ := (show ObjOk X.prog X.w H s.heap a (.tup xs) from I.hok a _ ea)
    rw [← hc]
    exact (PySem.W.Looks.ld ho).andThen .now
/-- x == y, x an instance whose class has the own __eq__ at f -/
def rOwnEq (K : PySem.W.Frag) (f : Addr) (sp : Sp) : R2 := fun x y H Q => ∃ a C dx fs t, x = .ref a ∧ H a = some (.ins C dx fs) ∧ TyL H y t ∧ PySem.W.findIn K (.ref C) "__eq__" = some (some (.ref f)) ∧
  ((PySem.W.notFirst K C t = true ∧ Iv (sp [x, y] H Q fun _ _ _ => False)) ∨
   (∃ C', t = .ref C' ∧ C' ≠ C ∧ PySem.W.subIn K (.ref C') (.ref C) = some true ∧ PySem.W.findIn K (.ref C') "__eq__" = some (some (.ref f)) ∧ Iv (sp [y, x] H Q fun _ _ _ => False)))
theorem op_ownEq {X : Cx} {n : Nat} {f : Addr} {sp : Sp} (hf : PySem.W.isFn X.K (.ref f) = true) (F : FnG X.prog X.w X.K X.mg X.base CX0 n f sp) (hr : Room n X.A) (hg : X.A.guards = some []) : OpR X (compareOp .Eq) (rOwnEq X.K f sp) := by
  intro pins s σ H x y v u Q I rx ry h
  obtain ⟨a, C, dx, fs, t, rfl, ha, ty, hs, h⟩ := h
  cases (show v = Value.ref a from rx)
  obtain ⟨mA, OM, _, _, _, _⟩ := ins_get I.hok ha
  obtain ⟨od, J, _⟩ := OM.look
  obtain ⟨m, hF⟩ := I.fr
  show wpAny (model X.prog X.w) X.A (richCompare .Eq (.ref a) u) _ _ _
  have run : ∀ {us : List Value} {vs : List V}, Vals vs us → sp vs H Q (fun _ _ _ => False) → wpAny (model X.prog X.w) X.A (call (.ref f) us) (PySem.W.CmpBack (EP X pins σ Q)) X.xe s := by
    intro us vs rv hq
    refine wpAny_call (codeAny_mono (F X.A X.stack s H us vs Q (fun _ _ _ => False) hr hg I.env0 rv hq) fun r' s' hq => ?_)
    cases r' with
    | error er => exact hq.elim
    | ok fl =>
      cases fl with
      | next => exact False.elim hq
      | brk => exact False.elim hq
      | cont => exact False.elim hq
      | ret u =>
        obtain ⟨z', H', I', rz, qz⟩ := I.after hq
        exact SlX.cmpback rz ⟨z', H', I', rz, qz⟩
  rcases h with ⟨hn, hq⟩ | ⟨C', rfl, hne, hsub, hs', hq⟩
  · exact PySem.W.cmp_K (op := .Eq) (tb := t) hr.units0 hF I.ok.mod.kin J (ty.looks I ry) hn hs hf (run (vs := [.ref a, y]) (.cons rfl (.cons ry .nil)) hq.out)
  · cases ty with
    | @ins b _ dy gs eb =>
      cases (show u = Value.ref b from ry)
      obtain ⟨mB, OB, _, _, _, _⟩ := ins_get I.hok eb
      obtain ⟨od', J', _⟩ := OB.look
      exact cmp_KR (op := .Eq) hr.units0 hF I.ok.mod.kin J J' hne hsub hs' hf (run (vs := [.ref b, .ref a]) (.cons rfl (.cons rfl .nil)) hq.out)

/-! ### o.f as a target -/
def gFld (K : PySem.W.Frag) (to : TE) (f : Str) : TG := fun v σ H Q => to σ H fun x H1 => ∃ a C dx fs, x = .ref a ∧ H1 a = some (.ins C dx fs) ∧ Cls K C ∧ NoAttr K C f ∧ fs.length < 1000 ∧ Q σ (upd H1 a (.ins C dx (putF f v fs)))
theorem pg_fld {X : Cx} {o : Expr} {f : Str} {pos : Pos} {to : TE} (ho : PE X o to) : PG X (.Attribute o f pos) (gFld X.K to f) := by
  refine ⟨fun pins s σ H v u Q I r h => ?_⟩
  rw [assign_Attribute]
  refine wpAny_bind (wpAny_holding (thn (ho.run pins s σ H _ I h) fun ov s1 ⟨x, H1, I1, rx, a, C, dx, fs, ex, ea, c, n, l, q⟩ => ?_))
  subst ex
  obtain rfl : ov = Value.ref a := rx
  exact wpAny_bind (wpAny_standAt (wpAny_bind (wpAny_holding (setattr_ok I1 ea c n l r fun s3 I3 => wpAny_release ⟨σ, _, I3, q⟩))))

/-! ### C(..) -/
section
variable {X : Cx} {C f : Addr} {k : Nat} {sp : Sp} {x : Str} {p pos : Pos} {e : Expr} {es : List Expr} {kws : List Keyword} {t tk : TA}
theorem under_type {A : Around} {a : Args} (h : A.guards = some []) : (A.under (.builtin "type.__call__" a)).guards = some [] := by
  show pushGuards (Code.guards (.builtin "type.__call__" a)) A.guards = some []
  rw [h]
  rfl
theorem run_makeG {pins : List (Addr × Obj)} {σ : L2.St} {H : Hp} {s : Shared} {Q : VK} {us : List Value} {kw : List (Str × Value)} {vs : List V} (M : Mk X.K C f) (hr : Room (k + 1) X.A) (hg : X.A.guards = some []) (I : Inv X pins σ H s)
    (run : ∀ (A : Around) (s2 : Shared) (H2 : Hp) (x : Addr) (Q2 : VK), Room k A → A.guards = some [] → Env0 X.prog X.w X.K X.mg X.base A X.stack s2 H2 → sp (.ref x :: vs) H2 Q2 (fun _ _ _ => False) →
      codeAny (model X.prog X.w) A (.call (.ref f) ⟨.ref x :: us, kw⟩) (CR CX0 X.stack X.prog X.w H2 s2 Q2 (fun _ _ _ => False)) s2)
    (h : ∀ x dx, H x = none → H dx = none → dx ≠ x → sp (.ref x :: vs) (upd (upd H dx (.own x)) x (.ins C dx [])) (fun v H2 => v = .non ∧ Q (.ref x) H2) (fun _ _ _ => False)) :
    wpAny (model X.prog X.w) X.A (call (.ref C) us kw) (EP X pins σ Q) X.xe s := by
  have hq := h (s.heap.objs.size + 1) s.heap.objs.size (I.hok.fresh (Nat.le_succ _)) (I.hok.fresh (Nat.le_refl _)) (Nat.ne_of_lt (Nat.lt_succ_self _))
  have I2 := Inv.made (C := C) I
  refine wpAny_call (make_map (f := f) I.kIn M.makes M.init (beq_iff_eq.mp M.fn) (codeAny_mono (run _ _ _ _ _ (hr.make C us kw) (under_type hg) (I2.env0.make C us kw) hq) fun r s' hq' => ?_))
  cases r with
  | error e => exact hq'.elim
  | ok fl =>
    cases fl with
    | ret u =>
      obtain ⟨v, H', I3, rv, ev, q3⟩ := I2.after hq'
      subst ev
      exact ⟨rv, ⟨V.ref (s.heap.objs.size + 1), H', I3, rfl, q3⟩⟩
    | next => exact False.elim hq'
    | brk => exact False.elim hq'
    | cont => exact False.elim hq'
def tMakeG (C : Addr) (sp : Sp) (t : TA) : TE := fun σ H Q => t σ H fun vs H1 => ∀ x dx, H1 x = none → H1 dx = none → dx ≠ x →
  Iv (sp (.ref x :: vs) (upd (upd H1 dx (.own x)) x (.ins C dx [])) (fun v H2 => v = .non ∧ Q (.ref x) H2) (fun _ _ _ => False))
theorem pe_makeG (M : Mk X.K C f) (F : FnG X.prog X.w X.K X.mg X.base CX0 k f sp) (hr : Room (k + 1) X.A) (hgd : X.A.guards = some []) (hg : Gl X x) (hm : X.mg x = some (.ref C)) (ha : PA X (e :: es) t)
    (hdb : (x == ("__debug__" : Str)) = false := by decide) (he : starEach (e :: es) X.env = (false, eval e X.env) :: starEach es X.env := by rfl) (hpl : (backTo pos (starEach es X.env)).any (·.1) = false := by rfl) :
    PE X (.Call (.Name x p) (e :: es) [] pos) (tMakeG C sp t) := by
  refine ⟨fun pins s σ H Q I h => ?_⟩
  refine wpAny_Call_Name_kw (ld_glob I hg hm ?_ hdb)
  refine PySem.W.callWith_K (h₀ := X.base) I.ok.mod.kin M.kp (thn (ha.run pos pins s σ H _ I h) fun us s1 ⟨vs, H1, I1, r, q⟩ => ⟨I1.kIn, ?_⟩) he hpl
  exact run_makeG M hr hgd I1 (fun A s2 H2 x Q2 h1 h2 h3 h4 => F A X.stack s2 H2 (.ref x :: us) (.ref x :: vs) Q2 _ h1 h2 h3 (.cons rfl r) h4) fun x dx h1 h2 h3 => (q x dx h1 h2 h3).out
/-- the keywords' values in the parameters' order -/
def tMakeGK (C : Addr) (sp : Sp) (js : List Nat) (t : TA) : TE := fun σ H Q => t σ H fun zs H1 => zs.length = js.length ∧ ∀ x dx, H1 x = none → H1 dx = none → dx ≠ x →
  Iv (sp (.ref x :: js.map fun j => zs.getD j .non) (upd (upd H1 dx (.own x)) x (.ins C dx [])) (fun v H2 => v = .non ∧ Q (.ref x) H2) (fun _ _ _ => False))
theorem vals_perm {zs : List V} {ws : List Value} (r : Vals zs ws) : ∀ js : List Nat, (∀ j ∈ js, j < zs.length) → Vals (js.map fun j => zs.getD j .non) (js.map fun j => ws.getD j .none)
  | [], _ => .nil
  | j :: js, h => by
    refine .cons ?_ (vals_perm r js fun i hi => h i (List.mem_cons_of_mem _ hi))
    have hj := h j List.mem_cons_self
    obtain ⟨u, hu, ru⟩ := r.get (List.getElem?_eq_getElem hj)
    show RelV (zs.getD j .non) (ws.getD j .none)
    rw [List.getD_eq_getElem?_getD, List.getD_eq_getElem?_getD, hu, List.getElem?_eq_getElem hj]
    exact ru
theorem pe_makeGK {fd : FuncData} {ps ks : List Str} {js : List Nat} (M : Mk X.K C f) (F : FnA X.prog X.w X.K X.mg X.base CX0 k f fd ps sp) (hjs : ∀ j ∈ js, j < js.length)
    (hb : ∀ (s : Shared) (u : Value) (ws : List Value), ws.length = js.length → BindsTo s fd ⟨[u], ks.zip ws⟩ (ps.zip (u :: js.map fun j => ws.getD j .none)))
    (hr : Room (k + 1) X.A) (hgd : X.A.guards = some []) (hg : Gl X x) (hm : X.mg x = some (.ref C)) (hkw : PK X kws tk)
    (hall : (backToKw pos (keywordEach kws X.env)).all (·.1.isSome) = true := by rfl) (hks : (backToKw pos (keywordEach kws X.env)).filterMap (·.1) = ks := by rfl)
    (hdb : (x == ("__debug__" : Str)) = false := by decide) (hpl : ((backTo pos (starEach [] X.env)).any (·.1) || (backToKw pos (keywordEach kws X.env)).any (·.1.isNone)) = false := by rfl) :
    PE X (.Call (.Name x p) [] kws pos) (tMakeGK C sp js tk) := by
  refine ⟨fun pins s σ H Q I h => ?_⟩
  refine wpAny_Call_Name_kw (ld_glob I hg hm ?_ hdb)
  refine PySem.W.callWith_KW0 (h₀ := X.base) I.ok.mod.kin M.kp hall (thn (hkw.run pos pins s σ H _ I h) fun ws s2 ⟨zs, H2, I2, rz, hl, q⟩ => ⟨I2.kIn, ?_⟩) hpl
  rw [hks]
  have hwl : ws.length = js.length := by rw [← rz.length]; exact hl
  exact run_makeG (us := []) (vs := js.map fun j => zs.getD j .non) M hr hgd I2 (fun A s3 H3 x Q2 h1 h2 h3 h4 => F.run A X.stack s3 H3 ⟨[.ref x], ks.zip ws⟩ (.ref x :: js.map fun j => ws.getD j .none) (.ref x :: js.map fun j => zs.getD j .non) Q2 _ h1 h2 h3 (hb s3 _ ws hwl) (.cons rfl (vals_perm rz js fun j hj => by rw [hl]; exact hjs j hj)) h4) fun x dx h1 h2 h3 => (q x dx h1 h2 h3).out
end
/-! ### def f(a, .., *v) -/
section
variable {P : Program} {w : World} {K : PySem.W.Frag} {mg : Str → Option Value} {base : Heap} {CX : CXT} {k : Nat} {f : Addr} {sp : Sp}
theorem Fun_starP {x qual pv : Str} {st : Stmt} {fd : FuncData} {N ps : List Str} {mx : Nat} (hmx : mx ≤ sizeLine) (F : Fun K x qual st f fd) (S : FnScope N (ps ++ [pv]) (defScope st)) (hCX : StX.CXUp CX)
    (hb : ∀ (kV doc pm : Value) (an : Option Addr) (cdv ct : Value) (us rest : List Value), us.length = ps.length → rest.length ≤ mx → bindArgs (PySem.W.fnOf x qual (defArgs st) (defBody st) (defScope st) .none kV doc pm an cdv ct) ⟨us ++ rest, []⟩ = (newTuple rest >>= fun t => pure (ps.zip us ++ [(pv, t)])))
    (hbody : ∀ (cdv : Value) (A : Around) (outer : List Env) (s : Shared) (H : Hp) (vs : List V) (Q : VK) (E : XK), Room k (A.deeper (envOfC qual (defScope st) s.heap.objs.size f cdv)) → A.guards = some [] → sp vs H Q E →
      ∃ t, PSs (cxOf CX P w K mg base N qual (defScope st) f cdv A outer s H E) (defBody st) t ∧ t { nx := fun _ H' => Q .non H', rt := Q } (start N vs) H) :
    FnG P w K mg base CX (k + 1) f (fun vs H Q E => ∃ ws rest, vs = ws ++ rest ∧ ws.length = ps.length ∧ rest.length ≤ mx ∧ ∀ p, H p = none → sp (ws ++ [V.ref p]) (upd H p (.tup rest)) Q E) := by
  obtain ⟨oc, od, kV, doc, pm, an, cdv, ct, osl, rfl, lk, hcd⟩ := F.ex
  intro A outer s H us vs Q E hr hg e0 r hsp
  obtain ⟨ws, rest, ev, hl, hz, hq⟩ := hsp
  subst ev
  obtain ⟨u1, u2, eu, r1, r2⟩ := StX.vals_split r
  subst eu
  have hn : H s.heap.objs.size = Option.none := e0.hok.fresh (Nat.le_refl _)
  have hl1 : u1.length = ps.length := by rw [← r1.length]; exact hl
  have hl3 : u2.length ≤ mx := by rw [← r2.length]; exact hz
  have hl2 : u2.length ≤ sizeLine := Nat.le_trans hl3 hmx
  refine StX.run_bnd lk hcd S hr e0 (G := fun xs H2 => ∃ p, H p = Option.none ∧ xs = ws ++ [V.ref p] ∧ H2 = upd H p (.tup rest)) (fun A' Ex Q' h => ?_) fun s2 H2 xs ⟨p, hp, ex, eH⟩ hr' => ?_
  · rw [hb kV doc pm an cdv ct u1 u2 hl1 hl3]
    refine wpAny_bind (wpAny_newTuple (wpAny_pure ?_) hl2)
    have new : ObjOk P w (upd H s.heap.objs.size (.tup rest)) (s.heap.push ({ cls := .type "tuple", data := .seq u2.toArray } : Obj)) s.heap.objs.size (.tup rest) := ⟨Nat.le_trans hz hmx, u2, r2, ⟨_, Heap.get?_push_size _ rfl, rfl, _, rfl⟩⟩
    have un := StX.un_laid (fs := frs outer) (s := s) (o := ({ cls := .type "tuple", data := .seq u2.toArray } : Obj)) (u := .tup rest) hn
    have z := h _ _ (ws ++ [V.ref s.heap.objs.size]) (u1 ++ [Value.ref s.heap.objs.size]) (StX.env0_laid e0 new) un rfl (fun e s' => hCX outer s H _ _ E e s' un (fun b o q => Heap.get?_push_of_some _ q) rfl) (r1.append (.cons rfl .nil))
      (by rw [List.length_append, List.length_append, hl] <;> rfl) ⟨_, hn, rfl, rfl⟩
    rw [List.zip_append hl1.symm] at z
    exact z
  · subst ex eH
    exact hbody cdv A outer s2 _ _ Q E hr' hg (hq p hp)
end
end MyP

/-! A law's head by one run, with own classes whose defs say super(). -/
namespace MyG
open PySem PySem.Spec PyProof.Rows L2 MyL He MyH MyP
/-- the objects that a value, an object names -/
def refsP (o : Obj) : List Addr := refsO o ++ match o.data with
  | .func fd => fd.closure.map (·.2)
  | .cell (some v) => refV v
  | _ => []
def growP (g : Addr → Option Obj) (as : List Addr) : List Addr := (as ++ as.flatMap fun a => match g a with
  | some o => refsP o
  | none => []).eraseDups
def asP (g : Addr → Option Obj) : Nat → List Addr
  | 0 => [mainGlobals, sysModules, cStatics]
  | n + 1 => growP g (asP g n)
abbrev FnVC : Type := Option (Str × Str × Arguments × FuncBody × Scope × Addr × List Str × Value × Addr)
def fnObsC (K : PySem.W.Frag) (p : Str × Option Str) : FnVC := match K.lookup (fAd K p) with
  | some ⟨_, _, .func fd, _⟩ => some (fd.name, fd.qualname, fd.params, fd.body, fd.scope, fd.globals, fd.closure.map (·.1), fd.defaults, fd.builtins)
  | _ => none
def FnD.valC (d : FnD) : FnVC := some (d.name, d.qual, d.params, .stmts d.body, d.scope, mainGlobals, ["__class__"], .none, builtinsNs)
/-- what a def with a class's cell leans on: D its class -/
def fncB (K : PySem.W.Frag) (p : Str × Option Str) (q : Str) (D : Addr) : Bool := (match K.lookup (fAd K p) with
  | some ⟨_, _, .func fd, _⟩ => PySem.W.codeIn K fd.code q && ((match fd.code with
      | .ref c => (match K.lookup c with
        | some ⟨_, _, .fields vs, _⟩ => (match (vs[2]? : Option Value) with
          | some (.str z _) => decide (z = Str.ofString "/claim/cut.py")
          | _ => false)
        | _ => false)
      | _ => false) && (match fd.closure with
      | [(_, cc)] => (match K.lookup cc with
        | some ⟨_, _, .cell (some (.ref D')), _⟩ => decide (D' = D)
        | _ => false)
      | _ => false))
  | _ => false) && (PySem.W.clsIn K D).isSome
theorem fnc_ok {K : PySem.W.Frag} {p : Str × Option Str} {x q : Str} {st : Stmt} {D : Addr} (e : fnObsC K p = FnD.valC ⟨p, x, q, defArgs st, defBody st, defScope st⟩) (c : fncB K p q D = true) : ∃ fd, FunC K x q st (fAd K p) fd D := by
  unfold fncB at c
  obtain ⟨c0, hcl⟩ := ba c
  clear c
  obtain ⟨cdD, hcd⟩ := Option.isSome_iff_exists.mp hcl
  unfold fnObsC at e
  cases h : K.lookup (fAd K p) with
  | none => rw [h] at c0; cases c0
  | some o =>
    obtain ⟨oc, od, dt, osl⟩ := o
    rw [h] at c0 e
    cases dt with
    | func fd =>
      obtain ⟨c1, c4⟩ := ba c0
      obtain ⟨c2, c3⟩ := ba c4
      clear c0 c4
      obtain ⟨n1, n2, n3, n4, n5, n6, n7, n8, n9, n10, n11, n12, n13, n14, n15⟩ := fd
      have e2 : (some (n1, n2, n3, n4, n5, n6, n7.map (·.1), n8, n15) : FnVC) = (some (x, q, defArgs st, .stmts (defBody st), defScope st, mainGlobals, ["__class__"], .none, builtinsNs) : FnVC) := e
      simp only [Option.some.injEq, Prod.mk.injEq] at e2
      obtain ⟨h1, h2, h3, h4, h5, h6, h7, h8, h9⟩ := e2
      subst h1 h2 h3 h4 h5 h6 h8 h9
      dsimp only at c1 c2 c3
      split at c2
      · rename_i cda
        split at c2
        · rename_i ccl cdd vs ccs lc
          split at c2
          · rename_i z tf hz
            have ez := of_decide_eq_true c2
            subst ez
            split at c3
            · rename_i nm cc
              split at c3
              · rename_i cl cld D' csl lcc
                have eD := of_decide_eq_true c3
                subst eD
                have en : nm = "__class__" := by simpa using h7
                subst en
                exact ⟨_, oc, _, _, _, od, _, cda, cc, _, osl, ccl, cdd, vs, ccs, tf, cl, cld, csl, cdD, rfl, h, c1, lc, hz, lcc, hcd⟩
              · cases c3
            · cases c3
          · cases c2
        · cases c2
      · cases c2
    | _ => cases c0
/-! ### the hook -/
abbrev AlP : Type := Bool × (List FnV × List FnVC)
/-- a def with a class's cell, by its class's name -/
structure FnC where
  d : FnD
  cls : Str
def obsP (chk : List Chk) (fn : List FnD) (fc : List FnC) (K : PySem.W.Frag) : AlP :=
  ((chk.all fun f => f K) && ((fn.all fun d => (Fa.code d.at_ d.qual).ok K && PySem.W.keepIn K (.ref (fAd K d.at_))) && fc.all fun d => fncB K d.d.at_ d.d.qual (ga K d.cls)), (fn.map fun d => fnObs K d.at_, fc.map fun d => fnObsC K d.d.at_))
def valP (fn : List FnD) (fc : List FnC) : AlP := (true, (fn.map FnD.val, fc.map fun d => FnD.valC d.d))
def SaysP (chk : List Chk) (fn : List FnD) (fc : List FnC) (K : PySem.W.Frag) : Prop := obsP chk fn fc K = valP fn fc
def obsPG (n : Nat) (chk : List Chk) (fn : List FnD) (fc : List FnC) (g : Addr → Option Obj) : AlP := obsP chk fn fc (frG g (asP g n))
def hookP (n : Nat) (chk : List Chk) (fn : List FnD) (fc : List FnC) : PySem.W.Hook where
  α := AlP
  obs := fun s => obsPG n chk fn fc s.heap.get?
  val := fun _ => valP fn fc
  says := fun _ h => ∃ K : PySem.W.Frag, K.In h ∧ SaysP chk fn fc K
  of := fun _ _ e => ⟨_, frG_in, e⟩
  keeps := fun _ _ _ ⟨K, hK, c⟩ k => ⟨K, PySem.W.Frag.In.keeps hK k, c⟩
theorem obsPG_eq {n : Nat} {chk : List Chk} {fn : List FnD} {fc : List FnC} {g : Addr → Option Obj} {s : Shared} (h : ∀ a, g a = s.heap.get? a) : obsPG n chk fn fc g = (hookP n chk fn fc).obs s := by
  have e : g = s.heap.get? := funext h
  rw [e] <;> rfl
section
variable {chk : List Chk} {fn : List FnD} {fc : List FnC} {K : PySem.W.Frag}
theorem SaysP.b (c : SaysP chk fn fc K) : ((chk.all fun f => f K) && ((fn.all fun d => (Fa.code d.at_ d.qual).ok K && PySem.W.keepIn K (.ref (fAd K d.at_))) && fc.all fun d => fncB K d.d.at_ d.d.qual (ga K d.cls))) = true := congrArg (fun z : AlP => z.1) c
theorem SaysP.fact (c : SaysP chk fn fc K) (i : Nat) {f : Chk} (h : chk[i]? = some f := by rfl) : f K = true := List.all_eq_true.mp (ba c.b).1 f (List.mem_of_getElem? h)
theorem SaysP.def_ (c : SaysP chk fn fc K) (i : Nat) {x q : Str} {st : Stmt} {p : Str × Option Str} (h : fn[i]? = some ⟨p, x, q, defArgs st, defBody st, defScope st⟩ := by rfl) : ∃ fd, Fun K x q st (fAd K p) fd := by
  have c2 := (ba (ba c.b).2).1
  have e : fn.map (fun d => fnObs K d.at_) = fn.map FnD.val := congrArg (fun z : AlP => z.2.1) c
  have e2 : (fn.map fun d => fnObs K d.at_)[i]? = (fn.map FnD.val)[i]? := by rw [e]
  rw [List.getElem?_map, List.getElem?_map, h] at e2
  obtain ⟨k1, k2⟩ := ba (List.all_eq_true.mp c2 _ (List.mem_of_getElem? h))
  obtain ⟨oc, od, osl, kV, doc, pm, an, cdv, ct, lk, hc⟩ := fn_ok (Option.some.inj e2) k1
  exact ⟨_, fun_mk (st := st) lk hc k2⟩
theorem SaysP.cdef (c : SaysP chk fn fc K) (i : Nat) {x q C : Str} {st : Stmt} {p : Str × Option Str} (h : fc[i]? = some ⟨⟨p, x, q, defArgs st, defBody st, defScope st⟩, C⟩ := by rfl) : ∃ fd, FunC K x q st (fAd K p) fd (ga K C) := by
  have c2 := (ba (ba c.b).2).2
  have e : fc.map (fun d => fnObsC K d.d.at_) = fc.map (fun d => FnD.valC d.d) := congrArg (fun z : AlP => z.2.2) c
  have e2 : (fc.map fun d => fnObsC K d.d.at_)[i]? = (fc.map fun d => FnD.valC d.d)[i]? := by rw [e]
  rw [List.getElem?_map, List.getElem?_map, h] at e2
  exact fnc_ok (Option.some.inj e2) (List.all_eq_true.mp c2 _ (List.mem_of_getElem? h))
end
/-! ### own classes -/
def ownB (K : PySem.W.Frag) (C : Addr) (nm : Str) : Bool := (PySem.W.plainGet K C Str.empty && (PySem.W.hasDictIn K C && (PySem.W.plainOver K C && eqO (PySem.W.findIn K (.ref C) "__setattr__") (some (some (.builtin "object.__setattr__")))))) &&
  ((match K.lookup C with
    | some ⟨.type "type", _, .cls _, sl⟩ => (match sl.toList with
      | [_, _, some (.str x _), _, _, _] => decide (x = nm)
      | _ => false)
    | _ => false) && ((match PySem.W.findCls K (.ref C) (.type "type") "__name__" with
    | some (.get g a o t) => decide (g = .builtin "getset_descriptor.__get__") && (decide (a = .builtin "type.__name__") && (decide (o = .ref C) && decide (t = .type "type")))
    | _ => false) && (eqO (PySem.W.findIn K (.ref C) "__class__") (some (some (.builtin "object.__class__"))) && (eqO (PySem.W.specialIn K (.builtin "object.__class__") "__get__") (some (some (.builtin "getset_descriptor.__get__"))) &&
  (decide (PySem.W.takesIn K (.builtin "object.__class__") = some true) && decide (PySem.W.mroIn K C (.type "object") = some true))))))
theorem ownB_ok {K : PySem.W.Frag} {C : Addr} {nm : Str} (h : ownB K C nm = true) : OwnC K C nm := by
  obtain ⟨h1, h⟩ := ba h
  obtain ⟨a1, h1⟩ := ba h1
  obtain ⟨a2, h1⟩ := ba h1
  obtain ⟨a3, a4⟩ := ba h1
  obtain ⟨h2, h⟩ := ba h
  obtain ⟨h3, h⟩ := ba h
  obtain ⟨h4, h⟩ := ba h
  obtain ⟨h5, h⟩ := ba h
  obtain ⟨h6, h7⟩ := ba h
  refine ⟨⟨a1, a2, a3, eqO_ok a4⟩, ⟨?_, ?_⟩, eqO_ok h4, eqO_ok h5, of_decide_eq_true h6, of_decide_eq_true h7⟩
  · split at h2
    · rename_i dd cd sl lk
      split at h2
      · rename_i k0 k1 x tk k3 k4 k5 hl
        have e := of_decide_eq_true h2
        subst e
        obtain ⟨l⟩ := sl
        have hl' : l = [k0, k1, some (.str x tk), k3, k4, k5] := hl
        subst hl'
        exact ⟨dd, cd, tk, k0, k1, k3, k4, k5, lk⟩
      · cases h2
    · cases h2
  · split at h3
    · rename_i g a o t e
      obtain ⟨b1, h3⟩ := ba h3
      obtain ⟨b2, h3⟩ := ba h3
      obtain ⟨b3, b4⟩ := ba h3
      rw [e, of_decide_eq_true b1, of_decide_eq_true b2, of_decide_eq_true b3, of_decide_eq_true b4]
    · cases h3
/-- C's __init__ is at f -/
def mkB (K : PySem.W.Frag) (C f : Addr) : Bool := PySem.W.makesIn K C && (eqO (PySem.W.findIn K (.ref C) "__init__") (some (some (.ref f))) && (PySem.W.isFn K (.ref f) && PySem.W.keepIn K (.ref C)))
theorem mkB_ok {K : PySem.W.Frag} {C f : Addr} (h : mkB K C f = true) : Mk K C f := by
  obtain ⟨h1, h⟩ := ba h
  obtain ⟨h2, h⟩ := ba h
  obtain ⟨h3, h4⟩ := ba h
  exact ⟨h1, eqO_ok h2, h3, h4⟩
def supB (K : PySem.W.Frag) (C D g : Addr) : Bool := decide (PySem.W.mroIn K C (.ref D) = some true) && (eqO (PySem.W.ks_superIn K C D "__init__") (some (some (.ref g))) && (decide (PySem.W.typeIn K (.ref g) = some (.type "function")) && PySem.W.fnIn K g))
theorem supB_ok {K : PySem.W.Frag} {C D g : Addr} (h : supB K C D g = true) : SupC K C D g := by
  obtain ⟨h1, h⟩ := ba h
  obtain ⟨h2, h⟩ := ba h
  obtain ⟨h3, h4⟩ := ba h
  exact ⟨of_decide_eq_true h1, eqO_ok h2, of_decide_eq_true h3, h4⟩
def fmB (K : PySem.W.Frag) (C : Addr) (m : Str) (f : Addr) : Bool := eqO (PySem.W.findIn K (.ref C) m) (some (some (.ref f))) && PySem.W.isFn K (.ref f)
theorem fmB_ok {K : PySem.W.Frag} {C f : Addr} {m : Str} (h : fmB K C m f = true) : PySem.W.findIn K (.ref C) m = some (some (.ref f)) ∧ PySem.W.isFn K (.ref f) = true := let ⟨a, b⟩ := ba h; ⟨eqO_ok a, b⟩
def noB (K : PySem.W.Frag) (C : Addr) (fs : List Str) : Bool := fs.all fun f => eqO (PySem.W.findIn K (.ref C) f) (some none)
theorem noB_ok {K : PySem.W.Frag} {C : Addr} {fs : List Str} (h : noB K C fs = true) (f : Str) (hf : f ∈ fs) : NoAttr K C f := eqO_ok (List.all_eq_true.mp h f hf)
/-- how x == y goes for instances of two classes -/
def PairOk (K : PySem.W.Frag) (C C' : Addr) : Prop := PySem.W.notFirst K C (.ref C') = true ∨ (C' ≠ C ∧ PySem.W.subIn K (.ref C') (.ref C) = some true)
def pairB (K : PySem.W.Frag) (C C' : Addr) : Bool := PySem.W.notFirst K C (.ref C') || (!decide (C' = C) && decide (PySem.W.subIn K (.ref C') (.ref C) = some true))
theorem pairB_ok {K : PySem.W.Frag} {C C' : Addr} (h : pairB K C C' = true) : PairOk K C C' := by
  rcases Bool.or_eq_true_iff.mp h with h | h
  · exact .inl h
  · obtain ⟨h1, h2⟩ := ba h
    refine .inr ⟨fun e => ?_, of_decide_eq_true h2⟩
    rw [decide_eq_true e] at h1
    cases h1
def pairsB (K : PySem.W.Frag) (cs : List Addr) : Bool := cs.all fun C => cs.all fun C' => pairB K C C'
theorem pairsB_ok {K : PySem.W.Frag} {cs : List Addr} (h : pairsB K cs = true) : ∀ C ∈ cs, ∀ C' ∈ cs, PairOk K C C' := fun C hC C' hC' => pairB_ok (List.all_eq_true.mp (List.all_eq_true.mp h C hC) C' hC')
def smB (K : PySem.W.Frag) : Bool := (K.lookup sysModules).isSome
theorem smB_ok {K : PySem.W.Frag} (h : smB K = true) : ∃ o, K.lookup sysModules = some o := Option.isSome_iff_exists.mp h
def opB (K : PySem.W.Frag) : Bool := eqO (PySem.W.nsIn K cStatics "thirdparty.any") (some none)
end MyG

/-! Nested data: what a value reads as (locked or not), its size, its fixed form. -/
namespace MyD
open PySem PySem.Spec PyProof.Rows L2 MyL
mutual
/-- the value reads as the data; a list, a dict may be locked -/
inductive DpR (H : Hp) : V → PyData → Prop
  | non : DpR H .non .none
  | bl (b : Bool) : DpR H (.bl b) (.bool b)
  | int (i : Int) : DpR H (.int i) (.int i)
  | str (z : Str) : DpR H (.str z) (.str z)
  | lst {a : Addr} {xs : List V} {ds : List PyData} : Rd H a (.lst xs) → DpRs H xs ds → DpR H (.ref a) (.list ds)
  | tup {a : Addr} {xs : List V} {ds : List PyData} : H a = some (.tup xs) → DpRs H xs ds → DpR H (.ref a) (.tuple ds)
  | dct {a : Addr} {kvs : List (Key × V)} {ds : List (PyData × PyData)} : Rd H a (.dK kvs) → DpRp H kvs ds → DpR H (.ref a) (.dict ds)
inductive DpRs (H : Hp) : List V → List PyData → Prop
  | nil : DpRs H [] []
  | cons {v : V} {vs : List V} {d : PyData} {ds : List PyData} : DpR H v d → DpRs H vs ds → DpRs H (v :: vs) (d :: ds)
inductive DpRp (H : Hp) : List (Key × V) → List (PyData × PyData) → Prop
  | nil : DpRp H [] []
  | cons {k : Key} {v : V} {vs : List (Key × V)} {d : PyData} {ds : List (PyData × PyData)} : DpR H v d → DpRp H vs ds → DpRp H ((k, v) :: vs) ((keyD k, d) :: ds)
end
/-- what may be read stays to be read -/
structure Kr (H H' : Hp) : Prop where
  l : ∀ a xs, Rd H a (.lst xs) → Rd H' a (.lst xs)
  t : ∀ a xs, H a = some (.tup xs) → H' a = some (.tup xs)
  d : ∀ a kvs, Rd H a (.dK kvs) → Rd H' a (.dK kvs)
theorem Kr.refl {H : Hp} : Kr H H := ⟨fun _ _ h => h, fun _ _ h => h, fun _ _ h => h⟩
theorem Kr.trans {H H1 H2 : Hp} (a : Kr H H1) (b : Kr H1 H2) : Kr H H2 := ⟨fun _ _ h => b.l _ _ (a.l _ _ h), fun _ _ h => b.t _ _ (a.t _ _ h), fun _ _ h => b.d _ _ (a.d _ _ h)⟩
theorem Kr.of {H H' : Hp} (S : Same H H') : Kr H H' := ⟨fun a xs h => h.elim (fun h => .inl (S _ _ h)) fun ⟨o, h⟩ => .inr ⟨o, S _ _ h⟩, fun a xs h => S _ _ h, fun a xs h => h.elim (fun h => .inl (S _ _ h)) fun ⟨o, h⟩ => .inr ⟨o, S _ _ h⟩⟩
theorem Kr.lock {H : Hp} {a : Addr} {kvs : List (Key × V)} (od : Obj) (h : H a = some (.dK kvs)) : Kr H (upd H a (.frz od (.dK kvs))) := by
  have ne : ∀ b u, H b = some u → u ≠ .dK kvs → b ≠ a := fun b u e n z => n (Option.some.inj (e.symm.trans (by rw [z]; exact h)))
  refine ⟨fun b xs e => ?_, fun b xs e => ?_, fun b ks e => ?_⟩
  · rcases e with e | ⟨o, e⟩
    · exact .inl (by rw [upd_ne (ne b _ e fun z => nomatch z)]; exact e)
    · exact .inr ⟨o, by rw [upd_ne (ne b _ e fun z => nomatch z)]; exact e⟩
  · rw [upd_ne (ne b _ e fun z => nomatch z)]; exact e
  · by_cases hb : b = a
    · subst hb
      rcases e with e | ⟨o, e⟩
      · rw [h] at e
        have e' := HO.dK.inj (Option.some.inj e)
        rw [← e']
        exact .inr ⟨od, upd_same⟩
      · rw [h] at e
        cases e
    · rcases e with e | ⟨o, e⟩
      · exact .inl (by rw [upd_ne hb]; exact e)
      · exact .inr ⟨o, by rw [upd_ne hb]; exact e⟩
theorem Kr.unlock {H : Hp} {a : Addr} {od : Obj} {kvs : List (Key × V)} (h : H a = some (.frz od (.dK kvs))) : Kr H (upd H a (.dK kvs)) := by
  have ne : ∀ b u, H b = some u → u ≠ .frz od (.dK kvs) → b ≠ a := fun b u e n z => n (Option.some.inj (e.symm.trans (by rw [z]; exact h)))
  refine ⟨fun b xs e => ?_, fun b xs e => ?_, fun b ks e => ?_⟩
  · rcases e with e | ⟨o, e⟩
    · exact .inl (by rw [upd_ne (ne b _ e fun z => nomatch z)]; exact e)
    · exact .inr ⟨o, by rw [upd_ne (ne b _ e fun z => nomatch z)]; exact e⟩
  · rw [upd_ne (ne b _ e fun z => nomatch z)]; exact e
  · by_cases hb : b = a
    · subst hb
      rcases e with e | ⟨o, e⟩
      · rw [h] at e
        cases e
      · rw [h] at e
        have e' := HO.dK.inj (HO.frz.inj (Option.some.inj e)).2
        rw [← e']
        exact .inl upd_same
    · rcases e with e | ⟨o, e⟩
      · exact .inl (by rw [upd_ne hb]; exact e)
      · exact .inr ⟨o, by rw [upd_ne hb]; exact e⟩
section
variable {H H' : Hp}
mutual
theorem DpR.kr (S : Kr H H') : ∀ {v : V} {d : PyData}, DpR H v d → DpR H' v d
  | _, _, .non => .non
  | _, _, .bl b => .bl b
  | _, _, .int i => .int i
  | _, _, .str z => .str z
  | _, _, .lst h q => .lst (S.l _ _ h) (DpRs.kr S q)
  | _, _, .tup h q => .tup (S.t _ _ h) (DpRs.kr S q)
  | _, _, .dct h q => .dct (S.d _ _ h) (DpRp.kr S q)
theorem DpRs.kr (S : Kr H H') : ∀ {v : List V} {d : List PyData}, DpRs H v d → DpRs H' v d
  | _, _, .nil => .nil
  | _, _, .cons h q => .cons (DpR.kr S h) (DpRs.kr S q)
theorem DpRp.kr (S : Kr H H') : ∀ {v : List (Key × V)} {d : List (PyData × PyData)}, DpRp H v d → DpRp H' v d
  | _, _, .nil => .nil
  | _, _, .cons h q => .cons (DpR.kr S h) (DpRp.kr S q)
end
theorem DpR.same (S : Same H H') {v : V} {d : PyData} (h : DpR H v d) : DpR H' v d := h.kr (.of S)
theorem DpRs.same (S : Same H H') {v : List V} {d : List PyData} (h : DpRs H v d) : DpRs H' v d := h.kr (.of S)
theorem DpRs.length : ∀ {v : List V} {d : List PyData}, DpRs H v d → v.length = d.length
  | _, _, .nil => rfl
  | _, _, .cons _ q => by rw [List.length_cons, List.length_cons, q.length]
theorem DpRp.length : ∀ {v : List (Key × V)} {d : List (PyData × PyData)}, DpRp H v d → v.length = d.length
  | _, _, .nil => rfl
  | _, _, .cons _ q => by rw [List.length_cons, List.length_cons, q.length]
theorem DpRs.snoc : ∀ {vs : List V} {ds : List PyData} {v : V} {d : PyData}, DpRs H vs ds → DpR H v d → DpRs H (vs ++ [v]) (ds ++ [d])
  | _, _, _, _, .nil, h => .cons h .nil
  | _, _, _, _, .cons a q, h => .cons a (DpRs.snoc q h)
theorem DpRs.app : ∀ {vs ws : List V} {ds es : List PyData}, DpRs H vs ds → DpRs H ws es → DpRs H (vs ++ ws) (ds ++ es)
  | _, _, _, _, .nil, h => h
  | _, _, _, _, .cons a q, h => .cons a (DpRs.app q h)
theorem DpRs.at_ : ∀ {vs : List V} {ds : List PyData} {i : Nat} {v : V}, DpRs H vs ds → vs[i]? = some v → ∃ d, ds[i]? = some d ∧ DpR H v d
  | _, _, 0, _, .cons a q, e => by cases e; exact ⟨_, rfl, a⟩
  | _, _, i + 1, _, .cons a q, e => DpRs.at_ (i := i) q (by simpa using e)
theorem DpRs.at2 : ∀ {vs : List V} {ds : List PyData} {i : Nat} {d : PyData}, DpRs H vs ds → ds[i]? = some d → ∃ v, vs[i]? = some v ∧ DpR H v d
  | _, _, 0, _, .cons a q, e => by cases e; exact ⟨_, rfl, a⟩
  | _, _, i + 1, _, .cons a q, e => DpRs.at2 (i := i) q (by simpa using e)
theorem DpRs.take : ∀ {vs : List V} {ds : List PyData} (n : Nat), DpRs H vs ds → DpRs H (vs.take n) (ds.take n)
  | _, _, 0, _ => .nil
  | _, _, _ + 1, .nil => .nil
  | _, _, n + 1, .cons a q => .cons a (DpRs.take n q)
theorem DpRs.drop : ∀ {vs : List V} {ds : List PyData} (n : Nat), DpRs H vs ds → DpRs H (vs.drop n) (ds.drop n)
  | _, _, 0, h => h
  | _, _, _ + 1, .nil => .nil
  | _, _, n + 1, .cons a q => DpRs.drop n q
theorem DpRp.snoc : ∀ {vs : List (Key × V)} {ds : List (PyData × PyData)} {k : Key} {v : V} {d : PyData}, DpRp H vs ds → DpR H v d → DpRp H (vs ++ [(k, v)]) (ds ++ [(keyD k, d)])
  | _, _, _, _, _, .nil, h => .cons h .nil
  | _, _, _, _, _, .cons a q, h => .cons a (DpRp.snoc q h)
theorem DpRp.keys : ∀ {vs : List (Key × V)} {ds : List (PyData × PyData)}, DpRp H vs ds → ds.map (·.1) = vs.map fun p => keyD p.1
  | _, _, .nil => rfl
  | _, _, .cons a q => by rw [List.map_cons, List.map_cons, q.keys]
theorem DpRp.at_ : ∀ {vs : List (Key × V)} {ds : List (PyData × PyData)} {i : Nat} {p : Key × V}, DpRp H vs ds → vs[i]? = some p → ∃ d, ds[i]? = some (keyD p.1, d) ∧ DpR H p.2 d
  | _, _, 0, _, .cons a q, e => by cases e; exact ⟨_, rfl, a⟩
  | _, _, i + 1, _, .cons a q, e => DpRp.at_ (i := i) q (by simpa using e)
end
section
variable {P : Program} {w : World} {H : Hp} {h : Heap}
mutual
theorem DpR.reads (hok : HOk P w H h) (hm : H sysModules = none) : ∀ {v : V} {d : PyData} {u : Value}, DpR H v d → RelV v u → ∃ as, Reads h u d as ∧ sysModules ∉ as
  | _, _, _, .non, r => by
    cases r
    exact ⟨_, Reads.none, List.not_mem_nil⟩
  | _, _, _, .bl b, r => by
    cases r
    exact ⟨_, Reads.bool b, List.not_mem_nil⟩
  | _, _, _, .int i, r => by
    obtain ⟨t, rfl⟩ := r
    exact ⟨_, Reads.int i t, List.not_mem_nil⟩
  | _, _, _, .str z, r => by
    obtain ⟨t, rfl⟩ := r
    exact ⟨_, Reads.str z t, List.not_mem_nil⟩
  | _, _, _, .lst (a := a) ha q, r => by
    cases r
    obtain ⟨_, its, m, rv, e⟩ := ha.ok hok
    obtain ⟨as, hr, hn⟩ := DpRs.reads hok hm q rv
    refine ⟨_, Reads.list e rfl rfl hr, fun z => (List.mem_cons.mp z).elim (fun y => ?_) hn⟩
    rcases ha with ha | ⟨o, ha⟩ <;> (rw [← y, hm] at ha; cases ha)
  | _, _, _, .tup (a := a) ha q, r => by
    cases r
    obtain ⟨_, its, rv, o, e, c, m, hd⟩ := hok a _ ha
    obtain ⟨as, hr, hn⟩ := DpRs.reads hok hm q rv
    exact ⟨_, Reads.tuple e c hd hr, hn⟩
  | _, _, _, .dct (a := a) ha q, r => by
    cases r
    obtain ⟨_, hne, vs, kv, o, es, ep, e, hx, hd, _, prs, _⟩ := ha.ok hok
    obtain ⟨as, bs, h1, h2, n1, n2⟩ := DpRp.reads hok hm q kv prs
    refine ⟨_, Reads.dict e hx.1 hd h1 h2, fun z => ?_⟩
    rcases List.mem_cons.mp z with y | y
    · rw [← y] at hne
      simp at hne
    · exact (List.mem_append.mp y).elim n1 n2
theorem DpRs.reads (hok : HOk P w H h) (hm : H sysModules = none) : ∀ {v : List V} {d : List PyData} {u : List Value}, DpRs H v d → Vals v u → ∃ as, ReadsAll h u d as ∧ sysModules ∉ as
  | _, _, _, .nil, r => by
    cases r
    exact ⟨_, ReadsAll.nil, List.not_mem_nil⟩
  | _, _, _, .cons p q, r => by
    cases r with
    | cons r1 r2 =>
      obtain ⟨as, h1, n1⟩ := DpR.reads hok hm p r1
      obtain ⟨bs, h2, n2⟩ := DpRs.reads hok hm q r2
      exact ⟨_, ReadsAll.cons h1 h2, fun z => (List.mem_append.mp z).elim n1 n2⟩
theorem DpRp.reads (hok : HOk P w H h) (hm : H sysModules = none) : ∀ {v : List (Key × V)} {d : List (PyData × PyData)} {us : List (Key × Value)} {es : List DictEntry}, DpRp H v d → KV v us → Pairs (mixKind P w) es us →
    ∃ as bs, ReadsAll h (es.map (·.key)) (d.map (·.1)) as ∧ ReadsAll h (es.map (·.val)) (d.map (·.2)) bs ∧ sysModules ∉ as ∧ sysModules ∉ bs
  | _, _, _, _, .nil, kv, prs => by
    cases kv
    cases prs
    exact ⟨[], [], ReadsAll.nil, ReadsAll.nil, List.not_mem_nil, List.not_mem_nil⟩
  | _, _, _, _, .cons p q, kv, prs => by
    cases kv with
    | cons r1 r2 =>
      cases prs with
      | cons k1 v1 prs =>
        obtain ⟨e1, e2⟩ := r1
        obtain ⟨as, h1, n1⟩ := DpR.reads hok hm p e2
        obtain ⟨cs, bs, h2, h3, n2, n3⟩ := DpRp.reads hok hm q r2 prs
        dsimp only at e1 h1
        rw [← e1] at k1
        rw [← v1] at h1
        exact ⟨_, _, ReadsAll.cons (key_reads k1) h2, ReadsAll.cons h1 h3, fun z => (List.mem_append.mp z).elim List.not_mem_nil n2, fun z => (List.mem_append.mp z).elim n1 n3⟩
end
end
/-- repr of a value that reads as data -/
def rReprR (K : PySem.W.Frag) : List V → Hp → VK → Prop := fun xs H Q => ∃ (v : V) (d : PyData), xs = [v] ∧ DpR H v d ∧ d.showable = true ∧ d.depth ≤ 60 ∧ d.shown.length ≤ sizeLine ∧ Q (.str d.shown) H
theorem sysMod {X : Cx} {pins : List (Addr × Obj)} {σ : L2.St} {H : Hp} {s : Shared} (sm : ∃ o, X.K.lookup sysModules = some o) (I : Inv X pins σ H s) : H sysModules = none := by
  obtain ⟨o, ho⟩ := sm
  exact (I.bs _ _ (I.ok.mod.kin _ _ ho)).2
theorem call_reprR {X : Cx} (sm : ∃ o, X.K.lookup sysModules = some o) (hg : X.A.guards = some []) (hu : X.A.units + 64 < cLine) : CallR X (.builtin "repr") (rReprR X.K) := by
  intro pins s σ H xs us Q I r h
  obtain ⟨v, d, rfl, hd, hs, hz, hl, q⟩ := h
  obtain ⟨u, rfl, ru⟩ := vals1 r
  obtain ⟨as, rd, hn⟩ := DpR.reads I.hok (sysMod sm I) hd ru
  cases rd with
  | none =>
    simp only [PyData.shown] at q
    exact PySem.P.repr_of_none ⟨.str _, H, I.tok _, ⟨_, rfl⟩, q⟩
  | bool b =>
    simp only [PyData.shown] at q
    exact PySem.P.repr_of_bool ⟨.str _, H, I.tok _, ⟨_, rfl⟩, q⟩
  | int i t =>
    simp only [PyData.shown] at q
    exact PySem.P.repr_of_int (by simpa [PyData.showable] using hs) ⟨.str _, H, I.tok _, ⟨_, rfl⟩, q⟩
  | str x t =>
    simp only [PyData.shown] at q hl
    exact PySem.P.repr_of_str ⟨.str _, H, I.tok _, ⟨_, rfl⟩, q⟩ hl
  | list h1 h2 h3 h4 => exact repr_of_reads' (Reads.list h1 h2 h3 h4) hs (fun _ => hn) hg (by omega) (fun b o e => e) (fun h' u tk hk => ⟨.str _, H, I.kept (t' := tk) hk, ⟨_, rfl⟩, q⟩) hl
  | tuple h1 h2 h3 h4 => exact repr_of_reads' (Reads.tuple h1 h2 h3 h4) hs (fun _ => hn) hg (by omega) (fun b o e => e) (fun h' u tk hk => ⟨.str _, H, I.kept (t' := tk) hk, ⟨_, rfl⟩, q⟩) hl
  | dict h1 h2 h3 h4 h5 => exact repr_of_reads' (Reads.dict h1 h2 h3 h4 h5) hs (fun _ => hn) hg (by omega) (fun b o e => e) (fun h' u tk hk => ⟨.str _, H, I.kept (t' := tk) hk, ⟨_, rfl⟩, q⟩) hl
/-- == of two values that read as data -/
def rEqR (K : PySem.W.Frag) : R2 := fun x y H Q => ∃ d e, DpR H x d ∧ DpR H y e ∧ SeqAt.shaped d = true ∧ SeqAt.shaped e = true ∧ Q (.bl (PyData.eqv d e)) H
theorem op_eqR {X : Cx} (sm : ∃ o, X.K.lookup sysModules = some o) (hu : X.A.units + 64 < cLine) : OpR X (compareOp .Eq) (rEqR X.K) := by
  intro pins s σ H x y v u Q I rx ry h
  obtain ⟨d, e, hd, he, sd, se, q⟩ := h
  obtain ⟨as, r1, _⟩ := DpR.reads I.hok (sysMod sm I) hd rx
  obtain ⟨bs, r2, _⟩ := DpR.reads I.hok (sysMod sm I) he ry
  exact SeqAt.compareEq_shaped r1 r2 sd se hu ⟨.bl _, H, I, rfl, q⟩
end MyD

/-! Data: leaves, bounded data, the fixed form. -/
namespace MyD
open PySem PySem.Spec PyProof.Rows L2 MyL
/-! ### leaves -/
inductive Flat : PyData → Prop
  | none : Flat .none
  | bool (b : Bool) : Flat (.bool b)
  | int (i : Int) : Flat (.int i)
  | str (x : Str) : Flat (.str x)
structure Leaf (d : PyData) : Prop where
  flat : Flat d
  lay : d.canLay0 = true
  show_ : d.showable = true
  len : d.shown.length ≤ 64
theorem Leaf.depth {d : PyData} (h : Leaf d) : d.depth = 0 := by
  cases h.flat <;> simp only [PyData.depth]
/-! ### keys -/
def keyLt : PyData → PyData → Prop
  | .int a, .int b => a < b
  | .str a, .str b => a.cps.toList < b.cps.toList
  | _, _ => False
theorem keyLt_asymm {a b : PyData} (h : keyLt a b) (k : keyLt b a) : False := by
  cases a <;> cases b <;> first | exact h.elim | skip
  · exact absurd (Int.lt_trans (show _ < _ from h) k) (Int.lt_irrefl _)
  · exact List.lt_asymm (show _ < _ from h) k
def SortedK (ps : List (PyData × PyData)) : Prop := ps.Pairwise fun p q => keyLt p.1 q.1
theorem SortedK.uniq {ps qs : List (PyData × PyData)} (h : ps.Perm qs) (a : SortedK ps) (b : SortedK qs) : ps = qs :=
  h.eq_of_pairwise (fun x y _ _ h1 h2 => (keyLt_asymm h1 h2).elim) a b
/-! ### bounded data -/
inductive Okd : Nat → PyData → Prop
  | leaf {n : Nat} {d : PyData} : Leaf d → Okd n d
  | list {n : Nat} {ds : List PyData} : ds.length ≤ 3 → (∀ x ∈ ds, Okd n x) → Okd (n + 1) (.list ds)
  | tup {n : Nat} {ds : List PyData} : ds.length ≤ 3 → (∀ x ∈ ds, Okd n x) → Okd (n + 1) (.tuple ds)
  | dict {n : Nat} {ps : List (PyData × PyData)} : ps.length ≤ 3 → (ps.map (·.1)).Nodup → ((∃ ks : List Int, ps.map (·.1) = ks.map PyData.int) ∨ ∃ ks : List Str, ps.map (·.1) = ks.map PyData.str) → (∀ p ∈ ps, Leaf p.1) → (∀ p ∈ ps, Okd n p.2) → Okd (n + 1) (.dict ps)
def Ln (n : Nat) : Nat := 400 * 4 ^ n
theorem Ln_succ (n : Nat) : Ln (n + 1) = 4 * Ln n := by unfold Ln; rw [Nat.pow_succ]; omega
theorem Ln_ge (n : Nat) : 400 ≤ Ln n := by
  unfold Ln
  have : 1 ≤ 4 ^ n := Nat.one_le_pow _ _ (by decide)
  omega
theorem listText_len : ∀ (ts : List Str) (k : Nat) (acc : Str), (textFrom k acc ts).length ≤ acc.length + piled ts
  | [], _, _ => Nat.le_add_right _ _
  | t :: ts, k, acc => by
    have h := listText_len ts (k + 1) (acc ++ (if k > 0 then ", " else "" : String) ++ t)
    show (textFrom (k + 1) _ ts).length ≤ _
    rw [strLen_append, strLen_append] at h
    rw [piled_cons]
    have e : ((if k > 0 then ", " else "" : String) : Str).length ≤ 2 := by split <;> decide
    omega
theorem listText_le {ts : List Str} : (listText ts).length ≤ piled ts + 2 := by
  unfold listText
  rw [strLen_append]
  have h := listText_len ts 0 "["
  have e1 : (("[" : String) : Str).length = 1 := rfl
  have e2 : (("]" : String) : Str).length = 1 := rfl
  omega
theorem join_le {ts : List Str} : (Str.join ", " ts).length ≤ piled ts := by
  by_cases h : ts = []
  · subst h; exact Nat.le_refl 0
  · have := join_length_add ts h
    omega
theorem tupleText_le {ts : List Str} : (tupleText ts).length ≤ piled ts + 3 := by
  unfold tupleText
  rw [strLen_append, strLen_append]
  have h := join_le (ts := ts)
  have e1 : (("(" : String) : Str).length = 1 := rfl
  have e2 : ((if ts.length == 1 then ",)" else ")" : String) : Str).length ≤ 2 := by split <;> decide
  omega
theorem dictText_le {ts : List Str} : (dictText ts).length ≤ piled ts + 2 := by
  unfold dictText
  rw [strLen_append, strLen_append]
  have h := join_le (ts := ts)
  have e1 : (("{" : String) : Str).length = 1 := rfl
  have e2 : (("}" : String) : Str).length = 1 := rfl
  omega
theorem piled_le {ts : List Str} {m : Nat} (h : ∀ t ∈ ts, t.length ≤ m) : piled ts ≤ ts.length * (m + 2) := by
  induction ts with
  | nil => exact Nat.zero_le _
  | cons t ts ih =>
    rw [piled_cons, List.length_cons, Nat.succ_mul]
    have h1 := h t List.mem_cons_self
    have h2 := ih fun x hx => h x (List.mem_cons_of_mem _ hx)
    omega
theorem shownAll_map : ∀ ds : List PyData, PyData.shownAll ds = ds.map PyData.shown
  | [] => by simp only [PyData.shownAll, List.map_nil]
  | d :: ds => by simp only [PyData.shownAll, List.map_cons, shownAll_map ds]
theorem shownKv_map : ∀ ps : List (PyData × PyData), PyData.shownKv ps = ps.map fun p => (p.1.shown ++ (": " : String) ++ p.2.shown : Str)
  | [] => by simp only [PyData.shownKv, List.map_nil]
  | (a, b) :: ps => by simp only [PyData.shownKv, List.map_cons, shownKv_map ps]
theorem showableAll_of : ∀ {ds : List PyData}, (∀ d ∈ ds, d.showable = true) → PyData.showableAll ds = true
  | [], _ => by simp only [PyData.showableAll]
  | d :: ds, h => by simp only [PyData.showableAll, h d List.mem_cons_self, showableAll_of fun x hx => h x (List.mem_cons_of_mem _ hx), Bool.and_self]
theorem showableKv_of : ∀ {ps : List (PyData × PyData)}, (∀ p ∈ ps, p.1.showable = true ∧ p.2.showable = true) → PyData.showableKv ps = true
  | [], _ => by simp only [PyData.showableKv]
  | (a, b) :: ps, h => by
    obtain ⟨h1, h2⟩ := h (a, b) List.mem_cons_self
    simp only [PyData.showableKv, h1, h2, showableKv_of fun x hx => h x (List.mem_cons_of_mem _ hx), Bool.and_self]
theorem canLayAll_of : ∀ {ds : List PyData}, (∀ d ∈ ds, d.canLay0 = true) → PyData.canLayAll0 ds = true
  | [], _ => by simp only [PyData.canLayAll0]
  | d :: ds, h => by simp only [PyData.canLayAll0, h d List.mem_cons_self, canLayAll_of fun x hx => h x (List.mem_cons_of_mem _ hx), Bool.and_self]
theorem depthAll_le {n : Nat} : ∀ {ds : List PyData}, (∀ d ∈ ds, d.depth ≤ n) → PyData.depthAll ds ≤ n
  | [], _ => by simp only [PyData.depthAll]; exact Nat.zero_le _
  | d :: ds, h => by
    simp only [PyData.depthAll]
    exact Nat.max_le.mpr ⟨h d List.mem_cons_self, depthAll_le fun x hx => h x (List.mem_cons_of_mem _ hx)⟩
theorem depthKv_le {n : Nat} : ∀ {ps : List (PyData × PyData)}, (∀ p ∈ ps, p.1.depth ≤ n ∧ p.2.depth ≤ n) → PyData.depthKv ps ≤ n
  | [], _ => by simp only [PyData.depthKv]; exact Nat.zero_le _
  | (a, b) :: ps, h => by
    obtain ⟨h1, h2⟩ := h (a, b) List.mem_cons_self
    simp only [PyData.depthKv]
    exact Nat.max_le.mpr ⟨Nat.max_le.mpr ⟨h1, h2⟩, depthKv_le fun x hx => h x (List.mem_cons_of_mem _ hx)⟩
/-- what a repr asks -/
structure Shw (n l : Nat) (x : PyData) : Prop where
  s : x.showable = true
  d : x.depth ≤ n
  l : x.shown.length ≤ l
theorem Okd.shw {n : Nat} {d : PyData} (h : Okd n d) : Shw n (Ln n) d := by
  induction h with
  | @leaf n d h => exact ⟨h.show_, by rw [h.depth]; exact Nat.zero_le _, Nat.le_trans h.len (Nat.le_trans (show 64 ≤ 400 by decide) (Ln_ge n))⟩
  | @list n ds hl _ ih =>
    refine ⟨by simp only [PyData.showable]; exact showableAll_of fun d hd => (ih d hd).s, by simp only [PyData.depth]; exact Nat.succ_le_succ (depthAll_le fun d hd => (ih d hd).d), ?_⟩
    simp only [PyData.shown]
    have h1 := listText_le (ts := PyData.shownAll ds)
    have h2 : piled (PyData.shownAll ds) ≤ (PyData.shownAll ds).length * (Ln n + 2) := piled_le fun t ht => by
      rw [shownAll_map] at ht
      obtain ⟨d, hd, rfl⟩ := List.mem_map.mp ht
      exact (ih d hd).l
    rw [shownAll_map, List.length_map] at h2
    have h3 := Nat.mul_le_mul_right (Ln n + 2) hl
    have h4 := Ln_succ n
    have h5 := Ln_ge n
    rw [shownAll_map] at h1 ⊢
    omega
  | @tup n ds hl _ ih =>
    refine ⟨by simp only [PyData.showable]; exact showableAll_of fun d hd => (ih d hd).s, by simp only [PyData.depth]; exact Nat.succ_le_succ (depthAll_le fun d hd => (ih d hd).d), ?_⟩
    simp only [PyData.shown]
    have h1 := tupleText_le (ts := PyData.shownAll ds)
    have h2 : piled (PyData.shownAll ds) ≤ (PyData.shownAll ds).length * (Ln n + 2) := piled_le fun t ht => by
      rw [shownAll_map] at ht
      obtain ⟨d, hd, rfl⟩ := List.mem_map.mp ht
      exact (ih d hd).l
    rw [shownAll_map, List.length_map] at h2
    have h3 := Nat.mul_le_mul_right (Ln n + 2) hl
    have h4 := Ln_succ n
    have h5 := Ln_ge n
    rw [shownAll_map] at h1 ⊢
    omega
  | @dict n ps hl _ _ hk _ ih =>
    refine ⟨by simp only [PyData.showable]; exact showableKv_of fun p hp => ⟨(hk p hp).show_, (ih p hp).s⟩, by simp only [PyData.depth]; exact Nat.succ_le_succ (depthKv_le fun p hp => ⟨by rw [(hk p hp).depth]; exact Nat.zero_le _, (ih p hp).d⟩), ?_⟩
    simp only [PyData.shown]
    have h1 := dictText_le (ts := PyData.shownKv ps)
    have h2 : piled (PyData.shownKv ps) ≤ (PyData.shownKv ps).length * (Ln n + 66 + 2) := piled_le fun t ht => by
      rw [shownKv_map] at ht
      obtain ⟨p, hp, rfl⟩ := List.mem_map.mp ht
      rw [strLen_append, strLen_append]
      have a := (hk p hp).len
      have b := (ih p hp).l
      have e2 : ((": " : String) : Str).length = 2 := rfl
      omega
    rw [shownKv_map, List.length_map] at h2
    have h3 := Nat.mul_le_mul_right (Ln n + 66 + 2) hl
    have h4 := Ln_succ n
    have h5 := Ln_ge n
    rw [shownKv_map] at h1 ⊢
    omega
/-! ### the fixed form -/
mutual
inductive Fx : PyData → PyData → Prop
  | flat {d : PyData} : Flat d → Fx d d
  | list {ds es : List PyData} : FxAll ds es → Fx (.list ds) (.tuple es)
  | tup {ds es : List PyData} : FxAll ds es → Fx (.tuple ds) (.tuple es)
  | dict {ps qs : List (PyData × PyData)} {es : List PyData} : ps.Perm qs → SortedK qs → FxP qs es → Fx (.dict ps) (.tuple es)
inductive FxAll : List PyData → List PyData → Prop
  | nil : FxAll [] []
  | cons {d e : PyData} {ds es : List PyData} : Fx d e → FxAll ds es → FxAll (d :: ds) (e :: es)
inductive FxP : List (PyData × PyData) → List PyData → Prop
  | nil : FxP [] []
  | cons {k v e : PyData} {ps : List (PyData × PyData)} {es : List PyData} : Fx v e → FxP ps es → FxP ((k, v) :: ps) (.tuple [k, e] :: es)
end
mutual
theorem Fx.det : ∀ {d e e' : PyData}, Fx d e → Fx d e' → e = e'
  | _, _, _, .flat h, k => by
    cases k with
    | flat _ => rfl
    | list _ => cases h
    | tup _ => cases h
    | dict _ _ _ => cases h
  | _, _, _, .list h, k => by
    cases k with
    | flat h => cases h
    | list k => rw [FxAll.det h k]
  | _, _, _, .tup h, k => by
    cases k with
    | flat h => cases h
    | tup k => rw [FxAll.det h k]
  | _, _, _, .dict p s h, k => by
    cases k with
    | flat h => cases h
    | dict p' s' k =>
      have e := SortedK.uniq (p.symm.trans p') s s'
      subst e
      rw [FxP.det h k]
theorem FxAll.det : ∀ {d e e' : List PyData}, FxAll d e → FxAll d e' → e = e'
  | _, _, _, .nil, k => by cases k; rfl
  | _, _, _, .cons h q, k => by
    cases k with
    | cons h' q' => rw [Fx.det h h', FxAll.det q q']
theorem FxP.det : ∀ {d : List (PyData × PyData)} {e e' : List PyData}, FxP d e → FxP d e' → e = e'
  | _, _, _, .nil, k => by cases k; rfl
  | _, _, _, .cons h q, k => by
    cases k with
    | cons h' q' => rw [Fx.det h h', FxP.det q q']
end
theorem FxAll.length : ∀ {d e : List PyData}, FxAll d e → d.length = e.length
  | _, _, .nil => rfl
  | _, _, .cons _ q => by rw [List.length_cons, List.length_cons, q.length]
theorem FxAll.snoc : ∀ {ds es : List PyData} {d e : PyData}, FxAll ds es → Fx d e → FxAll (ds ++ [d]) (es ++ [e])
  | _, _, _, _, .nil, h => .cons h .nil
  | _, _, _, _, .cons a q, h => .cons a (FxAll.snoc q h)
theorem FxP.snoc : ∀ {ps : List (PyData × PyData)} {es : List PyData} {k v e : PyData}, FxP ps es → Fx v e → FxP (ps ++ [(k, v)]) (es ++ [.tuple [k, e]])
  | _, _, _, _, _, .nil, h => .cons h .nil
  | _, _, _, _, _, .cons a q, h => .cons a (FxP.snoc q h)
/-! tuples and leaves alone -/
mutual
inductive Tup : PyData → Prop
  | flat {d : PyData} : Flat d → Tup d
  | tup {ds : List PyData} : TupAll ds → Tup (.tuple ds)
inductive TupAll : List PyData → Prop
  | nil : TupAll []
  | cons {d : PyData} {ds : List PyData} : Tup d → TupAll ds → TupAll (d :: ds)
end
mutual
theorem Fx.tup' : ∀ {d e : PyData}, Fx d e → (∀ n, Okd n d → True) → (∀ k v : PyData, True) → (∃ n, Okd n d) → Tup e
  | _, _, .flat h, _, _, _ => .flat h
  | _, _, .list h, a, b, ⟨n, o⟩ => by
    cases o with
    | leaf l => cases l.flat
    | list _ h' => exact .tup (FxAll.tup' h fun d hd => ⟨_, h' d hd⟩)
  | _, _, .tup h, a, b, ⟨n, o⟩ => by
    cases o with
    | leaf l => cases l.flat
    | tup _ h' => exact .tup (FxAll.tup' h fun d hd => ⟨_, h' d hd⟩)
  | _, _, .dict p s h, a, b, ⟨n, o⟩ => by
    cases o with
    | leaf l => cases l.flat
    | dict _ _ _ hk h' => exact .tup (FxP.tup' h (fun q hq => (hk q (p.symm.subset hq)).flat) fun q hq => ⟨_, h' q (p.symm.subset hq)⟩)
theorem FxAll.tup' : ∀ {d e : List PyData}, FxAll d e → (∀ x ∈ d, ∃ n, Okd n x) → TupAll e
  | _, _, .nil, _ => .nil
  | _, _, .cons h q, o => .cons (Fx.tup' h (fun _ _ => trivial) (fun _ _ => trivial) (o _ List.mem_cons_self)) (FxAll.tup' q fun x hx => o x (List.mem_cons_of_mem _ hx))
theorem FxP.tup' : ∀ {d : List (PyData × PyData)} {e : List PyData}, FxP d e → (∀ x ∈ d, Flat x.1) → (∀ x ∈ d, ∃ n, Okd n x.2) → TupAll e
  | _, _, .nil, _, _ => .nil
  | _, _, .cons h q, f, o => .cons (.tup (.cons (.flat (f _ List.mem_cons_self)) (.cons (Fx.tup' h (fun _ _ => trivial) (fun _ _ => trivial) (o _ List.mem_cons_self)) .nil))) (FxP.tup' q (fun x hx => f x (List.mem_cons_of_mem _ hx)) fun x hx => o x (List.mem_cons_of_mem _ hx))
end
theorem Fx.tupO {d e : PyData} {n : Nat} (h : Fx d e) (o : Okd n d) : Tup e := h.tup' (fun _ _ => trivial) (fun _ _ => trivial) ⟨n, o⟩
theorem FxAll.tupA {d e : List PyData} {n : Nat} (h : FxAll d e) (o : ∀ x ∈ d, Okd n x) : TupAll e := h.tup' fun x hx => ⟨n, o x hx⟩
/-! the fixed form of a fixed form -/
mutual
theorem Tup.fx : ∀ {d : PyData}, Tup d → Fx d d
  | _, .flat h => .flat h
  | _, .tup h => .tup (TupAll.fx h)
theorem TupAll.fx : ∀ {d : List PyData}, TupAll d → FxAll d d
  | _, .nil => .nil
  | _, .cons h q => .cons (Tup.fx h) (TupAll.fx q)
end
/-! equal to itself -/
mutual
theorem Tup.eqv : ∀ {d : PyData}, Tup d → PyData.eqv d d = true
  | _, .flat .none => by simp only [PyData.eqv]
  | _, .flat (.bool b) => by simp only [PyData.eqv, beq_self_eq_true]
  | _, .flat (.int b) => by simp only [PyData.eqv, beq_self_eq_true]
  | _, .flat (.str b) => by simp only [PyData.eqv, beq_self_eq_true]
  | _, .tup h => by
    simp only [PyData.eqv]
    exact TupAll.eqv h
theorem TupAll.eqv : ∀ {d : List PyData}, TupAll d → PyData.eqvAll d d = true
  | _, .nil => by simp only [PyData.eqvAll]
  | _, .cons h q => by simp only [PyData.eqvAll, Tup.eqv h, TupAll.eqv q, Bool.and_self]
end
/-! ### what a fixed form reads as hangs on tuples alone -/
section
variable {H H' : Hp}
mutual
theorem DpR.tups (S : ∀ a xs, H a = some (.tup xs) → H' a = some (.tup xs)) : ∀ {d : PyData} {v : V}, Tup d → DpR H v d → DpR H' v d
  | _, _, .flat .none, .non => .non
  | _, _, .flat (.bool b), .bl _ => .bl b
  | _, _, .flat (.int b), .int _ => .int b
  | _, _, .flat (.str b), .str _ => .str b
  | _, _, .tup t, .tup h q => .tup (S _ _ h) (DpRs.tups S t q)
theorem DpRs.tups (S : ∀ a xs, H a = some (.tup xs) → H' a = some (.tup xs)) : ∀ {d : List PyData} {v : List V}, TupAll d → DpRs H v d → DpRs H' v d
  | _, _, .nil, .nil => .nil
  | _, _, .cons t ts, .cons h q => .cons (DpR.tups S t h) (DpRs.tups S ts q)
end
end
/-! ### the fixed form's size -/
structure Shf (n l : Nat) (x : PyData) : Prop extends Shw n l x where
  lay : x.canLay0 = true
theorem Shf.mono {n m l k : Nat} {d : PyData} (h : Shf n l d) (a : n ≤ m) (b : l ≤ k) : Shf m k d := ⟨⟨h.s, Nat.le_trans h.d a, Nat.le_trans h.l b⟩, h.lay⟩
theorem Shf.tuple {n l m : Nat} {ds : List PyData} (hl : ds.length ≤ m) (h : ∀ d ∈ ds, Shf n l d) : Shf (n + 1) (m * (l + 2) + 3) (.tuple ds) := by
  refine ⟨⟨by simp only [PyData.showable]; exact showableAll_of fun d hd => (h d hd).s, by simp only [PyData.depth]; exact Nat.succ_le_succ (depthAll_le fun d hd => (h d hd).d), ?_⟩, by simp only [PyData.canLay0]; exact canLayAll_of fun d hd => (h d hd).lay⟩
  simp only [PyData.shown]
  have h1 := tupleText_le (ts := PyData.shownAll ds)
  have h2 : piled (PyData.shownAll ds) ≤ (PyData.shownAll ds).length * (l + 2) := piled_le fun t ht => by
    rw [shownAll_map] at ht
    obtain ⟨d, hd, rfl⟩ := List.mem_map.mp ht
    exact (h d hd).l
  rw [shownAll_map, List.length_map] at h2
  have h3 := Nat.mul_le_mul_right (l + 2) hl
  rw [shownAll_map] at h1 ⊢
  omega
theorem Shw.list {n l m : Nat} {ds : List PyData} (hl : ds.length ≤ m) (h : ∀ d ∈ ds, Shw n l d) : Shw (n + 1) (m * (l + 2) + 2) (.list ds) := by
  refine ⟨by simp only [PyData.showable]; exact showableAll_of fun d hd => (h d hd).s, by simp only [PyData.depth]; exact Nat.succ_le_succ (depthAll_le fun d hd => (h d hd).d), ?_⟩
  simp only [PyData.shown]
  have h1 := listText_le (ts := PyData.shownAll ds)
  have h2 : piled (PyData.shownAll ds) ≤ (PyData.shownAll ds).length * (l + 2) := piled_le fun t ht => by
    rw [shownAll_map] at ht
    obtain ⟨d, hd, rfl⟩ := List.mem_map.mp ht
    exact (h d hd).l
  rw [shownAll_map, List.length_map] at h2
  have h3 := Nat.mul_le_mul_right (l + 2) hl
  rw [shownAll_map] at h1 ⊢
  omega
theorem Leaf.shf {n : Nat} {d : PyData} (h : Leaf d) : Shf n 64 d := ⟨⟨h.show_, by rw [h.depth]; exact Nat.zero_le _, h.len⟩, h.lay⟩
mutual
theorem Fx.shf : ∀ {d e : PyData} {n : Nat}, Fx d e → Okd n d → Shf (2 * n) (Ln n) e
  | _, _, n, .flat h, o => by
    cases o with
    | leaf l => exact l.shf.mono (Nat.le_refl _) (Nat.le_trans (show 64 ≤ 400 by decide) (Ln_ge n))
    | list _ _ => cases h
    | tup _ _ => cases h
    | dict _ _ _ _ _ => cases h
  | _, _, n, .list h, o => by
    cases o with
    | leaf l => cases l.flat
    | @list n _ hl h' =>
      refine (Shf.tuple (m := 3) (by rw [← h.length]; exact hl) (FxAll.shf h h')).mono (by omega) ?_
      have h4 := Ln_succ n
      have h5 := Ln_ge n
      omega
  | _, _, n, .tup h, o => by
    cases o with
    | leaf l => cases l.flat
    | @tup n _ hl h' =>
      refine (Shf.tuple (m := 3) (by rw [← h.length]; exact hl) (FxAll.shf h h')).mono (by omega) ?_
      have h4 := Ln_succ n
      have h5 := Ln_ge n
      omega
  | _, _, n, .dict (ps := ps) (qs := qs) p s h, o => by
    cases o with
    | leaf l => cases l.flat
    | @dict n _ hl _ _ hk h' =>
      have q := FxP.shf h (fun x hx => hk x (p.symm.subset hx)) fun x hx => h' x (p.symm.subset hx)
      refine (Shf.tuple (m := 3) (by rw [← q.1, ← p.length_eq]; exact hl) q.2).mono (by omega) ?_
      have h4 := Ln_succ n
      have h5 := Ln_ge n
      omega
theorem FxAll.shf : ∀ {d e : List PyData} {n : Nat}, FxAll d e → (∀ x ∈ d, Okd n x) → ∀ y ∈ e, Shf (2 * n) (Ln n) y
  | _, _, _, .nil, _, y, hy => absurd hy List.not_mem_nil
  | _, _, _, .cons h q, o, y, hy => by
    rcases List.mem_cons.mp hy with hy | hy
    · rw [hy]
      exact Fx.shf h (o _ List.mem_cons_self)
    · exact FxAll.shf q (fun x hx => o x (List.mem_cons_of_mem _ hx)) y hy
theorem FxP.shf : ∀ {d : List (PyData × PyData)} {e : List PyData} {n : Nat}, FxP d e → (∀ x ∈ d, Leaf x.1) → (∀ x ∈ d, Okd n x.2) → d.length = e.length ∧ ∀ y ∈ e, Shf (2 * n + 1) (Ln n + 71) y
  | _, _, _, .nil, _, _ => ⟨rfl, fun y hy => absurd hy List.not_mem_nil⟩
  | _, _, n, .cons (k := k) (e := e) h q, f, o => by
    obtain ⟨q1, q2⟩ := FxP.shf q (fun x hx => f x (List.mem_cons_of_mem _ hx)) fun x hx => o x (List.mem_cons_of_mem _ hx)
    refine ⟨by rw [List.length_cons, List.length_cons, q1], fun y hy => ?_⟩
    rcases List.mem_cons.mp hy with hy | hy
    · rw [hy]
      have a := Leaf.shf (n := 2 * n) (f _ List.mem_cons_self)
      have b := Fx.shf h (o _ List.mem_cons_self)
      refine ⟨⟨by simp only [PyData.showable, PyData.showableAll, a.s, b.s, Bool.and_self], by simp only [PyData.depth, PyData.depthAll]; have a1 : k.depth ≤ 2 * n := a.d; have b1 := b.d; omega, ?_⟩, by simp only [PyData.canLay0, PyData.canLayAll0, a.lay, b.lay, Bool.and_self]⟩
      simp only [PyData.shown]
      have h1 := tupleText_le (ts := PyData.shownAll [k, e])
      have e1 : piled (PyData.shownAll [k, e]) = (k.shown.length + 2) + ((e.shown.length + 2) + 0) := by
        rw [shownAll_map]
        show piled [k.shown, e.shown] = _
        rw [piled_cons, piled_cons, piled_nil]
      have a2 : k.shown.length ≤ 64 := a.l
      have b2 := b.l
      omega
    · exact q2 y hy
end
theorem Shf.shaped {n l : Nat} {d : PyData} (h : Shf n l d) (hn : n ≤ 64) : SeqAt.shaped d = true := by
  unfold SeqAt.shaped
  rw [h.lay, decide_eq_true (Nat.le_trans h.d hn)] <;> rfl

/-! ### rules -/
/-- one of two (the stepper does not choose) -/
inductive Two (a b : Prop) : Prop
  | l (h : a) : Two a b
  | r (h : b) : Two a b
theorem pi_or {X : Cx} {tg e : Expr} {w1 w2 : TI} (h1 : PI X tg e w1) (h2 : PI X tg e w2) : PI X tg e (fun σ H R => Two (w1 σ H R) (w2 σ H R)) :=
  ⟨fun pins s σ H R I h => match h with
    | .l h => h1.run pins s σ H R I h
    | .r h => h2.run pins s σ H R I h⟩
/-- sorted of a list of ints or of texts -/
theorem call_sortedK {X : Cx} : CallR X (.builtin "sorted") (fun xs H Q => Two (rSorted X.K xs H Q) (rSortedS X.K xs H Q)) := fun pins s σ H xs us Q I r h => match h with
  | .l h => cr_sorted pins s σ H xs us Q I r h
  | .r h => cr_sortedS pins s σ H xs us Q I r h
theorem kitAny_lt {K : PySem.W.Frag} {N : String} {a b : Bool} (h1 : PySem.W.kitOne K (.type N) (.type "list") = some a) (h2 : PySem.W.kitOne K (.type N) (.type "tuple") = some b) : PySem.W.kitAny K (.type N) [.type "list", .type "tuple"] = some (a || b) := by
  unfold PySem.W.kitAny
  rw [h1]
  cases a with
  | true => rfl
  | false =>
    dsimp only
    unfold PySem.W.kitAny
    rw [h2]
    cases b <;> rfl
/-- a leaf's value, its kind -/
theorem DpR.flatTy {K : PySem.W.Frag} {H : Hp} {v : V} {d : PyData} (h : DpR H v d) (f : Flat d) : ∃ N, (∀ H' : Hp, TyX K H' v (.type N)) ∧ PySem.W.kitOne K (.type N) (.type "list") = some false ∧ PySem.W.kitOne K (.type N) (.type "tuple") = some false ∧ PySem.W.kitOne K (.type N) (.type "dict") = some false := by
  cases f with
  | none => cases h; exact ⟨_, fun _ => tyx_non, kit_NoneType_list, kit_NoneType_tuple, kit_NoneType_dict⟩
  | bool b => cases h; exact ⟨_, fun _ => tyx_bl, kit_bool_list, kit_bool_tuple, kit_bool_dict⟩
  | int b => cases h; exact ⟨_, fun _ => tyx_int, kit_int_list, kit_int_tuple, kit_int_dict⟩
  | str b => cases h; exact ⟨_, fun _ => tyx_str, kit_str_list, kit_str_tuple, kit_str_dict⟩
theorem tyx_lstR {K : PySem.W.Frag} {H : Hp} {a : Addr} {xs : List V} (h : Rd H a (.lst xs)) : TyX K H (.ref a) (.type "list") := h.elim (fun h => tyx_lst h) fun ⟨o, h⟩ => .base (.frz h)
theorem tyx_dctR {K : PySem.W.Frag} {H : Hp} {a : Addr} {xs : List (Key × V)} (h : Rd H a (.dK xs)) : TyX K H (.ref a) (.type "dict") := h.elim (fun h => tyx_dK h) fun ⟨o, h⟩ => .fDict h
end MyD

/-! Dicts of data: their keys sorted. -/
namespace MyD
open PySem PySem.Spec PyProof.Rows L2 MyL
theorem perm_lift {α β : Type} {f : α → β} {l l' : List β} (h : l.Perm l') : ∀ zs : List α, zs.map f = l → ∃ zs' : List α, zs.Perm zs' ∧ zs'.map f = l' := by
  induction h with
  | nil =>
    intro zs e
    exact ⟨zs, .refl _, e⟩
  | cons x h ih =>
    intro zs e
    cases zs with
    | nil => cases e
    | cons z zs =>
      rw [List.map_cons] at e
      injection e with e1 e2
      obtain ⟨ws, p, q⟩ := ih zs e2
      exact ⟨z :: ws, p.cons z, by rw [List.map_cons, e1, q]⟩
  | swap x y l =>
    intro zs e
    match zs, e with
    | z1 :: z2 :: zs, e =>
      rw [List.map_cons, List.map_cons] at e
      injection e with e1 e2
      injection e2 with e2 e3
      exact ⟨z2 :: z1 :: zs, .swap _ _ _, by rw [List.map_cons, List.map_cons, e1, e2, e3]⟩
  | trans h1 h2 ih1 ih2 =>
    intro zs e
    obtain ⟨ws, p, q⟩ := ih1 zs e
    obtain ⟨us, p', q'⟩ := ih2 ws q
    exact ⟨us, p.trans p', q'⟩
theorem valV_mem : ∀ {kvs : List (Key × V)} {k : Key} {v : V}, (kvs.map (·.1)).Nodup → (k, v) ∈ kvs → valV kvs k = some v
  | [], _, _, _, h => absurd h List.not_mem_nil
  | (k', v') :: kvs, k, v, hn, h => by
    rw [List.map_cons] at hn
    obtain ⟨h1, h2⟩ := List.nodup_cons.mp hn
    unfold valV
    rw [List.find?_cons]
    rcases List.mem_cons.mp h with e | h
    · injection e with e1 e2
      subst e1 e2
      rw [decide_eq_true rfl] <;> rfl
    · have ne : k' ≠ k := fun e => h1 (by rw [e]; exact List.mem_map.mpr ⟨(k, v), h, rfl⟩)
      rw [decide_eq_false ne]
      exact valV_mem h2 h
/-- a dict's entries with their data -/
abbrev Ent := (Key × V) × (PyData × PyData)
theorem DpRp.zip_mem {H : Hp} : ∀ {kvs : List (Key × V)} {ps : List (PyData × PyData)} {t : Ent}, DpRp H kvs ps → t ∈ kvs.zip ps → t.2.1 = keyD t.1.1 ∧ DpR H t.1.2 t.2.2
  | _, _, _, .nil, h => absurd h List.not_mem_nil
  | _, _, _, .cons a q, h => by
    rw [List.zip_cons_cons] at h
    rcases List.mem_cons.mp h with e | h
    · rw [e]
      exact ⟨rfl, a⟩
    · exact DpRp.zip_mem q h
theorem zip_fst {α β : Type} : ∀ {xs : List α} {ys : List β}, xs.length = ys.length → (xs.zip ys).map (·.1) = xs
  | [], [], _ => rfl
  | x :: xs, y :: ys, h => by rw [List.zip_cons_cons, List.map_cons, zip_fst (Nat.succ.inj h)]
theorem zip_snd {α β : Type} : ∀ {xs : List α} {ys : List β}, xs.length = ys.length → (xs.zip ys).map (·.2) = ys
  | [], [], _ => rfl
  | x :: xs, y :: ys, h => by rw [List.zip_cons_cons, List.map_cons, zip_snd (Nat.succ.inj h)]
theorem keyD_inj : ∀ {a b : Key}, keyD a = keyD b → a = b
  | .inl i, .inl j, h => by injection h with h; rw [h]
  | .inr i, .inr j, h => by injection h with h; rw [h]
  | .inl i, .inr j, h => nomatch h
  | .inr i, .inl j, h => nomatch h
theorem keys_int {kvs : List (Key × V)} {ks : List Int} (h : (kvs.map fun p => keyD p.1) = ks.map PyData.int) : kvs.map (·.1) = ks.map Sum.inl := by
  induction kvs generalizing ks with
  | nil =>
    cases ks with
    | nil => rfl
    | cons => cases h
  | cons p kvs ih =>
    cases ks with
    | nil => cases h
    | cons k ks =>
      rw [List.map_cons, List.map_cons] at h
      injection h with h1 h2
      rw [List.map_cons, List.map_cons, ih h2]
      have : p.1 = Sum.inl k := keyD_inj h1
      rw [this]
theorem keys_str {kvs : List (Key × V)} {ks : List Str} (h : (kvs.map fun p => keyD p.1) = ks.map PyData.str) : kvs.map (·.1) = ks.map Sum.inr := by
  induction kvs generalizing ks with
  | nil =>
    cases ks with
    | nil => rfl
    | cons => cases h
  | cons p kvs ih =>
    cases ks with
    | nil => cases h
    | cons k ks =>
      rw [List.map_cons, List.map_cons] at h
      injection h with h1 h2
      rw [List.map_cons, List.map_cons, ih h2]
      have : p.1 = Sum.inr k := keyD_inj h1
      rw [this]
/-- the dict's entries in the order of the sorted keys -/
structure Ordd (H : Hp) (n : Nat) (kvs : List (Key × V)) (ps : List (PyData × PyData)) (zs : List Ent) : Prop where
  perm : ps.Perm (zs.map (·.2))
  srt : SortedK (zs.map (·.2))
  val : ∀ t ∈ zs, valV kvs t.1.1 = some t.1.2 ∧ t.2.1 = keyD t.1.1 ∧ DpR H t.1.2 t.2.2 ∧ Okd n t.2.2 ∧ Leaf t.2.1
theorem ordd_of {H : Hp} {n : Nat} {kvs : List (Key × V)} {ps : List (PyData × PyData)} (hd : DpRp H kvs ps) (hn : (ps.map (·.1)).Nodup) (hk : ∀ p ∈ ps, Leaf p.1) (ho : ∀ p ∈ ps, Okd n p.2) {l : List Key} (h : (kvs.map (·.1)).Perm l)
    (hs : (l.map keyD).Pairwise keyLt) : ∃ zs : List Ent, zs.map (·.1.1) = l ∧ Ordd H n kvs ps zs := by
  have hlen := hd.length
  have nd : (kvs.map (·.1)).Nodup := by
    have e := hd.keys
    rw [e] at hn
    have e2 : (kvs.map fun p => keyD p.1) = (kvs.map (·.1)).map keyD := by rw [List.map_map]; rfl
    rw [e2] at hn
    exact List.Pairwise.of_map (f := keyD) (fun a b (h : keyD a ≠ keyD b) e => h (by rw [e])) hn
  obtain ⟨zs, p, e⟩ := perm_lift (f := fun t : Ent => t.1.1) h (kvs.zip ps) (by
    have e1 : (kvs.zip ps).map (fun t : Ent => t.1.1) = ((kvs.zip ps).map (·.1)).map (·.1) := by rw [List.map_map]; rfl
    rw [e1, zip_fst hlen])
  refine ⟨zs, e, ⟨?_, ?_, fun t ht => ?_⟩⟩
  · have := p.map (fun t : Ent => t.2)
    rwa [zip_snd hlen] at this
  · have mem : ∀ t ∈ zs, t.2.1 = keyD t.1.1 := fun t ht => (hd.zip_mem (p.symm.subset ht)).1
    unfold SortedK
    rw [List.pairwise_map]
    have e2 : l.map keyD = zs.map fun t => keyD t.1.1 := by rw [← e, List.map_map]; rfl
    rw [e2, List.pairwise_map] at hs
    exact hs.imp_of_mem fun {a b} ha hb h => by rw [mem a ha, mem b hb]; exact h
  · have hz := p.symm.subset ht
    obtain ⟨h1, h2⟩ := hd.zip_mem hz
    obtain ⟨m1, m2⟩ := List.of_mem_zip (show (t.1, t.2) ∈ kvs.zip ps from hz)
    exact ⟨valV_mem nd m1, h1, h2, ho _ m2, hk _ m2⟩
theorem int_strict {ks : List Int} (h : ks.Pairwise (· ≤ ·)) (n : ks.Nodup) : ((ks.map Sum.inl : List Key).map keyD).Pairwise keyLt := by
  rw [List.pairwise_map, List.pairwise_map]
  exact (h.and n).imp fun {a b} ⟨h1, h2⟩ => show a < b from by omega
theorem str_lt_of {a b : Str} (h : ¬ b.cps.toList < a.cps.toList) (n : a ≠ b) : a.cps.toList < b.cps.toList := by
  have : b.cps.toList ≠ a.cps.toList := fun e => n (by
    cases a; cases b
    rw [Str.mk.injEq]
    exact Array.toList_inj.mp e.symm)
  rcases Std.lt_trichotomy (a := a.cps.toList) (b := b.cps.toList) with h1 | h1 | h1
  · exact h1
  · exact absurd h1.symm this
  · exact absurd h1 h
end MyD
namespace MyD
open PySem PySem.Spec PyProof.Rows L2 MyL
theorem risingS_all : ∀ {ys : List Str} {p : Str}, risingS p ys = true → (p :: ys).Nodup → (p :: ys).Pairwise fun a b => a.cps.toList < b.cps.toList
  | [], p, _, _ => List.pairwise_singleton _ _
  | x :: r, p, h, n => by
    unfold risingS at h
    obtain ⟨h1, h2⟩ := Bool.and_eq_true_iff.mp h
    obtain ⟨n1, n2⟩ := List.nodup_cons.mp n
    have ih := risingS_all h2 n2
    have lt : p.cps.toList < x.cps.toList := str_lt_of (fun z => by
      rw [ltCps_eq, decide_eq_true z] at h1
      cases h1) fun e => n1 (by rw [e]; exact List.mem_cons_self)
    refine List.pairwise_cons.mpr ⟨fun y hy => ?_, ih⟩
    rcases List.mem_cons.mp hy with e | hy
    · rw [e]; exact lt
    · exact List.lt_trans lt ((List.pairwise_cons.mp ih).1 y hy)
theorem str_strict {ys : List Str} (h : sortedS ys = true) (n : ys.Nodup) : ((ys.map Sum.inr : List Key).map keyD).Pairwise keyLt := by
  rw [List.pairwise_map, List.pairwise_map]
  cases ys with
  | nil => exact List.Pairwise.nil
  | cons x r => exact (risingS_all h n).imp fun {a b} h => h
theorem TupAll.app : ∀ {ds es : List PyData}, TupAll ds → TupAll es → TupAll (ds ++ es)
  | _, _, .nil, h => h
  | _, _, .cons a q, h => .cons a (TupAll.app q h)
theorem dpR_key {H : Hp} : ∀ k : Key, DpR H (kV k) (keyD k)
  | .inl i => .int i
  | .inr x => .str x
/-! ### keys compared -/
def ltK : Key → Key → Bool
  | .inl i, .inl j => decide (i < j)
  | .inr x, .inr y => decide (x.cps.toList < y.cps.toList)
  | _, _ => false
def Kin : Key → Key → Prop
  | .inl _, .inl _ => True
  | .inr _, .inr _ => True
  | _, _ => False
theorem ltK_iff : ∀ {a b : Key}, ltK a b = true ↔ keyLt (keyD a) (keyD b)
  | .inl i, .inl j => by unfold ltK keyD keyLt; exact decide_eq_true_iff
  | .inr i, .inr j => by unfold ltK keyD keyLt; exact decide_eq_true_iff
  | .inl i, .inr j => by unfold ltK keyD keyLt; simp
  | .inr i, .inl j => by unfold ltK keyD keyLt; simp
theorem ltK_or : ∀ {a b : Key}, Kin a b → a ≠ b → ltK a b = false → keyLt (keyD b) (keyD a)
  | .inl i, .inl j, _, n, h => by
    have h1 : ¬ i < j := of_decide_eq_false h
    have h2 : i ≠ j := fun e => n (by rw [e])
    show j < i
    omega
  | .inr i, .inr j, _, n, h => by
    have h1 : ¬ i.cps.toList < j.cps.toList := of_decide_eq_false h
    exact str_lt_of h1 fun e => n (by rw [e])
theorem keyLt_trans {a b c : Key} (h : keyLt (keyD a) (keyD b)) (k : keyLt (keyD b) (keyD c)) : keyLt (keyD a) (keyD c) := by
  cases a <;> cases b <;> cases c <;> first | exact h.elim | exact k.elim | skip
  · exact Int.lt_trans (show _ < _ from h) k
  · exact List.lt_trans (show _ < _ from h) k
def rLtK : R2 := fun x y H Q => ∃ a b : Key, x = kV a ∧ y = kV b ∧ Kin a b ∧ Q (.bl (ltK a b)) H
theorem op_ltK {X : Cx} : OpR X (compareOp .Lt) rLtK := by
  intro pins s σ H x y v u Q I rx ry h
  obtain ⟨a, b, rfl, rfl, k, q⟩ := h
  match a, b, k, q, rx, ry with
  | .inl i, .inl j, _, q, rx, ry => exact op_lt pins s σ H _ _ v u Q I rx ry ⟨i, j, rfl, rfl, q⟩
  | .inr i, .inr j, _, q, rx, ry => exact op_lt_str pins s σ H _ _ v u Q I rx ry ⟨i, j, rfl, rfl, q⟩
theorem ps_two {X : Cx} {st : Stmt} {t u : TS} (h1 : PS X st t) (h2 : PS X st u) : PS X st (fun D σ H => Two (t D σ H) (u D σ H)) :=
  ⟨fun pins s σ H D I h => match h with
    | .l h => h1.run pins s σ H D I h
    | .r h => h2.run pins s σ H D I h⟩
theorem cutV_take {xs : List V} {n : Nat} : cutV xs none (some (n : Int)) = xs.take n := by
  unfold cutV
  rw [HT.sIx_none, HT.sIx_nat, List.drop_zero, Nat.sub_zero]
  by_cases h : n ≤ xs.length
  · rw [Nat.min_eq_left h]
  · rw [Nat.min_eq_right (by omega), List.take_length, List.take_of_length_le (by omega)]
theorem cutV_drop {xs : List V} {n : Nat} (h : n ≤ xs.length) : cutV xs (some (n : Int)) none = xs.drop n := by
  unfold cutV
  rw [HT.sIx_none, HT.sIx_nat, Nat.min_eq_left h]
  exact List.take_of_length_le (by rw [List.length_drop]; exact Nat.le_refl _)
/-! ### a key put in its place -/
theorem FxP.take : ∀ {ps : List (PyData × PyData)} {es : List PyData} (n : Nat), FxP ps es → FxP (ps.take n) (es.take n)
  | _, _, 0, _ => .nil
  | _, _, _ + 1, .nil => .nil
  | _, _, n + 1, .cons a q => .cons a (FxP.take n q)
theorem FxP.drop : ∀ {ps : List (PyData × PyData)} {es : List PyData} (n : Nat), FxP ps es → FxP (ps.drop n) (es.drop n)
  | _, _, 0, h => h
  | _, _, _ + 1, .nil => .nil
  | _, _, n + 1, .cons a q => FxP.drop n q
theorem FxP.app : ∀ {ps qs : List (PyData × PyData)} {es fs : List PyData}, FxP ps es → FxP qs fs → FxP (ps ++ qs) (es ++ fs)
  | _, _, _, _, .nil, h => h
  | _, _, _, _, .cons a q, h => .cons a (FxP.app q h)
theorem FxP.length : ∀ {ps : List (PyData × PyData)} {es : List PyData}, FxP ps es → ps.length = es.length
  | _, _, .nil => rfl
  | _, _, .cons _ q => by rw [List.length_cons, List.length_cons, q.length]
theorem FxP.at_ : ∀ {ps : List (PyData × PyData)} {es : List PyData} {i : Nat} {p : PyData × PyData}, FxP ps es → ps[i]? = some p → ∃ e, es[i]? = some (.tuple [p.1, e])
  | _, _, 0, _, .cons a q, e => by cases e; exact ⟨_, rfl⟩
  | _, _, i + 1, _, .cons a q, e => FxP.at_ (i := i) q (by simpa using e)
/-- the entries by key: a key, its datum -/
abbrev KD := Key × PyData
def kdP (z : KD) : PyData × PyData := (keyD z.1, z.2)
theorem ins_sorted {zs : List KD} {z : KD} {n : Nat} (hs : SortedK (zs.map kdP)) (h1 : ∀ j y, j < n → zs[j]? = some y → keyLt (keyD y.1) (keyD z.1)) (h2 : ∀ y, zs[n]? = some y → keyLt (keyD z.1) (keyD y.1)) :
    SortedK ((zs.take n ++ [z] ++ zs.drop n).map kdP) := by
  unfold SortedK at *
  rw [List.pairwise_map] at *
  have ht : (zs.take n).Pairwise fun a b => keyLt (kdP a).1 (kdP b).1 := hs.sublist (List.take_sublist _ _)
  have hd : (zs.drop n).Pairwise fun a b => keyLt (kdP a).1 (kdP b).1 := hs.sublist (List.drop_sublist _ _)
  have hx : ∀ a ∈ zs.take n, ∀ b ∈ zs.drop n, keyLt (kdP a).1 (kdP b).1 := by
    have : (zs.take n ++ zs.drop n).Pairwise fun a b => keyLt (kdP a).1 (kdP b).1 := by rw [List.take_append_drop]; exact hs
    exact (List.pairwise_append.mp this).2.2
  have lo : ∀ a ∈ zs.take n, keyLt (kdP a).1 (kdP z).1 := fun a ha => by
    obtain ⟨j, hj⟩ := List.mem_iff_getElem?.mp ha
    have hl : j < n := by
      have := (List.getElem?_eq_some_iff.mp hj).1
      rw [List.length_take] at this
      omega
    rw [List.getElem?_take_of_lt hl] at hj
    exact h1 j a hl hj
  have hi : ∀ b ∈ zs.drop n, keyLt (kdP z).1 (kdP b).1 := fun b hb => by
    cases e : zs[n]? with
    | none =>
      have := List.getElem?_eq_none_iff.mp e
      rw [List.drop_of_length_le this] at hb
      exact absurd hb List.not_mem_nil
    | some y =>
      have h3 := h2 y e
      have hn := (List.getElem?_eq_some_iff.mp e)
      obtain ⟨hlt, hy⟩ := hn
      rw [List.drop_eq_getElem_cons hlt, hy] at hb hd
      rcases List.mem_cons.mp hb with e1 | hb
      · rw [e1]; exact h3
      · exact keyLt_trans h3 ((List.pairwise_cons.mp hd).1 b hb)
  rw [List.append_assoc, List.pairwise_append]
  refine ⟨ht, ?_, fun a ha b hb => ?_⟩
  · rw [List.singleton_append, List.pairwise_cons]
    exact ⟨hi, hd⟩
  · rcases List.mem_append.mp hb with hb | hb
    · rw [List.mem_singleton.mp hb]; exact lo a ha
    · exact hx a ha b hb
theorem ins_perm {α : Type} {xs zs : List α} {z : α} {n : Nat} (h : xs.Perm zs) : (xs ++ [z]).Perm (zs.take n ++ [z] ++ zs.drop n) := by
  have e : zs = zs.take n ++ zs.drop n := (List.take_append_drop n zs).symm
  have h1 : (xs ++ [z]).Perm (z :: xs) := List.perm_append_comm
  have h2 : (zs.take n ++ [z] ++ zs.drop n).Perm (z :: (zs.take n ++ zs.drop n)) := by
    rw [List.append_assoc, List.singleton_append]
    exact List.perm_middle
  rw [List.take_append_drop] at h2
  exact h1.trans ((h.cons z).trans h2.symm)
/-! ### a dict that is walked -/
theorem krK {H H' : Hp} {a : Addr} {kvs : List (Key × V)} {od : Obj} (ha : Rd H a (.dK kvs)) (k : Kp a H H') (h : H' a = some (.frz od (.dK kvs))) : Kr H H' := by
  refine ⟨fun b xs e => ?_, fun b xs e => ?_, fun b ks e => ?_⟩
  · by_cases hb : b = a
    · subst hb
      rcases ha with ha | ⟨o, ha⟩ <;> rcases e with e | ⟨o', e⟩ <;> (rw [ha] at e; cases e)
    · exact e.elim (fun e => .inl (k _ _ hb e)) fun ⟨o, e⟩ => .inr ⟨o, k _ _ hb e⟩
  · by_cases hb : b = a
    · subst hb
      rcases ha with ha | ⟨o, ha⟩ <;> (rw [ha] at e; cases e)
    · exact k _ _ hb e
  · by_cases hb : b = a
    · subst hb
      have : ks = kvs := by
        rcases ha with ha | ⟨o, ha⟩ <;> rcases e with e | ⟨o', e⟩ <;> rw [ha] at e <;> first | cases e; rfl | cases e
      rw [this]
      exact .inr ⟨_, h⟩
    · exact e.elim (fun e => .inl (k _ _ hb e)) fun ⟨o, e⟩ => .inr ⟨o, k _ _ hb e⟩
theorem kin_of {ps : List (PyData × PyData)} (h : (∃ ks : List Int, ps.map (·.1) = ks.map PyData.int) ∨ ∃ ks : List Str, ps.map (·.1) = ks.map PyData.str) {a b : Key} (ha : keyD a ∈ ps.map (·.1)) (hb : keyD b ∈ ps.map (·.1)) : Kin a b := by
  rcases h with ⟨ks, h⟩ | ⟨ks, h⟩
  · rw [h] at ha hb
    obtain ⟨i, _, hi⟩ := List.mem_map.mp ha
    obtain ⟨j, _, hj⟩ := List.mem_map.mp hb
    cases a <;> cases b <;> first | trivial | cases hi | cases hj
  · rw [h] at ha hb
    obtain ⟨i, _, hi⟩ := List.mem_map.mp ha
    obtain ⟨j, _, hj⟩ := List.mem_map.mp hb
    cases a <;> cases b <;> first | trivial | cases hi | cases hj
theorem ne_key {ps : List (PyData × PyData)} {i : Nat} {p q : PyData × PyData} (hn : (ps.map (·.1)).Nodup) (hp : p ∈ ps.take i) (hq : ps[i]? = some q) : p.1 ≠ q.1 := by
  obtain ⟨j, hj⟩ := List.mem_iff_getElem?.mp hp
  have hl : j < i := by
    have := (List.getElem?_eq_some_iff.mp hj).1
    rw [List.length_take] at this
    omega
  rw [List.getElem?_take_of_lt hl] at hj
  intro e
  have h1 : (ps.map (·.1))[j]? = some p.1 := by rw [List.getElem?_map, hj]; rfl
  have h2 : (ps.map (·.1))[i]? = some p.1 := by rw [List.getElem?_map, hq, e]; rfl
  obtain ⟨l1, e1⟩ := List.getElem?_eq_some_iff.mp h1
  obtain ⟨l2, e2⟩ := List.getElem?_eq_some_iff.mp h2
  have := (List.getElem_inj hn).mp (e1.trans e2.symm)
  omega
theorem dpR_keyV {H : Hp} : ∀ {k : Key} {v : V}, DpR H v (keyD k) → v = kV k
  | .inl i, _, .int _ => rfl
  | .inr x, _, .str _ => rfl
theorem TupAll.take : ∀ {ds : List PyData} (n : Nat), TupAll ds → TupAll (ds.take n)
  | _, 0, _ => .nil
  | _, _ + 1, .nil => .nil
  | _, n + 1, .cons a q => .cons a (TupAll.take n q)
theorem TupAll.drop : ∀ {ds : List PyData} (n : Nat), TupAll ds → TupAll (ds.drop n)
  | _, 0, h => h
  | _, _ + 1, .nil => .nil
  | _, n + 1, .cons a q => TupAll.drop n q
theorem DpRs.cutT {H : Hp} {ws : List V} {es : List PyData} {n : Nat} (h : DpRs H ws es) : DpRs H (cutV ws none (some (n : Int))) (es.take n) := by
  rw [cutV_take]
  exact h.take n
theorem DpRs.cutD {H : Hp} {ws : List V} {es : List PyData} {n : Nat} (hn : n ≤ ws.length) (h : DpRs H ws es) : DpRs H (cutV ws (some (n : Int)) none) (es.drop n) := by
  rw [cutV_drop hn]
  exact h.drop n
theorem Kr.put {H : Hp} {a C dx : Addr} {fs : List (Str × V)} {o : HO} (h : H a = some (.ins C dx fs)) : Kr H (upd H a o) := by
  have ne : ∀ b u, H b = some u → u ≠ .ins C dx fs → b ≠ a := fun b u e n z => n (Option.some.inj (e.symm.trans (by rw [z]; exact h)))
  refine ⟨fun b xs e => ?_, fun b xs e => ?_, fun b ks e => ?_⟩
  · exact e.elim (fun e => .inl (by rw [upd_ne (ne b _ e fun z => nomatch z)]; exact e)) fun ⟨o, e⟩ => .inr ⟨o, by rw [upd_ne (ne b _ e fun z => nomatch z)]; exact e⟩
  · rw [upd_ne (ne b _ e fun z => nomatch z)]; exact e
  · exact e.elim (fun e => .inl (by rw [upd_ne (ne b _ e fun z => nomatch z)]; exact e)) fun ⟨o, e⟩ => .inr ⟨o, by rw [upd_ne (ne b _ e fun z => nomatch z)]; exact e⟩
end MyD

namespace K02
open PySem PySem.Spec PyProof.Rows L2 MyL
def top (i : Nat) : Stmt := PySem.Challenge.pw_dimkeeper_k02_papers_keep_what_they_tell.main.body.getD i (.Pass ⟨0, 0, 0, 0⟩)
abbrev s_fixed : Stmt := top 1
theorem sc_fixed : FnScope ["value", "key", "part"] ["value"] (defScope s_fixed) := ⟨rfl, rfl, rfl, by decide +kernel, rfl, by decide +kernel, by decide +kernel⟩
abbrev s_l_tray : Stmt := top 13
theorem sc_l_tray : FnScope ["_law_script", "_law_cell"] ["_law_script"] (defScope s_l_tray) := ⟨rfl, rfl, rfl, by decide +kernel, rfl, by decide +kernel, by decide +kernel⟩
abbrev s_l_lift : Stmt := top 14
theorem sc_l_lift : FnScope ["_law_tray_here", "_law_many", "_law_rest", "_law_turn", "_law_cell", "_law_mixed"] ["_law_tray_here", "_law_many"] (defScope s_l_lift) := ⟨rfl, rfl, rfl, by decide +kernel, rfl, by decide +kernel, by decide +kernel⟩
abbrev s_l_take : Stmt := top 15
theorem sc_l_take : FnScope ["_law_tray_here", "_law_some"] ["_law_tray_here", "_law_some"] (defScope s_l_take) := ⟨rfl, rfl, rfl, by decide +kernel, rfl, by decide +kernel, by decide +kernel⟩
abbrev s_l_value : Stmt := top 16
theorem sc_l_value : FnScope ["_law_tray_here", "_law_depth", "_law_way", "_law_parts", "_law_turn", "_law_keys", "_law_made", "_law_key"] ["_law_tray_here", "_law_depth"] (defScope s_l_value) := ⟨rfl, rfl, rfl, by decide +kernel, rfl, by decide +kernel, by decide +kernel⟩
abbrev s_l_fixed : Stmt := top 17
theorem sc_l_fixed : FnScope ["_law_value_here", "_law_pairs", "_law_key", "_law_at", "_law_part"] ["_law_value_here"] (defScope s_l_fixed) := ⟨rfl, rfl, rfl, by decide +kernel, rfl, by decide +kernel, by decide +kernel⟩
abbrev s_l_spoil : Stmt := top 18
theorem sc_l_spoil : FnScope ["_law_value_here", "_law_key"] ["_law_value_here"] (defScope s_l_spoil) := ⟨rfl, rfl, rfl, by decide +kernel, rfl, by decide +kernel, by decide +kernel⟩
abbrev s_l_paper : Stmt := top 19
theorem sc_l_paper : FnScope ["_law_kind", "_law_word", "_law_parts"] ["_law_kind", "_law_word", "_law_parts"] (defScope s_l_paper) := ⟨rfl, rfl, rfl, by decide +kernel, rfl, by decide +kernel, by decide +kernel⟩
abbrev s_l_turned : Stmt := top 20
theorem sc_l_turned : FnScope ["_law_value_here", "_law_made", "_law_key"] ["_law_value_here"] (defScope s_l_turned) := ⟨rfl, rfl, rfl, by decide +kernel, rfl, by decide +kernel, by decide +kernel⟩
abbrev s_l_papers_right : Stmt := top 21
theorem sc_l_papers_right : FnScope ["_law_tray_here", "_law_word", "_law_kind", "_law_parts", "_law_turn", "_law_due", "_law_part", "_law_paper_here", "_law_twin"] ["_law_tray_here"] (defScope s_l_papers_right) := ⟨rfl, rfl, rfl, by decide +kernel, rfl, by decide +kernel, by decide +kernel⟩
abbrev s_l_fixed_right : Stmt := top 22
theorem sc_l_fixed_right : FnScope ["_law_tray_here", "_law_value_here", "_law_ahead", "_law_due", "_law_told"] ["_law_tray_here"] (defScope s_l_fixed_right) := ⟨rfl, rfl, rfl, by decide +kernel, rfl, by decide +kernel, by decide +kernel⟩
abbrev s_l_kinds_right : Stmt := top 23
theorem sc_l_kinds_right : FnScope ["_law_tray_here", "_law_one", "_law_two", "_law_three", "_law_kept", "_law_named", "_law_lost", "_law_held", "_law_broken", "_law_holding", "_law_told", "_law_due", "_law_value_here"] ["_law_tray_here"] (defScope s_l_kinds_right) := ⟨rfl, rfl, rfl, by decide +kernel, rfl, by decide +kernel, by decide +kernel⟩
abbrev s_law : Stmt := top 24
theorem sc_law : FnScope ["_law_script", "_law_tray_here", "_law_turn", "_law_deep"] ["_law_script"] (defScope s_law) := ⟨rfl, rfl, rfl, by decide +kernel, rfl, by decide +kernel, by decide +kernel⟩
abbrev s_Paper_init : Stmt := inClass (top 2) 0
theorem sc_Paper_init : FnScope ["self", "word", "parts"] ["self", "word", "parts"] (defScope s_Paper_init) := ⟨rfl, rfl, rfl, by decide +kernel, rfl, by decide +kernel, by decide +kernel⟩
abbrev s_Paper_bool : Stmt := inClass (top 2) 1
theorem sc_Paper_bool : FnScope ["self"] ["self"] (defScope s_Paper_bool) := ⟨rfl, rfl, rfl, by decide +kernel, rfl, by decide +kernel, by decide +kernel⟩
abbrev s_Paper_eq : Stmt := inClass (top 2) 2
theorem sc_Paper_eq : FnScope ["self", "other"] ["self", "other"] (defScope s_Paper_eq) := ⟨rfl, rfl, rfl, by decide +kernel, rfl, by decide +kernel, by decide +kernel⟩
abbrev s_Denial_bool : Stmt := inClass (top 3) 0
theorem sc_Denial_bool : FnScope ["self"] ["self"] (defScope s_Denial_bool) := ⟨rfl, rfl, rfl, by decide +kernel, rfl, by decide +kernel, by decide +kernel⟩
abbrev s_Holds_init : Stmt := inClass (top 5) 0
theorem sc_Holds_init : NdefX.NScope ["self", "triples", "__class__"] ["self", "triples"] ["__class__"] (defScope s_Holds_init) := NdefX.nscope_by (by decide +kernel)
abbrev s_Broken_init : Stmt := inClass (top 6) 0
theorem sc_Broken_init : NdefX.NScope ["self", "first", "states", "__class__"] ["self", "first", "states"] ["__class__"] (defScope s_Broken_init) := NdefX.nscope_by (by decide +kernel)
abbrev s_Held_init : Stmt := inClass (top 8) 0
theorem sc_Held_init : NdefX.NScope ["self", "pages", "entries", "__class__"] ["self", "pages", "entries"] ["__class__"] (defScope s_Held_init) := NdefX.nscope_by (by decide +kernel)
abbrev s_Lost_init : Stmt := inClass (top 9) 0
theorem sc_Lost_init : NdefX.NScope ["self", "number", "ranked", "kept", "__class__"] ["self", "number", "ranked", "kept"] ["__class__"] (defScope s_Lost_init) := NdefX.nscope_by (by decide +kernel)
abbrev s_Kept_init : Stmt := inClass (top 11) 0
theorem sc_Kept_init : NdefX.NScope ["self", "pages", "entries", "triples", "__class__"] ["self", "pages", "entries", "triples"] ["__class__"] (defScope s_Kept_init) := NdefX.nscope_by (by decide +kernel)
structure Adr where
  (fixed l_tray l_lift l_take l_value l_fixed l_spoil l_paper l_turned l_papers_right l_fixed_right l_kinds_right law c_Paper c_Denial c_Holds c_Broken c_Held c_Lost c_Kept i_Paper i_Holds i_Broken i_Held i_Lost i_Kept q b_Paper b_Denial : Addr)
structure Txt (K : PySem.W.Frag) (mg : Str → Option Value) (A : Adr) : Prop where
  m_fixed : mg "fixed" = some (.ref A.fixed)
  k_fixed : PySem.W.keepIn K (.ref A.fixed) = true
  F_fixed : ∃ fd, Fun K "fixed" "fixed" s_fixed A.fixed fd
  m_l_tray : mg "_law_tray" = some (.ref A.l_tray)
  k_l_tray : PySem.W.keepIn K (.ref A.l_tray) = true
  F_l_tray : ∃ fd, Fun K "_law_tray" "_law_tray" s_l_tray A.l_tray fd
  m_l_lift : mg "_law_lift" = some (.ref A.l_lift)
  k_l_lift : PySem.W.keepIn K (.ref A.l_lift) = true
  F_l_lift : ∃ fd, Fun K "_law_lift" "_law_lift" s_l_lift A.l_lift fd
  m_l_take : mg "_law_take" = some (.ref A.l_take)
  k_l_take : PySem.W.keepIn K (.ref A.l_take) = true
  F_l_take : ∃ fd, Fun K "_law_take" "_law_take" s_l_take A.l_take fd
  m_l_value : mg "_law_value" = some (.ref A.l_value)
  k_l_value : PySem.W.keepIn K (.ref A.l_value) = true
  F_l_value : ∃ fd, Fun K "_law_value" "_law_value" s_l_value A.l_value fd
  m_l_fixed : mg "_law_fixed" = some (.ref A.l_fixed)
  k_l_fixed : PySem.W.keepIn K (.ref A.l_fixed) = true
  F_l_fixed : ∃ fd, Fun K "_law_fixed" "_law_fixed" s_l_fixed A.l_fixed fd
  m_l_spoil : mg "_law_spoil" = some (.ref A.l_spoil)
  k_l_spoil : PySem.W.keepIn K (.ref A.l_spoil) = true
  F_l_spoil : ∃ fd, Fun K "_law_spoil" "_law_spoil" s_l_spoil A.l_spoil fd
  m_l_paper : mg "_law_paper" = some (.ref A.l_paper)
  k_l_paper : PySem.W.keepIn K (.ref A.l_paper) = true
  F_l_paper : ∃ fd, Fun K "_law_paper" "_law_paper" s_l_paper A.l_paper fd
  m_l_turned : mg "_law_turned" = some (.ref A.l_turned)
  k_l_turned : PySem.W.keepIn K (.ref A.l_turned) = true
  F_l_turned : ∃ fd, Fun K "_law_turned" "_law_turned" s_l_turned A.l_turned fd
  m_l_papers_right : mg "_law_papers_right" = some (.ref A.l_papers_right)
  k_l_papers_right : PySem.W.keepIn K (.ref A.l_papers_right) = true
  F_l_papers_right : ∃ fd, Fun K "_law_papers_right" "_law_papers_right" s_l_papers_right A.l_papers_right fd
  m_l_fixed_right : mg "_law_fixed_right" = some (.ref A.l_fixed_right)
  k_l_fixed_right : PySem.W.keepIn K (.ref A.l_fixed_right) = true
  F_l_fixed_right : ∃ fd, Fun K "_law_fixed_right" "_law_fixed_right" s_l_fixed_right A.l_fixed_right fd
  m_l_kinds_right : mg "_law_kinds_right" = some (.ref A.l_kinds_right)
  k_l_kinds_right : PySem.W.keepIn K (.ref A.l_kinds_right) = true
  F_l_kinds_right : ∃ fd, Fun K "_law_kinds_right" "_law_kinds_right" s_l_kinds_right A.l_kinds_right fd
  m_law : mg "law" = some (.ref A.law)
  k_law : PySem.W.keepIn K (.ref A.law) = true
  F_law : ∃ fd, Fun K "law" "law" s_law A.law fd
  m_Paper : mg "Paper" = some (.ref A.c_Paper)
  O_Paper : MyP.OwnC K A.c_Paper "Paper"
  Mk_Paper : Mk K A.c_Paper A.i_Paper
  n_Paper : ∀ f ∈ (["word", "parts"] : List PySem.Str), NoAttr K A.c_Paper f
  q_Paper : PySem.W.findIn K (.ref A.c_Paper) "__eq__" = some (some (.ref A.q))
  b_Paper : PySem.W.findIn K (.ref A.c_Paper) "__bool__" = some (some (.ref A.b_Paper)) ∧ PySem.W.isFn K (.ref A.b_Paper) = true
  kP_Paper : PySem.W.kitOne K (.ref A.c_Paper) (.ref A.c_Paper) = some true
  kD_Paper : PySem.W.kitOne K (.ref A.c_Paper) (.ref A.c_Denial) = some false
  tn_Paper : PySem.W.notFirst K A.c_Paper (.type "tuple") = true
  m_Denial : mg "Denial" = some (.ref A.c_Denial)
  O_Denial : MyP.OwnC K A.c_Denial "Denial"
  Mk_Denial : Mk K A.c_Denial A.i_Paper
  n_Denial : ∀ f ∈ (["word", "parts"] : List PySem.Str), NoAttr K A.c_Denial f
  q_Denial : PySem.W.findIn K (.ref A.c_Denial) "__eq__" = some (some (.ref A.q))
  b_Denial : PySem.W.findIn K (.ref A.c_Denial) "__bool__" = some (some (.ref A.b_Denial)) ∧ PySem.W.isFn K (.ref A.b_Denial) = true
  kP_Denial : PySem.W.kitOne K (.ref A.c_Denial) (.ref A.c_Paper) = some true
  kD_Denial : PySem.W.kitOne K (.ref A.c_Denial) (.ref A.c_Denial) = some true
  tn_Denial : PySem.W.notFirst K A.c_Denial (.type "tuple") = true
  m_Holds : mg "Holds" = some (.ref A.c_Holds)
  O_Holds : MyP.OwnC K A.c_Holds "Holds"
  Mk_Holds : Mk K A.c_Holds A.i_Holds
  n_Holds : ∀ f ∈ (["word", "parts", "triples"] : List PySem.Str), NoAttr K A.c_Holds f
  q_Holds : PySem.W.findIn K (.ref A.c_Holds) "__eq__" = some (some (.ref A.q))
  b_Holds : PySem.W.findIn K (.ref A.c_Holds) "__bool__" = some (some (.ref A.b_Paper)) ∧ PySem.W.isFn K (.ref A.b_Paper) = true
  S_Holds : MyP.SupC K A.c_Holds A.c_Holds A.i_Paper
  FC_Holds : ∃ fd, MyP.FunC K "__init__" "Holds.__init__" s_Holds_init A.i_Holds fd A.c_Holds
  kP_Holds : PySem.W.kitOne K (.ref A.c_Holds) (.ref A.c_Paper) = some true
  kD_Holds : PySem.W.kitOne K (.ref A.c_Holds) (.ref A.c_Denial) = some false
  tn_Holds : PySem.W.notFirst K A.c_Holds (.type "tuple") = true
  m_Broken : mg "Broken" = some (.ref A.c_Broken)
  O_Broken : MyP.OwnC K A.c_Broken "Broken"
  Mk_Broken : Mk K A.c_Broken A.i_Broken
  n_Broken : ∀ f ∈ (["word", "parts", "first", "states"] : List PySem.Str), NoAttr K A.c_Broken f
  q_Broken : PySem.W.findIn K (.ref A.c_Broken) "__eq__" = some (some (.ref A.q))
  b_Broken : PySem.W.findIn K (.ref A.c_Broken) "__bool__" = some (some (.ref A.b_Denial)) ∧ PySem.W.isFn K (.ref A.b_Denial) = true
  S_Broken : MyP.SupC K A.c_Broken A.c_Broken A.i_Paper
  FC_Broken : ∃ fd, MyP.FunC K "__init__" "Broken.__init__" s_Broken_init A.i_Broken fd A.c_Broken
  kP_Broken : PySem.W.kitOne K (.ref A.c_Broken) (.ref A.c_Paper) = some true
  kD_Broken : PySem.W.kitOne K (.ref A.c_Broken) (.ref A.c_Denial) = some true
  tn_Broken : PySem.W.notFirst K A.c_Broken (.type "tuple") = true
  m_Held : mg "Held" = some (.ref A.c_Held)
  O_Held : MyP.OwnC K A.c_Held "Held"
  Mk_Held : Mk K A.c_Held A.i_Held
  n_Held : ∀ f ∈ (["word", "parts", "pages", "entries"] : List PySem.Str), NoAttr K A.c_Held f
  q_Held : PySem.W.findIn K (.ref A.c_Held) "__eq__" = some (some (.ref A.q))
  b_Held : PySem.W.findIn K (.ref A.c_Held) "__bool__" = some (some (.ref A.b_Paper)) ∧ PySem.W.isFn K (.ref A.b_Paper) = true
  S_Held : MyP.SupC K A.c_Held A.c_Held A.i_Paper
  FC_Held : ∃ fd, MyP.FunC K "__init__" "Held.__init__" s_Held_init A.i_Held fd A.c_Held
  kP_Held : PySem.W.kitOne K (.ref A.c_Held) (.ref A.c_Paper) = some true
  kD_Held : PySem.W.kitOne K (.ref A.c_Held) (.ref A.c_Denial) = some false
  tn_Held : PySem.W.notFirst K A.c_Held (.type "tuple") = true
  m_Lost : mg "Lost" = some (.ref A.c_Lost)
  O_Lost : MyP.OwnC K A.c_Lost "Lost"
  Mk_Lost : Mk K A.c_Lost A.i_Lost
  n_Lost : ∀ f ∈ (["word", "parts", "number", "ranked", "kept"] : List PySem.Str), NoAttr K A.c_Lost f
  q_Lost : PySem.W.findIn K (.ref A.c_Lost) "__eq__" = some (some (.ref A.q))
  b_Lost : PySem.W.findIn K (.ref A.c_Lost) "__bool__" = some (some (.ref A.b_Denial)) ∧ PySem.W.isFn K (.ref A.b_Denial) = true
  S_Lost : MyP.SupC K A.c_Lost A.c_Lost A.i_Paper
  FC_Lost : ∃ fd, MyP.FunC K "__init__" "Lost.__init__" s_Lost_init A.i_Lost fd A.c_Lost
  kP_Lost : PySem.W.kitOne K (.ref A.c_Lost) (.ref A.c_Paper) = some true
  kD_Lost : PySem.W.kitOne K (.ref A.c_Lost) (.ref A.c_Denial) = some true
  tn_Lost : PySem.W.notFirst K A.c_Lost (.type "tuple") = true
  m_Kept : mg "Kept" = some (.ref A.c_Kept)
  O_Kept : MyP.OwnC K A.c_Kept "Kept"
  Mk_Kept : Mk K A.c_Kept A.i_Kept
  n_Kept : ∀ f ∈ (["word", "parts", "pages", "entries", "triples"] : List PySem.Str), NoAttr K A.c_Kept f
  q_Kept : PySem.W.findIn K (.ref A.c_Kept) "__eq__" = some (some (.ref A.q))
  b_Kept : PySem.W.findIn K (.ref A.c_Kept) "__bool__" = some (some (.ref A.b_Paper)) ∧ PySem.W.isFn K (.ref A.b_Paper) = true
  S_Kept : MyP.SupC K A.c_Kept A.c_Kept A.i_Paper
  FC_Kept : ∃ fd, MyP.FunC K "__init__" "Kept.__init__" s_Kept_init A.i_Kept fd A.c_Kept
  kP_Kept : PySem.W.kitOne K (.ref A.c_Kept) (.ref A.c_Paper) = some true
  kD_Kept : PySem.W.kitOne K (.ref A.c_Kept) (.ref A.c_Denial) = some false
  tn_Kept : PySem.W.notFirst K A.c_Kept (.type "tuple") = true
  isq : PySem.W.isFn K (.ref A.q) = true
  FQ : ∃ fd, Fun K "__eq__" "Paper.__eq__" s_Paper_eq A.q fd
  FI : ∃ fd, Fun K "__init__" "Paper.__init__" s_Paper_init A.i_Paper fd
  FBP : ∃ fd, Fun K "__bool__" "Paper.__bool__" s_Paper_bool A.b_Paper fd
  FBD : ∃ fd, Fun K "__bool__" "Denial.__bool__" s_Denial_bool A.b_Denial fd
  pair : ∀ C ∈ [A.c_Paper, A.c_Denial, A.c_Holds, A.c_Broken, A.c_Held, A.c_Lost, A.c_Kept], ∀ C2 ∈ [A.c_Paper, A.c_Denial, A.c_Holds, A.c_Broken, A.c_Held, A.c_Lost, A.c_Kept], MyG.PairOk K C C2
  kT : PySem.W.kitOne K (.type "tuple") (.ref A.c_Paper) = some false
  sm : ∃ o, K.lookup sysModules = some o
  S0 : MyP.Sup0 K mg
  n_len : mg "len" = none
  n_int : mg "int" = none
  n_abs : mg "abs" = none
  n_isinstance : mg "isinstance" = none
  n_range : mg "range" = none
  n_repr : mg "repr" = none
  n_tuple : mg "tuple" = none
  n_list : mg "list" = none
  n_sorted : mg "sorted" = none
  n_bool : mg "bool" = none
  n_dict : mg "dict" = none
end K02

namespace K02
open PySem PySem.Spec PyProof.Rows L2 MyL MyH He
def chk : List MyH.Chk := [fun K => (Fa.glo "fixed").ok K,
  fun K => (Fa.glo "_law_tray").ok K,
  fun K => (Fa.glo "_law_lift").ok K,
  fun K => (Fa.glo "_law_take").ok K,
  fun K => (Fa.glo "_law_value").ok K,
  fun K => (Fa.glo "_law_fixed").ok K,
  fun K => (Fa.glo "_law_spoil").ok K,
  fun K => (Fa.glo "_law_paper").ok K,
  fun K => (Fa.glo "_law_turned").ok K,
  fun K => (Fa.glo "_law_papers_right").ok K,
  fun K => (Fa.glo "_law_fixed_right").ok K,
  fun K => (Fa.glo "_law_kinds_right").ok K,
  fun K => (Fa.glo "law").ok K,
  fun K => (Fa.free "len").ok K,
  fun K => (Fa.free "int").ok K,
  fun K => (Fa.free "abs").ok K,
  fun K => (Fa.free "isinstance").ok K,
  fun K => (Fa.free "range").ok K,
  fun K => (Fa.free "repr").ok K,
  fun K => (Fa.free "tuple").ok K,
  fun K => (Fa.free "list").ok K,
  fun K => (Fa.free "sorted").ok K,
  fun K => (Fa.free "bool").ok K,
  fun K => (Fa.free "dict").ok K,
  fun K => (Fa.glo "Paper").ok K,
  fun K => MyG.ownB K (ga K "Paper") "Paper",
  fun K => MyG.mkB K (ga K "Paper") (ma K (ga K "Paper") "__init__"),
  fun K => MyG.noB K (ga K "Paper") ["word", "parts"],
  fun K => MyG.fmB K (ga K "Paper") "__eq__" (ma K (ga K "Paper") "__eq__"),
  fun K => MyG.fmB K (ga K "Paper") "__bool__" (ma K (ga K "Paper") "__bool__"),
  fun K => decide (PySem.W.kitOne K (.ref (ga K "Paper")) (.ref (ga K "Paper")) = some true),
  fun K => decide (PySem.W.kitOne K (.ref (ga K "Paper")) (.ref (ga K "Denial")) = some false),
  fun K => PySem.W.notFirst K (ga K "Paper") (.type "tuple"),
  fun K => (Fa.glo "Denial").ok K,
  fun K => MyG.ownB K (ga K "Denial") "Denial",
  fun K => MyG.mkB K (ga K "Denial") (ma K (ga K "Paper") "__init__"),
  fun K => MyG.noB K (ga K "Denial") ["word", "parts"],
  fun K => MyG.fmB K (ga K "Denial") "__eq__" (ma K (ga K "Paper") "__eq__"),
  fun K => MyG.fmB K (ga K "Denial") "__bool__" (ma K (ga K "Denial") "__bool__"),
  fun K => decide (PySem.W.kitOne K (.ref (ga K "Denial")) (.ref (ga K "Paper")) = some true),
  fun K => decide (PySem.W.kitOne K (.ref (ga K "Denial")) (.ref (ga K "Denial")) = some true),
  fun K => PySem.W.notFirst K (ga K "Denial") (.type "tuple"),
  fun K => (Fa.glo "Holds").ok K,
  fun K => MyG.ownB K (ga K "Holds") "Holds",
  fun K => MyG.mkB K (ga K "Holds") (ma K (ga K "Holds") "__init__"),
  fun K => MyG.noB K (ga K "Holds") ["word", "parts", "triples"],
  fun K => MyG.fmB K (ga K "Holds") "__eq__" (ma K (ga K "Paper") "__eq__"),
  fun K => MyG.fmB K (ga K "Holds") "__bool__" (ma K (ga K "Paper") "__bool__"),
  fun K => MyG.supB K (ga K "Holds") (ga K "Holds") (ma K (ga K "Paper") "__init__"),
  fun K => decide (PySem.W.kitOne K (.ref (ga K "Holds")) (.ref (ga K "Paper")) = some true),
  fun K => decide (PySem.W.kitOne K (.ref (ga K "Holds")) (.ref (ga K "Denial")) = some false),
  fun K => PySem.W.notFirst K (ga K "Holds") (.type "tuple"),
  fun K => (Fa.glo "Broken").ok K,
  fun K => MyG.ownB K (ga K "Broken") "Broken",
  fun K => MyG.mkB K (ga K "Broken") (ma K (ga K "Broken") "__init__"),
  fun K => MyG.noB K (ga K "Broken") ["word", "parts", "first", "states"],
  fun K => MyG.fmB K (ga K "Broken") "__eq__" (ma K (ga K "Paper") "__eq__"),
  fun K => MyG.fmB K (ga K "Broken") "__bool__" (ma K (ga K "Denial") "__bool__"),
  fun K => MyG.supB K (ga K "Broken") (ga K "Broken") (ma K (ga K "Paper") "__init__"),
  fun K => decide (PySem.W.kitOne K (.ref (ga K "Broken")) (.ref (ga K "Paper")) = some true),
  fun K => decide (PySem.W.kitOne K (.ref (ga K "Broken")) (.ref (ga K "Denial")) = some true),
  fun K => PySem.W.notFirst K (ga K "Broken") (.type "tuple"),
  fun K => (Fa.glo "Held").ok K,
  fun K => MyG.ownB K (ga K "Held") "Held",
  fun K => MyG.mkB K (ga K "Held") (ma K (ga K "Held") "__init__"),
  fun K => MyG.noB K (ga K "Held") ["word", "parts", "pages", "entries"],
  fun K => MyG.fmB K (ga K "Held") "__eq__" (ma K (ga K "Paper") "__eq__"),
  fun K => MyG.fmB K (ga K "Held") "__bool__" (ma K (ga K "Paper") "__bool__"),
  fun K => MyG.supB K (ga K "Held") (ga K "Held") (ma K (ga K "Paper") "__init__"),
  fun K => decide (PySem.W.kitOne K (.ref (ga K "Held")) (.ref (ga K "Paper")) = some true),
  fun K => decide (PySem.W.kitOne K (.ref (ga K "Held")) (.ref (ga K "Denial")) = some false),
  fun K => PySem.W.notFirst K (ga K "Held") (.type "tuple"),
  fun K => (Fa.glo "Lost").ok K,
  fun K => MyG.ownB K (ga K "Lost") "Lost",
  fun K => MyG.mkB K (ga K "Lost") (ma K (ga K "Lost") "__init__"),
  fun K => MyG.noB K (ga K "Lost") ["word", "parts", "number", "ranked", "kept"],
  fun K => MyG.fmB K (ga K "Lost") "__eq__" (ma K (ga K "Paper") "__eq__"),
  fun K => MyG.fmB K (ga K "Lost") "__bool__" (ma K (ga K "Denial") "__bool__"),
  fun K => MyG.supB K (ga K "Lost") (ga K "Lost") (ma K (ga K "Paper") "__init__"),
  fun K => decide (PySem.W.kitOne K (.ref (ga K "Lost")) (.ref (ga K "Paper")) = some true),
  fun K => decide (PySem.W.kitOne K (.ref (ga K "Lost")) (.ref (ga K "Denial")) = some true),
  fun K => PySem.W.notFirst K (ga K "Lost") (.type "tuple"),
  fun K => (Fa.glo "Kept").ok K,
  fun K => MyG.ownB K (ga K "Kept") "Kept",
  fun K => MyG.mkB K (ga K "Kept") (ma K (ga K "Kept") "__init__"),
  fun K => MyG.noB K (ga K "Kept") ["word", "parts", "pages", "entries", "triples"],
  fun K => MyG.fmB K (ga K "Kept") "__eq__" (ma K (ga K "Paper") "__eq__"),
  fun K => MyG.fmB K (ga K "Kept") "__bool__" (ma K (ga K "Paper") "__bool__"),
  fun K => MyG.supB K (ga K "Kept") (ga K "Kept") (ma K (ga K "Paper") "__init__"),
  fun K => decide (PySem.W.kitOne K (.ref (ga K "Kept")) (.ref (ga K "Paper")) = some true),
  fun K => decide (PySem.W.kitOne K (.ref (ga K "Kept")) (.ref (ga K "Denial")) = some false),
  fun K => PySem.W.notFirst K (ga K "Kept") (.type "tuple"),
  fun K => MyG.fmB K (ga K "Paper") "__eq__" (ma K (ga K "Paper") "__eq__"),
  fun K => MyG.pairsB K [ga K "Paper", ga K "Denial", ga K "Holds", ga K "Broken", ga K "Held", ga K "Lost", ga K "Kept"],
  fun K => decide (PySem.W.kitOne K (.type "tuple") (.ref (ga K "Paper")) = some false),
  fun K => MyG.smB K,
  fun K => (Fa.free "super").ok K,
  fun K => MyG.opB K]
def fns : List He.FnD := [⟨("fixed", none), "fixed", "fixed", defArgs s_fixed, defBody s_fixed, defScope s_fixed⟩,
  ⟨("_law_tray", none), "_law_tray", "_law_tray", defArgs s_l_tray, defBody s_l_tray, defScope s_l_tray⟩,
  ⟨("_law_lift", none), "_law_lift", "_law_lift", defArgs s_l_lift, defBody s_l_lift, defScope s_l_lift⟩,
  ⟨("_law_take", none), "_law_take", "_law_take", defArgs s_l_take, defBody s_l_take, defScope s_l_take⟩,
  ⟨("_law_value", none), "_law_value", "_law_value", defArgs s_l_value, defBody s_l_value, defScope s_l_value⟩,
  ⟨("_law_fixed", none), "_law_fixed", "_law_fixed", defArgs s_l_fixed, defBody s_l_fixed, defScope s_l_fixed⟩,
  ⟨("_law_spoil", none), "_law_spoil", "_law_spoil", defArgs s_l_spoil, defBody s_l_spoil, defScope s_l_spoil⟩,
  ⟨("_law_paper", none), "_law_paper", "_law_paper", defArgs s_l_paper, defBody s_l_paper, defScope s_l_paper⟩,
  ⟨("_law_turned", none), "_law_turned", "_law_turned", defArgs s_l_turned, defBody s_l_turned, defScope s_l_turned⟩,
  ⟨("_law_papers_right", none), "_law_papers_right", "_law_papers_right", defArgs s_l_papers_right, defBody s_l_papers_right, defScope s_l_papers_right⟩,
  ⟨("_law_fixed_right", none), "_law_fixed_right", "_law_fixed_right", defArgs s_l_fixed_right, defBody s_l_fixed_right, defScope s_l_fixed_right⟩,
  ⟨("_law_kinds_right", none), "_law_kinds_right", "_law_kinds_right", defArgs s_l_kinds_right, defBody s_l_kinds_right, defScope s_l_kinds_right⟩,
  ⟨("law", none), "law", "law", defArgs s_law, defBody s_law, defScope s_law⟩,
  ⟨("Paper", some "__eq__"), "__eq__", "Paper.__eq__", defArgs s_Paper_eq, defBody s_Paper_eq, defScope s_Paper_eq⟩,
  ⟨("Paper", some "__init__"), "__init__", "Paper.__init__", defArgs s_Paper_init, defBody s_Paper_init, defScope s_Paper_init⟩,
  ⟨("Paper", some "__bool__"), "__bool__", "Paper.__bool__", defArgs s_Paper_bool, defBody s_Paper_bool, defScope s_Paper_bool⟩,
  ⟨("Denial", some "__bool__"), "__bool__", "Denial.__bool__", defArgs s_Denial_bool, defBody s_Denial_bool, defScope s_Denial_bool⟩]
def adr (K : PySem.W.Frag) : Adr := ⟨ga K "fixed", ga K "_law_tray", ga K "_law_lift", ga K "_law_take", ga K "_law_value", ga K "_law_fixed", ga K "_law_spoil", ga K "_law_paper", ga K "_law_turned", ga K "_law_papers_right", ga K "_law_fixed_right", ga K "_law_kinds_right", ga K "law", ga K "Paper", ga K "Denial", ga K "Holds", ga K "Broken", ga K "Held", ga K "Lost", ga K "Kept", ma K (ga K "Paper") "__init__", ma K (ga K "Holds") "__init__", ma K (ga K "Broken") "__init__", ma K (ga K "Held") "__init__", ma K (ga K "Lost") "__init__", ma K (ga K "Kept") "__init__", ma K (ga K "Paper") "__eq__", ma K (ga K "Paper") "__bool__", ma K (ga K "Denial") "__bool__"⟩
def fcs : List MyG.FnC := [⟨⟨("Holds", some "__init__"), "__init__", "Holds.__init__", defArgs s_Holds_init, defBody s_Holds_init, defScope s_Holds_init⟩, "Holds"⟩,
  ⟨⟨("Broken", some "__init__"), "__init__", "Broken.__init__", defArgs s_Broken_init, defBody s_Broken_init, defScope s_Broken_init⟩, "Broken"⟩,
  ⟨⟨("Held", some "__init__"), "__init__", "Held.__init__", defArgs s_Held_init, defBody s_Held_init, defScope s_Held_init⟩, "Held"⟩,
  ⟨⟨("Lost", some "__init__"), "__init__", "Lost.__init__", defArgs s_Lost_init, defBody s_Lost_init, defScope s_Lost_init⟩, "Lost"⟩,
  ⟨⟨("Kept", some "__init__"), "__init__", "Kept.__init__", defArgs s_Kept_init, defBody s_Kept_init, defScope s_Kept_init⟩, "Kept"⟩]
theorem txt_of {K : PySem.W.Frag} {h : Heap} {mg : Str → Option Value} (X : K.In h) (G : h.Ns mainGlobals mg) (c : MyG.SaysP chk fns fcs K) : Txt K mg (adr K) where
  m_fixed := glo_ok X G (c.fact 0)
  k_fixed := by
    obtain ⟨_, F⟩ := c.def_ 0 (st := s_fixed)
    exact F.kp
  F_fixed := c.def_ 0 (st := s_fixed)
  m_l_tray := glo_ok X G (c.fact 1)
  k_l_tray := by
    obtain ⟨_, F⟩ := c.def_ 1 (st := s_l_tray)
    exact F.kp
  F_l_tray := c.def_ 1 (st := s_l_tray)
  m_l_lift := glo_ok X G (c.fact 2)
  k_l_lift := by
    obtain ⟨_, F⟩ := c.def_ 2 (st := s_l_lift)
    exact F.kp
  F_l_lift := c.def_ 2 (st := s_l_lift)
  m_l_take := glo_ok X G (c.fact 3)
  k_l_take := by
    obtain ⟨_, F⟩ := c.def_ 3 (st := s_l_take)
    exact F.kp
  F_l_take := c.def_ 3 (st := s_l_take)
  m_l_value := glo_ok X G (c.fact 4)
  k_l_value := by
    obtain ⟨_, F⟩ := c.def_ 4 (st := s_l_value)
    exact F.kp
  F_l_value := c.def_ 4 (st := s_l_value)
  m_l_fixed := glo_ok X G (c.fact 5)
  k_l_fixed := by
    obtain ⟨_, F⟩ := c.def_ 5 (st := s_l_fixed)
    exact F.kp
  F_l_fixed := c.def_ 5 (st := s_l_fixed)
  m_l_spoil := glo_ok X G (c.fact 6)
  k_l_spoil := by
    obtain ⟨_, F⟩ := c.def_ 6 (st := s_l_spoil)
    exact F.kp
  F_l_spoil := c.def_ 6 (st := s_l_spoil)
  m_l_paper := glo_ok X G (c.fact 7)
  k_l_paper := by
    obtain ⟨_, F⟩ := c.def_ 7 (st := s_l_paper)
    exact F.kp
  F_l_paper := c.def_ 7 (st := s_l_paper)
  m_l_turned := glo_ok X G (c.fact 8)
  k_l_turned := by
    obtain ⟨_, F⟩ := c.def_ 8 (st := s_l_turned)
    exact F.kp
  F_l_turned := c.def_ 8 (st := s_l_turned)
  m_l_papers_right := glo_ok X G (c.fact 9)
  k_l_papers_right := by
    obtain ⟨_, F⟩ := c.def_ 9 (st := s_l_papers_right)
    exact F.kp
  F_l_papers_right := c.def_ 9 (st := s_l_papers_right)
  m_l_fixed_right := glo_ok X G (c.fact 10)
  k_l_fixed_right := by
    obtain ⟨_, F⟩ := c.def_ 10 (st := s_l_fixed_right)
    exact F.kp
  F_l_fixed_right := c.def_ 10 (st := s_l_fixed_right)
  m_l_kinds_right := glo_ok X G (c.fact 11)
  k_l_kinds_right := by
    obtain ⟨_, F⟩ := c.def_ 11 (st := s_l_kinds_right)
    exact F.kp
  F_l_kinds_right := c.def_ 11 (st := s_l_kinds_right)
  m_law := glo_ok X G (c.fact 12)
  k_law := by
    obtain ⟨_, F⟩ := c.def_ 12 (st := s_law)
    exact F.kp
  F_law := c.def_ 12 (st := s_law)
  n_len := free_ok X G (c.fact 13)
  n_int := free_ok X G (c.fact 14)
  n_abs := free_ok X G (c.fact 15)
  n_isinstance := free_ok X G (c.fact 16)
  n_range := free_ok X G (c.fact 17)
  n_repr := free_ok X G (c.fact 18)
  n_tuple := free_ok X G (c.fact 19)
  n_list := free_ok X G (c.fact 20)
  n_sorted := free_ok X G (c.fact 21)
  n_bool := free_ok X G (c.fact 22)
  n_dict := free_ok X G (c.fact 23)
  m_Paper := glo_ok X G (c.fact 24)
  O_Paper := MyG.ownB_ok (c.fact 25)
  Mk_Paper := MyG.mkB_ok (c.fact 26)
  n_Paper := MyG.noB_ok (c.fact 27)
  q_Paper := (MyG.fmB_ok (c.fact 28)).1
  b_Paper := MyG.fmB_ok (c.fact 29)
  kP_Paper := of_decide_eq_true (c.fact 30)
  kD_Paper := of_decide_eq_true (c.fact 31)
  tn_Paper := (c.fact 32)
  m_Denial := glo_ok X G (c.fact 33)
  O_Denial := MyG.ownB_ok (c.fact 34)
  Mk_Denial := MyG.mkB_ok (c.fact 35)
  n_Denial := MyG.noB_ok (c.fact 36)
  q_Denial := (MyG.fmB_ok (c.fact 37)).1
  b_Denial := MyG.fmB_ok (c.fact 38)
  kP_Denial := of_decide_eq_true (c.fact 39)
  kD_Denial := of_decide_eq_true (c.fact 40)
  tn_Denial := (c.fact 41)
  m_Holds := glo_ok X G (c.fact 42)
  O_Holds := MyG.ownB_ok (c.fact 43)
  Mk_Holds := MyG.mkB_ok (c.fact 44)
  n_Holds := MyG.noB_ok (c.fact 45)
  q_Holds := (MyG.fmB_ok (c.fact 46)).1
  b_Holds := MyG.fmB_ok (c.fact 47)
  S_Holds := MyG.supB_ok (c.fact 48)
  FC_Holds := c.cdef 0 (st := s_Holds_init)
  kP_Holds := of_decide_eq_true (c.fact 49)
  kD_Holds := of_decide_eq_true (c.fact 50)
  tn_Holds := (c.fact 51)
  m_Broken := glo_ok X G (c.fact 52)
  O_Broken := MyG.ownB_ok (c.fact 53)
  Mk_Broken := MyG.mkB_ok (c.fact 54)
  n_Broken := MyG.noB_ok (c.fact 55)
  q_Broken := (MyG.fmB_ok (c.fact 56)).1
  b_Broken := MyG.fmB_ok (c.fact 57)
  S_Broken := MyG.supB_ok (c.fact 58)
  FC_Broken := c.cdef 1 (st := s_Broken_init)
  kP_Broken := of_decide_eq_true (c.fact 59)
  kD_Broken := of_decide_eq_true (c.fact 60)
  tn_Broken := (c.fact 61)
  m_Held := glo_ok X G (c.fact 62)
  O_Held := MyG.ownB_ok (c.fact 63)
  Mk_Held := MyG.mkB_ok (c.fact 64)
  n_Held := MyG.noB_ok (c.fact 65)
  q_Held := (MyG.fmB_ok (c.fact 66)).1
  b_Held := MyG.fmB_ok (c.fact 67)
  S_Held := MyG.supB_ok (c.fact 68)
  FC_Held := c.cdef 2 (st := s_Held_init)
  kP_Held := of_decide_eq_true (c.fact 69)
  kD_Held := of_decide_eq_true (c.fact 70)
  tn_Held := (c.fact 71)
  m_Lost := glo_ok X G (c.fact 72)
  O_Lost := MyG.ownB_ok (c.fact 73)
  Mk_Lost := MyG.mkB_ok (c.fact 74)
  n_Lost := MyG.noB_ok (c.fact 75)
  q_Lost := (MyG.fmB_ok (c.fact 76)).1
  b_Lost := MyG.fmB_ok (c.fact 77)
  S_Lost := MyG.supB_ok (c.fact 78)
  FC_Lost := c.cdef 3 (st := s_Lost_init)
  kP_Lost := of_decide_eq_true (c.fact 79)
  kD_Lost := of_decide_eq_true (c.fact 80)
  tn_Lost := (c.fact 81)
  m_Kept := glo_ok X G (c.fact 82)
  O_Kept := MyG.ownB_ok (c.fact 83)
  Mk_Kept := MyG.mkB_ok (c.fact 84)
  n_Kept := MyG.noB_ok (c.fact 85)
  q_Kept := (MyG.fmB_ok (c.fact 86)).1
  b_Kept := MyG.fmB_ok (c.fact 87)
  S_Kept := MyG.supB_ok (c.fact 88)
  FC_Kept := c.cdef 4 (st := s_Kept_init)
  kP_Kept := of_decide_eq_true (c.fact 89)
  kD_Kept := of_decide_eq_true (c.fact 90)
  tn_Kept := (c.fact 91)
  isq := (MyG.fmB_ok (c.fact 92)).2
  FQ := c.def_ 13 (st := s_Paper_eq)
  FI := c.def_ 14 (st := s_Paper_init)
  FBP := c.def_ 15 (st := s_Paper_bool)
  FBD := c.def_ 16 (st := s_Denial_bool)
  pair := MyG.pairsB_ok (c.fact 93)
  kT := of_decide_eq_true (c.fact 94)
  sm := MyG.smB_ok (c.fact 95)
  S0 := ⟨free_ok X G (c.fact 96), eqO_ok (c.fact 97)⟩
def loose0 : List PySem.Str := ["fixed", "Paper", "Denial", "Holds", "Broken", "Held", "Lost", "Kept", "_law_tray", "_law_lift", "_law_take", "_law_value", "_law_fixed", "_law_spoil", "_law_paper", "_law_turned", "_law_papers_right", "_law_fixed_right", "_law_kinds_right"]
def loose : List PySem.Str := loose0
abbrev lawAt : Nat := 24
abbrev R : PySem.W.OpenRow := PySem.W.OpenLaw.row PySem.Challenge.rw_dimkeeper_k02_papers_keep_what_they_tell
abbrev hk : PySem.W.Hook := MyG.hookP 5 chk fns fcs
def ob (s : PySem.W.SharedT) : MyG.AlP := MyG.obsPG 5 chk fns fcs (HandSHeadRun.getT s)
theorem ob_eq (s : PySem.W.SharedT) : ob s = hk.obs s.abs := MyG.obsPG_eq (HandSHeadRun.getT_eq s)
theorem run (w : World) : HandSHeadRun.RunEq R (PySem.W.view R.prog [lawAt]) hk ob 6000 loose w := by
  intro os
  kernel_rfl
end K02

namespace K02
open PySem PySem.Spec PyProof.Rows L2 MyL
section
variable {P : Program} {w : World} {K : PySem.W.Frag} {mg : Str → Option Value} {base : Heap} {A : Adr}
local macro_rules | `(tactic| walk_at "sames") => `(tactic| repeat (first
  | exact Same.refl _
  | refine Same.new ?_ (by assumption)
  | refine Same.trans ?_ (by assumption)))
local macro_rules | `(tactic| walk_at "ne") => `(tactic| first
  | assumption
  | exact Ne.symm (by assumption)
  | exact ne_new (by assumption) (by walk_at "look")
  | exact ne_new' (by assumption) (by walk_at "look")
  | exact ne_of (by walk_at "look") (by walk_at "look") (by intro z; cases z))
local macro_rules | `(tactic| walk_at "look") => `(tactic| first
  | assumption
  | exact upd_same
  | (refine upd_new (by assumption) ?_
     walk_at "look")
  | (refine (upd_ne ?_).trans ?_
     · walk_at "ne"
     · walk_at "look")
  | (refine Kp.get (by assumption) ?_ ?_
     · walk_at "ne"
     · walk_at "look")
  | (refine Same.get (by assumption) ?_
     walk_at "look"))
local macro_rules | `(tactic| walk_at "lenv") => `(tactic| first
  | exact Or.inl ⟨_, SqL.of (by walk_at "look"), rfl⟩
  | exact Or.inr ⟨_, SqT.of (by walk_at "look"), rfl⟩
  | exact ⟨line_le (by omega), rfl⟩)
local macro_rules | `(tactic| walk_at "cond") => `(tactic| first
  | assumption
  | rfl
  | exact Nat.zero_le _
  | exact Nat.le_of_ble_eq_true rfl
  | decide
  | omega
  | exact line_lt (by (try simp only [List.length_map, List.length_append, List.length_cons, List.length_nil]); omega)
  | exact line_le (by (try simp only [List.length_map, List.length_append, List.length_cons, List.length_nil]); omega)
  | (dsimp only; omega)
  | exact ⟨by decide, by decide⟩
  | exact ⟨by decide, by decide, by decide⟩
  | exact Or.inl ⟨by decide, by decide⟩
  | exact Or.inl ⟨by omega, by omega⟩
  | exact Or.inr ⟨by omega, by omega⟩)
local macro_rules | `(tactic| walk_at "kit") => `(tactic| first | assumption | exact kit_NoneType_int | exact kit_NoneType_bool | exact kit_NoneType_str | exact kit_NoneType_list | exact kit_NoneType_tuple | exact kit_NoneType_dict | exact kit_bool_int | exact kit_bool_bool | exact kit_bool_str | exact kit_bool_list | exact kit_bool_tuple | exact kit_bool_dict | exact kit_int_int | exact kit_int_bool | exact kit_int_str | exact kit_int_list | exact kit_int_tuple | exact kit_int_dict | exact kit_str_int | exact kit_str_bool | exact kit_str_str | exact kit_str_list | exact kit_str_tuple | exact kit_str_dict | exact kit_list_int | exact kit_list_bool | exact kit_list_str | exact kit_list_list | exact kit_list_tuple | exact kit_list_dict | exact kit_tuple_int | exact kit_tuple_bool | exact kit_tuple_str | exact kit_tuple_list | exact kit_tuple_tuple | exact kit_tuple_dict | exact kit_dict_int | exact kit_dict_bool | exact kit_dict_str | exact kit_dict_list | exact kit_dict_tuple | exact kit_dict_dict)
local macro_rules | `(tactic| walk_at "ty") => `(tactic| first | assumption | exact tyx_str | exact tyx_int | exact tyx_bl | exact tyx_non | exact tyx_lst (by walk_at "look") | exact tyx_tup (by walk_at "look") | exact tyx_dK (by walk_at "look"))
local macro_rules | `(tactic| walk_at "s") => `(tactic| first
  | refine ⟨_, rfl, ?_⟩
  | refine ⟨_, _, rfl, rfl, ?_⟩
  | refine ⟨_, _, _, _, rfl, rfl, SqL.of (by walk_at "look"), by rfl, ?_⟩
  | refine ⟨_, _, _, _, rfl, rfl, SqT.of (by walk_at "look"), by rfl, ?_⟩
  | refine ⟨_, _, _, _, rfl, rfl, by walk_at "look", by rfl, ?_⟩
  | refine ⟨_, _, rfl, by walk_at "lenv", ?_⟩
  | refine Or.inl ⟨_, rfl, ?_⟩
  | refine ⟨_, _, _, _, _, rfl, ClsV.ty _, by walk_at "ty", by walk_at "kit", ?_⟩
  | refine And.intro (by walk_at "cond") ?_
  | refine ⟨_, _, rfl, SqT.of (by walk_at "look"), rfl, ?_⟩
  | refine ⟨_, _, rfl, SqL.of (by walk_at "look"), rfl, ?_⟩
  | refine And.intro (Or.inl ⟨rfl, _, SqL.of (by walk_at "look")⟩) ?_
  | refine ⟨_, _, _, rfl, rfl, by walk_at "look", by walk_at "cond", ?_⟩
  | refine ⟨_, _, _, _, rfl, rfl, by walk_at "look", by walk_at "look", by walk_at "cond", ?_⟩
  | refine And.intro ⟨_, rfl⟩ ?_
  | refine And.intro ⟨_, SqL.of (by walk_at "look")⟩ ?_
  | refine ⟨_, _, rfl, SqL.of (by walk_at "look"), ?_⟩
  | refine ⟨_, _, rfl, (by assumption : SqL _ _ _ _), ?_⟩
  | refine ⟨_, by walk_at "look", by walk_at "cond", ?_⟩
  | refine ⟨_, _, rfl, Or.inr (SqT.of (by walk_at "look")), ?_⟩
  | refine ⟨_, _, rfl, Or.inl (SqL.of (by walk_at "look")), ?_⟩
  | refine ⟨_, _, rfl, ?_⟩
  | refine ⟨_, _, _, rfl, by walk_at "look", by assumption, ?_⟩
  | refine ⟨_, _, true, _, _, rfl, rfl, ClsV.own _, kit_own (by assumption) (by assumption), rfl, by walk_at "look", ?_⟩
  | refine ⟨_, _, _, _, rfl, ErAt.same (by assumption) (by walk_at "sames"), by assumption, by assumption, ?_⟩
  | refine ⟨_, _, _, _, rfl, ErAt.same (by assumption) (by walk_at "sames"), by assumption, by assumption, by assumption, ?_⟩
  | refine if_t (by first | rfl | assumption | decide) ?_
  | refine if_f (by assumption) ?_
  | refine if_f (by first | decide | exact Bool.false_ne_true) ?_
  | refine fun (_ : _ ≠ sysModules) => ?_
  | refine fun (_ : ErAt _ _ _ _) => ?_
  | refine fun _ _ => ?_)

theorem ok_l_lift (T : Txt K mg A) : FnG P w K mg base CX0 1 A.l_lift spDip := by
  obtain ⟨fd, F⟩ := T.F_l_lift
  refine Fun_okN F sc_l_lift (fun vs H Q E h => ?_) (fun _ _ _ _ _ _ us hl => match us, hl with | [_, _], _ => rfl) (fun cdv A' outer s H vs Q E hr hg h => ?_)
  · obtain ⟨_, _, _, rfl, _⟩ := h
    rfl
  obtain ⟨⟨a, c, cs⟩, many, n, rfl, ⟨b, r, ha, hc, hne, hlen, hb0, hbn⟩, hn, hm0, hm1, q⟩ := h
  dsimp only at ha hc hne hlen q ⊢
  refine ⟨_, ((pss_cons (ps_if (pt_cmpR op_gt (pe_ix ix_list (pv 0) pe_int (fun _ _ => rfl)) pe_int (nomark _)) (pss_cons (ps_set (i := 2) sc_l_lift.nd rfl (Or.inl rfl) (pe_ix ix_list (pv 0) pe_int (fun _ _ => rfl)))
    (pss_cons (ps_asg (pe_op op_fdivW (pe_callTy call_int1 (by rfl) T.n_int (by decide +kernel) (pa_cons (pv 2) pa_nil)) (pv 1)) (pg_sub (pv 0) pe_int set_list))
    (pss_one (ps_ret (pe_op op_mod (pe_callTy call_int1 (by rfl) T.n_int (by decide +kernel) (pa_cons (pv 2) pa_nil)) (pv 1)))))) pss_nil)
    (pss_cons (ps_set (i := 3) sc_l_lift.nd rfl (Or.inl rfl) (pe_ix ix_list (pv 0) pe_int (fun _ _ => rfl)))
    (pss_cons (ps_asg (pe_op op_add (pv 3) pe_int) (pg_sub (pv 0) pe_int set_list))
    (pss_cons (ps_set (i := 4) sc_l_lift.nd rfl (Or.inl rfl) (pe_op op_add (pe_op op_mul pe_int (pv 3)) pe_int))
    (pss_cons (ps_if (pt_cmpR (op_neD hr.units) (pe_ix ix_list (pv 0) pe_int (fun _ _ => rfl)) (pe_lst pa_nil) (nomark _)) (pss_one (ps_set (i := 4) sc_l_lift.nd rfl (Or.inl rfl) (pe_ix ix_list (pe_ix ix_list (pv 0) pe_int (fun _ _ => rfl)) (pe_op op_mod (pe_callTy call_int1 (by rfl) T.n_int (by decide +kernel) (pa_cons (pv 3) pa_nil)) (pe_callB call_len (by rfl) T.n_len (by decide +kernel) (pa_cons (pe_ix ix_list (pv 0) pe_int (fun _ _ => rfl)) pa_nil))) (fun _ _ => rfl)))) pss_nil)
    (pss_cons (ps_if (PW.pt (pw_and (pt_cmpR op_lt (pv 3) (pe_callB call_len (by rfl) T.n_len (by decide +kernel) (pa_cons (pe_ix ix_list (pv 0) pe_int (fun _ _ => rfl)) pa_nil)) (nomark _)) (pw_and1 (pt_cmpR op_ge (pe_callB call_abs (by rfl) T.n_abs (by decide +kernel) (pa_cons (pv 4) pa_nil)) (pe_op op_pow pe_int pe_int) (nomark _))))) (pss_cons (ps_set (i := 2) sc_l_lift.nd rfl (Or.inl rfl) (pe_op op_sub (pe_callB call_abs (by rfl) T.n_abs (by decide +kernel) (pa_cons (pv 4) pa_nil)) (pe_op op_pow pe_int pe_int)))
    (pss_cons (ps_asg (pe_op op_fdivW (pe_callTy call_int1 (by rfl) T.n_int (by decide +kernel) (pa_cons (pv 2) pa_nil)) (pv 1)) (pg_sub (pv 0) pe_int set_list))
    (pss_one (ps_ret (pe_op op_mod (pe_callTy call_int1 (by rfl) T.n_int (by decide +kernel) (pa_cons (pv 2) pa_nil)) (pv 1)))))) pss_nil)
    (pss_cons (ps_set (i := 5) sc_l_lift.nd rfl (Or.inl rfl) (pe_op op_mod (pe_callTy call_int1 (by rfl) T.n_int (by decide +kernel) (pa_cons (pe_op op_pow (pe_op op_add (pe_op op_add (pe_op op_mod (pe_callTy call_int1 (by rfl) T.n_int (by decide +kernel) (pa_cons (pv 4) pa_nil)) pe_int) (pe_op op_mul pe_int (pv 3))) pe_int) pe_int) pa_nil)) pe_int))
    (pss_cons (ps_set (i := 5) sc_l_lift.nd rfl (Or.inl rfl) (pe_op op_mod (pe_callTy call_int1 (by rfl) T.n_int (by decide +kernel) (pa_cons (pe_op op_pow (pe_op op_add (pe_op op_add (pe_op op_mul (pv 5) (pe_op op_add (pe_op op_mul pe_int (pv 3)) pe_int)) (pe_op op_mul (pe_op op_mul pe_int (pv 3)) (pv 3))) pe_int) pe_int) pa_nil)) pe_int))
    (pss_one (ps_ret (pe_op op_mod (pe_callTy call_int1 (by rfl) T.n_int (by decide +kernel) (pa_cons (pe_op op_fdivW (pv 5) pe_int) pa_nil)) (pv 1))))))))))))), ?_⟩
  have hw : CDivW r many := wide_div hm0 hm1 (by decide) (by decide)
  repeat walk_at "s"
  refine ite2 (fun c1 => ?_) (fun c1 => ?_)
  · repeat walk_at "s"
    exact q _ _ (Int.emod_nonneg _ (by omega)) (Int.emod_lt_of_pos _ hm0) ⟨b, _, upd_same, by walk_at "look", hne, hlen, hb0, by omega⟩ (Kp.refl _ _).put
  · repeat walk_at "s"
    refine ⟨.list (cs.map PyData.int), .list [], .lst (SqL.of (by walk_at "look")) (dpAll_ints cs), .lst (SqL.of upd_same) .nil, shaped_ints cs, shaped_nil, ?_⟩
    rw [eqv_nil]
    repeat walk_at "s"
    refine ite2 (fun c2 => ?_) (fun c2 => ?_)
    · have hp : 0 < (cs.map V.int).length := by
        rw [List.length_map]
        cases cs with
        | nil => simp at c2
        | cons _ _ => exact Nat.succ_pos _
      have hp' : (0 : Int) < ((cs.map V.int).length : Int) := by omega
      obtain ⟨j, x, hj, hx⟩ := at_mod_ints (cs := cs) b (by simpa using hp)
      repeat walk_at "s"
      refine ⟨_, _, _, _, rfl, rfl, SqL.of (by walk_at "look"), hx, ?_⟩
      have hp5 : CPow (x % 2147483543 + 61027 * b + 641) 5 := ⟨by decide, by decide, draw_one (by omega) (by omega) hb0 (by omega) (by decide) (by decide) (by decide) (by decide)⟩
      have hp3 : CPow ((x % 2147483543 + 61027 * b + 641) ^ (5 : Int).toNat % 2147483647 * (2 * b + 1301) + 28279 * b * b + 641) 3 := ⟨by decide, by decide, draw_two (by omega) (by omega) hb0 (by omega) (by decide) (by decide) (by decide) (by decide)⟩
      repeat walk_at "s"
      refine ite2 (fun c3 => ?_) (fun c3 => ?_)
      · repeat walk_at "s"
        refine ite2 (fun c4 => ?_) (fun c4 => ?_)
        · have hw2 : CDivW ((if x < 0 then -x else x) - 10 ^ (18 : Int).toNat) many := wide_div hm0 hm1 (by decide) (by decide)
          repeat walk_at "s"
          exact q _ _ (Int.emod_nonneg _ (by omega)) (Int.emod_lt_of_pos _ hm0) ⟨b + 1, _, upd_same, by walk_at "look", hne, hlen, by omega, by omega⟩ (((Kp.refl _ _).put.new (by assumption)).put)
        · repeat walk_at "s"
          exact q _ _ (Int.emod_nonneg _ (by omega)) (Int.emod_lt_of_pos _ hm0) ⟨b + 1, _, by walk_at "look", by walk_at "look", hne, hlen, by omega, by omega⟩ ((Kp.refl _ _).put.new (by assumption))
      · repeat walk_at "s"
        exact q _ _ (Int.emod_nonneg _ (by omega)) (Int.emod_lt_of_pos _ hm0) ⟨b + 1, _, by walk_at "look", by walk_at "look", hne, hlen, by omega, by omega⟩ ((Kp.refl _ _).put.new (by assumption))
    · have hp0 : (cs.map V.int).length = 0 := by
        cases cs with
        | nil => rfl
        | cons _ _ => simp at c2
      repeat walk_at "s"
      refine ite2 (fun c3 => ?_) (fun c3 => ?_)
      · exfalso
        have := of_decide_eq_true c3
        omega
      · have hp5 : CPow ((28279 * b + 641) % 2147483543 + 61027 * b + 641) 5 := ⟨by decide, by decide, draw_one (by omega) (by omega) hb0 (by omega) (by decide) (by decide) (by decide) (by decide)⟩
        have hp3 : CPow (((28279 * b + 641) % 2147483543 + 61027 * b + 641) ^ (5 : Int).toNat % 2147483647 * (2 * b + 1301) + 28279 * b * b + 641) 3 := ⟨by decide, by decide, draw_two (by omega) (by omega) hb0 (by omega) (by decide) (by decide) (by decide) (by decide)⟩
        repeat walk_at "s"
        exact q _ _ (Int.emod_nonneg _ (by omega)) (Int.emod_lt_of_pos _ hm0) ⟨b + 1, _, by walk_at "look", by walk_at "look", hne, hlen, by omega, by omega⟩ ((Kp.refl _ _).put.new (by assumption))
end
end K02

namespace K02
open PySem PySem.Spec PyProof.Rows L2 MyL
def spWell (K : PySem.W.Frag) : Sp := fun vs H Q _ => ∃ (a : Addr) (ns : List Int), vs = [.ref a] ∧ SqL K H a (ns.map V.int) ∧ ns.length ≤ 63 ∧ ∀ H' p, Same H H' → H p = none → (∃ c cs, WellAt H' ⟨p, c, cs⟩ 0) → Q (.ref p) H'
section
variable {P : Program} {w : World} {K : PySem.W.Frag} {mg : Str → Option Value} {base : Heap} {A : Adr}
local macro_rules | `(tactic| walk_at "sames") => `(tactic| repeat (first
  | exact Same.refl _
  | refine Same.new ?_ (by assumption)
  | refine Same.trans ?_ (by assumption)))
local macro_rules | `(tactic| walk_at "ne") => `(tactic| first
  | assumption
  | exact Ne.symm (by assumption)
  | exact ne_new (by assumption) (by walk_at "look")
  | exact ne_new' (by assumption) (by walk_at "look")
  | exact ne_of (by walk_at "look") (by walk_at "look") (by intro z; cases z))
local macro_rules | `(tactic| walk_at "look") => `(tactic| first
  | assumption
  | exact upd_same
  | (refine upd_new (by assumption) ?_
     walk_at "look")
  | (refine (upd_ne ?_).trans ?_
     · walk_at "ne"
     · walk_at "look")
  | (refine Kp.get (by assumption) ?_ ?_
     · walk_at "ne"
     · walk_at "look")
  | (refine Same.get (by assumption) ?_
     walk_at "look"))
local macro_rules | `(tactic| walk_at "lenv") => `(tactic| first
  | exact Or.inl ⟨_, SqL.of (by walk_at "look"), rfl⟩
  | exact Or.inr ⟨_, SqT.of (by walk_at "look"), rfl⟩
  | exact ⟨line_le (by omega), rfl⟩)
local macro_rules | `(tactic| walk_at "cond") => `(tactic| first
  | assumption
  | rfl
  | exact Nat.zero_le _
  | exact Nat.le_of_ble_eq_true rfl
  | decide
  | omega
  | exact line_lt (by (try simp only [List.length_map, List.length_append, List.length_cons, List.length_nil]); omega)
  | exact line_le (by (try simp only [List.length_map, List.length_append, List.length_cons, List.length_nil]); omega)
  | (dsimp only; omega)
  | exact ⟨by decide, by decide⟩
  | exact ⟨by decide, by decide, by decide⟩
  | exact Or.inl ⟨by decide, by decide⟩
  | exact Or.inl ⟨by omega, by omega⟩
  | exact Or.inr ⟨by omega, by omega⟩)
local macro_rules | `(tactic| walk_at "kit") => `(tactic| first | assumption | exact kit_NoneType_int | exact kit_NoneType_bool | exact kit_NoneType_str | exact kit_NoneType_list | exact kit_NoneType_tuple | exact kit_NoneType_dict | exact kit_bool_int | exact kit_bool_bool | exact kit_bool_str | exact kit_bool_list | exact kit_bool_tuple | exact kit_bool_dict | exact kit_int_int | exact kit_int_bool | exact kit_int_str | exact kit_int_list | exact kit_int_tuple | exact kit_int_dict | exact kit_str_int | exact kit_str_bool | exact kit_str_str | exact kit_str_list | exact kit_str_tuple | exact kit_str_dict | exact kit_list_int | exact kit_list_bool | exact kit_list_str | exact kit_list_list | exact kit_list_tuple | exact kit_list_dict | exact kit_tuple_int | exact kit_tuple_bool | exact kit_tuple_str | exact kit_tuple_list | exact kit_tuple_tuple | exact kit_tuple_dict | exact kit_dict_int | exact kit_dict_bool | exact kit_dict_str | exact kit_dict_list | exact kit_dict_tuple | exact kit_dict_dict)
local macro_rules | `(tactic| walk_at "ty") => `(tactic| first | assumption | exact tyx_str | exact tyx_int | exact tyx_bl | exact tyx_non | exact tyx_lst (by walk_at "look") | exact tyx_tup (by walk_at "look") | exact tyx_dK (by walk_at "look"))
local macro_rules | `(tactic| walk_at "s") => `(tactic| first
  | refine ⟨_, rfl, ?_⟩
  | refine ⟨_, _, rfl, rfl, ?_⟩
  | refine ⟨_, _, _, _, rfl, rfl, SqL.of (by walk_at "look"), by rfl, ?_⟩
  | refine ⟨_, _, _, _, rfl, rfl, SqT.of (by walk_at "look"), by rfl, ?_⟩
  | refine ⟨_, _, _, _, rfl, rfl, by walk_at "look", by rfl, ?_⟩
  | refine ⟨_, _, rfl, by walk_at "lenv", ?_⟩
  | refine Or.inl ⟨_, rfl, ?_⟩
  | refine ⟨_, _, _, _, _, rfl, ClsV.ty _, by walk_at "ty", by walk_at "kit", ?_⟩
  | refine And.intro (by walk_at "cond") ?_
  | refine ⟨_, _, rfl, SqT.of (by walk_at "look"), rfl, ?_⟩
  | refine ⟨_, _, rfl, SqL.of (by walk_at "look"), rfl, ?_⟩
  | refine And.intro (Or.inl ⟨rfl, _, SqL.of (by walk_at "look")⟩) ?_
  | refine ⟨_, _, _, rfl, rfl, by walk_at "look", by walk_at "cond", ?_⟩
  | refine ⟨_, _, _, _, rfl, rfl, by walk_at "look", by walk_at "look", by walk_at "cond", ?_⟩
  | refine And.intro ⟨_, rfl⟩ ?_
  | refine And.intro ⟨_, SqL.of (by walk_at "look")⟩ ?_
  | refine ⟨_, _, rfl, SqL.of (by walk_at "look"), ?_⟩
  | refine ⟨_, _, rfl, (by assumption : SqL _ _ _ _), ?_⟩
  | refine ⟨_, by walk_at "look", by walk_at "cond", ?_⟩
  | refine ⟨_, _, rfl, Or.inr (SqT.of (by walk_at "look")), ?_⟩
  | refine ⟨_, _, rfl, Or.inl (SqL.of (by walk_at "look")), ?_⟩
  | refine ⟨_, _, rfl, ?_⟩
  | refine ⟨_, _, _, rfl, by walk_at "look", by assumption, ?_⟩
  | refine ⟨_, _, true, _, _, rfl, rfl, ClsV.own _, kit_own (by assumption) (by assumption), rfl, by walk_at "look", ?_⟩
  | refine ⟨_, _, _, _, rfl, ErAt.same (by assumption) (by walk_at "sames"), by assumption, by assumption, ?_⟩
  | refine ⟨_, _, _, _, rfl, ErAt.same (by assumption) (by walk_at "sames"), by assumption, by assumption, by assumption, ?_⟩
  | refine if_t (by first | rfl | assumption | decide) ?_
  | refine if_f (by assumption) ?_
  | refine if_f (by first | decide | exact Bool.false_ne_true) ?_
  | refine fun (_ : _ ≠ sysModules) => ?_
  | refine fun (_ : ErAt _ _ _ _) => ?_
  | refine fun _ _ => ?_)

theorem ok_l_tray (T : Txt K mg A) : FnG P w K mg base CX0 1 A.l_tray (spWell K) := by
  obtain ⟨fd, F⟩ := T.F_l_tray
  refine Fun_okN F sc_l_tray (fun vs H Q E h => ?_) (fun _ _ _ _ _ _ us hl => match us, hl with | [_], _ => rfl) (fun cdv A' outer s H vs Q E hr hg h => ?_)
  · obtain ⟨_, _, rfl, _⟩ := h
    rfl
  obtain ⟨a, ns, rfl, hS, hn, q⟩ := h
  refine ⟨_, ((pss_one (ps_ret (pe_lst (pa_cons (pe_lc (own := [(("_law_cell" : PySem.Str), 1)]) rfl sc_l_tray.nd (pi_list (pe_slice sl_list (pv 0) po_none (po_some pe_int))) (blkOk_by (own := [(("_law_cell" : PySem.Str), 1)]) (N := [("_law_script" : PySem.Str), ("_law_cell" : PySem.Str)]) (sc := defScope s_l_tray) (by decide +kernel)) (fun _ _ _ _ _ => (pg_name (i := 1) sc_l_tray.nd rfl (Or.inl rfl))) (fun _ _ _ _ _ => pts_nil) (fun _ _ _ _ _ => (pe_callTy call_int1 (by rfl) T.n_int (by decide +kernel) (pa_cons (pv 1) pa_nil)))) (pa_cons pe_int (pa_cons pe_int pa_nil))))))), ?_⟩
  repeat walk_at "s"
  rename_i p hp D hD
  obtain ⟨cs, ec, lc⟩ := cutV_ints ns none (some 63)
  rw [ec] at hD ⊢
  refine lc_it (walk_list (xs := cs.map V.int)) (fun i H' => Iv (Same H H' ∧ H' p = some (.lst (cs.map V.int)) ∧ H' D = some (.lst ((cs.take i).map V.int)))) (Iv.mk ⟨Same.new (Same.new (Same.refl H) hp) hD, by walk_at "look", upd_same⟩) (fun i H' _ h => SqL.of h.out.2.1) ?_ ?_
  · rintro i x H1 H2 hi hI ⟨rfl, hx⟩
    obtain ⟨sm, hpl, hDl⟩ := hI.out
    obtain ⟨c, hc, rfl⟩ : ∃ c, cs[i]? = some c ∧ x = V.int c := by
      rw [List.getElem?_map] at hx
      cases e : cs[i]? with
      | none => rw [e] at hx; cases hx
      | some s => rw [e] at hx; exact ⟨s, rfl, (Option.some.inj hx).symm⟩
    have lt : (List.map V.int (cs.take i)).length < sizeLine := line_lt (by rw [List.length_map, List.length_take]; omega)
    repeat walk_at "s"
    refine Iv.mk ⟨Same.put sm (Same.free (Same.new (Same.refl H) hp) hD), by walk_at "look", ?_⟩
    rw [upd_same, List.take_add_one, hc, List.map_append]
    rfl
  · intro H1 hI
    obtain ⟨sm, hpl, hDl⟩ := hI.out
    repeat walk_at "s"
    rename_i r hr2
    have el : (cs.take (cs.map V.int).length) = cs := by rw [List.length_map, List.take_length]
    rw [el] at hDl
    refine q _ r (Same.new sm hr2) (Same.free sm hr2) ⟨D, cs, 0, 0, upd_same, (by show upd H1 r _ D = _; walk_at "look"), (by show D ≠ r; walk_at "ne"), (by show cs.length ≤ 63; omega), Int.le_refl _, Int.le_refl _⟩
end
end K02

namespace K02
open PySem PySem.Spec PyProof.Rows L2 MyL
/-- a draw from a list that nobody else holds -/
def spTake : Sp := fun vs H Q _ => ∃ (W : Wl) (p : Addr) (xs : List V) (n : Nat), vs = [.ref W.w, .ref p] ∧ WellAt H W n ∧ n < 1000000 ∧ p ≠ W.w ∧ H p = some (.lst xs) ∧ 0 < xs.length ∧ xs.length ≤ 1000 ∧ ∀ H' v, v ∈ xs → WellAt H' W (n + 1) → Kp W.w H H' → Q v H'
section
variable {P : Program} {w : World} {K : PySem.W.Frag} {mg : Str → Option Value} {base : Heap} {A : Adr}
local macro_rules | `(tactic| walk_at "sames") => `(tactic| repeat (first
  | exact Same.refl _
  | refine Same.new ?_ (by assumption)
  | refine Same.trans ?_ (by assumption)))
local macro_rules | `(tactic| walk_at "ne") => `(tactic| first
  | assumption
  | exact Ne.symm (by assumption)
  | exact ne_new (by assumption) (by walk_at "look")
  | exact ne_new' (by assumption) (by walk_at "look")
  | exact ne_of (by walk_at "look") (by walk_at "look") (by intro z; cases z))
local macro_rules | `(tactic| walk_at "look") => `(tactic| first
  | assumption
  | exact upd_same
  | (refine upd_new (by assumption) ?_
     walk_at "look")
  | (refine (upd_ne ?_).trans ?_
     · walk_at "ne"
     · walk_at "look")
  | (refine Kp.get (by assumption) ?_ ?_
     · walk_at "ne"
     · walk_at "look")
  | (refine Same.get (by assumption) ?_
     walk_at "look"))
local macro_rules | `(tactic| walk_at "lenv") => `(tactic| first
  | exact Or.inl ⟨_, SqL.of (by walk_at "look"), rfl⟩
  | exact Or.inr ⟨_, SqT.of (by walk_at "look"), rfl⟩
  | exact ⟨line_le (by omega), rfl⟩)
local macro_rules | `(tactic| walk_at "cond") => `(tactic| first
  | assumption
  | rfl
  | exact Nat.zero_le _
  | exact Nat.le_of_ble_eq_true rfl
  | decide
  | omega
  | exact line_lt (by (try simp only [List.length_map, List.length_append, List.length_cons, List.length_nil]); omega)
  | exact line_le (by (try simp only [List.length_map, List.length_append, List.length_cons, List.length_nil]); omega)
  | (dsimp only; omega)
  | exact ⟨by decide, by decide⟩
  | exact ⟨by decide, by decide, by decide⟩
  | exact Or.inl ⟨by decide, by decide⟩
  | exact Or.inl ⟨by omega, by omega⟩
  | exact Or.inr ⟨by omega, by omega⟩)
local macro_rules | `(tactic| walk_at "kit") => `(tactic| first | assumption | exact kit_NoneType_int | exact kit_NoneType_bool | exact kit_NoneType_str | exact kit_NoneType_list | exact kit_NoneType_tuple | exact kit_NoneType_dict | exact kit_bool_int | exact kit_bool_bool | exact kit_bool_str | exact kit_bool_list | exact kit_bool_tuple | exact kit_bool_dict | exact kit_int_int | exact kit_int_bool | exact kit_int_str | exact kit_int_list | exact kit_int_tuple | exact kit_int_dict | exact kit_str_int | exact kit_str_bool | exact kit_str_str | exact kit_str_list | exact kit_str_tuple | exact kit_str_dict | exact kit_list_int | exact kit_list_bool | exact kit_list_str | exact kit_list_list | exact kit_list_tuple | exact kit_list_dict | exact kit_tuple_int | exact kit_tuple_bool | exact kit_tuple_str | exact kit_tuple_list | exact kit_tuple_tuple | exact kit_tuple_dict | exact kit_dict_int | exact kit_dict_bool | exact kit_dict_str | exact kit_dict_list | exact kit_dict_tuple | exact kit_dict_dict)
local macro_rules | `(tactic| walk_at "ty") => `(tactic| first | assumption | exact tyx_str | exact tyx_int | exact tyx_bl | exact tyx_non | exact tyx_lst (by walk_at "look") | exact tyx_tup (by walk_at "look") | exact tyx_dK (by walk_at "look"))
local macro_rules | `(tactic| walk_at "s") => `(tactic| first
  | refine ⟨_, rfl, ?_⟩
  | refine ⟨_, _, rfl, rfl, ?_⟩
  | refine ⟨_, _, _, _, rfl, rfl, SqL.of (by walk_at "look"), by rfl, ?_⟩
  | refine ⟨_, _, _, _, rfl, rfl, SqT.of (by walk_at "look"), by rfl, ?_⟩
  | refine ⟨_, _, _, _, rfl, rfl, by walk_at "look", by rfl, ?_⟩
  | refine ⟨_, _, rfl, by walk_at "lenv", ?_⟩
  | refine Or.inl ⟨_, rfl, ?_⟩
  | refine ⟨_, _, _, _, _, rfl, ClsV.ty _, by walk_at "ty", by walk_at "kit", ?_⟩
  | refine And.intro (by walk_at "cond") ?_
  | refine ⟨_, _, rfl, SqT.of (by walk_at "look"), rfl, ?_⟩
  | refine ⟨_, _, rfl, SqL.of (by walk_at "look"), rfl, ?_⟩
  | refine And.intro (Or.inl ⟨rfl, _, SqL.of (by walk_at "look")⟩) ?_
  | refine ⟨_, _, _, rfl, rfl, by walk_at "look", by walk_at "cond", ?_⟩
  | refine ⟨_, _, _, _, rfl, rfl, by walk_at "look", by walk_at "look", by walk_at "cond", ?_⟩
  | refine And.intro ⟨_, rfl⟩ ?_
  | refine And.intro ⟨_, SqL.of (by walk_at "look")⟩ ?_
  | refine ⟨_, _, rfl, SqL.of (by walk_at "look"), ?_⟩
  | refine ⟨_, _, rfl, (by assumption : SqL _ _ _ _), ?_⟩
  | refine ⟨_, by walk_at "look", by walk_at "cond", ?_⟩
  | refine ⟨_, _, rfl, Or.inr (SqT.of (by walk_at "look")), ?_⟩
  | refine ⟨_, _, rfl, Or.inl (SqL.of (by walk_at "look")), ?_⟩
  | refine ⟨_, _, rfl, ?_⟩
  | refine ⟨_, _, _, rfl, by walk_at "look", by assumption, ?_⟩
  | refine ⟨_, _, true, _, _, rfl, rfl, ClsV.own _, kit_own (by assumption) (by assumption), rfl, by walk_at "look", ?_⟩
  | refine ⟨_, _, _, _, rfl, ErAt.same (by assumption) (by walk_at "sames"), by assumption, by assumption, ?_⟩
  | refine ⟨_, _, _, _, rfl, ErAt.same (by assumption) (by walk_at "sames"), by assumption, by assumption, by assumption, ?_⟩
  | refine if_t (by first | rfl | assumption | decide) ?_
  | refine if_f (by assumption) ?_
  | refine if_f (by first | decide | exact Bool.false_ne_true) ?_
  | refine fun (_ : _ ≠ sysModules) => ?_
  | refine fun (_ : ErAt _ _ _ _) => ?_
  | refine fun _ _ => ?_)

theorem ok_l_take (T : Txt K mg A) : FnG P w K mg base CX0 2 A.l_take spTake := by
  obtain ⟨fd, F⟩ := T.F_l_take
  refine Fun_okN F sc_l_take (fun vs H Q E h => ?_) (fun _ _ _ _ _ _ us hl => match us, hl with | [_, _], _ => rfl) (fun cdv A' outer s H vs Q E hr hg h => ?_)
  · obtain ⟨_, _, _, _, rfl, _⟩ := h
    rfl
  obtain ⟨a, p, xs, n, rfl, W, hn, hpw, hp, h0, h1, q⟩ := h
  refine ⟨_, ((pss_one (ps_ret (pe_ix ix_list (pv 1) (pe_callGd (ok_l_lift T) (hr.mono (by decide)) hg rfl T.m_l_lift T.k_l_lift pass0 (pa_cons (pv 0) (pa_cons (pe_callB call_len (by rfl) T.n_len (by decide +kernel) (pa_cons (pv 1) pa_nil)) pa_nil))) (fun _ _ => rfl))))), ?_⟩
  repeat walk_at "s"
  refine Iv.mk ⟨a, _, n, rfl, W, hn, by omega, natAbs_small (n := 1000) (by omega) (by omega) (by decide), fun H' r r0 r1 W1 K1 => ?_⟩
  obtain ⟨v, hv, hm⟩ := atI_of r0 r1
  exact ⟨_, _, _, _, rfl, rfl, SqL.of (K1 p _ hpw hp), hv, q H' v hm W1 K1⟩
end
end K02

namespace K02
open PySem PySem.Spec PyProof.Rows L2 MyL MyD
def spFixed (n : Nat) : Sp := fun vs H Q _ => ∃ (v : V) (d : PyData), vs = [v] ∧ DpR H v d ∧ Okd n d ∧ ∀ H' v' e, Same H H' → Fx d e → DpR H' v' e → Q v' H'
section
variable {P : Program} {w : World} {K : PySem.W.Frag} {mg : Str → Option Value} {base : Heap} {A : Adr}
local macro_rules | `(tactic| walk_at "sames") => `(tactic| repeat (first
  | exact Same.refl _
  | refine Same.new ?_ (by assumption)
  | refine Same.trans ?_ (by assumption)))
local macro_rules | `(tactic| walk_at "ne") => `(tactic| first
  | assumption
  | exact Ne.symm (by assumption)
  | exact ne_new (by assumption) (by walk_at "look")
  | exact ne_new' (by assumption) (by walk_at "look")
  | exact ne_of (by walk_at "look") (by walk_at "look") (by intro z; cases z))
local macro_rules | `(tactic| walk_at "look") => `(tactic| first
  | assumption
  | exact upd_same
  | (refine upd_new (by assumption) ?_
     walk_at "look")
  | (refine (upd_ne ?_).trans ?_
     · walk_at "ne"
     · walk_at "look")
  | (refine Kp.get (by assumption) ?_ ?_
     · walk_at "ne"
     · walk_at "look")
  | (refine Same.get (by assumption) ?_
     walk_at "look"))
local macro_rules | `(tactic| walk_at "lenv") => `(tactic| first
  | exact Or.inl ⟨_, SqL.of (by walk_at "look"), rfl⟩
  | exact Or.inr ⟨_, SqT.of (by walk_at "look"), rfl⟩
  | exact ⟨line_le (by omega), rfl⟩)
local macro_rules | `(tactic| walk_at "cond") => `(tactic| first
  | assumption
  | rfl
  | exact Nat.zero_le _
  | exact Nat.le_of_ble_eq_true rfl
  | decide
  | omega
  | exact line_lt (by (try simp only [List.length_map, List.length_append, List.length_cons, List.length_nil]); omega)
  | exact line_le (by (try simp only [List.length_map, List.length_append, List.length_cons, List.length_nil]); omega)
  | (dsimp only; omega)
  | exact ⟨by decide, by decide⟩
  | exact ⟨by decide, by decide, by decide⟩
  | exact Or.inl ⟨by decide, by decide⟩
  | exact Or.inl ⟨by omega, by omega⟩
  | exact Or.inr ⟨by omega, by omega⟩)
local macro_rules | `(tactic| walk_at "kit") => `(tactic| first | assumption | exact kit_NoneType_int | exact kit_NoneType_bool | exact kit_NoneType_str | exact kit_NoneType_list | exact kit_NoneType_tuple | exact kit_NoneType_dict | exact kit_bool_int | exact kit_bool_bool | exact kit_bool_str | exact kit_bool_list | exact kit_bool_tuple | exact kit_bool_dict | exact kit_int_int | exact kit_int_bool | exact kit_int_str | exact kit_int_list | exact kit_int_tuple | exact kit_int_dict | exact kit_str_int | exact kit_str_bool | exact kit_str_str | exact kit_str_list | exact kit_str_tuple | exact kit_str_dict | exact kit_list_int | exact kit_list_bool | exact kit_list_str | exact kit_list_list | exact kit_list_tuple | exact kit_list_dict | exact kit_tuple_int | exact kit_tuple_bool | exact kit_tuple_str | exact kit_tuple_list | exact kit_tuple_tuple | exact kit_tuple_dict | exact kit_dict_int | exact kit_dict_bool | exact kit_dict_str | exact kit_dict_list | exact kit_dict_tuple | exact kit_dict_dict)
local macro_rules | `(tactic| walk_at "ty") => `(tactic| first | assumption | exact tyx_str | exact tyx_int | exact tyx_bl | exact tyx_non | exact tyx_lst (by walk_at "look") | exact tyx_tup (by walk_at "look") | exact tyx_dK (by walk_at "look"))
local macro_rules | `(tactic| walk_at "s") => `(tactic| first
  | refine ⟨_, rfl, ?_⟩
  | refine ⟨_, _, rfl, rfl, ?_⟩
  | refine ⟨_, _, _, _, rfl, rfl, SqL.of (by walk_at "look"), by rfl, ?_⟩
  | refine ⟨_, _, _, _, rfl, rfl, SqT.of (by walk_at "look"), by rfl, ?_⟩
  | refine ⟨_, _, _, _, rfl, rfl, by walk_at "look", by rfl, ?_⟩
  | refine ⟨_, _, rfl, by walk_at "lenv", ?_⟩
  | refine Or.inl ⟨_, rfl, ?_⟩
  | refine ⟨_, _, _, _, _, rfl, ClsV.ty _, by walk_at "ty", by walk_at "kit", ?_⟩
  | refine And.intro (by walk_at "cond") ?_
  | refine ⟨_, _, rfl, SqT.of (by walk_at "look"), rfl, ?_⟩
  | refine ⟨_, _, rfl, SqL.of (by walk_at "look"), rfl, ?_⟩
  | refine And.intro (Or.inl ⟨rfl, _, SqL.of (by walk_at "look")⟩) ?_
  | refine ⟨_, _, _, rfl, rfl, by walk_at "look", by walk_at "cond", ?_⟩
  | refine ⟨_, _, _, _, rfl, rfl, by walk_at "look", by walk_at "look", by walk_at "cond", ?_⟩
  | refine And.intro ⟨_, rfl⟩ ?_
  | refine And.intro ⟨_, SqL.of (by walk_at "look")⟩ ?_
  | refine ⟨_, _, rfl, SqL.of (by walk_at "look"), ?_⟩
  | refine ⟨_, _, rfl, (by assumption : SqL _ _ _ _), ?_⟩
  | refine ⟨_, by walk_at "look", by walk_at "cond", ?_⟩
  | refine ⟨_, _, rfl, Or.inr (SqT.of (by walk_at "look")), ?_⟩
  | refine ⟨_, _, rfl, Or.inl (SqL.of (by walk_at "look")), ?_⟩
  | refine ⟨_, _, rfl, ?_⟩
  | refine ⟨_, _, _, rfl, by walk_at "look", by assumption, ?_⟩
  | refine ⟨_, _, true, _, _, rfl, rfl, ClsV.own _, kit_own (by assumption) (by assumption), rfl, by walk_at "look", ?_⟩
  | refine ⟨_, _, _, _, rfl, ErAt.same (by assumption) (by walk_at "sames"), by assumption, by assumption, ?_⟩
  | refine ⟨_, _, _, _, rfl, ErAt.same (by assumption) (by walk_at "sames"), by assumption, by assumption, by assumption, ?_⟩
  | refine if_t (by first | rfl | assumption | decide) ?_
  | refine if_f (by assumption) ?_
  | refine if_f (by first | decide | exact Bool.false_ne_true) ?_
  | refine fun (_ : _ ≠ sysModules) => ?_
  | refine fun (_ : ErAt _ _ _ _) => ?_
  | refine fun _ _ => ?_)

theorem fixed_step (T : Txt K mg A) {n k : Nat} {spI : Sp} (FI : FnG P w K mg base CX0 k A.fixed spI) (hI : ∀ m, n = m + 1 → ∀ vs H Q E, spFixed m vs H Q E → spI vs H Q E) : FnG P w K mg base CX0 (k + 1) A.fixed (spFixed n) := by
  obtain ⟨fd, F⟩ := T.F_fixed
  refine Fun_okN F sc_fixed (fun vs H Q E h => ?_) (fun _ _ _ _ _ _ us hl => match us, hl with | [_], _ => rfl) (fun cdv A' outer s H vs Q E hr hg h => ?_)
  · obtain ⟨_, _, rfl, _⟩ := h
    rfl
  obtain ⟨v, d, rfl, hd, ok, q⟩ := h
  refine ⟨_, ((pss_cons (ps_if (pt_val (pe_callB call_isi (by rfl) T.n_isinstance (by decide +kernel) (pa_cons (pv 0) (pa_cons (pe_bltn (v := .ty "dict") (u := .type "dict") (by rfl) T.n_dict (by decide +kernel) rfl) pa_nil)))) (pss_one (ps_ret (pe_callTy call_tuple_of (by rfl) T.n_tuple (by decide +kernel) (pa_cons (pe_lc (own := [(("key" : PySem.Str), 1)]) rfl sc_fixed.nd (pi_list (pe_callB MyD.call_sortedK (by rfl) T.n_sorted (by decide +kernel) (pa_cons (pe_callTy (call_listD rfl) (by rfl) T.n_list (by decide +kernel) (pa_cons (pv 0) pa_nil)) pa_nil))) (blkOk_by (own := [(("key" : PySem.Str), 1)]) (N := [("value" : PySem.Str), ("key" : PySem.Str), ("part" : PySem.Str)]) (sc := defScope s_fixed) (by decide +kernel)) (fun _ _ _ _ _ => (pg_name (i := 1) sc_fixed.nd rfl (Or.inl rfl))) (fun _ _ _ _ _ => pts_nil) (fun _ _ _ _ _ => (pe_tup (pa_cons (pv 1) (pa_cons (pe_callGd FI hr hg rfl T.m_fixed T.k_fixed pass0 (pa_cons (pe_dget (hu_of hr) (pv 0) (pv 1) (fun _ _ => rfl)) pa_nil)) pa_nil))))) pa_nil)))) pss_nil)
    (pss_cons (ps_if (pt_val (pe_callB call_isiT (by rfl) T.n_isinstance (by decide +kernel) (pa_cons (pv 0) (pa_cons (pe_tup (pa_cons (pe_bltn (v := .ty "list") (u := .type "list") (by rfl) T.n_list (by decide +kernel) rfl) (pa_cons (pe_bltn (v := .ty "tuple") (u := .type "tuple") (by rfl) T.n_tuple (by decide +kernel) rfl) pa_nil))) pa_nil)))) (pss_one (ps_ret (pe_callTy call_tuple_of (by rfl) T.n_tuple (by decide +kernel) (pa_cons (pe_lc (own := [(("part" : PySem.Str), 2)]) rfl sc_fixed.nd (MyD.pi_or (pi_list (pv 0)) (pi_tup (pv 0))) (blkOk_by (own := [(("part" : PySem.Str), 2)]) (N := [("value" : PySem.Str), ("key" : PySem.Str), ("part" : PySem.Str)]) (sc := defScope s_fixed) (by decide +kernel)) (fun _ _ _ _ _ => (pg_name (i := 2) sc_fixed.nd rfl (Or.inl rfl))) (fun _ _ _ _ _ => pts_nil) (fun _ _ _ _ _ => (pe_callGd FI hr hg rfl T.m_fixed T.k_fixed pass0 (pa_cons (pv 2) pa_nil)))) pa_nil)))) pss_nil)
    (pss_one (ps_ret (pv 0)))))), ?_⟩
  cases ok with
  | leaf l =>
    obtain ⟨N, ty, k1, k2, k3⟩ := hd.flatTy (K := K) l.flat
    have ty0 := ty H
    repeat walk_at "s"
    refine ⟨_, _, _, _, _, _, rfl, upd_same, .cons (ClsV.ty _) (.cons (ClsV.ty _) .nil), ty _, kitAny_lt k1 k2, ?_⟩
    repeat walk_at "s"
    exact q _ _ _ (Same.new (Same.refl _) (by assumption)) (.flat l.flat) (hd.same (Same.new (Same.refl _) (by assumption)))
  | @list n ds hl hok =>
    cases hd with
    | @lst a xs _ ha hds =>
      have ty0 := tyx_lstR (K := K) ha
      repeat walk_at "s"
      rename_i tp htp
      have S1 := Same.new (o := .tup [.ty "list", .ty "tuple"]) (Same.refl H) htp
      have ha1 := (Kr.of S1).l _ _ ha
      refine ⟨_, _, _, _, _, _, rfl, upd_same, .cons (ClsV.ty _) (.cons (ClsV.ty _) .nil), tyx_lstR ha1, kitAny_lt kit_list_list kit_list_tuple, ?_⟩
      repeat walk_at "s"
      refine .l ⟨_, rfl, _, rfl, ⟨xs, .inl ha1⟩, ?_⟩
      intro D hD
      refine lc_it (walk_list (xs := xs)) (fun i H2 => Iv (Same (upd H tp (.tup [.ty "list", .ty "tuple"])) H2 ∧ ∃ ws es, H2 D = some (.lst ws) ∧ ws.length = i ∧ DpRs H2 ws es ∧ FxAll (ds.take i) es))
        (Iv.mk ⟨Same.new (Same.refl _) hD, [], [], upd_same, rfl, .nil, .nil⟩) (fun i H2 _ h => .inl ((Kr.of (show Same _ H2 from h.out.1)).l _ _ ha1)) ?_ ?_
      · rintro i x H1 H2 hi hI2 ⟨rfl, hx⟩
        obtain ⟨sm, ws, es, hDl, hw, hd1, hf⟩ := hI2.out
        obtain ⟨d, hdi, hdr⟩ := DpRs.at_ hds hx
        have okd := hok d (List.mem_of_getElem? hdi)
        have SH : Same H H2 := fun b o e => sm b o (S1 b o e)
        repeat walk_at "s"
        refine Iv.mk (hI _ rfl _ _ _ _ ⟨x, d, rfl, hdr.same SH, okd, fun H3 v3 e3 sm3 fx3 dp3 => ?_⟩)
        have hD3 := sm3 _ _ hDl
        have lt : ws.length < sizeLine := line_lt (by have := hds.length; have := DpRs.length hds; omega)
        refine ⟨ws, hD3, lt, Iv.mk ⟨Same.put (fun b o e => sm3 b o (sm b o e)) hD, ws ++ [v3], es ++ [e3], upd_same, by rw [List.length_append, hw]; rfl, ?_, by rw [take_one hdi]; exact hf.snoc fx3⟩⟩
        have tupA := (hf.snoc fx3).tupA (n := n) fun y hy => by
          rcases List.mem_append.mp hy with hy | hy
          · exact hok y (List.mem_of_mem_take hy)
          · rw [List.mem_singleton.mp hy]; exact okd
        exact DpRs.tups (fun b xs e => by rw [upd_ne (ne_of e hD3 (fun z => nomatch z))]; exact e) tupA ((hd1.same sm3).snoc dp3)
      · intro H2 hI2
        obtain ⟨sm, ws, es, hDl, hw, hd1, hf⟩ := hI2.out
        have el : ds.take xs.length = ds := by rw [hds.length, List.take_length]
        rw [el] at hf
        refine ⟨_, _, rfl, .inl ⟨SqL.of hDl, fun l hl2 => ?_⟩⟩
        exact q _ _ _ (Same.new (fun b o e => sm b o (S1 b o e)) hl2) (.list hf) (.tup upd_same (hd1.same (Same.new (Same.refl _) hl2)))
  | @tup n ds hl hok =>
    cases hd with
    | @tup a xs _ ha hds =>
      have ty0 := tyx_tup (K := K) ha
      repeat walk_at "s"
      rename_i tp htp
      have S1 := Same.new (o := .tup [.ty "list", .ty "tuple"]) (Same.refl H) htp
      have ha1 := S1 _ _ ha
      refine ⟨_, _, _, _, _, _, rfl, upd_same, .cons (ClsV.ty _) (.cons (ClsV.ty _) .nil), tyx_tup ha1, kitAny_lt kit_tuple_list kit_tuple_tuple, ?_⟩
      repeat walk_at "s"
      refine .r ⟨_, rfl, _, rfl, ⟨xs, .inl (.inl ha1)⟩, ?_⟩
      intro D hD
      refine lc_it (walk_tup (xs := xs)) (fun i H2 => Iv (Same (upd H tp (.tup [.ty "list", .ty "tuple"])) H2 ∧ ∃ ws es, H2 D = some (.lst ws) ∧ ws.length = i ∧ DpRs H2 ws es ∧ FxAll (ds.take i) es))
        (Iv.mk ⟨Same.new (Same.refl _) hD, [], [], upd_same, rfl, .nil, .nil⟩) (fun i H2 _ h => .inl (.inl ((show Same _ H2 from h.out.1) _ _ ha1))) ?_ ?_
      · rintro i x H1 H2 hi hI2 ⟨rfl, hx⟩
        obtain ⟨sm, ws, es, hDl, hw, hd1, hf⟩ := hI2.out
        obtain ⟨d, hdi, hdr⟩ := DpRs.at_ hds hx
        have okd := hok d (List.mem_of_getElem? hdi)
        have SH : Same H H2 := fun b o e => sm b o (S1 b o e)
        repeat walk_at "s"
        refine Iv.mk (hI _ rfl _ _ _ _ ⟨x, d, rfl, hdr.same SH, okd, fun H3 v3 e3 sm3 fx3 dp3 => ?_⟩)
        have hD3 := sm3 _ _ hDl
        have lt : ws.length < sizeLine := line_lt (by have := hds.length; have := DpRs.length hds; omega)
        refine ⟨ws, hD3, lt, Iv.mk ⟨Same.put (fun b o e => sm3 b o (sm b o e)) hD, ws ++ [v3], es ++ [e3], upd_same, by rw [List.length_append, hw]; rfl, ?_, by rw [take_one hdi]; exact hf.snoc fx3⟩⟩
        have tupA := (hf.snoc fx3).tupA (n := n) fun y hy => by
          rcases List.mem_append.mp hy with hy | hy
          · exact hok y (List.mem_of_mem_take hy)
          · rw [List.mem_singleton.mp hy]; exact okd
        exact DpRs.tups (fun b xs e => by rw [upd_ne (ne_of e hD3 (fun z => nomatch z))]; exact e) tupA ((hd1.same sm3).snoc dp3)
      · intro H2 hI2
        obtain ⟨sm, ws, es, hDl, hw, hd1, hf⟩ := hI2.out
        have el : ds.take xs.length = ds := by rw [hds.length, List.take_length]
        rw [el] at hf
        refine ⟨_, _, rfl, .inl ⟨SqL.of hDl, fun l hl2 => ?_⟩⟩
        exact q _ _ _ (Same.new (fun b o e => sm b o (S1 b o e)) hl2) (.tup hf) (.tup upd_same (hd1.same (Same.new (Same.refl _) hl2)))
  | @dict n ps hl hnd hks hlf hok =>
    cases hd with
    | @dct a kvs _ ha hds =>
      have ty0 := tyx_dctR (K := K) ha
      repeat walk_at "s"
      rename_i p1 hp1
      rcases hks with ⟨ks, hks⟩ | ⟨ks, hks⟩
      · have ek := keys_int (hds.keys.symm.trans hks)
        have el : (kvs.map fun kv => kV kv.1) = ks.map V.int := by
          have e1 : (kvs.map fun kv => kV kv.1) = (kvs.map (·.1)).map kV := by rw [List.map_map]; rfl
          rw [e1, ek, List.map_map]
          rfl
        have lk : ks.length = ps.length := by
          have := congrArg List.length hks
          rwa [List.length_map, List.length_map, eq_comm] at this
        refine .l ⟨p1, ks, rfl, .inl (.inl (by rw [← el]; exact upd_same)), by omega, fun ys p2 hpm hst hp2 => ?_⟩
        have nd1 : ks.Nodup := by
          have h0 := hnd
          rw [hks] at h0
          exact List.Pairwise.of_map (f := PyData.int) (fun a b (h : PyData.int a ≠ PyData.int b) e => h (by rw [e])) h0
        have nd2 : ys.Nodup := hpm.symm.nodup nd1
        obtain ⟨zs, ez, OD⟩ := ordd_of (n := n) hds hnd hlf hok (l := ys.map Sum.inl) (by rw [ek]; exact (hpm.symm.map _)) (int_strict hst nd2)
        have S2 : Same H (upd (upd H p1 (.lst (kvs.map fun kv => kV kv.1))) p2 (.lst (ys.map V.int))) := Same.new (Same.new (Same.refl H) hp1) hp2
        have ey : ys.map V.int = zs.map fun t => kV t.1.1 := by
          have e1 : (zs.map fun t : Ent => kV t.1.1) = (zs.map (·.1.1)).map kV := by rw [List.map_map]; rfl
          rw [e1, ez, List.map_map]
          rfl
        rw [ey] at S2 ⊢
        have lz : zs.length ≤ 3 := by
          have := OD.perm.length_eq
          rw [List.length_map] at this
          omega
        repeat walk_at "s"
        rename_i D hD
        refine lc_it (walk_list (xs := zs.map fun t : Ent => kV t.1.1)) (fun i H2 => Iv (Same (upd (upd H p1 (.lst (kvs.map fun kv => kV kv.1))) p2 (.lst (zs.map fun t : Ent => kV t.1.1))) H2 ∧ ∃ ws es, H2 D = some (.lst ws) ∧ ws.length = i ∧ DpRs H2 ws es ∧ FxP ((zs.map (·.2)).take i) es ∧ TupAll es))
          (Iv.mk ⟨Same.new (Same.refl _) hD, [], [], upd_same, rfl, .nil, .nil, .nil⟩) (fun i H2 _ h => .inl (.inl ((show Same _ H2 from h.out.1) _ _ upd_same))) ?_ ?_
        · rintro i x H1 H2 hi hI2 ⟨rfl, hx⟩
          obtain ⟨sm, ws, es, hDl, hw, hd1, hf, htu⟩ := hI2.out
          obtain ⟨t, ht, rfl⟩ : ∃ t, zs[i]? = some t ∧ x = kV t.1.1 := by
            rw [List.getElem?_map] at hx
            cases e : zs[i]? with
            | none => rw [e] at hx; cases hx
            | some s => rw [e] at hx; exact ⟨s, rfl, (Option.some.inj hx).symm⟩
          obtain ⟨hv, hkd, hdr, okd, lf⟩ := OD.val t (List.mem_of_getElem? ht)
          have SH : Same H H2 := fun b o e => sm b o (S2 b o e)
          repeat walk_at "s"
          refine ⟨_, _, rfl, .inl ⟨kvs, t.1.1, (Kr.of SH).d _ _ ha, rfl, hv.symm⟩, ?_⟩
          refine Iv.mk (hI _ rfl _ _ _ _ ⟨t.1.2, t.2.2, rfl, hdr.same SH, okd, fun H3 v3 e3 sm3 fx3 dp3 => ?_⟩)
          have hD3 := sm3 _ _ hDl
          repeat walk_at "s"
          rename_i tp3 htp3
          have lt : ws.length < sizeLine := line_lt (by rw [hw]; rw [List.length_map] at hi; omega)
          refine ⟨ws, by walk_at "look", lt, Iv.mk ⟨Same.put (Same.new (fun b o e => sm3 b o (sm b o e)) htp3) hD, ws ++ [.ref tp3], es ++ [.tuple [t.2.1, e3]], upd_same, by rw [List.length_append, hw]; rfl, ?_, ?_, ?_⟩⟩
          · have tu3 : TupAll (es ++ [.tuple [t.2.1, e3]]) := htu.app (.cons (.tup (.cons (.flat lf.flat) (.cons (fx3.tupO okd) .nil))) .nil)
            refine DpRs.tups (H := upd H3 tp3 (.tup [kV t.1.1, v3])) (fun b xs e => by rw [upd_ne (ne_of e (show upd H3 tp3 (.tup [kV t.1.1, v3]) D = some (.lst ws) by walk_at "look") (fun z => nomatch z))]; exact e) tu3 ?_
            refine ((hd1.same sm3).same (Same.new (Same.refl _) htp3)).snoc (.tup upd_same (.cons ?_ (.cons (dp3.same (Same.new (Same.refl _) htp3)) .nil)))
            rw [hkd]
            exact dpR_key _
          · have e4 : (zs.map (·.2))[i]? = some (t.2.1, t.2.2) := by rw [List.getElem?_map, ht]; rfl
            rw [take_one e4]
            exact hf.snoc fx3
          · exact htu.app (.cons (.tup (.cons (.flat lf.flat) (.cons (fx3.tupO okd) .nil))) .nil)
        · intro H2 hI2
          obtain ⟨sm, ws, es, hDl, hw, hd1, hf, htu⟩ := hI2.out
          have el : (zs.map (·.2)).take (zs.map fun t : Ent => kV t.1.1).length = zs.map (·.2) := by rw [List.length_map, ← List.length_map (f := fun t : Ent => t.2), List.take_length]
          rw [el] at hf
          refine ⟨_, _, rfl, .inl ⟨SqL.of hDl, fun l hl2 => ?_⟩⟩
          exact q _ _ _ (Same.new (fun b o e => sm b o (S2 b o e)) hl2) (.dict OD.perm OD.srt hf) (.tup upd_same (hd1.same (Same.new (Same.refl _) hl2)))
      · have ek := keys_str (hds.keys.symm.trans hks)
        have el : (kvs.map fun kv => kV kv.1) = ks.map V.str := by
          have e1 : (kvs.map fun kv => kV kv.1) = (kvs.map (·.1)).map kV := by rw [List.map_map]; rfl
          rw [e1, ek, List.map_map]
          rfl
        have lk : ks.length = ps.length := by
          have := congrArg List.length hks
          rwa [List.length_map, List.length_map, eq_comm] at this
        refine .r ⟨p1, ks, rfl, .inl (.inl (by rw [← el]; exact upd_same)), by omega, fun ys p2 hpm hst hp2 => ?_⟩
        have nd1 : ks.Nodup := by
          have h0 := hnd
          rw [hks] at h0
          exact List.Pairwise.of_map (f := PyData.str) (fun a b (h : PyData.str a ≠ PyData.str b) e => h (by rw [e])) h0
        have nd2 : ys.Nodup := hpm.symm.nodup nd1
        obtain ⟨zs, ez, OD⟩ := ordd_of (n := n) hds hnd hlf hok (l := ys.map Sum.inr) (by rw [ek]; exact (hpm.symm.map _)) (str_strict hst nd2)
        have S2 : Same H (upd (upd H p1 (.lst (kvs.map fun kv => kV kv.1))) p2 (.lst (ys.map V.str))) := Same.new (Same.new (Same.refl H) hp1) hp2
        have ey : ys.map V.str = zs.map fun t => kV t.1.1 := by
          have e1 : (zs.map fun t : Ent => kV t.1.1) = (zs.map (·.1.1)).map kV := by rw [List.map_map]; rfl
          rw [e1, ez, List.map_map]
          rfl
        rw [ey] at S2 ⊢
        have lz : zs.length ≤ 3 := by
          have := OD.perm.length_eq
          rw [List.length_map] at this
          omega
        repeat walk_at "s"
        rename_i D hD
        refine lc_it (walk_list (xs := zs.map fun t : Ent => kV t.1.1)) (fun i H2 => Iv (Same (upd (upd H p1 (.lst (kvs.map fun kv => kV kv.1))) p2 (.lst (zs.map fun t : Ent => kV t.1.1))) H2 ∧ ∃ ws es, H2 D = some (.lst ws) ∧ ws.length = i ∧ DpRs H2 ws es ∧ FxP ((zs.map (·.2)).take i) es ∧ TupAll es))
          (Iv.mk ⟨Same.new (Same.refl _) hD, [], [], upd_same, rfl, .nil, .nil, .nil⟩) (fun i H2 _ h => .inl (.inl ((show Same _ H2 from h.out.1) _ _ upd_same))) ?_ ?_
        · rintro i x H1 H2 hi hI2 ⟨rfl, hx⟩
          obtain ⟨sm, ws, es, hDl, hw, hd1, hf, htu⟩ := hI2.out
          obtain ⟨t, ht, rfl⟩ : ∃ t, zs[i]? = some t ∧ x = kV t.1.1 := by
            rw [List.getElem?_map] at hx
            cases e : zs[i]? with
            | none => rw [e] at hx; cases hx
            | some s => rw [e] at hx; exact ⟨s, rfl, (Option.some.inj hx).symm⟩
          obtain ⟨hv, hkd, hdr, okd, lf⟩ := OD.val t (List.mem_of_getElem? ht)
          have SH : Same H H2 := fun b o e => sm b o (S2 b o e)
          repeat walk_at "s"
          refine ⟨_, _, rfl, .inl ⟨kvs, t.1.1, (Kr.of SH).d _ _ ha, rfl, hv.symm⟩, ?_⟩
          refine Iv.mk (hI _ rfl _ _ _ _ ⟨t.1.2, t.2.2, rfl, hdr.same SH, okd, fun H3 v3 e3 sm3 fx3 dp3 => ?_⟩)
          have hD3 := sm3 _ _ hDl
          repeat walk_at "s"
          rename_i tp3 htp3
          have lt : ws.length < sizeLine := line_lt (by rw [hw]; rw [List.length_map] at hi; omega)
          refine ⟨ws, by walk_at "look", lt, Iv.mk ⟨Same.put (Same.new (fun b o e => sm3 b o (sm b o e)) htp3) hD, ws ++ [.ref tp3], es ++ [.tuple [t.2.1, e3]], upd_same, by rw [List.length_append, hw]; rfl, ?_, ?_, ?_⟩⟩
          · have tu3 : TupAll (es ++ [.tuple [t.2.1, e3]]) := htu.app (.cons (.tup (.cons (.flat lf.flat) (.cons (fx3.tupO okd) .nil))) .nil)
            refine DpRs.tups (H := upd H3 tp3 (.tup [kV t.1.1, v3])) (fun b xs e => by rw [upd_ne (ne_of e (show upd H3 tp3 (.tup [kV t.1.1, v3]) D = some (.lst ws) by walk_at "look") (fun z => nomatch z))]; exact e) tu3 ?_
            refine ((hd1.same sm3).same (Same.new (Same.refl _) htp3)).snoc (.tup upd_same (.cons ?_ (.cons (dp3.same (Same.new (Same.refl _) htp3)) .nil)))
            rw [hkd]
            exact dpR_key _
          · have e4 : (zs.map (·.2))[i]? = some (t.2.1, t.2.2) := by rw [List.getElem?_map, ht]; rfl
            rw [take_one e4]
            exact hf.snoc fx3
          · exact htu.app (.cons (.tup (.cons (.flat lf.flat) (.cons (fx3.tupO okd) .nil))) .nil)
        · intro H2 hI2
          obtain ⟨sm, ws, es, hDl, hw, hd1, hf, htu⟩ := hI2.out
          have el : (zs.map (·.2)).take (zs.map fun t : Ent => kV t.1.1).length = zs.map (·.2) := by rw [List.length_map, ← List.length_map (f := fun t : Ent => t.2), List.take_length]
          rw [el] at hf
          refine ⟨_, _, rfl, .inl ⟨SqL.of hDl, fun l hl2 => ?_⟩⟩
          exact q _ _ _ (Same.new (fun b o e => sm b o (S2 b o e)) hl2) (.dict OD.perm OD.srt hf) (.tup upd_same (hd1.same (Same.new (Same.refl _) hl2)))
theorem ok_fixed (T : Txt K mg A) : ∀ n, FnG P w K mg base CX0 (n + 1) A.fixed (spFixed n)
  | 0 => fixed_step T (k := 0) (spI := fun _ _ _ _ => False) (fun _ _ _ _ _ _ _ _ _ _ _ _ h => h.elim) (fun m e => nomatch e)
  | n + 1 => fixed_step T (ok_fixed T n) (fun m e vs H Q E h => by cases e; exact h)
end
end K02

namespace K02
open PySem PySem.Spec PyProof.Rows L2 MyL MyD
section
variable {P : Program} {w : World} {K : PySem.W.Frag} {mg : Str → Option Value} {base : Heap} {A : Adr}
local macro_rules | `(tactic| walk_at "sames") => `(tactic| repeat (first
  | exact Same.refl _
  | refine Same.new ?_ (by assumption)
  | refine Same.trans ?_ (by assumption)))
local macro_rules | `(tactic| walk_at "ne") => `(tactic| first
  | assumption
  | exact Ne.symm (by assumption)
  | exact ne_new (by assumption) (by walk_at "look")
  | exact ne_new' (by assumption) (by walk_at "look")
  | exact ne_of (by walk_at "look") (by walk_at "look") (by intro z; cases z))
local macro_rules | `(tactic| walk_at "look") => `(tactic| first
  | assumption
  | exact upd_same
  | (refine upd_new (by assumption) ?_
     walk_at "look")
  | (refine (upd_ne ?_).trans ?_
     · walk_at "ne"
     · walk_at "look")
  | (refine Kp.get (by assumption) ?_ ?_
     · walk_at "ne"
     · walk_at "look")
  | (refine Same.get (by assumption) ?_
     walk_at "look"))
local macro_rules | `(tactic| walk_at "lenv") => `(tactic| first
  | exact Or.inl ⟨_, SqL.of (by walk_at "look"), rfl⟩
  | exact Or.inr ⟨_, SqT.of (by walk_at "look"), rfl⟩
  | exact ⟨line_le (by omega), rfl⟩)
local macro_rules | `(tactic| walk_at "cond") => `(tactic| first
  | assumption
  | rfl
  | exact Nat.zero_le _
  | exact Nat.le_of_ble_eq_true rfl
  | decide
  | omega
  | exact line_lt (by (try simp only [List.length_map, List.length_append, List.length_cons, List.length_nil]); omega)
  | exact line_le (by (try simp only [List.length_map, List.length_append, List.length_cons, List.length_nil]); omega)
  | (dsimp only; omega)
  | exact ⟨by decide, by decide⟩
  | exact ⟨by decide, by decide, by decide⟩
  | exact Or.inl ⟨by decide, by decide⟩
  | exact Or.inl ⟨by omega, by omega⟩
  | exact Or.inr ⟨by omega, by omega⟩)
local macro_rules | `(tactic| walk_at "kit") => `(tactic| first | assumption | exact kit_NoneType_int | exact kit_NoneType_bool | exact kit_NoneType_str | exact kit_NoneType_list | exact kit_NoneType_tuple | exact kit_NoneType_dict | exact kit_bool_int | exact kit_bool_bool | exact kit_bool_str | exact kit_bool_list | exact kit_bool_tuple | exact kit_bool_dict | exact kit_int_int | exact kit_int_bool | exact kit_int_str | exact kit_int_list | exact kit_int_tuple | exact kit_int_dict | exact kit_str_int | exact kit_str_bool | exact kit_str_str | exact kit_str_list | exact kit_str_tuple | exact kit_str_dict | exact kit_list_int | exact kit_list_bool | exact kit_list_str | exact kit_list_list | exact kit_list_tuple | exact kit_list_dict | exact kit_tuple_int | exact kit_tuple_bool | exact kit_tuple_str | exact kit_tuple_list | exact kit_tuple_tuple | exact kit_tuple_dict | exact kit_dict_int | exact kit_dict_bool | exact kit_dict_str | exact kit_dict_list | exact kit_dict_tuple | exact kit_dict_dict)
local macro_rules | `(tactic| walk_at "ty") => `(tactic| first | assumption | exact tyx_str | exact tyx_int | exact tyx_bl | exact tyx_non | exact tyx_lst (by walk_at "look") | exact tyx_tup (by walk_at "look") | exact tyx_dK (by walk_at "look"))
local macro_rules | `(tactic| walk_at "s") => `(tactic| first
  | refine ⟨_, rfl, ?_⟩
  | refine ⟨_, _, rfl, rfl, ?_⟩
  | refine ⟨_, _, _, _, rfl, rfl, SqL.of (by walk_at "look"), by rfl, ?_⟩
  | refine ⟨_, _, _, _, rfl, rfl, SqT.of (by walk_at "look"), by rfl, ?_⟩
  | refine ⟨_, _, _, _, rfl, rfl, by walk_at "look", by rfl, ?_⟩
  | refine ⟨_, _, rfl, by walk_at "lenv", ?_⟩
  | refine Or.inl ⟨_, rfl, ?_⟩
  | refine ⟨_, _, _, _, _, rfl, ClsV.ty _, by walk_at "ty", by walk_at "kit", ?_⟩
  | refine And.intro (by walk_at "cond") ?_
  | refine ⟨_, _, rfl, SqT.of (by walk_at "look"), rfl, ?_⟩
  | refine ⟨_, _, rfl, SqL.of (by walk_at "look"), rfl, ?_⟩
  | refine And.intro (Or.inl ⟨rfl, _, SqL.of (by walk_at "look")⟩) ?_
  | refine ⟨_, _, _, rfl, rfl, by walk_at "look", by walk_at "cond", ?_⟩
  | refine ⟨_, _, _, _, rfl, rfl, by walk_at "look", by walk_at "look", by walk_at "cond", ?_⟩
  | refine And.intro ⟨_, rfl⟩ ?_
  | refine And.intro ⟨_, SqL.of (by walk_at "look")⟩ ?_
  | refine ⟨_, _, rfl, SqL.of (by walk_at "look"), ?_⟩
  | refine ⟨_, _, rfl, (by assumption : SqL _ _ _ _), ?_⟩
  | refine ⟨_, by walk_at "look", by walk_at "cond", ?_⟩
  | refine ⟨_, _, rfl, Or.inr (SqT.of (by walk_at "look")), ?_⟩
  | refine ⟨_, _, rfl, Or.inl (SqL.of (by walk_at "look")), ?_⟩
  | refine ⟨_, _, rfl, ?_⟩
  | refine ⟨_, _, _, rfl, by walk_at "look", by assumption, ?_⟩
  | refine ⟨_, _, true, _, _, rfl, rfl, ClsV.own _, kit_own (by assumption) (by assumption), rfl, by walk_at "look", ?_⟩
  | refine ⟨_, _, _, _, rfl, ErAt.same (by assumption) (by walk_at "sames"), by assumption, by assumption, ?_⟩
  | refine ⟨_, _, _, _, rfl, ErAt.same (by assumption) (by walk_at "sames"), by assumption, by assumption, by assumption, ?_⟩
  | refine if_t (by first | rfl | assumption | decide) ?_
  | refine if_f (by assumption) ?_
  | refine if_f (by first | decide | exact Bool.false_ne_true) ?_
  | refine fun (_ : _ ≠ sysModules) => ?_
  | refine fun (_ : ErAt _ _ _ _) => ?_
  | refine fun _ _ => ?_)

theorem l_fixed_step (T : Txt K mg A) {n k : Nat} {spI : Sp} (FI : FnG P w K mg base CX0 k A.l_fixed spI) (hI : ∀ m, n = m + 1 → ∀ vs H Q E, spFixed m vs H Q E → spI vs H Q E) : FnG P w K mg base CX0 (k + 1) A.l_fixed (spFixed n) := by
  obtain ⟨fd, F⟩ := T.F_l_fixed
  refine Fun_okN F sc_l_fixed (fun vs H Q E h => ?_) (fun _ _ _ _ _ _ us hl => match us, hl with | [_], _ => rfl) (fun cdv A' outer s H vs Q E hr hg h => ?_)
  · obtain ⟨_, _, rfl, _⟩ := h
    rfl
  obtain ⟨v, d, rfl, hd, ok, q⟩ := h
  refine ⟨_, ((pss_cons (ps_if (pt_val (pe_callB call_isi (by rfl) T.n_isinstance (by decide +kernel) (pa_cons (pv 0) (pa_cons (pe_bltn (v := .ty "dict") (u := .type "dict") (by rfl) T.n_dict (by decide +kernel) rfl) pa_nil)))) (pss_cons (ps_set (i := 1) sc_l_fixed.nd rfl (Or.inl rfl) (pe_lst pa_nil))
    (pss_cons (MyD.ps_two (ps_lock (ps_for PassesOwn.never rfl (pi_keys (pv 0)) (pg_name (i := 2) sc_l_fixed.nd rfl (Or.inl rfl))
    (pss_cons (ps_set (i := 3) sc_l_fixed.nd rfl (Or.inl rfl) pe_int)
    (pss_cons (ps_while PassesOwn.never (PW.pt (pw_and (pt_cmpR op_lt (pv 3) (pe_callB call_len (by rfl) T.n_len (by decide +kernel) (pa_cons (pv 1) pa_nil)) (nomark _)) (pw_and1 (pt_cmpR MyD.op_ltK (pe_ix ix_tup (pe_ix ix_list (pv 1) (pv 3) (fun _ _ => rfl)) pe_int (fun _ _ => rfl)) (pv 2) (nomark _))))) (pss_one (ps_set (i := 3) sc_l_fixed.nd rfl (Or.inl rfl) (pe_op op_add (pv 3) pe_int))))
    (pss_one (ps_set (i := 1) sc_l_fixed.nd rfl (Or.inl rfl) (pe_op op_cat (pe_op op_cat (pe_slice sl_list (pv 1) po_none (po_some (pv 3))) (pe_lst (pa_cons (pe_tup (pa_cons (pv 2) (pa_cons (pe_callGd FI hr hg rfl T.m_l_fixed T.k_l_fixed pass0 (pa_cons (pe_dget (hu_of hr) (pv 0) (pv 2) (fun _ _ => rfl)) pa_nil)) pa_nil))) pa_nil))) (pe_slice sl_list (pv 1) (po_some (pv 3)) po_none)))))))) (ps_for PassesOwn.never rfl (pi_keys (pv 0)) (pg_name (i := 2) sc_l_fixed.nd rfl (Or.inl rfl))
    (pss_cons (ps_set (i := 3) sc_l_fixed.nd rfl (Or.inl rfl) pe_int)
    (pss_cons (ps_while PassesOwn.never (PW.pt (pw_and (pt_cmpR op_lt (pv 3) (pe_callB call_len (by rfl) T.n_len (by decide +kernel) (pa_cons (pv 1) pa_nil)) (nomark _)) (pw_and1 (pt_cmpR MyD.op_ltK (pe_ix ix_tup (pe_ix ix_list (pv 1) (pv 3) (fun _ _ => rfl)) pe_int (fun _ _ => rfl)) (pv 2) (nomark _))))) (pss_one (ps_set (i := 3) sc_l_fixed.nd rfl (Or.inl rfl) (pe_op op_add (pv 3) pe_int))))
    (pss_one (ps_set (i := 1) sc_l_fixed.nd rfl (Or.inl rfl) (pe_op op_cat (pe_op op_cat (pe_slice sl_list (pv 1) po_none (po_some (pv 3))) (pe_lst (pa_cons (pe_tup (pa_cons (pv 2) (pa_cons (pe_callGd FI hr hg rfl T.m_l_fixed T.k_l_fixed pass0 (pa_cons (pe_dget (hu_of hr) (pv 0) (pv 2) (fun _ _ => rfl)) pa_nil)) pa_nil))) pa_nil))) (pe_slice sl_list (pv 1) (po_some (pv 3)) po_none))))))))
    (pss_one (ps_ret (pe_callTy call_tuple_of (by rfl) T.n_tuple (by decide +kernel) (pa_cons (pv 1) pa_nil)))))) pss_nil)
    (pss_cons (ps_if (PW.pt (pw_or (pt_val (pe_callB call_isi (by rfl) T.n_isinstance (by decide +kernel) (pa_cons (pv 0) (pa_cons (pe_bltn (v := .ty "list") (u := .type "list") (by rfl) T.n_list (by decide +kernel) rfl) pa_nil)))) (pw_or1 (pt_val (pe_callB call_isi (by rfl) T.n_isinstance (by decide +kernel) (pa_cons (pv 0) (pa_cons (pe_bltn (v := .ty "tuple") (u := .type "tuple") (by rfl) T.n_tuple (by decide +kernel) rfl) pa_nil))))))) (pss_one (ps_ret (pe_callTy call_tuple_of (by rfl) T.n_tuple (by decide +kernel) (pa_cons (pe_lc (own := [(("_law_part" : PySem.Str), 4)]) rfl sc_l_fixed.nd (MyD.pi_or (pi_list (pv 0)) (pi_tup (pv 0))) (blkOk_by (own := [(("_law_part" : PySem.Str), 4)]) (N := [("_law_value_here" : PySem.Str), ("_law_pairs" : PySem.Str), ("_law_key" : PySem.Str), ("_law_at" : PySem.Str), ("_law_part" : PySem.Str)]) (sc := defScope s_l_fixed) (by decide +kernel)) (fun _ _ _ _ _ => (pg_name (i := 4) sc_l_fixed.nd rfl (Or.inl rfl))) (fun _ _ _ _ _ => pts_nil) (fun _ _ _ _ _ => (pe_callGd FI hr hg rfl T.m_l_fixed T.k_l_fixed pass0 (pa_cons (pv 4) pa_nil)))) pa_nil)))) pss_nil)
    (pss_one (ps_ret (pv 0)))))), ?_⟩
  cases ok with
  | leaf l =>
    obtain ⟨N, ty, k1, k2, k3⟩ := hd.flatTy (K := K) l.flat
    have ty0 := ty H
    repeat walk_at "s"
    exact q _ _ _ (Same.refl _) (.flat l.flat) hd
  | @list n ds hl hok =>
    cases hd with
    | @lst a xs _ ha hds =>
      have ty0 := tyx_lstR (K := K) ha
      repeat walk_at "s"
      refine .l ⟨_, rfl, _, rfl, ⟨xs, .inl ha⟩, ?_⟩
      intro D hD
      refine lc_it (walk_list (xs := xs)) (fun i H2 => Iv (Same H H2 ∧ ∃ ws es, H2 D = some (.lst ws) ∧ ws.length = i ∧ DpRs H2 ws es ∧ FxAll (ds.take i) es))
        (Iv.mk ⟨Same.new (Same.refl _) hD, [], [], upd_same, rfl, .nil, .nil⟩) (fun i H2 _ h => .inl ((Kr.of (show Same _ H2 from h.out.1)).l _ _ ha)) ?_ ?_
      · rintro i x H1 H2 hi hI2 ⟨rfl, hx⟩
        obtain ⟨sm, ws, es, hDl, hw, hd1, hf⟩ := hI2.out
        obtain ⟨d, hdi, hdr⟩ := DpRs.at_ hds hx
        have okd := hok d (List.mem_of_getElem? hdi)
        repeat walk_at "s"
        refine Iv.mk (hI _ rfl _ _ _ _ ⟨x, d, rfl, hdr.same sm, okd, fun H3 v3 e3 sm3 fx3 dp3 => ?_⟩)
        have hD3 := sm3 _ _ hDl
        have lt : ws.length < sizeLine := line_lt (by have := hds.length; have := DpRs.length hds; omega)
        refine ⟨ws, hD3, lt, Iv.mk ⟨Same.put (fun b o e => sm3 b o (sm b o e)) hD, ws ++ [v3], es ++ [e3], upd_same, by rw [List.length_append, hw]; rfl, ?_, by rw [take_one hdi]; exact hf.snoc fx3⟩⟩
        have tupA := (hf.snoc fx3).tupA (n := n) fun y hy => by
          rcases List.mem_append.mp hy with hy | hy
          · exact hok y (List.mem_of_mem_take hy)
          · rw [List.mem_singleton.mp hy]; exact okd
        exact DpRs.tups (fun b xs e => by rw [upd_ne (ne_of e hD3 (fun z => nomatch z))]; exact e) tupA ((hd1.same sm3).snoc dp3)
      · intro H2 hI2
        obtain ⟨sm, ws, es, hDl, hw, hd1, hf⟩ := hI2.out
        have el : ds.take xs.length = ds := by rw [hds.length, List.take_length]
        rw [el] at hf
        refine ⟨_, _, rfl, .inl ⟨SqL.of hDl, fun l hl2 => ?_⟩⟩
        exact q _ _ _ (Same.new sm hl2) (.list hf) (.tup upd_same (hd1.same (Same.new (Same.refl _) hl2)))
  | @tup n ds hl hok =>
    cases hd with
    | @tup a xs _ ha hds =>
      have ty0 := tyx_tup (K := K) ha
      repeat walk_at "s"
      refine .r ⟨_, rfl, _, rfl, ⟨xs, .inl (.inl ha)⟩, ?_⟩
      intro D hD
      refine lc_it (walk_tup (xs := xs)) (fun i H2 => Iv (Same H H2 ∧ ∃ ws es, H2 D = some (.lst ws) ∧ ws.length = i ∧ DpRs H2 ws es ∧ FxAll (ds.take i) es))
        (Iv.mk ⟨Same.new (Same.refl _) hD, [], [], upd_same, rfl, .nil, .nil⟩) (fun i H2 _ h => .inl (.inl ((show Same _ H2 from h.out.1) _ _ ha))) ?_ ?_
      · rintro i x H1 H2 hi hI2 ⟨rfl, hx⟩
        obtain ⟨sm, ws, es, hDl, hw, hd1, hf⟩ := hI2.out
        obtain ⟨d, hdi, hdr⟩ := DpRs.at_ hds hx
        have okd := hok d (List.mem_of_getElem? hdi)
        repeat walk_at "s"
        refine Iv.mk (hI _ rfl _ _ _ _ ⟨x, d, rfl, hdr.same sm, okd, fun H3 v3 e3 sm3 fx3 dp3 => ?_⟩)
        have hD3 := sm3 _ _ hDl
        have lt : ws.length < sizeLine := line_lt (by have := hds.length; have := DpRs.length hds; omega)
        refine ⟨ws, hD3, lt, Iv.mk ⟨Same.put (fun b o e => sm3 b o (sm b o e)) hD, ws ++ [v3], es ++ [e3], upd_same, by rw [List.length_append, hw]; rfl, ?_, by rw [take_one hdi]; exact hf.snoc fx3⟩⟩
        have tupA := (hf.snoc fx3).tupA (n := n) fun y hy => by
          rcases List.mem_append.mp hy with hy | hy
          · exact hok y (List.mem_of_mem_take hy)
          · rw [List.mem_singleton.mp hy]; exact okd
        exact DpRs.tups (fun b xs e => by rw [upd_ne (ne_of e hD3 (fun z => nomatch z))]; exact e) tupA ((hd1.same sm3).snoc dp3)
      · intro H2 hI2
        obtain ⟨sm, ws, es, hDl, hw, hd1, hf⟩ := hI2.out
        have el : ds.take xs.length = ds := by rw [hds.length, List.take_length]
        rw [el] at hf
        refine ⟨_, _, rfl, .inl ⟨SqL.of hDl, fun l hl2 => ?_⟩⟩
        exact q _ _ _ (Same.new sm hl2) (.tup hf) (.tup upd_same (hd1.same (Same.new (Same.refl _) hl2)))
  | @dict n ps hl hnd hks hlf hok =>
    cases hd with
    | @dct a kvs _ ha hds =>
      have ty0 := tyx_dctR (K := K) ha
      repeat walk_at "s"
      rename_i pl hpl
      rcases ha with ha | ⟨od, ha⟩
      · refine .l ⟨a, .dK kvs, by walk_at "look", trivial, fun od => ?_⟩
        have hla : a ≠ pl := ne_of_none ha hpl
        have KpH : Kp a H (upd (upd H pl (.lst [])) a (.frz od (.dK kvs))) := fun b o nb e => by rw [upd_ne nb, upd_ne (ne_of_none e hpl)]; exact e
        have hlk : upd (upd H pl (.lst [])) a (.frz od (.dK kvs)) a = some (.frz od (.dK kvs)) := upd_same
        have hpl0 : upd (upd H pl (.lst [])) a (.frz od (.dK kvs)) pl = some (.lst []) := by rw [upd_ne (Ne.symm hla)]; exact upd_same
        have haR : Rd H a (.dK kvs) := .inl ha
        refine ⟨_, rfl, a, od, rfl, .inl ⟨kvs, hlk, ?_⟩⟩
        refine for_it (walk_keys (d := a) (o := od) (kvs := kvs)) (fun i σ H2 => Iv (∃ (pl2 : Addr) (ws : List V) (zs : List KD) (es : List PyData) (k1 a1 p1 : Option V), σ = [some (.ref a), some (.ref pl2), k1, a1, p1] ∧ Kp a H H2 ∧ H2 a = some (.frz od (.dK kvs)) ∧ H2 pl2 = some (.lst ws) ∧ pl2 ≠ a ∧
            DpRs H2 ws es ∧ FxP (zs.map kdP) es ∧ SortedK (zs.map kdP) ∧ (ps.take i).Perm (zs.map kdP) ∧ TupAll es ∧ i ≤ 3))
          (Iv.mk ⟨pl, [], [], [], _, _, _, rfl, KpH, hlk, hpl0, Ne.symm hla, .nil, .nil, List.Pairwise.nil, .refl _, .nil, Nat.zero_le _⟩) (fun i σ H2 _ h => by obtain ⟨_, _, _, _, _, _, _, _, _, h, _⟩ := h.out; exact h) ?_ ?_
        · rintro i x σ H2 H3 hi hI2 ⟨rfl, ⟨kk, vv, hkv, rfl⟩⟩
          obtain ⟨pl2, ws, zs, es, k1, a1, p1, rfl, kp, hla2, hpl2, hpla, hd1, hf, hso, hpm, htu, hi3⟩ := hI2.out
          obtain ⟨dd, hpi, hdr⟩ := DpRp.at_ hds hkv
          have okd := hok _ (List.mem_of_getElem? hpi)
          have lf := hlf _ (List.mem_of_getElem? hpi)
          have lz : zs.length = i := by
            have := hpm.length_eq
            rw [List.length_map, List.length_take] at this
            have := (List.getElem?_eq_some_iff.mp hpi).1
            omega
          have lw : ws.length = zs.length := by rw [hd1.length, ← hf.length, List.length_map]
          have hl3 := (List.getElem?_eq_some_iff.mp hpi).1
          have hvk : valV kvs kk = some vv := by
            have e := hds.keys
            have e2 : (kvs.map fun p => keyD p.1) = (kvs.map (·.1)).map keyD := by rw [List.map_map]; rfl
            have h0 := hnd
            rw [e, e2] at h0
            exact valV_mem (List.Pairwise.of_map (f := keyD) (fun a b (h : keyD a ≠ keyD b) e => h (by rw [e])) h0) (List.mem_of_getElem? hkv)
          have hkin : ∀ z ∈ zs, Kin z.1 kk ∧ z.1 ≠ kk := fun z hz => by
            have m1 : kdP z ∈ ps.take i := hpm.symm.subset (List.mem_map_of_mem hz)
            have m2 : keyD z.1 ∈ ps.map (·.1) := List.mem_map_of_mem (List.mem_of_mem_take m1)
            have m3 : keyD kk ∈ ps.map (·.1) := List.mem_map_of_mem (List.mem_of_getElem? hpi)
            exact ⟨kin_of hks m2 m3, fun e => ne_key hnd m1 hpi (show keyD z.1 = keyD kk by rw [e])⟩
          repeat walk_at "s"
          refine ⟨fun m σ H2 => ∃ at_ : Nat, m = zs.length - at_ ∧ σ = [some (.ref a), some (.ref pl2), some (kV kk), some (.int (at_ : Int)), p1] ∧ at_ ≤ zs.length ∧ (∀ j y, j < at_ → zs[j]? = some y → keyLt (keyD y.1) (keyD kk)) ∧ H2 = H3, ⟨_, 0, rfl, rfl, Nat.zero_le _, fun j y h => absurd h (Nat.not_lt_zero _), rfl⟩, ?_⟩
          rintro m σ H2 ⟨at_, rfl, rfl, hat, hlt, rfl⟩
          repeat walk_at "s"
          refine ite2 (fun c1 => ?_) (fun c1 => ?_)
          · have c1' : at_ < ws.length := by
              have := of_decide_eq_true c1
              omega
            obtain ⟨z, hz⟩ : ∃ z, zs[at_]? = some z := ⟨zs[at_]'(by omega), List.getElem?_eq_getElem (by omega)⟩
            obtain ⟨e, he⟩ := hf.at_ (i := at_) (p := kdP z) (by rw [List.getElem?_map, hz]; rfl)
            obtain ⟨tv, htv, dtv⟩ := hd1.at2 he
            cases dtv with
            | @tup tj txs _ htj dtx =>
              cases dtx with
              | @cons x1 xr _ _ dx1 dxr =>
                have ex1 := dpR_keyV dx1
                subst ex1
                cases dxr with
                | @cons x2 _ _ _ dx2 dn =>
                cases dn
                have hkn := hkin z (List.mem_of_getElem? hz)
                repeat walk_at "s"
                refine ⟨_, _, _, _, rfl, rfl, SqL.of hpl2, atI_nat htv, ?_⟩
                repeat walk_at "s"
                refine ⟨hkn.1, ?_⟩
                repeat walk_at "s"
                refine ite2 (fun c2 => ?_) (fun c2 => ?_)
                · refine ⟨fun σ' H' => Iv (∃ at2 : Nat, at2 = at_ + 1 ∧ σ' = [some (.ref a), some (.ref pl2), some (kV kk), some (.int (at2 : Int)), p1] ∧ H' = H2), fun σ' H' h => ?_, ?_⟩
                  · obtain ⟨at2, rfl, rfl, rfl⟩ := h.out
                    refine ⟨zs.length - (at_ + 1), by omega, at_ + 1, rfl, rfl, by omega, fun j y hj hy => ?_, rfl⟩
                    by_cases hja : j = at_
                    · rw [hja, hz] at hy
                      rw [← Option.some.inj hy]
                      exact ltK_iff.mp c2
                    · exact hlt j y (by omega) hy
                  · repeat walk_at "s"
                    exact Iv.mk ⟨at_ + 1, rfl, rfl, rfl⟩
                · have hgt : ∀ y, zs[at_]? = some y → keyLt (keyD kk) (keyD y.1) := fun y hy => by
                    rw [hz] at hy
                    rw [← Option.some.inj hy]
                    exact ltK_or hkn.1 hkn.2 (by simpa using c2)
                  clear htj dx2
                  clear x2
                  repeat walk_at "s"
                  refine ⟨.inl ⟨kvs, kk, .inr ⟨od, by walk_at "look"⟩, rfl, hvk.symm⟩, ?_⟩
                  have krs := krK haR kp hla2
                  have hc1 := cutV_length ws none (some (at_ : Int))
                  have hc2 := cutV_length ws (some (at_ : Int)) none
                  have hw3 : ws.length ≤ 3 := by omega
                  repeat walk_at "s"
                  refine Iv.mk (hI _ rfl _ _ _ _ ⟨vv, dd, rfl, (hdr.kr krs).same (by walk_at "sames"), okd, fun H4 v4 e4 sm4 fx4 dp4 => ?_⟩)
                  repeat walk_at "s"
                  show Iv _
                  refine Iv.mk ?_
                  refine ⟨_, _, zs.take at_ ++ [(kk, dd)] ++ zs.drop at_, es.take at_ ++ [.tuple [keyD kk, e4]] ++ es.drop at_, _, _, _, rfl, fun b o nb e => (show Same H2 _ by walk_at "sames") b o (kp b o nb e), by walk_at "look", upd_same, ne_new' (o := .frz od (.dK kvs)) (by assumption) (by walk_at "look"), ?_, ?_, ins_sorted hso hlt hgt, ?_, ?_, by omega⟩
                  · have hle : at_ ≤ ws.length := by omega
                    refine DpRs.app (DpRs.app (DpRs.cutT (hd1.same ?_)) (.cons (.tup (by walk_at "look") (.cons (dpR_key kk) (.cons (dp4.same ?_) .nil))) .nil)) (DpRs.cutD hle (hd1.same ?_)) <;> walk_at "sames"
                  · rw [List.map_append, List.map_append, List.map_take, List.map_drop]
                    exact ((hf.take at_).app (.cons fx4 .nil)).app (hf.drop at_)
                  · rw [take_one hpi, List.map_append, List.map_append, List.map_take, List.map_drop]
                    exact ins_perm hpm
                  · exact ((htu.take at_).app (.cons (.tup (.cons (.flat lf.flat) (.cons (fx4.tupO okd) .nil))) .nil)).app (htu.drop at_)
          · have c1' : at_ = zs.length := by
              have : ws.length ≤ at_ := by simpa using c1
              omega
            have hgt : ∀ y, zs[at_]? = some y → keyLt (keyD kk) (keyD y.1) := fun y hy => by
              rw [List.getElem?_eq_none_iff.mpr (by omega)] at hy
              cases hy
            repeat walk_at "s"
            refine ⟨.inl ⟨kvs, kk, .inr ⟨od, by walk_at "look"⟩, rfl, hvk.symm⟩, ?_⟩
            have krs := krK haR kp hla2
            have hc1 := cutV_length ws none (some (at_ : Int))
            have hc2 := cutV_length ws (some (at_ : Int)) none
            have hw3 : ws.length ≤ 3 := by omega
            repeat walk_at "s"
            refine Iv.mk (hI _ rfl _ _ _ _ ⟨vv, dd, rfl, (hdr.kr krs).same (by walk_at "sames"), okd, fun H4 v4 e4 sm4 fx4 dp4 => ?_⟩)
            repeat walk_at "s"
            show Iv _
            refine Iv.mk ?_
            refine ⟨_, _, zs.take at_ ++ [(kk, dd)] ++ zs.drop at_, es.take at_ ++ [.tuple [keyD kk, e4]] ++ es.drop at_, _, _, _, rfl, fun b o nb e => (show Same H2 _ by walk_at "sames") b o (kp b o nb e), by walk_at "look", upd_same, ne_new' (o := .frz od (.dK kvs)) (by assumption) (by walk_at "look"), ?_, ?_, ins_sorted hso hlt hgt, ?_, ?_, by omega⟩
            · have hle : at_ ≤ ws.length := by omega
              refine DpRs.app (DpRs.app (DpRs.cutT (hd1.same ?_)) (.cons (.tup (by walk_at "look") (.cons (dpR_key kk) (.cons (dp4.same ?_) .nil))) .nil)) (DpRs.cutD hle (hd1.same ?_)) <;> walk_at "sames"
            · rw [List.map_append, List.map_append, List.map_take, List.map_drop]
              exact ((hf.take at_).app (.cons fx4 .nil)).app (hf.drop at_)
            · rw [take_one hpi, List.map_append, List.map_append, List.map_take, List.map_drop]
              exact ins_perm hpm
            · exact ((htu.take at_).app (.cons (.tup (.cons (.flat lf.flat) (.cons (fx4.tupO okd) .nil))) .nil)).app (htu.drop at_)
        · intro σ H2 hI2
          obtain ⟨pl2, ws, zs, es, k1, a1, p1, rfl, kp, hla2, hpl2, hpla, hd1, hf, hso, hpm, htu, hi3⟩ := hI2.out
          have etake : ps.take kvs.length = ps := by rw [hds.length, List.take_length]
          rw [etake] at hpm
          have SF : Same H (upd H2 a (.dK kvs)) := fun b o e => by
            by_cases hb : b = a
            · rw [hb] at e ⊢
              rw [ha] at e
              rw [upd_same]
              exact e
            · rw [upd_ne hb]
              exact kp _ _ hb e
          have TF : ∀ b xs, H2 b = some (.tup xs) → upd H2 a (.dK kvs) b = some (.tup xs) := fun b xs e => by rw [upd_ne (ne_of e hla2 fun z => nomatch z)]; exact e
          refine ⟨hla2, ?_⟩
          repeat walk_at "s"
          refine .inl ⟨SqL.of (by rw [upd_ne hpla]; exact hpl2), fun l hl2 => ?_⟩
          exact q _ _ _ (Same.new SF hl2) (.dict hpm hso hf) (.tup upd_same ((hd1.tups TF htu).same (Same.new (Same.refl _) hl2)))
      · refine .r ?_
        have hla : a ≠ pl := ne_of_none ha hpl
        have KpH : Kp a H (upd H pl (.lst [])) := fun b o nb e => by rw [upd_ne (ne_of_none e hpl)]; exact e
        have hlk : upd H pl (.lst []) a = some (.frz od (.dK kvs)) := by walk_at "look"
        have hpl0 : upd H pl (.lst []) pl = some (.lst []) := upd_same
        have haR : Rd H a (.dK kvs) := .inr ⟨od, ha⟩
        refine ⟨_, rfl, a, od, rfl, .inl ⟨kvs, hlk, ?_⟩⟩
        refine for_it (walk_keys (d := a) (o := od) (kvs := kvs)) (fun i σ H2 => Iv (∃ (pl2 : Addr) (ws : List V) (zs : List KD) (es : List PyData) (k1 a1 p1 : Option V), σ = [some (.ref a), some (.ref pl2), k1, a1, p1] ∧ Kp a H H2 ∧ H2 a = some (.frz od (.dK kvs)) ∧ H2 pl2 = some (.lst ws) ∧ pl2 ≠ a ∧
            DpRs H2 ws es ∧ FxP (zs.map kdP) es ∧ SortedK (zs.map kdP) ∧ (ps.take i).Perm (zs.map kdP) ∧ TupAll es ∧ i ≤ 3))
          (Iv.mk ⟨pl, [], [], [], _, _, _, rfl, KpH, hlk, hpl0, Ne.symm hla, .nil, .nil, List.Pairwise.nil, .refl _, .nil, Nat.zero_le _⟩) (fun i σ H2 _ h => by obtain ⟨_, _, _, _, _, _, _, _, _, h, _⟩ := h.out; exact h) ?_ ?_
        · rintro i x σ H2 H3 hi hI2 ⟨rfl, ⟨kk, vv, hkv, rfl⟩⟩
          obtain ⟨pl2, ws, zs, es, k1, a1, p1, rfl, kp, hla2, hpl2, hpla, hd1, hf, hso, hpm, htu, hi3⟩ := hI2.out
          obtain ⟨dd, hpi, hdr⟩ := DpRp.at_ hds hkv
          have okd := hok _ (List.mem_of_getElem? hpi)
          have lf := hlf _ (List.mem_of_getElem? hpi)
          have lz : zs.length = i := by
            have := hpm.length_eq
            rw [List.length_map, List.length_take] at this
            have := (List.getElem?_eq_some_iff.mp hpi).1
            omega
          have lw : ws.length = zs.length := by rw [hd1.length, ← hf.length, List.length_map]
          have hl3 := (List.getElem?_eq_some_iff.mp hpi).1
          have hvk : valV kvs kk = some vv := by
            have e := hds.keys
            have e2 : (kvs.map fun p => keyD p.1) = (kvs.map (·.1)).map keyD := by rw [List.map_map]; rfl
            have h0 := hnd
            rw [e, e2] at h0
            exact valV_mem (List.Pairwise.of_map (f := keyD) (fun a b (h : keyD a ≠ keyD b) e => h (by rw [e])) h0) (List.mem_of_getElem? hkv)
          have hkin : ∀ z ∈ zs, Kin z.1 kk ∧ z.1 ≠ kk := fun z hz => by
            have m1 : kdP z ∈ ps.take i := hpm.symm.subset (List.mem_map_of_mem hz)
            have m2 : keyD z.1 ∈ ps.map (·.1) := List.mem_map_of_mem (List.mem_of_mem_take m1)
            have m3 : keyD kk ∈ ps.map (·.1) := List.mem_map_of_mem (List.mem_of_getElem? hpi)
            exact ⟨kin_of hks m2 m3, fun e => ne_key hnd m1 hpi (show keyD z.1 = keyD kk by rw [e])⟩
          repeat walk_at "s"
          refine ⟨fun m σ H2 => ∃ at_ : Nat, m = zs.length - at_ ∧ σ = [some (.ref a), some (.ref pl2), some (kV kk), some (.int (at_ : Int)), p1] ∧ at_ ≤ zs.length ∧ (∀ j y, j < at_ → zs[j]? = some y → keyLt (keyD y.1) (keyD kk)) ∧ H2 = H3, ⟨_, 0, rfl, rfl, Nat.zero_le _, fun j y h => absurd h (Nat.not_lt_zero _), rfl⟩, ?_⟩
          rintro m σ H2 ⟨at_, rfl, rfl, hat, hlt, rfl⟩
          repeat walk_at "s"
          refine ite2 (fun c1 => ?_) (fun c1 => ?_)
          · have c1' : at_ < ws.length := by
              have := of_decide_eq_true c1
              omega
            obtain ⟨z, hz⟩ : ∃ z, zs[at_]? = some z := ⟨zs[at_]'(by omega), List.getElem?_eq_getElem (by omega)⟩
            obtain ⟨e, he⟩ := hf.at_ (i := at_) (p := kdP z) (by rw [List.getElem?_map, hz]; rfl)
            obtain ⟨tv, htv, dtv⟩ := hd1.at2 he
            cases dtv with
            | @tup tj txs _ htj dtx =>
              cases dtx with
              | @cons x1 xr _ _ dx1 dxr =>
                have ex1 := dpR_keyV dx1
                subst ex1
                cases dxr with
                | @cons x2 _ _ _ dx2 dn =>
                cases dn
                have hkn := hkin z (List.mem_of_getElem? hz)
                repeat walk_at "s"
                refine ⟨_, _, _, _, rfl, rfl, SqL.of hpl2, atI_nat htv, ?_⟩
                repeat walk_at "s"
                refine ⟨hkn.1, ?_⟩
                repeat walk_at "s"
                refine ite2 (fun c2 => ?_) (fun c2 => ?_)
                · refine ⟨fun σ' H' => Iv (∃ at2 : Nat, at2 = at_ + 1 ∧ σ' = [some (.ref a), some (.ref pl2), some (kV kk), some (.int (at2 : Int)), p1] ∧ H' = H2), fun σ' H' h => ?_, ?_⟩
                  · obtain ⟨at2, rfl, rfl, rfl⟩ := h.out
                    refine ⟨zs.length - (at_ + 1), by omega, at_ + 1, rfl, rfl, by omega, fun j y hj hy => ?_, rfl⟩
                    by_cases hja : j = at_
                    · rw [hja, hz] at hy
                      rw [← Option.some.inj hy]
                      exact ltK_iff.mp c2
                    · exact hlt j y (by omega) hy
                  · repeat walk_at "s"
                    exact Iv.mk ⟨at_ + 1, rfl, rfl, rfl⟩
                · have hgt : ∀ y, zs[at_]? = some y → keyLt (keyD kk) (keyD y.1) := fun y hy => by
                    rw [hz] at hy
                    rw [← Option.some.inj hy]
                    exact ltK_or hkn.1 hkn.2 (by simpa using c2)
                  clear htj dx2
                  clear x2
                  repeat walk_at "s"
                  refine ⟨.inl ⟨kvs, kk, .inr ⟨od, by walk_at "look"⟩, rfl, hvk.symm⟩, ?_⟩
                  have krs := krK haR kp hla2
                  have hc1 := cutV_length ws none (some (at_ : Int))
                  have hc2 := cutV_length ws (some (at_ : Int)) none
                  have hw3 : ws.length ≤ 3 := by omega
                  repeat walk_at "s"
                  refine Iv.mk (hI _ rfl _ _ _ _ ⟨vv, dd, rfl, (hdr.kr krs).same (by walk_at "sames"), okd, fun H4 v4 e4 sm4 fx4 dp4 => ?_⟩)
                  repeat walk_at "s"
                  show Iv _
                  refine Iv.mk ?_
                  refine ⟨_, _, zs.take at_ ++ [(kk, dd)] ++ zs.drop at_, es.take at_ ++ [.tuple [keyD kk, e4]] ++ es.drop at_, _, _, _, rfl, fun b o nb e => (show Same H2 _ by walk_at "sames") b o (kp b o nb e), by walk_at "look", upd_same, ne_new' (o := .frz od (.dK kvs)) (by assumption) (by walk_at "look"), ?_, ?_, ins_sorted hso hlt hgt, ?_, ?_, by omega⟩
                  · have hle : at_ ≤ ws.length := by omega
                    refine DpRs.app (DpRs.app (DpRs.cutT (hd1.same ?_)) (.cons (.tup (by walk_at "look") (.cons (dpR_key kk) (.cons (dp4.same ?_) .nil))) .nil)) (DpRs.cutD hle (hd1.same ?_)) <;> walk_at "sames"
                  · rw [List.map_append, List.map_append, List.map_take, List.map_drop]
                    exact ((hf.take at_).app (.cons fx4 .nil)).app (hf.drop at_)
                  · rw [take_one hpi, List.map_append, List.map_append, List.map_take, List.map_drop]
                    exact ins_perm hpm
                  · exact ((htu.take at_).app (.cons (.tup (.cons (.flat lf.flat) (.cons (fx4.tupO okd) .nil))) .nil)).app (htu.drop at_)
          · have c1' : at_ = zs.length := by
              have : ws.length ≤ at_ := by simpa using c1
              omega
            have hgt : ∀ y, zs[at_]? = some y → keyLt (keyD kk) (keyD y.1) := fun y hy => by
              rw [List.getElem?_eq_none_iff.mpr (by omega)] at hy
              cases hy
            repeat walk_at "s"
            refine ⟨.inl ⟨kvs, kk, .inr ⟨od, by walk_at "look"⟩, rfl, hvk.symm⟩, ?_⟩
            have krs := krK haR kp hla2
            have hc1 := cutV_length ws none (some (at_ : Int))
            have hc2 := cutV_length ws (some (at_ : Int)) none
            have hw3 : ws.length ≤ 3 := by omega
            repeat walk_at "s"
            refine Iv.mk (hI _ rfl _ _ _ _ ⟨vv, dd, rfl, (hdr.kr krs).same (by walk_at "sames"), okd, fun H4 v4 e4 sm4 fx4 dp4 => ?_⟩)
            repeat walk_at "s"
            show Iv _
            refine Iv.mk ?_
            refine ⟨_, _, zs.take at_ ++ [(kk, dd)] ++ zs.drop at_, es.take at_ ++ [.tuple [keyD kk, e4]] ++ es.drop at_, _, _, _, rfl, fun b o nb e => (show Same H2 _ by walk_at "sames") b o (kp b o nb e), by walk_at "look", upd_same, ne_new' (o := .frz od (.dK kvs)) (by assumption) (by walk_at "look"), ?_, ?_, ins_sorted hso hlt hgt, ?_, ?_, by omega⟩
            · have hle : at_ ≤ ws.length := by omega
              refine DpRs.app (DpRs.app (DpRs.cutT (hd1.same ?_)) (.cons (.tup (by walk_at "look") (.cons (dpR_key kk) (.cons (dp4.same ?_) .nil))) .nil)) (DpRs.cutD hle (hd1.same ?_)) <;> walk_at "sames"
            · rw [List.map_append, List.map_append, List.map_take, List.map_drop]
              exact ((hf.take at_).app (.cons fx4 .nil)).app (hf.drop at_)
            · rw [take_one hpi, List.map_append, List.map_append, List.map_take, List.map_drop]
              exact ins_perm hpm
            · exact ((htu.take at_).app (.cons (.tup (.cons (.flat lf.flat) (.cons (fx4.tupO okd) .nil))) .nil)).app (htu.drop at_)
        · intro σ H2 hI2
          obtain ⟨pl2, ws, zs, es, k1, a1, p1, rfl, kp, hla2, hpl2, hpla, hd1, hf, hso, hpm, htu, hi3⟩ := hI2.out
          have etake : ps.take kvs.length = ps := by rw [hds.length, List.take_length]
          rw [etake] at hpm
          have SF : Same H H2 := fun b o e => by
            by_cases hb : b = a
            · rw [hb] at e ⊢
              rw [ha] at e
              rw [hla2]
              exact e
            · exact kp _ _ hb e
          have TF : ∀ b xs, H2 b = some (.tup xs) → H2 b = some (.tup xs) := fun b xs e => e
          repeat walk_at "s"
          refine .inl ⟨SqL.of hpl2, fun l hl2 => ?_⟩
          exact q _ _ _ (Same.new SF hl2) (.dict hpm hso hf) (.tup upd_same ((hd1.tups TF htu).same (Same.new (Same.refl _) hl2)))
theorem ok_l_fixed (T : Txt K mg A) : ∀ n, FnG P w K mg base CX0 (n + 1) A.l_fixed (spFixed n)
  | 0 => l_fixed_step T (k := 0) (spI := fun _ _ _ _ => False) (fun _ _ _ _ _ _ _ _ _ _ _ _ h => h.elim) (fun m e => nomatch e)
  | n + 1 => l_fixed_step T (ok_l_fixed T n) (fun m e vs H Q E h => by cases e; exact h)
end
end K02

namespace K02
open PySem PySem.Spec PyProof.Rows L2 MyL MyD MyP
abbrev fld (fs : List (Str × V)) (f : Str) : Option V := List.lookup f fs
/-- at a: a paper of the class at C, its word, its fixed parts, its own fields -/
def PapAt (H : Hp) (a C : Addr) (z : Str) (es : List PyData) (fl : List Str) : Prop := ∃ (dx : Addr) (fs : List (Str × V)) (p : Addr) (vs : List V), H a = some (.ins C dx fs) ∧ fld fs "word" = some (.str z) ∧ fld fs "parts" = some (.ref p) ∧ H p = some (.tup vs) ∧ DpRs H vs es ∧ TupAll es ∧
  ∀ (i : Nat) (f : Str), fl[i]? = some f → ∃ v, fld fs f = some v ∧ vs[i]? = some v
/-- what of a class the makers lean on -/
structure PCls (K : PySem.W.Frag) (C : Addr) : Prop where
  c : Cls K C
  w : NoAttr K C "word"
  p : NoAttr K C "parts"
def spPInit (K : PySem.W.Frag) : Sp := fun vs H Q _ => ∃ (a C dx : Addr) (z : Str) (xs : List V) (ds : List PyData), vs = .ref a :: .str z :: xs ∧ H a = some (.ins C dx []) ∧ PCls K C ∧ DpRs H xs ds ∧ (∀ d ∈ ds, Okd 4 d) ∧ ds.length ≤ 3 ∧
  ∀ H' es p ws, Kp a H H' → H' a = some (.ins C dx [("word", .str z), ("parts", .ref p)]) → H' p = some (.tup ws) → DpRs H' ws es → FxAll ds es → Q .non H'
def spPI0 (K : PySem.W.Frag) : Sp := fun vs H Q _ => ∃ (a C dx p : Addr) (z : Str) (xs : List V) (ds : List PyData), vs = [.ref a, .str z, .ref p] ∧ H a = some (.ins C dx []) ∧ p ≠ a ∧ H p = some (.tup xs) ∧ PCls K C ∧ DpRs H xs ds ∧ (∀ d ∈ ds, Okd 4 d) ∧ ds.length ≤ 3 ∧
  ∀ H' es q ws, Kp a H H' → H' a = some (.ins C dx [("word", .str z), ("parts", .ref q)]) → H' q = some (.tup ws) → DpRs H' ws es → FxAll ds es → Q .non H'
section
variable {P : Program} {w : World} {K : PySem.W.Frag} {mg : Str → Option Value} {base : Heap} {A : Adr}
local macro_rules | `(tactic| walk_at "sames") => `(tactic| repeat (first
  | exact Same.refl _
  | refine Same.new ?_ (by assumption)
  | refine Same.trans ?_ (by assumption)))
local macro_rules | `(tactic| walk_at "ne") => `(tactic| first
  | assumption
  | exact Ne.symm (by assumption)
  | exact ne_new (by assumption) (by walk_at "look")
  | exact ne_new' (by assumption) (by walk_at "look")
  | exact ne_of (by walk_at "look") (by walk_at "look") (by intro z; cases z))
local macro_rules | `(tactic| walk_at "look") => `(tactic| first
  | assumption
  | exact upd_same
  | (refine upd_new (by assumption) ?_
     walk_at "look")
  | (refine (upd_ne ?_).trans ?_
     · walk_at "ne"
     · walk_at "look")
  | (refine Kp.get (by assumption) ?_ ?_
     · walk_at "ne"
     · walk_at "look")
  | (refine Same.get (by assumption) ?_
     walk_at "look"))
local macro_rules | `(tactic| walk_at "lenv") => `(tactic| first
  | exact Or.inl ⟨_, SqL.of (by walk_at "look"), rfl⟩
  | exact Or.inr ⟨_, SqT.of (by walk_at "look"), rfl⟩
  | exact ⟨line_le (by omega), rfl⟩)
local macro_rules | `(tactic| walk_at "cond") => `(tactic| first
  | assumption
  | rfl
  | exact Nat.zero_le _
  | exact Nat.le_of_ble_eq_true rfl
  | decide
  | omega
  | exact line_lt (by (try simp only [List.length_map, List.length_append, List.length_cons, List.length_nil]); omega)
  | exact line_le (by (try simp only [List.length_map, List.length_append, List.length_cons, List.length_nil]); omega)
  | (dsimp only; omega)
  | exact ⟨by decide, by decide⟩
  | exact ⟨by decide, by decide, by decide⟩
  | exact Or.inl ⟨by decide, by decide⟩
  | exact Or.inl ⟨by omega, by omega⟩
  | exact Or.inr ⟨by omega, by omega⟩)
local macro_rules | `(tactic| walk_at "kit") => `(tactic| first | assumption | exact kit_NoneType_int | exact kit_NoneType_bool | exact kit_NoneType_str | exact kit_NoneType_list | exact kit_NoneType_tuple | exact kit_NoneType_dict | exact kit_bool_int | exact kit_bool_bool | exact kit_bool_str | exact kit_bool_list | exact kit_bool_tuple | exact kit_bool_dict | exact kit_int_int | exact kit_int_bool | exact kit_int_str | exact kit_int_list | exact kit_int_tuple | exact kit_int_dict | exact kit_str_int | exact kit_str_bool | exact kit_str_str | exact kit_str_list | exact kit_str_tuple | exact kit_str_dict | exact kit_list_int | exact kit_list_bool | exact kit_list_str | exact kit_list_list | exact kit_list_tuple | exact kit_list_dict | exact kit_tuple_int | exact kit_tuple_bool | exact kit_tuple_str | exact kit_tuple_list | exact kit_tuple_tuple | exact kit_tuple_dict | exact kit_dict_int | exact kit_dict_bool | exact kit_dict_str | exact kit_dict_list | exact kit_dict_tuple | exact kit_dict_dict)
local macro_rules | `(tactic| walk_at "ty") => `(tactic| first | assumption | exact tyx_str | exact tyx_int | exact tyx_bl | exact tyx_non | exact tyx_lst (by walk_at "look") | exact tyx_tup (by walk_at "look") | exact tyx_dK (by walk_at "look"))
local macro_rules | `(tactic| walk_at "s") => `(tactic| first
  | refine ⟨_, rfl, ?_⟩
  | refine ⟨_, _, rfl, rfl, ?_⟩
  | refine ⟨_, _, _, _, rfl, rfl, SqL.of (by walk_at "look"), by rfl, ?_⟩
  | refine ⟨_, _, _, _, rfl, rfl, SqT.of (by walk_at "look"), by rfl, ?_⟩
  | refine ⟨_, _, _, _, rfl, rfl, by walk_at "look", by rfl, ?_⟩
  | refine ⟨_, _, rfl, by walk_at "lenv", ?_⟩
  | refine Or.inl ⟨_, rfl, ?_⟩
  | refine ⟨_, _, _, _, _, rfl, ClsV.ty _, by walk_at "ty", by walk_at "kit", ?_⟩
  | refine And.intro (by walk_at "cond") ?_
  | refine ⟨_, _, rfl, SqT.of (by walk_at "look"), rfl, ?_⟩
  | refine ⟨_, _, rfl, SqL.of (by walk_at "look"), rfl, ?_⟩
  | refine And.intro (Or.inl ⟨rfl, _, SqL.of (by walk_at "look")⟩) ?_
  | refine ⟨_, _, _, rfl, rfl, by walk_at "look", by walk_at "cond", ?_⟩
  | refine ⟨_, _, _, _, rfl, rfl, by walk_at "look", by walk_at "look", by walk_at "cond", ?_⟩
  | refine And.intro ⟨_, rfl⟩ ?_
  | refine And.intro ⟨_, SqL.of (by walk_at "look")⟩ ?_
  | refine ⟨_, _, rfl, SqL.of (by walk_at "look"), ?_⟩
  | refine ⟨_, _, rfl, (by assumption : SqL _ _ _ _), ?_⟩
  | refine ⟨_, by walk_at "look", by walk_at "cond", ?_⟩
  | refine ⟨_, _, rfl, Or.inr (SqT.of (by walk_at "look")), ?_⟩
  | refine ⟨_, _, rfl, Or.inl (SqL.of (by walk_at "look")), ?_⟩
  | refine ⟨_, _, rfl, ?_⟩
  | refine ⟨_, _, _, rfl, by walk_at "look", by assumption, ?_⟩
  | refine ⟨_, _, true, _, _, rfl, rfl, ClsV.own _, kit_own (by assumption) (by assumption), rfl, by walk_at "look", ?_⟩
  | refine ⟨_, _, _, _, rfl, ErAt.same (by assumption) (by walk_at "sames"), by assumption, by assumption, ?_⟩
  | refine ⟨_, _, _, _, rfl, ErAt.same (by assumption) (by walk_at "sames"), by assumption, by assumption, by assumption, ?_⟩
  | refine if_t (by first | rfl | assumption | decide) ?_
  | refine if_f (by assumption) ?_
  | refine if_f (by first | decide | exact Bool.false_ne_true) ?_
  | refine fun (_ : _ ≠ sysModules) => ?_
  | refine fun (_ : ErAt _ _ _ _) => ?_
  | refine fun _ _ => ?_)

theorem fn_Paper_init (T : Txt K mg A) : FnG P w K mg base CX0 7 A.i_Paper (spPInit K) := by
  obtain ⟨fd, F⟩ := T.FI
  have G : FnG P w K mg base CX0 7 A.i_Paper (fun vs H Q E => ∃ ws rest, vs = ws ++ rest ∧ ws.length = (["self", "word"] : List PySem.Str).length ∧ rest.length ≤ 3 ∧ ∀ p, H p = none → spPI0 K (ws ++ [V.ref p]) (upd H p (.tup rest)) Q E) := by
    refine Fun_starP (sp := spPI0 K) (mx := 3) (pv := "parts") (ps := ["self", "word"]) (by decide) F sc_Paper_init StX.cxUp_none (fun kV doc pm an cdv ct us rest hl hl2 => match us, hl, rest, hl2 with | [_, _], _, [], _ => rfl | [_, _], _, [_], _ => rfl | [_, _], _, [_, _], _ => rfl | [_, _], _, [_, _, _], _ => rfl) (fun cdv A' outer s H vs Q E hr hg h => ?_)
    obtain ⟨a, C, dx, p, z, xs, ds, rfl, ha, hpa, hp, pc, hd, hok, hl3, q⟩ := h
    refine ⟨_, PSs.nox ((pss_cons (ps_fld (pv 0) (pv 1) rfl)
    (pss_one (ps_fld (pv 0) (pe_callGd (ok_fixed T 5) (hr.mono (by decide)) hg rfl T.m_fixed T.k_fixed pass0 (pa_cons (pv 2) pa_nil)) rfl)))), ?_⟩
    have okt : Okd 5 (.tuple ds) := .tup hl3 hok
    refine ⟨_, rfl, _, rfl, a, C, dx, _, rfl, ha, pc.c, pc.w, (by show 0 < 1000; decide), ?_⟩
    have K1 := Kr.put (o := .ins C dx (putF "word" (.str z) [])) ha
    refine ⟨_, rfl, Iv.mk ⟨.ref p, .tuple ds, rfl, .tup (K1.t _ _ hp) (hd.kr K1), okt, fun H' v' e sm fx dp => ?_⟩⟩
    cases fx with
    | flat f => cases f
    | @tup _ es fa =>
      cases dp with
      | @tup r ws _ hr2 dws =>
        have ha' := sm _ _ (upd_same (H := H) (a := a) (o := .ins C dx (putF "word" (.str z) [])))
        have K2 := Kr.put (o := .ins C dx (putF "parts" (.ref r) (putF "word" (.str z) []))) ha'
        refine ⟨_, rfl, a, C, dx, _, rfl, ha', pc.c, pc.p, (by show 1 < 1000; decide), ?_⟩
        exact q _ es r ws (fun b o nb e => by
          rw [upd_ne nb]
          exact sm _ _ (by rw [upd_ne nb]; exact e)) upd_same (K2.t _ _ hr2) (dws.kr K2) fa
  intro A' outer s H us vs Q E hr hg e0 r h
  refine G A' outer s H us vs Q E hr hg e0 r ?_
  obtain ⟨a, C, dx, z, xs, ds, rfl, ha, pc, hd, hok, hl3, q⟩ := h
  refine ⟨[.ref a, .str z], xs, rfl, rfl, by rw [hd.length]; exact hl3, fun p hp => ⟨a, C, dx, p, z, xs, ds, rfl, by rw [upd_ne (ne_of_none ha hp)]; exact ha, Ne.symm (ne_of_none ha hp), upd_same, pc, hd.same (Same.new (Same.refl _) hp), hok, hl3, fun H' es q' ws k h1 h5 h6 h7 => ?_⟩⟩
  exact q H' es q' ws (fun b o nb e => k b o nb (by rw [upd_ne (ne_of_none e hp)]; exact e)) h1 h5 h6 h7
end
end K02

namespace K02
open PySem PySem.Spec PyProof.Rows L2 MyL MyD MyP NdefX
/-- C(..)'s __init__ of a class with fields of its own -/
def spC (C : Addr) (z : Str) (fl : List Str) : Sp := fun vs H Q _ => ∃ (a dx : Addr) (xs : List V) (ds : List PyData), vs = .ref a :: xs ∧ H a = some (.ins C dx []) ∧ DpRs H xs ds ∧ (∀ d ∈ ds, Okd 4 d) ∧ xs.length = fl.length ∧
  ∀ H' es, Kp a H H' → PapAt H' a C z es fl → FxAll ds es → Q .non H'
section
variable {P : Program} {w : World} {K : PySem.W.Frag} {mg : Str → Option Value} {base : Heap} {A : Adr}
theorem ini_Holds (PF : Prg P) (T : Txt K mg A) : ∃ fd, FnA P w K mg base CX0 8 A.i_Holds fd ["self", "triples"] (spC A.c_Holds "holds" ["triples"]) ∧ (∀ us : List Value, us.length = 2 → bindArgs fd ⟨us, []⟩ = pure ((["self", "triples"] : List PySem.Str).zip us)) := by
  obtain ⟨fd, F⟩ := T.FC_Holds
  refine ⟨fd, ?_, ?_⟩
  · refine fnc_super (j := 7) (k := 0) (EI := fun _ _ _ => False) PF T.S0 F sc_Holds_init rfl rfl rfl rfl (fun _ => rfl) (fun _ => rfl) (fun _ => rfl) (fun vs H Q E h => ?_) (fn_Paper_init T) (fun NFv A' outer s H vs Q E e1 e2 hr hg h => ?_)
    · obtain ⟨a, dx, xs, ds, rfl, _, _, _, hl, _⟩ := h
      show xs.length + 1 = _
      rw [hl]
      rfl
    · obtain ⟨a, dx, xs, ds, rfl, ha, hd, hok, hl, q⟩ := h
      obtain ⟨nm, ql, pm, bd, sc, cl, cd⟩ := NFv
      dsimp only at e1 e2
      subst e1 e2
      match xs, hl with
      | [x1], _ =>
      refine ⟨a, _, dx, [], [x1], _, _, rfl, ha, T.S_Holds, (pa_cons pe_str (pa_cons (pv 1) pa_nil)), PSs.nox (pss_one (ps_fld (pv 0) (pe_ix ix_tup (pe_fld (pv 0) rfl) pe_int (fun _ _ => rfl)) rfl)), pass0, ?_⟩
      refine ⟨_, rfl, Iv.mk ⟨a, A.c_Holds, dx, "holds", [x1], ds, rfl, ha, ⟨T.O_Holds.c, T.n_Holds _ (by decide), T.n_Holds _ (by decide)⟩, hd, hok, by rw [← hd.length]; exact Nat.le_of_ble_eq_true rfl, fun H' es p ws kp ha' hp' dws fa => ?_⟩⟩
      have hle : ws.length = 1 := by rw [dws.length, ← fa.length, ← hd.length]; rfl
      have tu := fa.tupA hok
      match ws, hle with
      | [v1], _ =>
      refine ⟨_, rfl, a, A.c_Holds, dx, _, .ref p, rfl, ha', T.O_Holds.c, T.n_Holds _ (by decide), rfl, _, _, _, v1, rfl, rfl, SqT.of hp', rfl, _, rfl, a, A.c_Holds, dx, _, rfl, ha', T.O_Holds.c, T.n_Holds _ (by decide), (by show 2 < 1000; decide), ?_⟩
      refine q _ es ?_ ⟨dx, _, p, [v1], upd_same, rfl, rfl, ?_, ?_, tu, fun i f h => ?_⟩ fa
      · intro b o nb e
        rw [upd_ne nb]
        exact kp b o nb e
      · rw [upd_ne (ne_of hp' ha' (fun z => nomatch z))]
        exact hp'
      · exact dws.tups (fun b xs e => by rw [upd_ne (ne_of e ha' (fun z => nomatch z))]; exact e) tu
      · match i, h with
        | 0, h => cases h; exact ⟨v1, rfl, rfl⟩
        | i + 1, h => simp at h
  · obtain ⟨oc, kV, doc, pm, od, an, cda, cc, ct, osl, ccl, cdd, vcs, ccs, tf, cl, cld, csl, cdD, rfl, _⟩ := F.ex
    exact fun us h => match us, h with | [_, _], _ => rfl
theorem fn_Holds_init (PF : Prg P) (T : Txt K mg A) : FnG P w K mg base CX0 8 A.i_Holds (spC A.c_Holds "holds" ["triples"]) := by
  obtain ⟨fd, F, b⟩ := ini_Holds (w := w) (base := base) PF T
  exact F.fnG b
theorem ini_Broken (PF : Prg P) (T : Txt K mg A) : ∃ fd, FnA P w K mg base CX0 8 A.i_Broken fd ["self", "first", "states"] (spC A.c_Broken "broken" ["first", "states"]) ∧ (∀ us : List Value, us.length = 3 → bindArgs fd ⟨us, []⟩ = pure ((["self", "first", "states"] : List PySem.Str).zip us)) := by
  obtain ⟨fd, F⟩ := T.FC_Broken
  refine ⟨fd, ?_, ?_⟩
  · refine fnc_super (j := 7) (k := 0) (EI := fun _ _ _ => False) PF T.S0 F sc_Broken_init rfl rfl rfl rfl (fun _ => rfl) (fun _ => rfl) (fun _ => rfl) (fun vs H Q E h => ?_) (fn_Paper_init T) (fun NFv A' outer s H vs Q E e1 e2 hr hg h => ?_)
    · obtain ⟨a, dx, xs, ds, rfl, _, _, _, hl, _⟩ := h
      show xs.length + 1 = _
      rw [hl]
      rfl
    · obtain ⟨a, dx, xs, ds, rfl, ha, hd, hok, hl, q⟩ := h
      obtain ⟨nm, ql, pm, bd, sc, cl, cd⟩ := NFv
      dsimp only at e1 e2
      subst e1 e2
      match xs, hl with
      | [x1, x2], _ =>
      refine ⟨a, _, dx, [], [x1, x2], _, _, rfl, ha, T.S_Broken, (pa_cons pe_str (pa_cons (pv 1) (pa_cons (pv 2) pa_nil))), PSs.nox (pss_one (ps_asg (pe_fld (pv 0) rfl) (pg_tup rfl (pgs_cons (pg_fld (pv 0)) (pgs_cons (pg_fld (pv 0)) pgs_nil))))), pass0, ?_⟩
      refine ⟨_, rfl, _, rfl, Iv.mk ⟨a, A.c_Broken, dx, "broken", [x1, x2], ds, rfl, ha, ⟨T.O_Broken.c, T.n_Broken _ (by decide), T.n_Broken _ (by decide)⟩, hd, hok, by rw [← hd.length]; exact Nat.le_of_ble_eq_true rfl, fun H' es p ws kp ha' hp' dws fa => ?_⟩⟩
      have hle : ws.length = 2 := by rw [dws.length, ← fa.length, ← hd.length]; rfl
      have tu := fa.tupA hok
      match ws, hle with
      | [v1, v2], _ =>
      refine ⟨_, rfl, a, A.c_Broken, dx, _, .ref p, rfl, ha', T.O_Broken.c, T.n_Broken _ (by decide), rfl, p, _, rfl, SqT.of hp', rfl, ?_⟩
      refine ⟨v1, _, rfl, _, rfl, a, A.c_Broken, dx, _, rfl, ha', T.O_Broken.c, T.n_Broken _ (by decide), (by show 2 < 1000; decide), ?_⟩
      refine ⟨v2, _, rfl, _, rfl, a, A.c_Broken, dx, _, rfl, upd_same, T.O_Broken.c, T.n_Broken _ (by decide), (by show 3 < 1000; decide), ?_⟩
      refine ⟨rfl, ?_⟩
      refine q _ es ?_ ⟨dx, _, p, [v1, v2], upd_same, rfl, rfl, ?_, ?_, tu, fun i f h => ?_⟩ fa
      · intro b o nb e
        rw [upd_ne nb, upd_ne nb]
        exact kp b o nb e
      · rw [upd_ne (ne_of hp' ha' (fun z => nomatch z)), upd_ne (ne_of hp' ha' (fun z => nomatch z))]
        exact hp'
      · exact dws.tups (fun b xs e => by rw [upd_ne (ne_of e ha' (fun z => nomatch z)), upd_ne (ne_of e ha' (fun z => nomatch z))]; exact e) tu
      · match i, h with
        | 0, h => cases h; exact ⟨v1, rfl, rfl⟩
        | 1, h => cases h; exact ⟨v2, rfl, rfl⟩
        | i + 2, h => simp at h
  · obtain ⟨oc, kV, doc, pm, od, an, cda, cc, ct, osl, ccl, cdd, vcs, ccs, tf, cl, cld, csl, cdD, rfl, _⟩ := F.ex
    exact fun us h => match us, h with | [_, _, _], _ => rfl
theorem fn_Broken_init (PF : Prg P) (T : Txt K mg A) : FnG P w K mg base CX0 8 A.i_Broken (spC A.c_Broken "broken" ["first", "states"]) := by
  obtain ⟨fd, F, b⟩ := ini_Broken (w := w) (base := base) PF T
  exact F.fnG b
theorem ini_Held (PF : Prg P) (T : Txt K mg A) : ∃ fd, FnA P w K mg base CX0 8 A.i_Held fd ["self", "pages", "entries"] (spC A.c_Held "held" ["pages", "entries"]) ∧ (∀ us : List Value, us.length = 3 → bindArgs fd ⟨us, []⟩ = pure ((["self", "pages", "entries"] : List PySem.Str).zip us)) := by
  obtain ⟨fd, F⟩ := T.FC_Held
  refine ⟨fd, ?_, ?_⟩
  · refine fnc_super (j := 7) (k := 0) (EI := fun _ _ _ => False) PF T.S0 F sc_Held_init rfl rfl rfl rfl (fun _ => rfl) (fun _ => rfl) (fun _ => rfl) (fun vs H Q E h => ?_) (fn_Paper_init T) (fun NFv A' outer s H vs Q E e1 e2 hr hg h => ?_)
    · obtain ⟨a, dx, xs, ds, rfl, _, _, _, hl, _⟩ := h
      show xs.length + 1 = _
      rw [hl]
      rfl
    · obtain ⟨a, dx, xs, ds, rfl, ha, hd, hok, hl, q⟩ := h
      obtain ⟨nm, ql, pm, bd, sc, cl, cd⟩ := NFv
      dsimp only at e1 e2
      subst e1 e2
      match xs, hl with
      | [x1, x2], _ =>
      refine ⟨a, _, dx, [], [x1, x2], _, _, rfl, ha, T.S_Held, (pa_cons pe_str (pa_cons (pv 1) (pa_cons (pv 2) pa_nil))), PSs.nox (pss_one (ps_asg (pe_fld (pv 0) rfl) (pg_tup rfl (pgs_cons (pg_fld (pv 0)) (pgs_cons (pg_fld (pv 0)) pgs_nil))))), pass0, ?_⟩
      refine ⟨_, rfl, _, rfl, Iv.mk ⟨a, A.c_Held, dx, "held", [x1, x2], ds, rfl, ha, ⟨T.O_Held.c, T.n_Held _ (by decide), T.n_Held _ (by decide)⟩, hd, hok, by rw [← hd.length]; exact Nat.le_of_ble_eq_true rfl, fun H' es p ws kp ha' hp' dws fa => ?_⟩⟩
      have hle : ws.length = 2 := by rw [dws.length, ← fa.length, ← hd.length]; rfl
      have tu := fa.tupA hok
      match ws, hle with
      | [v1, v2], _ =>
      refine ⟨_, rfl, a, A.c_Held, dx, _, .ref p, rfl, ha', T.O_Held.c, T.n_Held _ (by decide), rfl, p, _, rfl, SqT.of hp', rfl, ?_⟩
      refine ⟨v1, _, rfl, _, rfl, a, A.c_Held, dx, _, rfl, ha', T.O_Held.c, T.n_Held _ (by decide), (by show 2 < 1000; decide), ?_⟩
      refine ⟨v2, _, rfl, _, rfl, a, A.c_Held, dx, _, rfl, upd_same, T.O_Held.c, T.n_Held _ (by decide), (by show 3 < 1000; decide), ?_⟩
      refine ⟨rfl, ?_⟩
      refine q _ es ?_ ⟨dx, _, p, [v1, v2], upd_same, rfl, rfl, ?_, ?_, tu, fun i f h => ?_⟩ fa
      · intro b o nb e
        rw [upd_ne nb, upd_ne nb]
        exact kp b o nb e
      · rw [upd_ne (ne_of hp' ha' (fun z => nomatch z)), upd_ne (ne_of hp' ha' (fun z => nomatch z))]
        exact hp'
      · exact dws.tups (fun b xs e => by rw [upd_ne (ne_of e ha' (fun z => nomatch z)), upd_ne (ne_of e ha' (fun z => nomatch z))]; exact e) tu
      · match i, h with
        | 0, h => cases h; exact ⟨v1, rfl, rfl⟩
        | 1, h => cases h; exact ⟨v2, rfl, rfl⟩
        | i + 2, h => simp at h
  · obtain ⟨oc, kV, doc, pm, od, an, cda, cc, ct, osl, ccl, cdd, vcs, ccs, tf, cl, cld, csl, cdD, rfl, _⟩ := F.ex
    exact fun us h => match us, h with | [_, _, _], _ => rfl
theorem fn_Held_init (PF : Prg P) (T : Txt K mg A) : FnG P w K mg base CX0 8 A.i_Held (spC A.c_Held "held" ["pages", "entries"]) := by
  obtain ⟨fd, F, b⟩ := ini_Held (w := w) (base := base) PF T
  exact F.fnG b
theorem ini_Lost (PF : Prg P) (T : Txt K mg A) : ∃ fd, FnA P w K mg base CX0 8 A.i_Lost fd ["self", "number", "ranked", "kept"] (spC A.c_Lost "lost" ["number", "ranked", "kept"]) ∧ (∀ us : List Value, us.length = 4 → bindArgs fd ⟨us, []⟩ = pure ((["self", "number", "ranked", "kept"] : List PySem.Str).zip us)) ∧ ∀ (s : Shared) (u : Value) (ws : List Value), ws.length = 3 → BindsTo s fd ⟨[u], (["number", "ranked", "kept"] : List PySem.Str).zip ws⟩ ((["self", "number", "ranked", "kept"] : List PySem.Str).zip (u :: ([0, 1, 2] : List Nat).map fun j => ws.getD j .none)) := by
  obtain ⟨fd, F⟩ := T.FC_Lost
  refine ⟨fd, ?_, ?_⟩
  · refine fnc_super (j := 7) (k := 0) (EI := fun _ _ _ => False) PF T.S0 F sc_Lost_init rfl rfl rfl rfl (fun _ => rfl) (fun _ => rfl) (fun _ => rfl) (fun vs H Q E h => ?_) (fn_Paper_init T) (fun NFv A' outer s H vs Q E e1 e2 hr hg h => ?_)
    · obtain ⟨a, dx, xs, ds, rfl, _, _, _, hl, _⟩ := h
      show xs.length + 1 = _
      rw [hl]
      rfl
    · obtain ⟨a, dx, xs, ds, rfl, ha, hd, hok, hl, q⟩ := h
      obtain ⟨nm, ql, pm, bd, sc, cl, cd⟩ := NFv
      dsimp only at e1 e2
      subst e1 e2
      match xs, hl with
      | [x1, x2, x3], _ =>
      refine ⟨a, _, dx, [], [x1, x2, x3], _, _, rfl, ha, T.S_Lost, (pa_cons pe_str (pa_cons (pv 1) (pa_cons (pv 2) (pa_cons (pv 3) pa_nil)))), PSs.nox (pss_one (ps_asg (pe_fld (pv 0) rfl) (pg_tup rfl (pgs_cons (pg_fld (pv 0)) (pgs_cons (pg_fld (pv 0)) (pgs_cons (pg_fld (pv 0)) pgs_nil)))))), pass0, ?_⟩
      refine ⟨_, rfl, _, rfl, _, rfl, Iv.mk ⟨a, A.c_Lost, dx, "lost", [x1, x2, x3], ds, rfl, ha, ⟨T.O_Lost.c, T.n_Lost _ (by decide), T.n_Lost _ (by decide)⟩, hd, hok, by rw [← hd.length]; exact Nat.le_of_ble_eq_true rfl, fun H' es p ws kp ha' hp' dws fa => ?_⟩⟩
      have hle : ws.length = 3 := by rw [dws.length, ← fa.length, ← hd.length]; rfl
      have tu := fa.tupA hok
      match ws, hle with
      | [v1, v2, v3], _ =>
      refine ⟨_, rfl, a, A.c_Lost, dx, _, .ref p, rfl, ha', T.O_Lost.c, T.n_Lost _ (by decide), rfl, p, _, rfl, SqT.of hp', rfl, ?_⟩
      refine ⟨v1, _, rfl, _, rfl, a, A.c_Lost, dx, _, rfl, ha', T.O_Lost.c, T.n_Lost _ (by decide), (by show 2 < 1000; decide), ?_⟩
      refine ⟨v2, _, rfl, _, rfl, a, A.c_Lost, dx, _, rfl, upd_same, T.O_Lost.c, T.n_Lost _ (by decide), (by show 3 < 1000; decide), ?_⟩
      refine ⟨v3, _, rfl, _, rfl, a, A.c_Lost, dx, _, rfl, upd_same, T.O_Lost.c, T.n_Lost _ (by decide), (by show 4 < 1000; decide), ?_⟩
      refine ⟨rfl, ?_⟩
      refine q _ es ?_ ⟨dx, _, p, [v1, v2, v3], upd_same, rfl, rfl, ?_, ?_, tu, fun i f h => ?_⟩ fa
      · intro b o nb e
        rw [upd_ne nb, upd_ne nb, upd_ne nb]
        exact kp b o nb e
      · rw [upd_ne (ne_of hp' ha' (fun z => nomatch z)), upd_ne (ne_of hp' ha' (fun z => nomatch z)), upd_ne (ne_of hp' ha' (fun z => nomatch z))]
        exact hp'
      · exact dws.tups (fun b xs e => by rw [upd_ne (ne_of e ha' (fun z => nomatch z)), upd_ne (ne_of e ha' (fun z => nomatch z)), upd_ne (ne_of e ha' (fun z => nomatch z))]; exact e) tu
      · match i, h with
        | 0, h => cases h; exact ⟨v1, rfl, rfl⟩
        | 1, h => cases h; exact ⟨v2, rfl, rfl⟩
        | 2, h => cases h; exact ⟨v3, rfl, rfl⟩
        | i + 3, h => simp at h
  · obtain ⟨oc, kV, doc, pm, od, an, cda, cc, ct, osl, ccl, cdd, vcs, ccs, tf, cl, cld, csl, cdD, rfl, _⟩ := F.ex
    exact ⟨fun us h => match us, h with | [_, _, _, _], _ => rfl, fun s u ws h => match ws, h with | [_, _, _], _ => .of_eq rfl⟩
theorem fn_Lost_init (PF : Prg P) (T : Txt K mg A) : FnG P w K mg base CX0 8 A.i_Lost (spC A.c_Lost "lost" ["number", "ranked", "kept"]) := by
  obtain ⟨fd, F, b, _⟩ := ini_Lost (w := w) (base := base) PF T
  exact F.fnG b
theorem ini_Kept (PF : Prg P) (T : Txt K mg A) : ∃ fd, FnA P w K mg base CX0 8 A.i_Kept fd ["self", "pages", "entries", "triples"] (spC A.c_Kept "kept" ["pages", "entries", "triples"]) ∧ (∀ us : List Value, us.length = 4 → bindArgs fd ⟨us, []⟩ = pure ((["self", "pages", "entries", "triples"] : List PySem.Str).zip us)) ∧ ∀ (s : Shared) (u : Value) (ws : List Value), ws.length = 3 → BindsTo s fd ⟨[u], (["triples", "pages", "entries"] : List PySem.Str).zip ws⟩ ((["self", "pages", "entries", "triples"] : List PySem.Str).zip (u :: ([1, 2, 0] : List Nat).map fun j => ws.getD j .none)) := by
  obtain ⟨fd, F⟩ := T.FC_Kept
  refine ⟨fd, ?_, ?_⟩
  · refine fnc_super (j := 7) (k := 0) (EI := fun _ _ _ => False) PF T.S0 F sc_Kept_init rfl rfl rfl rfl (fun _ => rfl) (fun _ => rfl) (fun _ => rfl) (fun vs H Q E h => ?_) (fn_Paper_init T) (fun NFv A' outer s H vs Q E e1 e2 hr hg h => ?_)
    · obtain ⟨a, dx, xs, ds, rfl, _, _, _, hl, _⟩ := h
      show xs.length + 1 = _
      rw [hl]
      rfl
    · obtain ⟨a, dx, xs, ds, rfl, ha, hd, hok, hl, q⟩ := h
      obtain ⟨nm, ql, pm, bd, sc, cl, cd⟩ := NFv
      dsimp only at e1 e2
      subst e1 e2
      match xs, hl with
      | [x1, x2, x3], _ =>
      refine ⟨a, _, dx, [], [x1, x2, x3], _, _, rfl, ha, T.S_Kept, (pa_cons pe_str (pa_cons (pv 1) (pa_cons (pv 2) (pa_cons (pv 3) pa_nil)))), PSs.nox (pss_one (ps_asg (pe_fld (pv 0) rfl) (pg_tup rfl (pgs_cons (pg_fld (pv 0)) (pgs_cons (pg_fld (pv 0)) (pgs_cons (pg_fld (pv 0)) pgs_nil)))))), pass0, ?_⟩
      refine ⟨_, rfl, _, rfl, _, rfl, Iv.mk ⟨a, A.c_Kept, dx, "kept", [x1, x2, x3], ds, rfl, ha, ⟨T.O_Kept.c, T.n_Kept _ (by decide), T.n_Kept _ (by decide)⟩, hd, hok, by rw [← hd.length]; exact Nat.le_of_ble_eq_true rfl, fun H' es p ws kp ha' hp' dws fa => ?_⟩⟩
      have hle : ws.length = 3 := by rw [dws.length, ← fa.length, ← hd.length]; rfl
      have tu := fa.tupA hok
      match ws, hle with
      | [v1, v2, v3], _ =>
      refine ⟨_, rfl, a, A.c_Kept, dx, _, .ref p, rfl, ha', T.O_Kept.c, T.n_Kept _ (by decide), rfl, p, _, rfl, SqT.of hp', rfl, ?_⟩
      refine ⟨v1, _, rfl, _, rfl, a, A.c_Kept, dx, _, rfl, ha', T.O_Kept.c, T.n_Kept _ (by decide), (by show 2 < 1000; decide), ?_⟩
      refine ⟨v2, _, rfl, _, rfl, a, A.c_Kept, dx, _, rfl, upd_same, T.O_Kept.c, T.n_Kept _ (by decide), (by show 3 < 1000; decide), ?_⟩
      refine ⟨v3, _, rfl, _, rfl, a, A.c_Kept, dx, _, rfl, upd_same, T.O_Kept.c, T.n_Kept _ (by decide), (by show 4 < 1000; decide), ?_⟩
      refine ⟨rfl, ?_⟩
      refine q _ es ?_ ⟨dx, _, p, [v1, v2, v3], upd_same, rfl, rfl, ?_, ?_, tu, fun i f h => ?_⟩ fa
      · intro b o nb e
        rw [upd_ne nb, upd_ne nb, upd_ne nb]
        exact kp b o nb e
      · rw [upd_ne (ne_of hp' ha' (fun z => nomatch z)), upd_ne (ne_of hp' ha' (fun z => nomatch z)), upd_ne (ne_of hp' ha' (fun z => nomatch z))]
        exact hp'
      · exact dws.tups (fun b xs e => by rw [upd_ne (ne_of e ha' (fun z => nomatch z)), upd_ne (ne_of e ha' (fun z => nomatch z)), upd_ne (ne_of e ha' (fun z => nomatch z))]; exact e) tu
      · match i, h with
        | 0, h => cases h; exact ⟨v1, rfl, rfl⟩
        | 1, h => cases h; exact ⟨v2, rfl, rfl⟩
        | 2, h => cases h; exact ⟨v3, rfl, rfl⟩
        | i + 3, h => simp at h
  · obtain ⟨oc, kV, doc, pm, od, an, cda, cc, ct, osl, ccl, cdd, vcs, ccs, tf, cl, cld, csl, cdD, rfl, _⟩ := F.ex
    exact ⟨fun us h => match us, h with | [_, _, _, _], _ => rfl, fun s u ws h => match ws, h with | [_, _, _], _ => .of_eq rfl⟩
theorem fn_Kept_init (PF : Prg P) (T : Txt K mg A) : FnG P w K mg base CX0 8 A.i_Kept (spC A.c_Kept "kept" ["pages", "entries", "triples"]) := by
  obtain ⟨fd, F, b, _⟩ := ini_Kept (w := w) (base := base) PF T
  exact F.fnG b
end
end K02

namespace K02
open PySem PySem.Spec PyProof.Rows L2 MyL MyD MyP
/-- what of a class the laws lean on -/
structure KCls (K : PySem.W.Frag) (A : Adr) (C : Addr) (nm : Str) : Prop where
  o : OwnC K C nm
  w : NoAttr K C "word"
  p : NoAttr K C "parts"
  kP : PySem.W.kitOne K (.ref C) (.ref A.c_Paper) = some true
  q : PySem.W.findIn K (.ref C) "__eq__" = some (some (.ref A.q))
  tn : PySem.W.notFirst K C (.type "tuple") = true
  mem : C ∈ [A.c_Paper, A.c_Denial, A.c_Holds, A.c_Broken, A.c_Held, A.c_Lost, A.c_Kept]
/-- a paper -/
structure IsP (K : PySem.W.Frag) (A : Adr) (H : Hp) (v : V) (C : Addr) (nm z : Str) (es : List PyData) : Prop where
  c : KCls K A C nm
  at_ : ∃ a fl, v = .ref a ∧ PapAt H a C z es fl
  sh : SeqAt.shaped (.tuple es) = true
theorem IsP.tups {K : PySem.W.Frag} {A : Adr} {H H' : Hp} {v : V} {C : Addr} {nm z : Str} {es : List PyData} (h : IsP K A H v C nm z es) (S : ∀ b o, (∃ c d f, o = .ins c d f) ∨ (∃ xs, o = .tup xs) → H b = some o → H' b = some o) : IsP K A H' v C nm z es := by
  obtain ⟨c, ⟨a, fl, e, dx, fs, p, vs, h1, h2, h3, h4, h5, h6, h7⟩, sh⟩ := h
  exact ⟨c, ⟨a, fl, e, dx, fs, p, vs, S _ _ (.inl ⟨_, _, _, rfl⟩) h1, h2, h3, S _ _ (.inr ⟨_, rfl⟩) h4, h5.tups (fun b xs z => S _ _ (.inr ⟨_, rfl⟩) z) h6, h6, h7⟩, sh⟩
theorem IsP.same {K : PySem.W.Frag} {A : Adr} {H H' : Hp} {v : V} {C : Addr} {nm z : Str} {es : List PyData} (h : IsP K A H v C nm z es) (S : Same H H') : IsP K A H' v C nm z es := h.tups fun b o _ e => S b o e
def spEq (K : PySem.W.Frag) (A : Adr) : Sp := fun vs H Q _ => ∃ (x y : V) (C : Addr) (nm z : Str) (es : List PyData), vs = [x, y] ∧ IsP K A H x C nm z es ∧
  Two (∃ t, TyX K H y t ∧ PySem.W.kitOne K t (.ref A.c_Paper) = some false ∧ Q (.bl false) H)
    (∃ (C' : Addr) (nm' z' : Str) (es' : List PyData), IsP K A H y C' nm' z' es' ∧ Q (.bl (nm == nm' && (z == z' && PyData.eqv (.tuple es) (.tuple es')))) H)
section
variable {P : Program} {w : World} {K : PySem.W.Frag} {mg : Str → Option Value} {base : Heap} {A : Adr}
local macro_rules | `(tactic| walk_at "sames") => `(tactic| repeat (first
  | exact Same.refl _
  | refine Same.new ?_ (by assumption)
  | refine Same.trans ?_ (by assumption)))
local macro_rules | `(tactic| walk_at "ne") => `(tactic| first
  | assumption
  | exact Ne.symm (by assumption)
  | exact ne_new (by assumption) (by walk_at "look")
  | exact ne_new' (by assumption) (by walk_at "look")
  | exact ne_of (by walk_at "look") (by walk_at "look") (by intro z; cases z))
local macro_rules | `(tactic| walk_at "look") => `(tactic| first
  | assumption
  | exact upd_same
  | (refine upd_new (by assumption) ?_
     walk_at "look")
  | (refine (upd_ne ?_).trans ?_
     · walk_at "ne"
     · walk_at "look")
  | (refine Kp.get (by assumption) ?_ ?_
     · walk_at "ne"
     · walk_at "look")
  | (refine Same.get (by assumption) ?_
     walk_at "look"))
local macro_rules | `(tactic| walk_at "lenv") => `(tactic| first
  | exact Or.inl ⟨_, SqL.of (by walk_at "look"), rfl⟩
  | exact Or.inr ⟨_, SqT.of (by walk_at "look"), rfl⟩
  | exact ⟨line_le (by omega), rfl⟩)
local macro_rules | `(tactic| walk_at "cond") => `(tactic| first
  | assumption
  | rfl
  | exact Nat.zero_le _
  | exact Nat.le_of_ble_eq_true rfl
  | decide
  | omega
  | exact line_lt (by (try simp only [List.length_map, List.length_append, List.length_cons, List.length_nil]); omega)
  | exact line_le (by (try simp only [List.length_map, List.length_append, List.length_cons, List.length_nil]); omega)
  | (dsimp only; omega)
  | exact ⟨by decide, by decide⟩
  | exact ⟨by decide, by decide, by decide⟩
  | exact Or.inl ⟨by decide, by decide⟩
  | exact Or.inl ⟨by omega, by omega⟩
  | exact Or.inr ⟨by omega, by omega⟩)
local macro_rules | `(tactic| walk_at "kit") => `(tactic| first | assumption | exact kit_NoneType_int | exact kit_NoneType_bool | exact kit_NoneType_str | exact kit_NoneType_list | exact kit_NoneType_tuple | exact kit_NoneType_dict | exact kit_bool_int | exact kit_bool_bool | exact kit_bool_str | exact kit_bool_list | exact kit_bool_tuple | exact kit_bool_dict | exact kit_int_int | exact kit_int_bool | exact kit_int_str | exact kit_int_list | exact kit_int_tuple | exact kit_int_dict | exact kit_str_int | exact kit_str_bool | exact kit_str_str | exact kit_str_list | exact kit_str_tuple | exact kit_str_dict | exact kit_list_int | exact kit_list_bool | exact kit_list_str | exact kit_list_list | exact kit_list_tuple | exact kit_list_dict | exact kit_tuple_int | exact kit_tuple_bool | exact kit_tuple_str | exact kit_tuple_list | exact kit_tuple_tuple | exact kit_tuple_dict | exact kit_dict_int | exact kit_dict_bool | exact kit_dict_str | exact kit_dict_list | exact kit_dict_tuple | exact kit_dict_dict)
local macro_rules | `(tactic| walk_at "ty") => `(tactic| first | assumption | exact tyx_str | exact tyx_int | exact tyx_bl | exact tyx_non | exact tyx_lst (by walk_at "look") | exact tyx_tup (by walk_at "look") | exact tyx_dK (by walk_at "look"))
local macro_rules | `(tactic| walk_at "s") => `(tactic| first
  | refine ⟨_, rfl, ?_⟩
  | refine ⟨_, _, rfl, rfl, ?_⟩
  | refine ⟨_, _, _, _, rfl, rfl, SqL.of (by walk_at "look"), by rfl, ?_⟩
  | refine ⟨_, _, _, _, rfl, rfl, SqT.of (by walk_at "look"), by rfl, ?_⟩
  | refine ⟨_, _, _, _, rfl, rfl, by walk_at "look", by rfl, ?_⟩
  | refine ⟨_, _, rfl, by walk_at "lenv", ?_⟩
  | refine Or.inl ⟨_, rfl, ?_⟩
  | refine ⟨_, _, _, _, _, rfl, ClsV.ty _, by walk_at "ty", by walk_at "kit", ?_⟩
  | refine And.intro (by walk_at "cond") ?_
  | refine ⟨_, _, rfl, SqT.of (by walk_at "look"), rfl, ?_⟩
  | refine ⟨_, _, rfl, SqL.of (by walk_at "look"), rfl, ?_⟩
  | refine And.intro (Or.inl ⟨rfl, _, SqL.of (by walk_at "look")⟩) ?_
  | refine ⟨_, _, _, rfl, rfl, by walk_at "look", by walk_at "cond", ?_⟩
  | refine ⟨_, _, _, _, rfl, rfl, by walk_at "look", by walk_at "look", by walk_at "cond", ?_⟩
  | refine And.intro ⟨_, rfl⟩ ?_
  | refine And.intro ⟨_, SqL.of (by walk_at "look")⟩ ?_
  | refine ⟨_, _, rfl, SqL.of (by walk_at "look"), ?_⟩
  | refine ⟨_, _, rfl, (by assumption : SqL _ _ _ _), ?_⟩
  | refine ⟨_, by walk_at "look", by walk_at "cond", ?_⟩
  | refine ⟨_, _, rfl, Or.inr (SqT.of (by walk_at "look")), ?_⟩
  | refine ⟨_, _, rfl, Or.inl (SqL.of (by walk_at "look")), ?_⟩
  | refine ⟨_, _, rfl, ?_⟩
  | refine ⟨_, _, _, rfl, by walk_at "look", by assumption, ?_⟩
  | refine ⟨_, _, true, _, _, rfl, rfl, ClsV.own _, kit_own (by assumption) (by assumption), rfl, by walk_at "look", ?_⟩
  | refine ⟨_, _, _, _, rfl, ErAt.same (by assumption) (by walk_at "sames"), by assumption, by assumption, ?_⟩
  | refine ⟨_, _, _, _, rfl, ErAt.same (by assumption) (by walk_at "sames"), by assumption, by assumption, by assumption, ?_⟩
  | refine if_t (by first | rfl | assumption | decide) ?_
  | refine if_f (by assumption) ?_
  | refine if_f (by first | decide | exact Bool.false_ne_true) ?_
  | refine fun (_ : _ ≠ sysModules) => ?_
  | refine fun (_ : ErAt _ _ _ _) => ?_
  | refine fun _ _ => ?_)

theorem fn_Paper_bool (T : Txt K mg A) : FnG P w K mg base CX0 1 A.b_Paper (spB true) := by
  obtain ⟨fd, F⟩ := T.FBP
  refine Fun_okN F sc_Paper_bool (fun vs H Q E h => ?_) (fun _ _ _ _ _ _ us hl => match us, hl with | [_], _ => rfl) (fun cdv A' outer s H vs Q E hr hg h => ?_)
  · obtain ⟨_, rfl, _⟩ := h
    rfl
  obtain ⟨a, rfl, q⟩ := h
  refine ⟨_, ((pss_one (ps_ret pe_bl))), ?_⟩
  exact q
theorem kc_Paper (T : Txt K mg A) : KCls K A A.c_Paper "Paper" := ⟨T.O_Paper, T.n_Paper _ (by decide), T.n_Paper _ (by decide), T.kP_Paper, T.q_Paper, T.tn_Paper, by simp⟩
theorem kc_Denial (T : Txt K mg A) : KCls K A A.c_Denial "Denial" := ⟨T.O_Denial, T.n_Denial _ (by decide), T.n_Denial _ (by decide), T.kP_Denial, T.q_Denial, T.tn_Denial, by simp⟩
theorem kc_Holds (T : Txt K mg A) : KCls K A A.c_Holds "Holds" := ⟨T.O_Holds, T.n_Holds _ (by decide), T.n_Holds _ (by decide), T.kP_Holds, T.q_Holds, T.tn_Holds, by simp⟩
theorem kc_Broken (T : Txt K mg A) : KCls K A A.c_Broken "Broken" := ⟨T.O_Broken, T.n_Broken _ (by decide), T.n_Broken _ (by decide), T.kP_Broken, T.q_Broken, T.tn_Broken, by simp⟩
theorem kc_Held (T : Txt K mg A) : KCls K A A.c_Held "Held" := ⟨T.O_Held, T.n_Held _ (by decide), T.n_Held _ (by decide), T.kP_Held, T.q_Held, T.tn_Held, by simp⟩
theorem kc_Lost (T : Txt K mg A) : KCls K A A.c_Lost "Lost" := ⟨T.O_Lost, T.n_Lost _ (by decide), T.n_Lost _ (by decide), T.kP_Lost, T.q_Lost, T.tn_Lost, by simp⟩
theorem kc_Kept (T : Txt K mg A) : KCls K A A.c_Kept "Kept" := ⟨T.O_Kept, T.n_Kept _ (by decide), T.n_Kept _ (by decide), T.kP_Kept, T.q_Kept, T.tn_Kept, by simp⟩
theorem eqv_str (a b : Str) : PyData.eqv (.str a) (.str b) = (a == b) := by simp only [PyData.eqv]
theorem fn_Paper_eq (T : Txt K mg A) : FnG P w K mg base CX0 1 A.q (spEq K A) := by
  obtain ⟨fd, F⟩ := T.FQ
  refine Fun_okN F sc_Paper_eq (fun vs H Q E h => ?_) (fun _ _ _ _ _ _ us hl => match us, hl with | [_, _], _ => rfl) (fun cdv A' outer s H vs Q E hr hg h => ?_)
  · obtain ⟨_, _, _, _, _, _, rfl, _⟩ := h
    rfl
  obtain ⟨x, y, C, nm, z, es, rfl, X, h⟩ := h
  refine ⟨_, ((pss_cons (ps_if (pt_not (pt_val (pe_callB call_isi (by rfl) T.n_isinstance (by decide +kernel) (pa_cons (pv 1) (pa_cons (pe_glob (v := .ref A.c_Paper) (u := .ref A.c_Paper) rfl T.m_Paper rfl) pa_nil))))) (pss_one (ps_ret pe_bl)) pss_nil)
    (pss_cons (ps_if (pt_cmpR op_ne (pe_clsNm T.S0.op (pv 0)) (pe_clsNm T.S0.op (pv 1)) (nomark _)) (pss_one (ps_ret pe_bl)) pss_nil)
    (pss_one (ps_ret (pe_and (pe_cmpR op_eq (pe_fld (pv 0) rfl) (pe_fld (pv 1) rfl) (nomark _)) (pe_one (pe_cmpR (MyD.op_eqR T.sm hr.units) (pe_fld (pv 0) rfl) (pe_fld (pv 1) rfl) (nomark _))))))))), ?_⟩
  rcases h with ⟨t, ty, kf, q⟩ | ⟨C', nm', z', es', Y, q⟩
  · refine ⟨_, rfl, y, _, t, _, false, rfl, ClsV.own _, ty, kf, ?_⟩
    repeat walk_at "s"
    exact q
  · obtain ⟨c, ⟨a, fl, rfl, dx, fs, p, us, h1, h2, h3, h4, h5, h6, h7⟩, sh⟩ := X
    obtain ⟨c', ⟨a', fl', rfl, dx', fs', p', us', g1, g2, g3, g4, g5, g6, g7⟩, sh'⟩ := Y
    refine ⟨_, rfl, _, _, _, _, true, rfl, ClsV.own _, c'.o.ty g1, c'.kP, ?_⟩
    refine ⟨_, rfl, ?_⟩
    refine if_f (by decide) ?_
    refine ⟨_, rfl, a, C, dx, fs, nm, rfl, h1, c.o, ?_⟩
    refine ⟨_, rfl, a', C', dx', fs', nm', rfl, g1, c'.o, rfl, ?_⟩
    have e0 : decide (V.str nm = V.str nm') = (nm == nm') := by
      rw [Bool.eq_iff_iff]
      simp
    rw [e0]
    cases hn : nm == nm' with
    | false =>
      rw [hn] at q
      exact ⟨_, rfl, q⟩
    | true =>
      rw [hn] at q
      refine ⟨_, rfl, ?_⟩
      refine if_f (by decide) ?_
      refine ⟨_, rfl, a, C, dx, fs, _, rfl, h1, c.o.c, c.w, h2, ?_⟩
      refine ⟨_, rfl, a', C', dx', fs', _, rfl, g1, c'.o.c, c'.w, g2, ?_⟩
      have e1 : decide (V.str z = V.str z') = (z == z') := by
        rw [Bool.eq_iff_iff]
        simp
      refine ⟨rfl, _, rfl, ?_⟩
      rw [e1]
      cases hz : z == z' with
      | false =>
        rw [hz] at q
        exact q
      | true =>
        rw [hz] at q
        refine if_t rfl ?_
        refine ⟨_, rfl, a, C, dx, fs, _, rfl, h1, c.o.c, c.p, h3, ?_⟩
        refine ⟨_, rfl, a', C', dx', fs', _, rfl, g1, c'.o.c, c'.p, g3, ?_⟩
        exact ⟨_, _, .tup h4 h5, .tup g4 g5, sh, sh', q⟩
/-- C(..) lays a paper -/
theorem sh_of {ds es : List PyData} (hok : ∀ d ∈ ds, Okd 4 d) (hl : ds.length ≤ 3) (fa : FxAll ds es) : SeqAt.shaped (.tuple es) = true :=
  (Shf.tuple (n := 8) (l := Ln 4) (m := 3) (by rw [← fa.length]; exact hl) (FxAll.shf (n := 4) fa hok)).shaped (by decide)
theorem same_of {H H' : Hp} {x dx C : Addr} (hx : H x = none) (hdx : H dx = none) (k : Kp x (upd (upd H dx (.own x)) x (.ins C dx [])) H') : Same H H' := fun b o e =>
  k b o (ne_of_none e hx) (by rw [upd_ne (ne_of_none e hx), upd_ne (ne_of_none e hdx)]; exact e)
theorem pap_new {H : Hp} {C : Addr} {nm z : Str} {xs : List V} {ds : List PyData} {Q : VK} (c : KCls K A C nm) (hd : DpRs H xs ds) (hok : ∀ d ∈ ds, Okd 4 d) (hl : ds.length ≤ 3)
    (q : ∀ H' x es, Same H H' → IsP K A H' (.ref x) C nm z es → FxAll ds es → Q (.ref x) H') :
    ∀ x dx, H x = none → H dx = none → dx ≠ x → Iv (spPInit K (.ref x :: .str z :: xs) (upd (upd H dx (.own x)) x (.ins C dx [])) (fun v H2 => v = .non ∧ Q (.ref x) H2) (fun _ _ _ => False)) := by
  intro x dx hx hdx hne
  refine Iv.mk ⟨x, C, dx, z, xs, ds, rfl, upd_same, ⟨c.o.c, c.w, c.p⟩, hd.same (Same.put (Same.put (Same.refl H) hdx) hx), hok, hl, fun H' es p ws k h1 h2 h3 fa => ⟨rfl, q H' x es (same_of hx hdx k) ⟨c, ⟨x, [], rfl, dx, _, p, ws, h1, rfl, rfl, h2, h3, fa.tupA hok, fun i f h => by simp at h⟩, sh_of hok hl fa⟩ fa⟩⟩
theorem own_new {H : Hp} {C : Addr} {nm z : Str} {fl : List Str} {xs : List V} {ds : List PyData} {Q : VK} (c : KCls K A C nm) (hd : DpRs H xs ds) (hok : ∀ d ∈ ds, Okd 4 d) (hl : xs.length = fl.length) (hl3 : fl.length ≤ 3)
    (q : ∀ H' x es, Same H H' → IsP K A H' (.ref x) C nm z es → PapAt H' x C z es fl → FxAll ds es → Q (.ref x) H') :
    ∀ x dx, H x = none → H dx = none → dx ≠ x → Iv (spC C z fl (.ref x :: xs) (upd (upd H dx (.own x)) x (.ins C dx [])) (fun v H2 => v = .non ∧ Q (.ref x) H2) (fun _ _ _ => False)) := by
  intro x dx hx hdx hne
  refine Iv.mk ⟨x, dx, xs, ds, rfl, upd_same, hd.same (Same.put (Same.put (Same.refl H) hdx) hx), hok, hl, fun H' es k pa fa => ⟨rfl, q H' x es (same_of hx hdx k) ⟨c, ⟨x, fl, rfl, pa⟩, sh_of hok (by rw [← hd.length, hl]; exact hl3) fa⟩ pa fa⟩⟩
end
end K02

namespace K02
open PySem PySem.Spec PyProof.Rows L2 MyL MyD
/-- what of H2 stands where H1 had nothing -/
def nw (H1 H2 : Hp) : Hp := fun b => match H1 b with
  | none => H2 b
  | some _ => none
theorem nw_at {H1 H2 : Hp} {b : Addr} (h : H1 b = none) : nw H1 H2 b = H2 b := by unfold nw; rw [h]
theorem nw_some {H1 H2 : Hp} {b : Addr} {o : HO} (h : nw H1 H2 b = some o) : H1 b = none ∧ H2 b = some o := by
  unfold nw at h
  cases e : H1 b with
  | none => rw [e] at h; exact ⟨rfl, h⟩
  | some _ => rw [e] at h; cases h
theorem nw_same {A B H H' : Hp} (d : ∀ b, A b = none → B b = none) (k : ∀ b o, A b = none → H b = some o → H' b = some o) : Same (nw A H) (nw B H') := fun b o e => by
  obtain ⟨h1, h2⟩ := nw_some e
  rw [nw_at (d b h1)]
  exact k b o h1 h2
theorem nw_all {A H : Hp} : Same (nw A H) H := fun b o e => (nw_some e).2
/-- not locked -/
def Un (H : Hp) (v : V) : Prop := ∀ a o u, v = .ref a → H a ≠ some (.frz o u)
def Cst : Nat → Nat
  | 0 => 3
  | n + 1 => 3 + 3 * Cst n
def spValue (n : Nat) : Sp := fun vs H Q _ => ∃ (W : Wl) (m : Nat), vs = [.ref W.w, .int (n : Int)] ∧ WellAt H W m ∧ m + Cst n ≤ 900000 ∧
  ∀ H' v d, WellAt H' W (m + Cst n) → Kp W.w H H' → DpR (nw H H') v d → Okd n d → Un H' v → Q v H'
theorem leaf_int {i : Int} (h : 0 ≤ i) (h1 : i < 10 ^ 60) : Leaf (.int i) := by
  refine ⟨.int i, by simp only [PyData.canLay0], ?_, ?_⟩
  · simp only [PyData.showable]
    refine decide_eq_true ?_
    have h0 : i.natAbs < 10 ^ 60 := by omega
    by_cases z : i.natAbs = 0
    · rw [z]; decide
    · exact (Nat.log2_lt z).mpr (Nat.lt_of_lt_of_le h0 (by decide))
  · simp only [PyData.shown]
    exact Nat.le_trans (toString_length_le h (k := 60) (by decide) h1) (by decide)
theorem leaf_7 : Leaf (.int (-7)) := ⟨.int _, by simp only [PyData.canLay0], by simp only [PyData.showable]; decide +kernel, by simp only [PyData.shown]; decide +kernel⟩
theorem leaf_m : Leaf (.int (-1)) := ⟨.int _, by simp only [PyData.canLay0], by simp only [PyData.showable]; decide +kernel, by simp only [PyData.shown]; decide +kernel⟩
theorem leaf_str {z : Str} (h : PyData.strOk z = true) (h2 : (PyData.shown (.str z)).length ≤ 64) : Leaf (.str z) := ⟨.str z, by simp only [PyData.canLay0]; exact h, by simp only [PyData.showable], h2⟩
theorem leaf_non : Leaf .none := ⟨.none, by simp only [PyData.canLay0], by simp only [PyData.showable], by simp only [PyData.shown]; decide +kernel⟩
theorem leaf_bl (b : Bool) : Leaf (.bool b) := ⟨.bool b, by simp only [PyData.canLay0], by simp only [PyData.showable], by simp only [PyData.shown]; cases b <;> decide +kernel⟩
theorem leaf_a : Leaf (.str "a") := leaf_str (by decide +kernel) (by simp only [PyData.shown]; decide +kernel)
/-- a value that needs no heap -/
def LeafV (v : V) : Prop := ∃ d, Leaf d ∧ (∀ H : Hp, DpR H v d) ∧ ∀ a, v ≠ .ref a
theorem leafs {r : Int} (h0 : 0 ≤ r) (h1 : r < 10 ^ 30) : ∀ v ∈ [V.non, .bl true, .bl false, .str "a", .str "", .str "b.c", .int 0, .int 1, .int (-7), .int r], LeafV v := by
  intro v hv
  simp only [List.mem_cons, List.not_mem_nil, or_false] at hv
  rcases hv with rfl | rfl | rfl | rfl | rfl | rfl | rfl | rfl | rfl | rfl
  · exact ⟨_, leaf_non, fun _ => .non, fun _ z => nomatch z⟩
  · exact ⟨_, leaf_bl _, fun _ => .bl _, fun _ z => nomatch z⟩
  · exact ⟨_, leaf_bl _, fun _ => .bl _, fun _ z => nomatch z⟩
  · exact ⟨_, leaf_a, fun _ => .str _, fun _ z => nomatch z⟩
  · exact ⟨_, leaf_str (by decide +kernel) (by simp only [PyData.shown]; decide +kernel), fun _ => .str _, fun _ z => nomatch z⟩
  · exact ⟨_, leaf_str (by decide +kernel) (by simp only [PyData.shown]; decide +kernel), fun _ => .str _, fun _ z => nomatch z⟩
  · exact ⟨_, leaf_int (by decide) (by decide), fun _ => .int _, fun _ z => nomatch z⟩
  · exact ⟨_, leaf_int (by decide) (by decide), fun _ => .int _, fun _ z => nomatch z⟩
  · exact ⟨_, leaf_7, fun _ => .int _, fun _ z => nomatch z⟩
  · exact ⟨_, leaf_int h0 (by omega), fun _ => .int _, fun _ z => nomatch z⟩
/-- the keys that a dict may take -/
structure KeyL (ks : List Key) : Prop where
  len : ks.length = 3
  nd : ks.Nodup
  kin : (∃ l : List Int, ks = l.map Sum.inl) ∨ ∃ l : List Str, ks = l.map Sum.inr
  leaf : ∀ k ∈ ks, Leaf (keyD k)
theorem keyl_1 : KeyL [.inr "b", .inr "a", .inr "c"] := ⟨rfl, by decide +kernel, .inr ⟨["b", "a", "c"], rfl⟩, fun k hk => by
  simp only [List.mem_cons, List.not_mem_nil, or_false] at hk
  rcases hk with rfl | rfl | rfl <;> exact leaf_str (by decide +kernel) (by simp only [PyData.shown]; decide +kernel)⟩
theorem keyl_2 : KeyL [.inr "z9", .inr "z10", .inr "a"] := ⟨rfl, by decide +kernel, .inr ⟨["z9", "z10", "a"], rfl⟩, fun k hk => by
  simp only [List.mem_cons, List.not_mem_nil, or_false] at hk
  rcases hk with rfl | rfl | rfl <;> exact leaf_str (by decide +kernel) (by simp only [PyData.shown]; decide +kernel)⟩
theorem keyl_3 : KeyL [.inl 10, .inl 9, .inl (-1)] := ⟨rfl, by decide +kernel, .inl ⟨[10, 9, -1], rfl⟩, fun k hk => by
  simp only [List.mem_cons, List.not_mem_nil, or_false] at hk
  rcases hk with rfl | rfl | rfl <;> first | exact leaf_int (by decide) (by decide) | exact leaf_m⟩
theorem keyl_4 : KeyL [.inl 2, .inl 100, .inl 11] := ⟨rfl, by decide +kernel, .inl ⟨[2, 100, 11], rfl⟩, fun k hk => by
  simp only [List.mem_cons, List.not_mem_nil, or_false] at hk
  rcases hk with rfl | rfl | rfl <;> exact leaf_int (by decide) (by decide)⟩
section
variable {P : Program} {w : World} {K : PySem.W.Frag} {mg : Str → Option Value} {base : Heap} {A : Adr}
local macro_rules | `(tactic| walk_at "sames") => `(tactic| repeat (first
  | exact Same.refl _
  | refine Same.new ?_ (by assumption)
  | refine Same.trans ?_ (by assumption)))
local macro_rules | `(tactic| walk_at "ne") => `(tactic| first
  | assumption
  | exact Ne.symm (by assumption)
  | exact ne_new (by assumption) (by walk_at "look")
  | exact ne_new' (by assumption) (by walk_at "look")
  | exact ne_of (by walk_at "look") (by walk_at "look") (by intro z; cases z))
local macro_rules | `(tactic| walk_at "look") => `(tactic| first
  | assumption
  | exact upd_same
  | (refine upd_new (by assumption) ?_
     walk_at "look")
  | (refine (upd_ne ?_).trans ?_
     · walk_at "ne"
     · walk_at "look")
  | (refine Kp.get (by assumption) ?_ ?_
     · walk_at "ne"
     · walk_at "look")
  | (refine Same.get (by assumption) ?_
     walk_at "look"))
local macro_rules | `(tactic| walk_at "lenv") => `(tactic| first
  | exact Or.inl ⟨_, SqL.of (by walk_at "look"), rfl⟩
  | exact Or.inr ⟨_, SqT.of (by walk_at "look"), rfl⟩
  | exact ⟨line_le (by omega), rfl⟩)
local macro_rules | `(tactic| walk_at "cond") => `(tactic| first
  | assumption
  | rfl
  | exact Nat.zero_le _
  | exact Nat.le_of_ble_eq_true rfl
  | decide
  | omega
  | exact line_lt (by (try simp only [List.length_map, List.length_append, List.length_cons, List.length_nil]); omega)
  | exact line_le (by (try simp only [List.length_map, List.length_append, List.length_cons, List.length_nil]); omega)
  | (dsimp only; omega)
  | exact ⟨by decide, by decide⟩
  | exact ⟨by decide, by decide, by decide⟩
  | exact Or.inl ⟨by decide, by decide⟩
  | exact Or.inl ⟨by omega, by omega⟩
  | exact Or.inr ⟨by omega, by omega⟩)
local macro_rules | `(tactic| walk_at "kit") => `(tactic| first | assumption | exact kit_NoneType_int | exact kit_NoneType_bool | exact kit_NoneType_str | exact kit_NoneType_list | exact kit_NoneType_tuple | exact kit_NoneType_dict | exact kit_bool_int | exact kit_bool_bool | exact kit_bool_str | exact kit_bool_list | exact kit_bool_tuple | exact kit_bool_dict | exact kit_int_int | exact kit_int_bool | exact kit_int_str | exact kit_int_list | exact kit_int_tuple | exact kit_int_dict | exact kit_str_int | exact kit_str_bool | exact kit_str_str | exact kit_str_list | exact kit_str_tuple | exact kit_str_dict | exact kit_list_int | exact kit_list_bool | exact kit_list_str | exact kit_list_list | exact kit_list_tuple | exact kit_list_dict | exact kit_tuple_int | exact kit_tuple_bool | exact kit_tuple_str | exact kit_tuple_list | exact kit_tuple_tuple | exact kit_tuple_dict | exact kit_dict_int | exact kit_dict_bool | exact kit_dict_str | exact kit_dict_list | exact kit_dict_tuple | exact kit_dict_dict)
local macro_rules | `(tactic| walk_at "ty") => `(tactic| first | assumption | exact tyx_str | exact tyx_int | exact tyx_bl | exact tyx_non | exact tyx_lst (by walk_at "look") | exact tyx_tup (by walk_at "look") | exact tyx_dK (by walk_at "look"))
local macro_rules | `(tactic| walk_at "s") => `(tactic| first
  | refine ⟨_, rfl, ?_⟩
  | refine ⟨_, _, rfl, rfl, ?_⟩
  | refine ⟨_, _, _, _, rfl, rfl, SqL.of (by walk_at "look"), by rfl, ?_⟩
  | refine ⟨_, _, _, _, rfl, rfl, SqT.of (by walk_at "look"), by rfl, ?_⟩
  | refine ⟨_, _, _, _, rfl, rfl, by walk_at "look", by rfl, ?_⟩
  | refine ⟨_, _, rfl, by walk_at "lenv", ?_⟩
  | refine Or.inl ⟨_, rfl, ?_⟩
  | refine ⟨_, _, _, _, _, rfl, ClsV.ty _, by walk_at "ty", by walk_at "kit", ?_⟩
  | refine And.intro (by walk_at "cond") ?_
  | refine ⟨_, _, rfl, SqT.of (by walk_at "look"), rfl, ?_⟩
  | refine ⟨_, _, rfl, SqL.of (by walk_at "look"), rfl, ?_⟩
  | refine And.intro (Or.inl ⟨rfl, _, SqL.of (by walk_at "look")⟩) ?_
  | refine ⟨_, _, _, rfl, rfl, by walk_at "look", by walk_at "cond", ?_⟩
  | refine ⟨_, _, _, _, rfl, rfl, by walk_at "look", by walk_at "look", by walk_at "cond", ?_⟩
  | refine And.intro ⟨_, rfl⟩ ?_
  | refine And.intro ⟨_, SqL.of (by walk_at "look")⟩ ?_
  | refine ⟨_, _, rfl, SqL.of (by walk_at "look"), ?_⟩
  | refine ⟨_, _, rfl, (by assumption : SqL _ _ _ _), ?_⟩
  | refine ⟨_, by walk_at "look", by walk_at "cond", ?_⟩
  | refine ⟨_, _, rfl, Or.inr (SqT.of (by walk_at "look")), ?_⟩
  | refine ⟨_, _, rfl, Or.inl (SqL.of (by walk_at "look")), ?_⟩
  | refine ⟨_, _, rfl, ?_⟩
  | refine ⟨_, _, _, rfl, by walk_at "look", by assumption, ?_⟩
  | refine ⟨_, _, true, _, _, rfl, rfl, ClsV.own _, kit_own (by assumption) (by assumption), rfl, by walk_at "look", ?_⟩
  | refine ⟨_, _, _, _, rfl, ErAt.same (by assumption) (by walk_at "sames"), by assumption, by assumption, ?_⟩
  | refine ⟨_, _, _, _, rfl, ErAt.same (by assumption) (by walk_at "sames"), by assumption, by assumption, by assumption, ?_⟩
  | refine if_t (by first | rfl | assumption | decide) ?_
  | refine if_f (by assumption) ?_
  | refine if_f (by first | decide | exact Bool.false_ne_true) ?_
  | refine fun (_ : _ ≠ sysModules) => ?_
  | refine fun (_ : ErAt _ _ _ _) => ?_
  | refine fun _ _ => ?_)

theorem value_step (T : Txt K mg A) {n k : Nat} {spI : Sp} (FI : FnG P w K mg base CX0 (k + 2) A.l_value spI) (hI : ∀ m, n = m + 1 → ∀ vs H Q E, spValue m vs H Q E → spI vs H Q E) : FnG P w K mg base CX0 (k + 3) A.l_value (spValue n) := by
  obtain ⟨fd, F⟩ := T.F_l_value
  refine Fun_okN F sc_l_value (fun vs H Q E h => ?_) (fun _ _ _ _ _ _ us hl => match us, hl with | [_, _], _ => rfl) (fun cdv A' outer s H vs Q E hr hg h => ?_)
  · obtain ⟨_, _, rfl, _⟩ := h
    rfl
  obtain ⟨W, m, rfl, hW, hm, q⟩ := h
  refine ⟨_, ((pss_cons (ps_set (i := 2) sc_l_value.nd rfl (Or.inl rfl) (pe_callGd (ok_l_lift T) (hr.mono (by omega)) hg rfl T.m_l_lift T.k_l_lift pass0 (pa_cons (pv 0) (pa_cons (pe_ifExp (pt_cmpR op_gt (pv 1) pe_int (nomark _)) pe_int pe_int) pa_nil))))
    (pss_cons (ps_if (pt_cmpR op_eq (pv 2) pe_int (nomark _)) (pss_one (ps_ret (pe_callGd (ok_l_take T) (hr.mono (by omega)) hg rfl T.m_l_take T.k_l_take pass0 (pa_cons (pv 0) (pa_cons (pe_lst (pa_cons pe_non (pa_cons pe_bl (pa_cons pe_bl (pa_cons pe_str (pa_cons pe_str (pa_cons pe_str (pa_cons pe_int (pa_cons pe_int (pa_cons (pe_un un_neg pe_int) (pa_cons (pe_callGd (ok_l_lift T) (hr.mono (by omega)) hg rfl T.m_l_lift T.k_l_lift pass0 (pa_cons (pv 0) (pa_cons (pe_op op_pow pe_int pe_int) pa_nil))) pa_nil))))))))))) pa_nil))))) pss_nil)
    (pss_cons (ps_if (pt_cmpR op_lt (pv 2) pe_int (nomark _)) (pss_cons (ps_setLc (own := [(("_law_turn" : PySem.Str), 4)]) (i := 3) rfl sc_l_value.nd rfl rfl (sw_true rfl rfl rfl (by decide +kernel)) (pi_range1 (by rfl) T.n_range (pa_cons (pe_callGd (ok_l_lift T) (hr.mono (by omega)) hg rfl T.m_l_lift T.k_l_lift pass0 (pa_cons (pv 0) (pa_cons pe_int pa_nil))) pa_nil)) (blkOk_by (own := [(("_law_turn" : PySem.Str), 4)]) (N := [("_law_tray_here" : PySem.Str), ("_law_depth" : PySem.Str), ("_law_way" : PySem.Str), ("_law_parts" : PySem.Str), ("_law_turn" : PySem.Str), ("_law_keys" : PySem.Str), ("_law_made" : PySem.Str), ("_law_key" : PySem.Str)]) (sc := defScope s_l_value) (by decide +kernel)) (fun _ _ _ _ _ => (pg_name (i := 4) sc_l_value.nd rfl (Or.inl rfl))) (fun _ _ _ _ _ => pts_nil) (fun _ _ _ _ _ => (pe_callGd FI hr hg rfl T.m_l_value T.k_l_value pass0 (pa_cons (pv 0) (pa_cons (pe_op op_sub (pv 1) pe_int) pa_nil)))))
    (pss_one (ps_ret (pe_ifExp (pt_cmpR op_eq (pv 2) pe_int (nomark _)) (pv 3) (pe_callTy call_tuple_of (by rfl) T.n_tuple (by decide +kernel) (pa_cons (pv 3) pa_nil)))))) pss_nil)
    (pss_cons (ps_set (i := 5) sc_l_value.nd rfl (Or.inl rfl) (pe_callGd (ok_l_take T) (hr.mono (by omega)) hg rfl T.m_l_take T.k_l_take pass0 (pa_cons (pv 0) (pa_cons (pe_lst (pa_cons (pe_lst (pa_cons pe_str (pa_cons pe_str (pa_cons pe_str pa_nil)))) (pa_cons (pe_lst (pa_cons pe_str (pa_cons pe_str (pa_cons pe_str pa_nil)))) (pa_cons (pe_lst (pa_cons pe_int (pa_cons pe_int (pa_cons (pe_un un_neg pe_int) pa_nil)))) (pa_cons (pe_lst (pa_cons pe_int (pa_cons pe_int (pa_cons pe_int pa_nil)))) pa_nil))))) pa_nil))))
    (pss_cons (ps_set (i := 6) sc_l_value.nd rfl (Or.inl rfl) pe_dnewK)
    (pss_cons (ps_for PassesOwn.never rfl (pi_list (pe_slice sl_list (pv 5) (po_some (pe_callGd (ok_l_lift T) (hr.mono (by omega)) hg rfl T.m_l_lift T.k_l_lift pass0 (pa_cons (pv 0) (pa_cons pe_int pa_nil)))) po_none)) (pg_name (i := 7) sc_l_value.nd rfl (Or.inl rfl))
    (pss_one (ps_asg (pe_callGd FI hr hg rfl T.m_l_value T.k_l_value pass0 (pa_cons (pv 0) (pa_cons (pe_op op_sub (pv 1) pe_int) pa_nil))) (pg_sub (pv 6) (pv 7) (set_dict (hu_of hr))))))
    (pss_one (ps_ret (pv 6)))))))))), ?_⟩
  have hc : 3 ≤ Cst n := by cases n with
    | zero => exact Nat.le_refl 3
    | succ n => show 3 ≤ 3 + 3 * Cst n; omega
  repeat walk_at "s"
  refine ite2 (fun c1 => ?_) (fun c1 => ?_)
  · obtain ⟨n, rfl⟩ : ∃ j, n = j + 1 := by
      have := of_decide_eq_true c1
      exact ⟨n - 1, by omega⟩
    have e3 : Cst (n + 1) = 3 + 3 * Cst n := rfl
    refine Iv.mk ⟨W, 4, m, rfl, hW, by omega, by decide, by decide, fun H1 way w0 w1 W1 K1 => ?_⟩
    repeat walk_at "s"
    refine ite2 (fun c2 => ?_) (fun c2 => ?_)
    · repeat walk_at "s"
      refine Iv.mk ⟨W, 10 ^ (30 : Int).toNat, m + 1, rfl, W1, by omega, by decide, by decide, fun H2 r r0 r1 W2 K2 => ?_⟩
      repeat walk_at "s"
      rename_i p hp
      refine Iv.mk ⟨W, p, _, m + 1 + 1, rfl, W2.new hp, by omega, (W2.ne hp).1, upd_same, by exact Nat.lt_of_sub_eq_succ rfl, by exact Nat.le_of_ble_eq_true rfl, fun H3 v hv W3 K3 => ?_⟩
      obtain ⟨d, lf, dp, nr⟩ := leafs r0 r1 v hv
      exact q H3 v d (W3.mono (by omega)) ((K1.trans K2).trans (Kp.trans (Kp.of_same (Same.new (Same.refl _) hp)) K3)) (dp _) (.leaf lf) (fun a o u e => absurd e (nr a))
    · repeat walk_at "s"
      refine ite2 (fun c3 => ?_) (fun c3 => ?_)
      · repeat walk_at "s"
        refine Iv.mk ⟨W, 4, m + 1, rfl, W1, by omega, by decide, by decide, fun H2 r r0 r1 W2 K2 => ?_⟩
        repeat walk_at "s"
        rename_i D hD
        have hDW := W2.ne hD
        obtain ⟨oW, hoW⟩ := W2.at
        have K02 : Kp W.w H H2 := K1.trans K2
        obtain ⟨oH, hoH⟩ := hW.at
        have hDH : H D = none := Kp.free K02 ⟨_, hoW⟩ hD
        refine lc_it walk_range (fun i H' => Iv (WellAt H' W (m + 2 + Cst n * i) ∧ Kp W.w H H' ∧ (∀ b, H' b = none → upd H2 D (.lst []) b = none) ∧ ∃ ws ds, H' D = some (.lst ws) ∧ ws.length = i ∧ DpRs (nw (upd H2 D (.lst [])) H') ws ds ∧ ∀ d ∈ ds, Okd n d))
          (Iv.mk ⟨(W2.new hD).mono (by omega), Kp.new K02 hD, fun _ h => h, [], [], upd_same, rfl, .nil, fun d h => absurd h List.not_mem_nil⟩) (fun _ _ _ _ => trivial) ?_ ?_
        · rintro i x H4 H5 hi hI5 ⟨rfl, rfl⟩
          obtain ⟨W5, K5, dm, ws, ds, hDl, hl, hds, hok⟩ := hI5.out
          have hi4 : i ≤ 2 := by omega
          have hC : Cst n * i ≤ Cst n * 2 := Nat.mul_le_mul_left _ hi4
          repeat walk_at "s"
          have en : ((n + 1 : Nat) : Int) - 1 = (n : Int) := by omega
          refine Iv.mk (hI _ rfl _ _ _ _ ⟨W, m + 2 + Cst n * i, congrArg (fun z => [V.ref W.w, V.int z]) en, W5, by omega, fun H6 v d W6 K6 dp okd _ => ?_⟩)
          have hD6 : H6 D = some (.lst ws) := K6 D _ hDW.1 hDl
          refine ⟨ws, hD6, line_lt (by omega), Iv.mk ⟨(W6.mono (by rw [Nat.mul_succ]; omega)).put hDW, (K5.trans K6).put2 hDH, fun b hb => ?_, ws ++ [v], ds ++ [d], upd_same, by rw [List.length_append, hl]; rfl, ?_, ?_⟩⟩
          · by_cases e : b = D
            · subst e
              rw [upd_same] at hb
              cases hb
            · rw [upd_ne e] at hb
              obtain ⟨o6, ho6⟩ := W6.at
              exact dm b (Kp.free K6 ⟨_, ho6⟩ hb)
          · have nD : ∀ b, upd H2 D (.lst []) b = none → b ≠ D ∧ b ≠ W.w := fun b hb => by
              have h1 : b ≠ D := fun e => by rw [e, upd_same] at hb; cases hb
              refine ⟨h1, fun e => ?_⟩
              rw [upd_ne h1, e, hoW] at hb
              cases hb
            refine (hds.same (nw_same (fun _ h => h) fun b o hb e => ?_)).snoc (dp.same (nw_same dm fun b o hb e => ?_))
            · rw [upd_ne (nD b hb).1]
              exact K6 b o (nD b hb).2 e
            · rw [upd_ne (nD b (dm b hb)).1]
              exact e
          · intro d' hd'
            rcases List.mem_append.mp hd' with h | h
            · exact hok d' h
            · rw [List.mem_singleton.mp h]; exact okd
        · intro H5 hI5
          obtain ⟨W5, K5, dm, ws, ds, hDl, hl, hds, hok⟩ := hI5.out
          have lds : ds.length ≤ 3 := by rw [← hds.length]; omega
          have hC : Cst n * r.toNat ≤ Cst n * 3 := Nat.mul_le_mul_left _ (by omega)
          have e3 : Cst (n + 1) = 3 + 3 * Cst n := rfl
          have toH : ∀ b, upd H2 D (.lst []) b = none → H b = none := fun b hb => by
            have h1 : b ≠ D := fun e => by rw [e, upd_same] at hb; cases hb
            rw [upd_ne h1] at hb
            exact Kp.free K02 ⟨_, hoW⟩ hb
          repeat walk_at "s"
          refine ite2 (fun c4 => ?_) (fun c4 => ?_)
          · repeat walk_at "s"
            refine q H5 (.ref D) (.list ds) (W5.mono (by omega)) K5 (.lst (.inl (by rw [nw_at hDH]; exact hDl)) (hds.same (nw_same toH fun b o hb e => e))) (.list lds hok) (fun a o u e hz => ?_)
            cases e
            rw [hDl] at hz
            cases hz
          · repeat walk_at "s"
            refine .inl ⟨SqL.of hDl, fun l hl2 => ?_⟩
            have hlH : H l = none := by
              obtain ⟨o5, ho5⟩ := W5.at
              exact Kp.free K5 ⟨_, ho5⟩ hl2
            refine q _ (.ref l) (.tuple ds) ((W5.new hl2).mono (by omega)) (Kp.new K5 hl2) (.tup (by rw [nw_at hlH]; exact upd_same) (hds.same (nw_same toH fun b o hb e => by rw [upd_ne (ne_of_none e hl2)]; exact e))) (.tup lds hok) (fun a o u e hz => ?_)
            cases e
            rw [upd_same] at hz
            cases hz
      · repeat walk_at "s"
        rename_i p1 h1 p2 h2 p3 h3 p4 h4 pL hL
        refine Iv.mk ⟨W, pL, _, m + 1, rfl, ((((W1.new h1).new h2).new h3).new h4).new hL, by omega, (((((W1.new h1).new h2).new h3).new h4).ne hL).1, upd_same, by exact Nat.lt_of_sub_eq_succ rfl, by exact Nat.le_of_ble_eq_true rfl, fun H3 v hv W3 K3 => ?_⟩
        have S1 : Same H1 (upd (upd (upd (upd (upd H1 p1 (.lst [V.str "b", V.str "a", V.str "c"])) p2 (.lst [V.str "z9", V.str "z10", V.str "a"])) p3 (.lst [V.int 10, V.int 9, V.int (-1)])) p4 (.lst [V.int 2, V.int 100, V.int 11])) pL (.lst [V.ref p1, V.ref p2, V.ref p3, V.ref p4])) :=
          Same.new (Same.new (Same.new (Same.new (Same.new (Same.refl _) h1) h2) h3) h4) hL
        have K13 : Kp W.w H1 H3 := (Kp.of_same S1).trans K3
        obtain ⟨pk, ks, rfl, hpk, hpkW, KL⟩ : ∃ (pk : Addr) (ks : List Key), v = .ref pk ∧ H3 pk = some (.lst (ks.map kV)) ∧ pk ≠ W.w ∧ KeyL ks := by
          have n1 := (W1.ne h1).1
          have n2 := ((W1.new h1).ne h2).1
          have n3 := (((W1.new h1).new h2).ne h3).1
          have n4 := ((((W1.new h1).new h2).new h3).ne h4).1
          simp only [List.mem_cons, List.not_mem_nil, or_false] at hv
          rcases hv with rfl | rfl | rfl | rfl
          · exact ⟨p1, [.inr "b", .inr "a", .inr "c"], rfl, K3 _ _ n1 (by walk_at "look"), n1, keyl_1⟩
          · exact ⟨p2, [.inr "z9", .inr "z10", .inr "a"], rfl, K3 _ _ n2 (by walk_at "look"), n2, keyl_2⟩
          · exact ⟨p3, [.inl 10, .inl 9, .inl (-1)], rfl, K3 _ _ n3 (by walk_at "look"), n3, keyl_3⟩
          · exact ⟨p4, [.inl 2, .inl 100, .inl 11], rfl, K3 _ _ n4 (by walk_at "look"), n4, keyl_4⟩
        have K03 : Kp W.w H H3 := K1.trans K13
        repeat walk_at "s"
        rename_i D hD
        have hDW := W3.ne hD
        obtain ⟨oW, hoW⟩ := W3.at
        obtain ⟨oH, hoH⟩ := hW.at
        have hDH : H D = none := Kp.free K03 ⟨_, hoW⟩ hD
        have hDpk : D ≠ pk := fun e => by rw [e, hpk] at hD; cases hD
        refine Iv.mk ⟨W, 3, m + 1 + 1, rfl, W3.new hD, by omega, by decide, by decide, fun H4 j j0 j1 W4 K4 => ?_⟩
        have K3D : Kp W.w H3 (upd H3 D (.dK [])) := Kp.of_same (Same.new (Same.refl _) hD)
        have hpk4 : H4 pk = some (.lst (ks.map kV)) := K4 _ _ hpkW (K3D _ _ hpkW hpk)
        have hD4 : H4 D = some (.dK []) := K4 _ _ hDW.1 upd_same
        obtain ⟨jn, rfl⟩ : ∃ jn : Nat, j = jn := ⟨j.toNat, by omega⟩
        have hcut : cutV (ks.map kV) (some (jn : Int)) none = (ks.drop jn).map kV := by
          rw [cutV_drop (by rw [List.length_map, KL.len]; omega), List.map_drop]
        generalize hks2 : ks.drop jn = ks2 at hcut
        have hsub : ∀ k ∈ ks2, k ∈ ks := fun k h => List.mem_of_mem_drop (by rw [hks2]; exact h)
        have hnd2 : ks2.Nodup := by rw [← hks2]; exact KL.nd.sublist (List.drop_sublist _ _)
        have hlen2 : ks2.length ≤ 3 := by rw [← hks2, List.length_drop, KL.len]; omega
        have hkin2 : (∃ l : List Int, ks2 = l.map Sum.inl) ∨ ∃ l : List Str, ks2 = l.map Sum.inr := by
          rcases KL.kin with ⟨l, e⟩ | ⟨l, e⟩
          · exact .inl ⟨l.drop jn, by rw [← hks2, e, List.map_drop]⟩
          · exact .inr ⟨l.drop jn, by rw [← hks2, e, List.map_drop]⟩
        refine ⟨_, rfl, pk, _, rfl, SqL.of hpk4, fun pc hpc => ?_⟩
        rw [hcut]
        have hpcW := W4.ne hpc
        refine ⟨_, rfl, ⟨_, SqL.of upd_same⟩, ?_⟩
        have hDne : D ≠ pc := fun e => by rw [← e, hD4] at hpc; cases hpc
        have K04 : Kp W.w H H4 := (K03.trans K3D).trans K4
        obtain ⟨oW4, hoW4⟩ := W4.at
        have hpcH : H pc = none := Kp.free K04 ⟨_, hoW4⟩ hpc
        refine for_it (walk_list (xs := ks2.map kV)) (fun i σ H' => Iv (∃ kk : Option V, σ = [some (.ref W.w), some (.int ((n + 1 : Nat) : Int)), some (.int way), none, none, some (.ref pk), some (.ref D), kk] ∧ WellAt H' W (m + 3 + Cst n * i) ∧ Kp W.w H H' ∧
            (∀ b, H' b = none → upd H4 pc (.lst (ks2.map kV)) b = none) ∧ H' pc = some (.lst (ks2.map kV)) ∧ ∃ kvs ds, H' D = some (.dK kvs) ∧ kvs.map (·.1) = ks2.take i ∧ DpRp (nw (upd H4 pc (.lst (ks2.map kV))) H') kvs ds ∧ ∀ d ∈ ds, Okd n d.2))
          (Iv.mk ⟨_, rfl, (W4.new hpc).mono (by omega), Kp.new K04 hpc, fun _ h => h, upd_same, [], [], by rw [upd_ne hDne]; exact hD4, rfl, .nil, fun d h => absurd h List.not_mem_nil⟩) (fun i σ H' _ h => SqL.of (by obtain ⟨_, _, _, _, _, h, _⟩ := h.out; exact h)) ?_ ?_
        · rintro i x σ H5 H5' hi hI5 ⟨rfl, hx⟩
          obtain ⟨kk, rfl, W5, K5, dm, hpc5, kvs, ds, hDl, hkk, hds, hok⟩ := hI5.out
          rw [List.length_map] at hi
          have hC : Cst n * i ≤ Cst n * 2 := Nat.mul_le_mul_left _ (by omega)
          obtain ⟨k0, hk0, rfl⟩ : ∃ k0, ks2[i]? = some k0 ∧ x = kV k0 := by
            rw [List.getElem?_map] at hx
            cases e : ks2[i]? with
            | none => rw [e] at hx; cases hx
            | some k0 => rw [e] at hx; exact ⟨k0, rfl, (Option.some.inj hx).symm⟩
          repeat walk_at "s"
          have en : ((n + 1 : Nat) : Int) - 1 = (n : Int) := by omega
          refine Iv.mk (hI _ rfl _ _ _ _ ⟨W, m + 3 + Cst n * i, congrArg (fun z => [V.ref W.w, V.int z]) en, W5, by omega, fun H6 v d W6 K6 dp okd _ => ?_⟩)
          have hD6 : H6 D = some (.dK kvs) := K6 D _ hDW.1 hDl
          have hpc6 : H6 pc = some (.lst (ks2.map kV)) := K6 pc _ hpcW.1 hpc5
          have hnk : ∀ p ∈ kvs, p.1 ≠ k0 := fun p hp e => by
            have h1 : p.1 ∈ ks2.take i := by rw [← hkk]; exact List.mem_map_of_mem hp
            rw [e] at h1
            obtain ⟨t, ht, e2⟩ := List.mem_iff_getElem.mp h1
            rw [List.length_take] at ht
            rw [List.getElem_take] at e2
            have h3 := (List.getElem?_eq_some_iff.mp hk0)
            obtain ⟨h4, h5⟩ := h3
            exact (List.pairwise_iff_getElem.mp hnd2) t i (by omega) h4 (by omega) (by rw [e2, h5])
          have eput : putK kvs k0 v = kvs ++ [(k0, v)] := by
            unfold putK
            rw [if_neg]
            intro h
            obtain ⟨p, hp, e⟩ := List.any_eq_true.mp h
            exact hnk p hp (of_decide_eq_true e)
          have lkv : kvs.length = i := by
            have := congrArg List.length hkk
            rw [List.length_map, List.length_take] at this
            omega
          refine ⟨_, rfl, _, rfl, D, _, rfl, DPut.k hD6 (line_lt (by omega)), ?_⟩
          rw [eput]
          have nD : ∀ b, upd H4 pc (.lst (ks2.map kV)) b = none → b ≠ D ∧ b ≠ W.w := fun b hb => by
            have h1 : b ≠ pc := fun e => by rw [e, upd_same] at hb; cases hb
            rw [upd_ne h1] at hb
            exact ⟨fun e => by (rw [e, hD4] at hb; cases hb), fun e => by (rw [e, hoW4] at hb; cases hb)⟩
          refine Iv.mk ⟨_, rfl, (W6.mono (by rw [Nat.mul_succ]; omega)).put hDW, (K5.trans K6).put2 hDH, fun b hb => ?_, by rw [upd_ne (Ne.symm hDne)]; exact hpc6, kvs ++ [(k0, v)], ds ++ [(keyD k0, d)], upd_same, ?_, ?_, ?_⟩
          · by_cases e : b = D
            · subst e
              rw [upd_same] at hb
              cases hb
            · rw [upd_ne e] at hb
              obtain ⟨o6, ho6⟩ := W6.at
              exact dm b (Kp.free K6 ⟨_, ho6⟩ hb)
          · rw [List.map_append, hkk, take_one hk0]
            rfl
          · refine DpRp.snoc (k := k0) (DpRp.kr (.of (nw_same (fun _ h => h) fun b o hb e => ?_)) hds) (dp.same (nw_same dm fun b o hb e => ?_))
            · rw [upd_ne (nD b hb).1]
              exact K6 b o (nD b hb).2 e
            · rw [upd_ne (nD b (dm b hb)).1]
              exact e
          · intro d' hd'
            rcases List.mem_append.mp hd' with h | h
            · exact hok d' h
            · rw [List.mem_singleton.mp h]; exact okd
        · intro σ H5 hI5
          obtain ⟨kk, rfl, W5, K5, dm, hpc5, kvs, ds, hDl, hkk, hds, hok⟩ := hI5.out
          have toH : ∀ b, upd H4 pc (.lst (ks2.map kV)) b = none → H b = none := fun b hb => by
            have h1 : b ≠ pc := fun e => by rw [e, upd_same] at hb; cases hb
            rw [upd_ne h1] at hb
            exact Kp.free K04 ⟨_, hoW4⟩ hb
          rw [List.length_map] at W5 hkk
          rw [List.take_length] at hkk
          have hC : Cst n * ks2.length ≤ Cst n * 3 := Nat.mul_le_mul_left _ hlen2
          have ekeys : ds.map (·.1) = ks2.map keyD := by
            rw [hds.keys, ← hkk, List.map_map]
            rfl
          have lds : ds.length = ks2.length := by
            have := congrArg List.length ekeys
            rwa [List.length_map, List.length_map] at this
          repeat walk_at "s"
          refine q H5 (.ref D) (.dict ds) (W5.mono (by omega)) K5 (.dct (.inl (by rw [nw_at hDH]; exact hDl)) (DpRp.kr (.of (nw_same toH fun b o hb e => e)) hds)) (.dict (by omega) ?_ ?_ ?_ hok) (fun a o u e hz => ?_)
          · rw [ekeys]
            exact hnd2.map keyD (fun a b h e => h (keyD_inj e))
          · rcases hkin2 with ⟨l, e⟩ | ⟨l, e⟩
            · exact .inl ⟨l, by rw [ekeys, e, List.map_map]; rfl⟩
            · exact .inr ⟨l, by rw [ekeys, e, List.map_map]; rfl⟩
          · intro p hp
            have h1 : p.1 ∈ ks2.map keyD := by rw [← ekeys]; exact List.mem_map_of_mem hp
            obtain ⟨k1, hk1, e⟩ := List.mem_map.mp h1
            rw [← e]
            exact KL.leaf k1 (hsub k1 hk1)
          · cases e
            rw [hDl] at hz
            cases hz
  · refine Iv.mk ⟨W, 1, m, rfl, hW, by omega, by decide, by decide, fun H1 way w0 w1 W1 K1 => ?_⟩
    obtain rfl : way = 0 := by omega
    repeat walk_at "s"
    refine Iv.mk ⟨W, 10 ^ (30 : Int).toNat, m + 1, rfl, W1, by omega, by decide, by decide, fun H2 r r0 r1 W2 K2 => ?_⟩
    repeat walk_at "s"
    rename_i p hp
    refine Iv.mk ⟨W, p, _, m + 1 + 1, rfl, W2.new hp, by omega, (W2.ne hp).1, upd_same, by exact Nat.lt_of_sub_eq_succ rfl, by exact Nat.le_of_ble_eq_true rfl, fun H3 v hv W3 K3 => ?_⟩
    obtain ⟨d, lf, dp, nr⟩ := leafs r0 r1 v hv
    exact q H3 v d (W3.mono (by omega)) ((K1.trans K2).trans (Kp.trans (Kp.of_same (Same.new (Same.refl _) hp)) K3)) (dp _) (.leaf lf) (fun a o u e => absurd e (nr a))
theorem ok_l_value (T : Txt K mg A) : ∀ n, FnG P w K mg base CX0 (n + 3) A.l_value (spValue n)
  | 0 => value_step T (k := 0) (spI := fun _ _ _ _ => False) (fun _ _ _ _ _ _ _ _ _ _ _ _ h => h.elim) (fun m e => nomatch e)
  | n + 1 => value_step T (k := n + 1) (ok_l_value T n) (fun m e vs H Q E h => by cases e; exact h)
end
end K02

namespace K02
open PySem PySem.Spec PyProof.Rows L2 MyL MyD
inductive Kd (n : Nat) (H : Hp) : V → Prop
  | flat {v : V} {d : PyData} : Flat d → DpR H v d → Kd n H v
  | lst {a : Addr} {xs : List V} : H a = some (.lst xs) → xs.length ≤ n → Kd n H (.ref a)
  | tup {a : Addr} {xs : List V} : H a = some (.tup xs) → Kd n H (.ref a)
  | dct {a : Addr} {kvs : List (Key × V)} : H a = some (.dK kvs) → kvs.length ≤ n → Kd n H (.ref a)
/-- what spoiling leaves -/
def SpR (H H' : Hp) (v : V) : Prop := ∀ b o, H b = some o → H' b = some o ∨ (v = .ref b ∧ ((∃ xs ys, o = .lst xs ∧ H' b = some (.lst ys) ∧ ys.length ≤ xs.length + 1) ∨
  ∃ (kvs kws : List (Key × V)), o = .dK kvs ∧ H' b = some (.dK kws) ∧ kws.length ≤ kvs.length + 1))
def spSpoil : Sp := fun vs H Q _ => ∃ v, vs = [v] ∧ Kd 1000 H v ∧ ∀ H', SpR H H' v → Q .non H'
/-- what stands in G, what is new after H -/
def ext (G H H' : Hp) : Hp := fun b => match H b with
  | none => H' b
  | some _ => G b
theorem ext_new {G H H' : Hp} {b : Addr} (h : H b = none) : ext G H H' b = H' b := by unfold ext; rw [h]
theorem ext_same {G H H' : Hp} (S : Same G H) : Same G (ext G H H') := fun b o e => by
  unfold ext
  rw [S b o e]
  exact e
def spTurned (n : Nat) : Sp := fun vs H Q _ => ∃ (G : Hp) (v : V) (d : PyData), vs = [v] ∧ Same G H ∧ DpR G v d ∧ Okd n d ∧ ∀ H' v' d', Same H H' → DpR (ext G H H') v' d' → Okd n d' → (∀ e, Fx d e → Fx d' e) → Q v' H'
theorem dprp_rev {H : Hp} : ∀ {vs : List (Key × V)} {ds : List (PyData × PyData)}, DpRp H vs ds → DpRp H vs.reverse ds.reverse
  | _, _, .nil => .nil
  | _, _, .cons a q => by
    rw [List.reverse_cons, List.reverse_cons]
    exact (dprp_rev q).snoc a
theorem Kd.spoilt {n : Nat} {H H' : Hp} {v u : V} (h : Kd n H v) (S : SpR H H' u) : Kd (n + 1) H' v := by
  cases h with
  | flat f hd =>
    refine .flat f ?_
    cases f <;> cases hd
    · exact .non
    · exact .bl _
    · exact .int _
    · exact .str _
  | @lst a xs h l =>
    rcases S _ _ h with h | ⟨_, h | h⟩
    · exact .lst h (Nat.le_succ_of_le l)
    · obtain ⟨xs', ys, e, h, l2⟩ := h
      cases e
      exact .lst h (by omega)
    · obtain ⟨_, _, e, _⟩ := h
      cases e
  | @tup a xs h =>
    rcases S _ _ h with h | ⟨_, h | h⟩
    · exact .tup h
    · obtain ⟨_, _, e, _⟩ := h
      cases e
    · obtain ⟨_, _, e, _⟩ := h
      cases e
  | @dct a kvs h l =>
    rcases S _ _ h with h | ⟨_, h | h⟩
    · exact .dct h (Nat.le_succ_of_le l)
    · obtain ⟨_, _, e, _⟩ := h
      cases e
    · obtain ⟨_, ys, e, h, l2⟩ := h
      cases e
      exact .dct h (by omega)
theorem Kd.mono {n m : Nat} {H : Hp} {v : V} (h : Kd n H v) (l : n ≤ m) : Kd m H v := by
  cases h with
  | flat f hd => exact .flat f hd
  | lst h k => exact .lst h (Nat.le_trans k l)
  | tup h => exact .tup h
  | dct h k => exact .dct h (Nat.le_trans k l)
theorem SpR.keep {H H' : Hp} {v : V} (S : SpR H H' v) {b : Addr} {o : HO} (h : H b = some o) (n : v ≠ .ref b) : H' b = some o := (S b o h).elim (fun h => h) fun h => absurd h.1 n
theorem SpR.fix {H H' : Hp} {v : V} (S : SpR H H' v) (b : Addr) (o : HO) (k : (∃ c d f, o = .ins c d f) ∨ (∃ xs, o = .tup xs)) (h : H b = some o) : H' b = some o := by
  rcases S _ _ h with h | ⟨_, h | h⟩
  · exact h
  · obtain ⟨_, _, e, _⟩ := h
    rcases k with ⟨_, _, _, k⟩ | ⟨_, k⟩ <;> (rw [k] at e; cases e)
  · obtain ⟨_, _, e, _⟩ := h
    rcases k with ⟨_, _, _, k⟩ | ⟨_, k⟩ <;> (rw [k] at e; cases e)
theorem put_len (kvs : List (Key × V)) (k : Key) (v : V) : (putK kvs k v).length ≤ kvs.length + 1 := by
  unfold putK
  split
  · rw [List.length_map]; omega
  · rw [List.length_append]; exact Nat.le_refl _
section
variable {P : Program} {w : World} {K : PySem.W.Frag} {mg : Str → Option Value} {base : Heap} {A : Adr}
local macro_rules | `(tactic| walk_at "sames") => `(tactic| repeat (first
  | exact Same.refl _
  | refine Same.new ?_ (by assumption)
  | refine Same.trans ?_ (by assumption)))
local macro_rules | `(tactic| walk_at "ne") => `(tactic| first
  | assumption
  | exact Ne.symm (by assumption)
  | exact ne_new (by assumption) (by walk_at "look")
  | exact ne_new' (by assumption) (by walk_at "look")
  | exact ne_of (by walk_at "look") (by walk_at "look") (by intro z; cases z))
local macro_rules | `(tactic| walk_at "look") => `(tactic| first
  | assumption
  | exact upd_same
  | (refine upd_new (by assumption) ?_
     walk_at "look")
  | (refine (upd_ne ?_).trans ?_
     · walk_at "ne"
     · walk_at "look")
  | (refine Kp.get (by assumption) ?_ ?_
     · walk_at "ne"
     · walk_at "look")
  | (refine Same.get (by assumption) ?_
     walk_at "look"))
local macro_rules | `(tactic| walk_at "lenv") => `(tactic| first
  | exact Or.inl ⟨_, SqL.of (by walk_at "look"), rfl⟩
  | exact Or.inr ⟨_, SqT.of (by walk_at "look"), rfl⟩
  | exact ⟨line_le (by omega), rfl⟩)
local macro_rules | `(tactic| walk_at "cond") => `(tactic| first
  | assumption
  | rfl
  | exact Nat.zero_le _
  | exact Nat.le_of_ble_eq_true rfl
  | decide
  | omega
  | exact line_lt (by (try simp only [List.length_map, List.length_append, List.length_cons, List.length_nil]); omega)
  | exact line_le (by (try simp only [List.length_map, List.length_append, List.length_cons, List.length_nil]); omega)
  | (dsimp only; omega)
  | exact ⟨by decide, by decide⟩
  | exact ⟨by decide, by decide, by decide⟩
  | exact Or.inl ⟨by decide, by decide⟩
  | exact Or.inl ⟨by omega, by omega⟩
  | exact Or.inr ⟨by omega, by omega⟩)
local macro_rules | `(tactic| walk_at "kit") => `(tactic| first | assumption | exact kit_NoneType_int | exact kit_NoneType_bool | exact kit_NoneType_str | exact kit_NoneType_list | exact kit_NoneType_tuple | exact kit_NoneType_dict | exact kit_bool_int | exact kit_bool_bool | exact kit_bool_str | exact kit_bool_list | exact kit_bool_tuple | exact kit_bool_dict | exact kit_int_int | exact kit_int_bool | exact kit_int_str | exact kit_int_list | exact kit_int_tuple | exact kit_int_dict | exact kit_str_int | exact kit_str_bool | exact kit_str_str | exact kit_str_list | exact kit_str_tuple | exact kit_str_dict | exact kit_list_int | exact kit_list_bool | exact kit_list_str | exact kit_list_list | exact kit_list_tuple | exact kit_list_dict | exact kit_tuple_int | exact kit_tuple_bool | exact kit_tuple_str | exact kit_tuple_list | exact kit_tuple_tuple | exact kit_tuple_dict | exact kit_dict_int | exact kit_dict_bool | exact kit_dict_str | exact kit_dict_list | exact kit_dict_tuple | exact kit_dict_dict)
local macro_rules | `(tactic| walk_at "ty") => `(tactic| first | assumption | exact tyx_str | exact tyx_int | exact tyx_bl | exact tyx_non | exact tyx_lst (by walk_at "look") | exact tyx_tup (by walk_at "look") | exact tyx_dK (by walk_at "look"))
local macro_rules | `(tactic| walk_at "s") => `(tactic| first
  | refine ⟨_, rfl, ?_⟩
  | refine ⟨_, _, rfl, rfl, ?_⟩
  | refine ⟨_, _, _, _, rfl, rfl, SqL.of (by walk_at "look"), by rfl, ?_⟩
  | refine ⟨_, _, _, _, rfl, rfl, SqT.of (by walk_at "look"), by rfl, ?_⟩
  | refine ⟨_, _, _, _, rfl, rfl, by walk_at "look", by rfl, ?_⟩
  | refine ⟨_, _, rfl, by walk_at "lenv", ?_⟩
  | refine Or.inl ⟨_, rfl, ?_⟩
  | refine ⟨_, _, _, _, _, rfl, ClsV.ty _, by walk_at "ty", by walk_at "kit", ?_⟩
  | refine And.intro (by walk_at "cond") ?_
  | refine ⟨_, _, rfl, SqT.of (by walk_at "look"), rfl, ?_⟩
  | refine ⟨_, _, rfl, SqL.of (by walk_at "look"), rfl, ?_⟩
  | refine And.intro (Or.inl ⟨rfl, _, SqL.of (by walk_at "look")⟩) ?_
  | refine ⟨_, _, _, rfl, rfl, by walk_at "look", by walk_at "cond", ?_⟩
  | refine ⟨_, _, _, _, rfl, rfl, by walk_at "look", by walk_at "look", by walk_at "cond", ?_⟩
  | refine And.intro ⟨_, rfl⟩ ?_
  | refine And.intro ⟨_, SqL.of (by walk_at "look")⟩ ?_
  | refine ⟨_, _, rfl, SqL.of (by walk_at "look"), ?_⟩
  | refine ⟨_, _, rfl, (by assumption : SqL _ _ _ _), ?_⟩
  | refine ⟨_, by walk_at "look", by walk_at "cond", ?_⟩
  | refine ⟨_, _, rfl, Or.inr (SqT.of (by walk_at "look")), ?_⟩
  | refine ⟨_, _, rfl, Or.inl (SqL.of (by walk_at "look")), ?_⟩
  | refine ⟨_, _, rfl, ?_⟩
  | refine ⟨_, _, _, rfl, by walk_at "look", by assumption, ?_⟩
  | refine ⟨_, _, true, _, _, rfl, rfl, ClsV.own _, kit_own (by assumption) (by assumption), rfl, by walk_at "look", ?_⟩
  | refine ⟨_, _, _, _, rfl, ErAt.same (by assumption) (by walk_at "sames"), by assumption, by assumption, ?_⟩
  | refine ⟨_, _, _, _, rfl, ErAt.same (by assumption) (by walk_at "sames"), by assumption, by assumption, by assumption, ?_⟩
  | refine if_t (by first | rfl | assumption | decide) ?_
  | refine if_f (by assumption) ?_
  | refine if_f (by first | decide | exact Bool.false_ne_true) ?_
  | refine fun (_ : _ ≠ sysModules) => ?_
  | refine fun (_ : ErAt _ _ _ _) => ?_
  | refine fun _ _ => ?_)

theorem ok_l_spoil (T : Txt K mg A) : FnG P w K mg base CX0 1 A.l_spoil spSpoil := by
  obtain ⟨fd, F⟩ := T.F_l_spoil
  refine Fun_okN F sc_l_spoil (fun vs H Q E h => ?_) (fun _ _ _ _ _ _ us hl => match us, hl with | [_], _ => rfl) (fun cdv A' outer s H vs Q E hr hg h => ?_)
  · obtain ⟨_, rfl, _⟩ := h
    rfl
  obtain ⟨v, rfl, kd, q⟩ := h
  refine ⟨_, ((pss_one (ps_if (pt_val (pe_callB call_isi (by rfl) T.n_isinstance (by decide +kernel) (pa_cons (pv 0) (pa_cons (pe_bltn (v := .ty "list") (u := .type "list") (by rfl) T.n_list (by decide +kernel) rfl) pa_nil)))) (pss_one (ps_expr (pe_bm PySem.F.plainAttrs_list PySem.F.slot_list_append PySem.F.type_list_append mt_append (pv 0) (pa_cons pe_str pa_nil)))) (pss_one (ps_if (pt_val (pe_callB call_isi (by rfl) T.n_isinstance (by decide +kernel) (pa_cons (pv 0) (pa_cons (pe_bltn (v := .ty "dict") (u := .type "dict") (by rfl) T.n_dict (by decide +kernel) rfl) pa_nil)))) (pss_one (ps_for PassesOwn.never rfl (pi_list (pe_slice sl_list (pe_callTy (call_listD rfl) (by rfl) T.n_list (by decide +kernel) (pa_cons (pv 0) pa_nil)) po_none (po_some pe_int))) (pg_name (i := 1) sc_l_spoil.nd rfl (Or.inl rfl))
    (pss_one (ps_asg pe_str (pg_sub (pv 0) (pv 1) (set_dict (hu_of hr))))))) pss_nil))))), ?_⟩
  cases kd with
  | flat f hd =>
    obtain ⟨N, ty, k1, k2, k3⟩ := hd.flatTy (K := K) f
    have ty0 := ty H
    repeat walk_at "s"
    exact q _ (fun b o e => .inl e)
  | @tup a xs ha =>
    have ty0 := tyx_tup (K := K) ha
    repeat walk_at "s"
    exact q _ (fun b o e => .inl e)
  | @lst a xs ha hl =>
    have ty0 := tyx_lst (K := K) ha
    repeat walk_at "s"
    refine q _ fun b o e => ?_
    by_cases hb : b = a
    · subst hb
      rw [ha] at e
      cases e
      exact .inr ⟨rfl, .inl ⟨_, _, rfl, upd_same, by rw [List.length_append]; exact Nat.le_refl _⟩⟩
    · exact .inl (by rw [upd_ne hb]; exact e)
  | @dct a kvs ha hl =>
    have ty0 := tyx_dK (K := K) ha
    repeat walk_at "s"
    refine ⟨.inl ha, fun p1 hp1 => ?_⟩
    refine ⟨_, rfl, _, _, rfl, SqL.of upd_same, fun p2 hp2 => ?_⟩
    have hc : cutV (kvs.map fun kv => kV kv.1) none (some 1) = (kvs.take 1).map fun kv => kV kv.1 := by
      have := cutV_take (xs := kvs.map fun kv => kV kv.1) (n := 1)
      rw [List.map_take]
      exact this
    rw [hc]
    have S2 : Same H (upd (upd H p1 (.lst (kvs.map fun kv => kV kv.1))) p2 (.lst ((kvs.take 1).map fun kv => kV kv.1))) := Same.new (Same.new (Same.refl H) hp1) hp2
    have ha2 := S2 _ _ ha
    have hp2a : p2 ≠ a := fun e => by
      have h2 := Same.new (o := .lst (kvs.map fun kv => kV kv.1)) (Same.refl H) hp1 _ _ ha
      rw [← e, hp2] at h2
      cases h2
    refine ⟨_, rfl, ⟨_, SqL.of upd_same⟩, ?_⟩
    refine for_it (walk_list (xs := (kvs.take 1).map fun kv => kV kv.1)) (fun i σ H' => Iv (∃ kk : Option V, σ = [some (.ref a), kk] ∧ Kp a H H' ∧ H' p2 = some (.lst ((kvs.take 1).map fun kv => kV kv.1)) ∧ ∃ kws, H' a = some (.dK kws) ∧ kws.length ≤ kvs.length + i))
      (Iv.mk ⟨_, rfl, Kp.of_same S2, upd_same, kvs, ha2, Nat.le_refl _⟩) (fun i σ H' _ h => SqL.of (by obtain ⟨_, _, _, h, _⟩ := h.out; exact h)) ?_ ?_
    · rintro i x σ H5 H5' hi hI5 ⟨rfl, hx⟩
      obtain ⟨kk, rfl, K5, hp5, kws, hk5, lk5⟩ := hI5.out
      have hi1 : i < 1 := by
        rw [List.length_map, List.length_take] at hi
        omega
      obtain ⟨k0, rfl⟩ : ∃ k0, x = kV k0 := by
        rw [List.getElem?_map] at hx
        cases e : (kvs.take 1)[i]? with
        | none => rw [e] at hx; cases hx
        | some s => rw [e] at hx; exact ⟨s.1, (Option.some.inj hx).symm⟩
      refine ⟨_, rfl, _, rfl, a, _, rfl, DPut.k hk5 (line_lt (by omega)), ?_⟩
      have := put_len kws k0 (.str "spoilt")
      exact Iv.mk ⟨_, rfl, K5.put, by rw [upd_ne hp2a]; exact hp5, _, upd_same, by omega⟩
    · intro σ H5 hI5
      obtain ⟨kk, rfl, K5, hp5, kws, hk5, lk5⟩ := hI5.out
      refine q _ fun b o e => ?_
      by_cases hb : b = a
      · subst hb
        rw [ha] at e
        cases e
        refine .inr ⟨rfl, .inr ⟨_, _, rfl, hk5, ?_⟩⟩
        rw [List.length_map, List.length_take] at lk5
        omega
      · exact .inl (K5 b o hb e)
theorem ok_l_turned (T : Txt K mg A) (n : Nat) : FnG P w K mg base CX0 1 A.l_turned (spTurned n) := by
  obtain ⟨fd, F⟩ := T.F_l_turned
  refine Fun_okN F sc_l_turned (fun vs H Q E h => ?_) (fun _ _ _ _ _ _ us hl => match us, hl with | [_], _ => rfl) (fun cdv A' outer s H vs Q E hr hg h => ?_)
  · obtain ⟨_, _, _, rfl, _⟩ := h
    rfl
  obtain ⟨G, v, d, rfl, SG, hd0, ok, q⟩ := h
  have hd : DpR H v d := hd0.same SG
  refine ⟨_, ((pss_cons (ps_if (pt_val (pe_callB call_isi (by rfl) T.n_isinstance (by decide +kernel) (pa_cons (pv 0) (pa_cons (pe_bltn (v := .ty "list") (u := .type "list") (by rfl) T.n_list (by decide +kernel) rfl) pa_nil)))) (pss_one (ps_ret (pe_callTy call_tuple_of (by rfl) T.n_tuple (by decide +kernel) (pa_cons (pv 0) pa_nil)))) pss_nil)
    (pss_cons (ps_if (pt_val (pe_callB call_isi (by rfl) T.n_isinstance (by decide +kernel) (pa_cons (pv 0) (pa_cons (pe_bltn (v := .ty "tuple") (u := .type "tuple") (by rfl) T.n_tuple (by decide +kernel) rfl) pa_nil)))) (pss_one (ps_ret (pe_callTy call_list_of (by rfl) T.n_list (by decide +kernel) (pa_cons (pv 0) pa_nil)))) pss_nil)
    (pss_cons (ps_if (pt_val (pe_callB call_isi (by rfl) T.n_isinstance (by decide +kernel) (pa_cons (pv 0) (pa_cons (pe_bltn (v := .ty "dict") (u := .type "dict") (by rfl) T.n_dict (by decide +kernel) rfl) pa_nil)))) (pss_cons (ps_set (i := 1) sc_l_turned.nd rfl (Or.inl rfl) pe_dnewK)
    (pss_cons (ps_for PassesOwn.never rfl (pi_list (pe_revL (pe_callTy (call_listD rfl) (by rfl) T.n_list (by decide +kernel) (pa_cons (pv 0) pa_nil)))) (pg_name (i := 2) sc_l_turned.nd rfl (Or.inl rfl))
    (pss_one (ps_asg (pe_dget (hu_of hr) (pv 0) (pv 2) (fun _ _ => rfl)) (pg_sub (pv 1) (pv 2) (set_dict (hu_of hr))))))
    (pss_one (ps_ret (pv 1))))) pss_nil)
    (pss_one (ps_ret (pv 0))))))), ?_⟩
  cases ok with
  | leaf l =>
    obtain ⟨N, ty, k1, k2, k3⟩ := hd.flatTy (K := K) l.flat
    have ty0 := ty H
    repeat walk_at "s"
    exact q _ _ _ (Same.refl _) (hd0.same (ext_same SG)) (.leaf l) (fun e h => h)
  | @list n ds hl hok =>
    cases hd0 with
    | @lst a xs _ ha0 hds =>
      have ha := (Kr.of SG).l _ _ ha0
      have ty0 := tyx_lstR (K := K) ha
      repeat walk_at "s"
      refine .inl ⟨.inl ha, fun l hl2 => ?_⟩
      exact q _ _ _ (Same.new (Same.refl _) hl2) (.tup (by rw [ext_new hl2]; exact upd_same) (hds.same (ext_same SG))) (.tup hl hok) (fun e h => by
        cases h with
        | flat h => cases h
        | list h => exact .tup h)
  | @tup n ds hl hok =>
    cases hd0 with
    | @tup a xs _ ha0 hds =>
      have ha := SG _ _ ha0
      have ty0 := tyx_tup (K := K) ha
      repeat walk_at "s"
      refine ⟨.inr (SqT.of ha), fun l hl2 => ?_⟩
      exact q _ _ _ (Same.new (Same.refl _) hl2) (.lst (.inl (by rw [ext_new hl2]; exact upd_same)) (hds.same (ext_same SG))) (.list hl hok) (fun e h => by
        cases h with
        | flat h => cases h
        | tup h => exact .list h)
  | @dict n ps hl hnd hks hlf hok =>
    cases hd0 with
    | @dct a kvs _ ha0 hds =>
      have ha := (Kr.of SG).d _ _ ha0
      have ty0 := tyx_dctR (K := K) ha
      repeat walk_at "s"
      rename_i D hD
      have S1 := Same.new (o := .dK []) (Same.refl H) hD
      have ha1 := (Kr.of S1).d _ _ ha
      have hDa : D ≠ a := fun e => by
        rw [← e] at ha
        rcases ha with ha | ⟨o, ha⟩ <;> (rw [hD] at ha; cases ha)
      refine ⟨ha1, fun p1 hp1 => ?_⟩
      refine ⟨p1, _, rfl, SqL.of upd_same, fun p2 hp2 => ?_⟩
      have hc : (kvs.map fun kv => kV kv.1).reverse = kvs.reverse.map fun kv => kV kv.1 := by rw [List.map_reverse]
      rw [hc]
      have S3 : Same (upd H D (.dK [])) (upd (upd (upd H D (.dK [])) p1 (.lst (kvs.map fun kv => kV kv.1))) p2 (.lst (kvs.reverse.map fun kv => kV kv.1))) := Same.new (Same.new (Same.refl _) hp1) hp2
      have hD3 := S3 _ _ (upd_same (H := H) (a := D) (o := .dK []))
      have hp2D : p2 ≠ D := fun e => by
        have h2 := Same.new (o := .lst (kvs.map fun kv => kV kv.1)) (Same.refl _) hp1 _ _ (upd_same (H := H) (a := D) (o := .dK []))
        rw [e] at hp2
        rw [hp2] at h2
        cases h2
      have hndk : (kvs.map (·.1)).Nodup := by
        have e := hds.keys
        have e2 : (kvs.map fun p => keyD p.1) = (kvs.map (·.1)).map keyD := by rw [List.map_map]; rfl
        have h0 := hnd
        rw [e, e2] at h0
        exact List.Pairwise.of_map (f := keyD) (fun a b (h : keyD a ≠ keyD b) e => h (by rw [e])) h0
      have hndr : (kvs.reverse.map (·.1)).Nodup := by
        rw [List.map_reverse]
        exact (List.reverse_perm _).symm.nodup hndk
      refine ⟨_, rfl, ⟨_, SqL.of upd_same⟩, ?_⟩
      refine for_it (walk_list (xs := kvs.reverse.map fun kv => kV kv.1)) (fun i σ H' => Iv (∃ kk : Option V, σ = [some (.ref a), some (.ref D), kk] ∧ Same H H' ∧ H' p2 = some (.lst (kvs.reverse.map fun kv => kV kv.1)) ∧ H' D = some (.dK (kvs.reverse.take i))))
        (Iv.mk ⟨_, rfl, S1.trans S3, upd_same, hD3⟩) (fun i σ H' _ h => SqL.of (by obtain ⟨_, _, _, h, _⟩ := h.out; exact h)) ?_ ?_
      · rintro i x σ H5 H5' hi hI5 ⟨rfl, hx⟩
        obtain ⟨kk, rfl, S5, hp5, hD5⟩ := hI5.out
        obtain ⟨t, ht, rfl⟩ : ∃ t, kvs.reverse[i]? = some t ∧ x = kV t.1 := by
          rw [List.getElem?_map] at hx
          cases e : kvs.reverse[i]? with
          | none => rw [e] at hx; cases hx
          | some s => rw [e] at hx; exact ⟨s, rfl, (Option.some.inj hx).symm⟩
        have hv : valV kvs t.1 = some t.2 := valV_mem hndk (List.mem_reverse.mp (List.mem_of_getElem? ht))
        have hi' := (List.getElem?_eq_some_iff.mp ht).1
        rw [List.length_reverse] at hi'
        have lk : kvs.length ≤ 3 := by rw [hds.length]; exact hl
        have eput : putK (kvs.reverse.take i) t.1 t.2 = kvs.reverse.take (i + 1) := by
          unfold putK
          rw [if_neg, take_one ht]
          intro h
          obtain ⟨p, hp, e⟩ := List.any_eq_true.mp h
          have e := of_decide_eq_true e
          obtain ⟨j, hj, e2⟩ := List.mem_iff_getElem.mp hp
          rw [List.length_take] at hj
          rw [List.getElem_take] at e2
          obtain ⟨h4, h5⟩ := List.getElem?_eq_some_iff.mp ht
          have h6 := (List.pairwise_iff_getElem.mp hndr) j i (by rw [List.length_map]; omega) (by rw [List.length_map]; exact h4) (by omega)
          rw [List.getElem_map, List.getElem_map, e2, h5] at h6
          exact h6 e
        repeat walk_at "s"
        refine ⟨_, _, rfl, .inl ⟨kvs, t.1, (Kr.of S5).d _ _ ha, rfl, hv.symm⟩, ?_⟩
        refine ⟨_, rfl, _, rfl, D, _, rfl, DPut.k hD5 (line_lt (by rw [List.length_take, List.length_reverse]; omega)), ?_⟩
        rw [eput]
        exact Iv.mk ⟨_, rfl, Same.put S5 hD, by rw [upd_ne hp2D]; exact hp5, upd_same⟩
      · intro σ H5 hI5
        obtain ⟨kk, rfl, S5, hp5, hD5⟩ := hI5.out
        rw [List.length_map, List.take_length] at hD5
        have hrev : DpRp (ext G H H5) kvs.reverse ps.reverse := dprp_rev (DpRp.kr (.of (ext_same SG)) hds)
        repeat walk_at "s"
        refine q _ _ (.dict ps.reverse) S5 (.dct (.inl (by rw [ext_new hD]; exact hD5)) hrev) (.dict (by rw [List.length_reverse]; exact hl) (by rw [List.map_reverse]; exact (List.reverse_perm _).symm.nodup hnd) ?_ (fun p hp => hlf p (List.mem_reverse.mp hp)) fun p hp => hok p (List.mem_reverse.mp hp)) (fun e h => ?_)
        · rcases hks with ⟨l, e⟩ | ⟨l, e⟩
          · exact .inl ⟨l.reverse, by rw [List.map_reverse, e, List.map_reverse]⟩
          · exact .inr ⟨l.reverse, by rw [List.map_reverse, e, List.map_reverse]⟩
        · cases h with
          | flat h => cases h
          | dict p s h => exact .dict ((List.reverse_perm ps).trans p) s h
end
end K02

namespace K02
open PySem PySem.Spec PyProof.Rows L2 MyL MyD MyP
abbrev clOf (A : Adr) : Bool → Addr
  | true => A.c_Denial
  | false => A.c_Paper
abbrev nmOf : Bool → Str
  | true => "Denial"
  | false => "Paper"
abbrev kdOf : Bool → Int
  | true => 1
  | false => 0
def spPaper (K : PySem.W.Frag) (A : Adr) : Sp := fun vs H Q _ => ∃ (den : Bool) (p : Addr) (z : Str) (xs : List V) (ds : List PyData), vs = [.int (kdOf den), .str z, .ref p] ∧ H p = some (.lst xs) ∧ DpRs H xs ds ∧ (∀ d ∈ ds, Okd 4 d) ∧ xs.length ≤ 3 ∧
  ∀ H' x es, Same H H' → IsP K A H' (.ref x) (clOf A den) (nmOf den) z es → FxAll ds es → Q (.ref x) H'
section
variable {P : Program} {w : World} {K : PySem.W.Frag} {mg : Str → Option Value} {base : Heap} {A : Adr}
local macro_rules | `(tactic| walk_at "sames") => `(tactic| repeat (first
  | exact Same.refl _
  | refine Same.new ?_ (by assumption)
  | refine Same.trans ?_ (by assumption)))
local macro_rules | `(tactic| walk_at "ne") => `(tactic| first
  | assumption
  | exact Ne.symm (by assumption)
  | exact ne_new (by assumption) (by walk_at "look")
  | exact ne_new' (by assumption) (by walk_at "look")
  | exact ne_of (by walk_at "look") (by walk_at "look") (by intro z; cases z))
local macro_rules | `(tactic| walk_at "look") => `(tactic| first
  | assumption
  | exact upd_same
  | (refine upd_new (by assumption) ?_
     walk_at "look")
  | (refine (upd_ne ?_).trans ?_
     · walk_at "ne"
     · walk_at "look")
  | (refine Kp.get (by assumption) ?_ ?_
     · walk_at "ne"
     · walk_at "look")
  | (refine Same.get (by assumption) ?_
     walk_at "look"))
local macro_rules | `(tactic| walk_at "lenv") => `(tactic| first
  | exact Or.inl ⟨_, SqL.of (by walk_at "look"), rfl⟩
  | exact Or.inr ⟨_, SqT.of (by walk_at "look"), rfl⟩
  | exact ⟨line_le (by omega), rfl⟩)
local macro_rules | `(tactic| walk_at "cond") => `(tactic| first
  | assumption
  | rfl
  | exact Nat.zero_le _
  | exact Nat.le_of_ble_eq_true rfl
  | decide
  | omega
  | exact line_lt (by (try simp only [List.length_map, List.length_append, List.length_cons, List.length_nil]); omega)
  | exact line_le (by (try simp only [List.length_map, List.length_append, List.length_cons, List.length_nil]); omega)
  | (dsimp only; omega)
  | exact ⟨by decide, by decide⟩
  | exact ⟨by decide, by decide, by decide⟩
  | exact Or.inl ⟨by decide, by decide⟩
  | exact Or.inl ⟨by omega, by omega⟩
  | exact Or.inr ⟨by omega, by omega⟩)
local macro_rules | `(tactic| walk_at "kit") => `(tactic| first | assumption | exact kit_NoneType_int | exact kit_NoneType_bool | exact kit_NoneType_str | exact kit_NoneType_list | exact kit_NoneType_tuple | exact kit_NoneType_dict | exact kit_bool_int | exact kit_bool_bool | exact kit_bool_str | exact kit_bool_list | exact kit_bool_tuple | exact kit_bool_dict | exact kit_int_int | exact kit_int_bool | exact kit_int_str | exact kit_int_list | exact kit_int_tuple | exact kit_int_dict | exact kit_str_int | exact kit_str_bool | exact kit_str_str | exact kit_str_list | exact kit_str_tuple | exact kit_str_dict | exact kit_list_int | exact kit_list_bool | exact kit_list_str | exact kit_list_list | exact kit_list_tuple | exact kit_list_dict | exact kit_tuple_int | exact kit_tuple_bool | exact kit_tuple_str | exact kit_tuple_list | exact kit_tuple_tuple | exact kit_tuple_dict | exact kit_dict_int | exact kit_dict_bool | exact kit_dict_str | exact kit_dict_list | exact kit_dict_tuple | exact kit_dict_dict)
local macro_rules | `(tactic| walk_at "ty") => `(tactic| first | assumption | exact tyx_str | exact tyx_int | exact tyx_bl | exact tyx_non | exact tyx_lst (by walk_at "look") | exact tyx_tup (by walk_at "look") | exact tyx_dK (by walk_at "look"))
local macro_rules | `(tactic| walk_at "s") => `(tactic| first
  | refine ⟨_, rfl, ?_⟩
  | refine ⟨_, _, rfl, rfl, ?_⟩
  | refine ⟨_, _, _, _, rfl, rfl, SqL.of (by walk_at "look"), by rfl, ?_⟩
  | refine ⟨_, _, _, _, rfl, rfl, SqT.of (by walk_at "look"), by rfl, ?_⟩
  | refine ⟨_, _, _, _, rfl, rfl, by walk_at "look", by rfl, ?_⟩
  | refine ⟨_, _, rfl, by walk_at "lenv", ?_⟩
  | refine Or.inl ⟨_, rfl, ?_⟩
  | refine ⟨_, _, _, _, _, rfl, ClsV.ty _, by walk_at "ty", by walk_at "kit", ?_⟩
  | refine And.intro (by walk_at "cond") ?_
  | refine ⟨_, _, rfl, SqT.of (by walk_at "look"), rfl, ?_⟩
  | refine ⟨_, _, rfl, SqL.of (by walk_at "look"), rfl, ?_⟩
  | refine And.intro (Or.inl ⟨rfl, _, SqL.of (by walk_at "look")⟩) ?_
  | refine ⟨_, _, _, rfl, rfl, by walk_at "look", by walk_at "cond", ?_⟩
  | refine ⟨_, _, _, _, rfl, rfl, by walk_at "look", by walk_at "look", by walk_at "cond", ?_⟩
  | refine And.intro ⟨_, rfl⟩ ?_
  | refine And.intro ⟨_, SqL.of (by walk_at "look")⟩ ?_
  | refine ⟨_, _, rfl, SqL.of (by walk_at "look"), ?_⟩
  | refine ⟨_, _, rfl, (by assumption : SqL _ _ _ _), ?_⟩
  | refine ⟨_, by walk_at "look", by walk_at "cond", ?_⟩
  | refine ⟨_, _, rfl, Or.inr (SqT.of (by walk_at "look")), ?_⟩
  | refine ⟨_, _, rfl, Or.inl (SqL.of (by walk_at "look")), ?_⟩
  | refine ⟨_, _, rfl, ?_⟩
  | refine ⟨_, _, _, rfl, by walk_at "look", by assumption, ?_⟩
  | refine ⟨_, _, true, _, _, rfl, rfl, ClsV.own _, kit_own (by assumption) (by assumption), rfl, by walk_at "look", ?_⟩
  | refine ⟨_, _, _, _, rfl, ErAt.same (by assumption) (by walk_at "sames"), by assumption, by assumption, ?_⟩
  | refine ⟨_, _, _, _, rfl, ErAt.same (by assumption) (by walk_at "sames"), by assumption, by assumption, by assumption, ?_⟩
  | refine if_t (by first | rfl | assumption | decide) ?_
  | refine if_f (by assumption) ?_
  | refine if_f (by first | decide | exact Bool.false_ne_true) ?_
  | refine fun (_ : _ ≠ sysModules) => ?_
  | refine fun (_ : ErAt _ _ _ _) => ?_
  | refine fun _ _ => ?_)

theorem kc_of (T : Txt K mg A) : ∀ den, KCls K A (clOf A den) (nmOf den)
  | true => kc_Denial T
  | false => kc_Paper T
theorem ok_l_paper (T : Txt K mg A) : FnG P w K mg base CX0 9 A.l_paper (spPaper K A) := by
  obtain ⟨fd, F⟩ := T.F_l_paper
  refine Fun_okN F sc_l_paper (fun vs H Q E h => ?_) (fun _ _ _ _ _ _ us hl => match us, hl with | [_, _, _], _ => rfl) (fun cdv A' outer s H vs Q E hr hg h => ?_)
  · obtain ⟨_, _, _, _, _, rfl, _⟩ := h
    rfl
  obtain ⟨den, p, z, xs, ds, rfl, hp, hd, hok, hl, q⟩ := h
  have hl3 : ds.length ≤ 3 := by rw [← hd.length]; exact hl
  have fin := pap_new (Q := Q) (z := z) (kc_of T den) hd hok hl3 q
  refine ⟨_, ((pss_cons (ps_if (pt_cmpR op_eq (pe_callB call_len (by rfl) T.n_len (by decide +kernel) (pa_cons (pv 2) pa_nil)) pe_int (nomark _)) (pss_one (ps_ret (pe_ifExp (pt_cmpR op_eq (pv 0) pe_int (nomark _)) (pe_makeG T.Mk_Paper (fn_Paper_init T) (hr.mono (by decide)) hg rfl T.m_Paper (pa_cons (pv 1) pa_nil)) (pe_makeG T.Mk_Denial (fn_Paper_init T) (hr.mono (by decide)) hg rfl T.m_Denial (pa_cons (pv 1) pa_nil))))) pss_nil)
    (pss_cons (ps_if (pt_cmpR op_eq (pe_callB call_len (by rfl) T.n_len (by decide +kernel) (pa_cons (pv 2) pa_nil)) pe_int (nomark _)) (pss_one (ps_ret (pe_ifExp (pt_cmpR op_eq (pv 0) pe_int (nomark _)) (pe_makeG T.Mk_Paper (fn_Paper_init T) (hr.mono (by decide)) hg rfl T.m_Paper (pa_cons (pv 1) (pa_cons (pe_ix ix_list (pv 2) pe_int (fun _ _ => rfl)) pa_nil))) (pe_makeG T.Mk_Denial (fn_Paper_init T) (hr.mono (by decide)) hg rfl T.m_Denial (pa_cons (pv 1) (pa_cons (pe_ix ix_list (pv 2) pe_int (fun _ _ => rfl)) pa_nil)))))) pss_nil)
    (pss_cons (ps_if (pt_cmpR op_eq (pe_callB call_len (by rfl) T.n_len (by decide +kernel) (pa_cons (pv 2) pa_nil)) pe_int (nomark _)) (pss_one (ps_ret (pe_ifExp (pt_cmpR op_eq (pv 0) pe_int (nomark _)) (pe_makeG T.Mk_Paper (fn_Paper_init T) (hr.mono (by decide)) hg rfl T.m_Paper (pa_cons (pv 1) (pa_cons (pe_ix ix_list (pv 2) pe_int (fun _ _ => rfl)) (pa_cons (pe_ix ix_list (pv 2) pe_int (fun _ _ => rfl)) pa_nil)))) (pe_makeG T.Mk_Denial (fn_Paper_init T) (hr.mono (by decide)) hg rfl T.m_Denial (pa_cons (pv 1) (pa_cons (pe_ix ix_list (pv 2) pe_int (fun _ _ => rfl)) (pa_cons (pe_ix ix_list (pv 2) pe_int (fun _ _ => rfl)) pa_nil))))))) pss_nil)
    (pss_one (ps_ret (pe_ifExp (pt_cmpR op_eq (pv 0) pe_int (nomark _)) (pe_makeG T.Mk_Paper (fn_Paper_init T) (hr.mono (by decide)) hg rfl T.m_Paper (pa_cons (pv 1) (pa_cons (pe_ix ix_list (pv 2) pe_int (fun _ _ => rfl)) (pa_cons (pe_ix ix_list (pv 2) pe_int (fun _ _ => rfl)) (pa_cons (pe_ix ix_list (pv 2) pe_int (fun _ _ => rfl)) pa_nil))))) (pe_makeG T.Mk_Denial (fn_Paper_init T) (hr.mono (by decide)) hg rfl T.m_Denial (pa_cons (pv 1) (pa_cons (pe_ix ix_list (pv 2) pe_int (fun _ _ => rfl)) (pa_cons (pe_ix ix_list (pv 2) pe_int (fun _ _ => rfl)) (pa_cons (pe_ix ix_list (pv 2) pe_int (fun _ _ => rfl)) pa_nil)))))))))))), ?_⟩
  match xs, hl with
  | [], _ => cases den <;> (repeat (first | exact fin | walk_at "s"))
  | [_], _ => cases den <;> (repeat (first | exact fin | walk_at "s"))
  | [_, _], _ => cases den <;> (repeat (first | exact fin | walk_at "s"))
  | [_, _, _], _ => cases den <;> (repeat (first | exact fin | walk_at "s"))
end
end K02

namespace K02
open PySem PySem.Spec PyProof.Rows L2 MyL MyD
theorem _root_.MyD.Okd.mono {n : Nat} {d : PyData} (h : Okd n d) : ∀ m, n ≤ m → Okd m d := by
  induction h with
  | leaf l => exact fun m _ => .leaf l
  | list hl _ ih =>
    intro m hm
    obtain ⟨m, rfl⟩ : ∃ j, m = j + 1 := ⟨m - 1, by omega⟩
    exact .list hl fun x hx => ih x hx m (by omega)
  | tup hl _ ih =>
    intro m hm
    obtain ⟨m, rfl⟩ : ∃ j, m = j + 1 := ⟨m - 1, by omega⟩
    exact .tup hl fun x hx => ih x hx m (by omega)
  | dict hl h1 h2 h3 _ ih =>
    intro m hm
    obtain ⟨m, rfl⟩ : ∃ j, m = j + 1 := ⟨m - 1, by omega⟩
    exact .dict hl h1 h2 h3 fun x hx => ih x hx m (by omega)
mutual
theorem fx_okd : ∀ {d e : PyData} {n : Nat}, Fx d e → Okd n d → Okd (2 * n) e
  | _, _, n, .flat h, o => by
    cases o with
    | leaf l => exact .leaf l
    | list _ _ => cases h
    | tup _ _ => cases h
    | dict _ _ _ _ _ => cases h
  | _, _, n, .list h, o => by
    cases o with
    | leaf l => cases l.flat
    | @list n _ hl h' => exact Okd.tup (n := 2 * n + 1) (by rw [← h.length]; exact hl) fun x hx => (fxs_okd h h' x hx).mono (2 * n + 1) (by omega)
  | _, _, n, .tup h, o => by
    cases o with
    | leaf l => cases l.flat
    | @tup n _ hl h' => exact Okd.tup (n := 2 * n + 1) (by rw [← h.length]; exact hl) fun x hx => (fxs_okd h h' x hx).mono (2 * n + 1) (by omega)
  | _, _, n, .dict (ps := ps) (qs := qs) p s h, o => by
    cases o with
    | leaf l => cases l.flat
    | @dict n _ hl _ _ hk h' =>
      exact Okd.tup (n := 2 * n + 1) (by rw [← h.length, ← p.length_eq]; exact hl) fun x hx => fxp_okd h (fun x hx => hk x (p.symm.subset hx)) (fun x hx => h' x (p.symm.subset hx)) x hx
theorem fxs_okd : ∀ {d e : List PyData} {n : Nat}, FxAll d e → (∀ x ∈ d, Okd n x) → ∀ y ∈ e, Okd (2 * n) y
  | _, _, _, .nil, _, y, hy => absurd hy List.not_mem_nil
  | _, _, _, .cons h q, o, y, hy => by
    rcases List.mem_cons.mp hy with hy | hy
    · rw [hy]
      exact fx_okd h (o _ List.mem_cons_self)
    · exact fxs_okd q (fun x hx => o x (List.mem_cons_of_mem _ hx)) y hy
theorem fxp_okd : ∀ {d : List (PyData × PyData)} {e : List PyData} {n : Nat}, FxP d e → (∀ x ∈ d, Leaf x.1) → (∀ x ∈ d, Okd n x.2) → ∀ y ∈ e, Okd (2 * n + 1) y
  | _, _, _, .nil, _, _, y, hy => absurd hy List.not_mem_nil
  | _, _, n, .cons (k := k) (e := e) h q, f, o, y, hy => by
    rcases List.mem_cons.mp hy with hy | hy
    · rw [hy]
      refine .tup (by show 2 ≤ 3; decide) fun x hx => ?_
      rcases List.mem_cons.mp hx with hx | hx
      · rw [hx]
        exact .leaf (f _ List.mem_cons_self)
      · rw [List.mem_singleton.mp hx]
        exact fx_okd h (o _ List.mem_cons_self)
    · exact fxp_okd q (fun x hx => f x (List.mem_cons_of_mem _ hx)) (fun x hx => o x (List.mem_cons_of_mem _ hx)) y hy
end
theorem ln_line {n : Nat} (h : n ≤ 5) : Ln n ≤ sizeLine := line_le (by
  unfold Ln
  have : 4 ^ n ≤ 4 ^ 5 := Nat.pow_le_pow_right (by decide) h
  omega)
/-- what repr asks of data, of its fixed form -/
theorem rep_okd {n : Nat} {d : PyData} (h : Okd n d) (hn : n ≤ 5) : d.showable = true ∧ d.depth ≤ 60 ∧ d.shown.length ≤ sizeLine :=
  ⟨h.shw.s, Nat.le_trans h.shw.d (by omega), Nat.le_trans h.shw.l (ln_line hn)⟩
theorem rep_fx {n : Nat} {d e : PyData} (f : Fx d e) (h : Okd n d) (hn : n ≤ 5) : e.showable = true ∧ e.depth ≤ 60 ∧ e.shown.length ≤ sizeLine :=
  ⟨(f.shf h).s, Nat.le_trans (f.shf h).d (by omega), Nat.le_trans (f.shf h).l (ln_line hn)⟩
/-- one of the law's turns -/
def spTurn (c : Nat) : Sp := fun vs H Q _ => ∃ (W : Wl) (m : Nat), vs = [.ref W.w] ∧ WellAt H W m ∧ m + c ≤ 800000 ∧ ∀ H', WellAt H' W (m + c) → Q (.bl true) H'
section
variable {P : Program} {w : World} {K : PySem.W.Frag} {mg : Str → Option Value} {base : Heap} {A : Adr}
local macro_rules | `(tactic| walk_at "sames") => `(tactic| repeat (first
  | exact Same.refl _
  | refine Same.new ?_ (by assumption)
  | refine Same.trans ?_ (by assumption)))
local macro_rules | `(tactic| walk_at "ne") => `(tactic| first
  | assumption
  | exact Ne.symm (by assumption)
  | exact ne_new (by assumption) (by walk_at "look")
  | exact ne_new' (by assumption) (by walk_at "look")
  | exact ne_of (by walk_at "look") (by walk_at "look") (by intro z; cases z))
local macro_rules | `(tactic| walk_at "look") => `(tactic| first
  | assumption
  | exact upd_same
  | (refine upd_new (by assumption) ?_
     walk_at "look")
  | (refine (upd_ne ?_).trans ?_
     · walk_at "ne"
     · walk_at "look")
  | (refine Kp.get (by assumption) ?_ ?_
     · walk_at "ne"
     · walk_at "look")
  | (refine Same.get (by assumption) ?_
     walk_at "look"))
local macro_rules | `(tactic| walk_at "lenv") => `(tactic| first
  | exact Or.inl ⟨_, SqL.of (by walk_at "look"), rfl⟩
  | exact Or.inr ⟨_, SqT.of (by walk_at "look"), rfl⟩
  | exact ⟨line_le (by omega), rfl⟩)
local macro_rules | `(tactic| walk_at "cond") => `(tactic| first
  | assumption
  | rfl
  | exact Nat.zero_le _
  | exact Nat.le_of_ble_eq_true rfl
  | decide
  | omega
  | exact line_lt (by (try simp only [List.length_map, List.length_append, List.length_cons, List.length_nil]); omega)
  | exact line_le (by (try simp only [List.length_map, List.length_append, List.length_cons, List.length_nil]); omega)
  | (dsimp only; omega)
  | exact ⟨by decide, by decide⟩
  | exact ⟨by decide, by decide, by decide⟩
  | exact Or.inl ⟨by decide, by decide⟩
  | exact Or.inl ⟨by omega, by omega⟩
  | exact Or.inr ⟨by omega, by omega⟩)
local macro_rules | `(tactic| walk_at "kit") => `(tactic| first | assumption | exact kit_NoneType_int | exact kit_NoneType_bool | exact kit_NoneType_str | exact kit_NoneType_list | exact kit_NoneType_tuple | exact kit_NoneType_dict | exact kit_bool_int | exact kit_bool_bool | exact kit_bool_str | exact kit_bool_list | exact kit_bool_tuple | exact kit_bool_dict | exact kit_int_int | exact kit_int_bool | exact kit_int_str | exact kit_int_list | exact kit_int_tuple | exact kit_int_dict | exact kit_str_int | exact kit_str_bool | exact kit_str_str | exact kit_str_list | exact kit_str_tuple | exact kit_str_dict | exact kit_list_int | exact kit_list_bool | exact kit_list_str | exact kit_list_list | exact kit_list_tuple | exact kit_list_dict | exact kit_tuple_int | exact kit_tuple_bool | exact kit_tuple_str | exact kit_tuple_list | exact kit_tuple_tuple | exact kit_tuple_dict | exact kit_dict_int | exact kit_dict_bool | exact kit_dict_str | exact kit_dict_list | exact kit_dict_tuple | exact kit_dict_dict)
local macro_rules | `(tactic| walk_at "ty") => `(tactic| first | assumption | exact tyx_str | exact tyx_int | exact tyx_bl | exact tyx_non | exact tyx_lst (by walk_at "look") | exact tyx_tup (by walk_at "look") | exact tyx_dK (by walk_at "look"))
local macro_rules | `(tactic| walk_at "s") => `(tactic| first
  | refine ⟨_, rfl, ?_⟩
  | refine ⟨_, _, rfl, rfl, ?_⟩
  | refine ⟨_, _, _, _, rfl, rfl, SqL.of (by walk_at "look"), by rfl, ?_⟩
  | refine ⟨_, _, _, _, rfl, rfl, SqT.of (by walk_at "look"), by rfl, ?_⟩
  | refine ⟨_, _, _, _, rfl, rfl, by walk_at "look", by rfl, ?_⟩
  | refine ⟨_, _, rfl, by walk_at "lenv", ?_⟩
  | refine Or.inl ⟨_, rfl, ?_⟩
  | refine ⟨_, _, _, _, _, rfl, ClsV.ty _, by walk_at "ty", by walk_at "kit", ?_⟩
  | refine And.intro (by walk_at "cond") ?_
  | refine ⟨_, _, rfl, SqT.of (by walk_at "look"), rfl, ?_⟩
  | refine ⟨_, _, rfl, SqL.of (by walk_at "look"), rfl, ?_⟩
  | refine And.intro (Or.inl ⟨rfl, _, SqL.of (by walk_at "look")⟩) ?_
  | refine ⟨_, _, _, rfl, rfl, by walk_at "look", by walk_at "cond", ?_⟩
  | refine ⟨_, _, _, _, rfl, rfl, by walk_at "look", by walk_at "look", by walk_at "cond", ?_⟩
  | refine And.intro ⟨_, rfl⟩ ?_
  | refine And.intro ⟨_, SqL.of (by walk_at "look")⟩ ?_
  | refine ⟨_, _, rfl, SqL.of (by walk_at "look"), ?_⟩
  | refine ⟨_, _, rfl, (by assumption : SqL _ _ _ _), ?_⟩
  | refine ⟨_, by walk_at "look", by walk_at "cond", ?_⟩
  | refine ⟨_, _, rfl, Or.inr (SqT.of (by walk_at "look")), ?_⟩
  | refine ⟨_, _, rfl, Or.inl (SqL.of (by walk_at "look")), ?_⟩
  | refine ⟨_, _, rfl, ?_⟩
  | refine ⟨_, _, _, rfl, by walk_at "look", by assumption, ?_⟩
  | refine ⟨_, _, true, _, _, rfl, rfl, ClsV.own _, kit_own (by assumption) (by assumption), rfl, by walk_at "look", ?_⟩
  | refine ⟨_, _, _, _, rfl, ErAt.same (by assumption) (by walk_at "sames"), by assumption, by assumption, ?_⟩
  | refine ⟨_, _, _, _, rfl, ErAt.same (by assumption) (by walk_at "sames"), by assumption, by assumption, by assumption, ?_⟩
  | refine if_t (by first | rfl | assumption | decide) ?_
  | refine if_f (by assumption) ?_
  | refine if_f (by first | decide | exact Bool.false_ne_true) ?_
  | refine fun (_ : _ ≠ sysModules) => ?_
  | refine fun (_ : ErAt _ _ _ _) => ?_
  | refine fun _ _ => ?_)

theorem ok_l_fixed_right (T : Txt K mg A) : FnG P w K mg base CX0 10 A.l_fixed_right (spTurn (Cst 4)) := by
  obtain ⟨fd, F⟩ := T.F_l_fixed_right
  refine Fun_okN F sc_l_fixed_right (fun vs H Q E h => ?_) (fun _ _ _ _ _ _ us hl => match us, hl with | [_], _ => rfl) (fun cdv A' outer s H vs Q E hr hg h => ?_)
  · obtain ⟨_, _, rfl, _⟩ := h
    rfl
  obtain ⟨W, m, rfl, hW, hm, q⟩ := h
  refine ⟨_, ((pss_cons (ps_set (i := 1) sc_l_fixed_right.nd rfl (Or.inl rfl) (pe_callGd (ok_l_value T 4) (hr.mono (by decide)) hg rfl T.m_l_value T.k_l_value pass0 (pa_cons (pv 0) (pa_cons pe_int pa_nil))))
    (pss_cons (ps_par (i := 2) (j := 3) (by rfl) sc_l_fixed_right.nd rfl rfl (by decide) rfl rfl (pa_cons (pe_callB (MyD.call_reprR T.sm hg hr.units) (by rfl) T.n_repr (by decide +kernel) (pa_cons (pv 1) pa_nil)) (pa_cons (pe_callGd (ok_l_fixed T 4) (hr.mono (by decide)) hg rfl T.m_l_fixed T.k_l_fixed pass0 (pa_cons (pv 1) pa_nil)) pa_nil)) (by rfl))
    (pss_cons (ps_set (i := 4) sc_l_fixed_right.nd rfl (Or.inl rfl) (pe_callGd (ok_fixed T 8) (hr.mono (by decide)) hg rfl T.m_fixed T.k_fixed pass0 (pa_cons (pv 1) pa_nil)))
    (pss_one (ps_ret (pe_and (pe_cmpR op_eq (pe_callB (MyD.call_reprR T.sm hg hr.units) (by rfl) T.n_repr (by decide +kernel) (pa_cons (pv 4) pa_nil)) (pe_callB (MyD.call_reprR T.sm hg hr.units) (by rfl) T.n_repr (by decide +kernel) (pa_cons (pv 3) pa_nil)) (nomark _)) (pe_and (pe_cmpR op_eq (pe_callB (MyD.call_reprR T.sm hg hr.units) (by rfl) T.n_repr (by decide +kernel) (pa_cons (pv 1) pa_nil)) (pv 2) (nomark _)) (pe_one (pe_cmpR op_eq (pe_callB (MyD.call_reprR T.sm hg hr.units) (by rfl) T.n_repr (by decide +kernel) (pa_cons (pe_callGd (ok_fixed T 8) (hr.mono (by decide)) hg rfl T.m_fixed T.k_fixed pass0 (pa_cons (pv 4) pa_nil)) pa_nil)) (pe_callB (MyD.call_reprR T.sm hg hr.units) (by rfl) T.n_repr (by decide +kernel) (pa_cons (pv 3) pa_nil)) (nomark _))))))))))), ?_⟩
  repeat walk_at "s"
  refine Iv.mk ⟨W, m, rfl, hW, by omega, fun H1 v d W1 K1 dp ok un => ?_⟩
  have dp1 : DpR H1 v d := dp.same nw_all
  obtain ⟨r1, r2, r3⟩ := rep_okd ok (by decide)
  refine ⟨_, rfl, v, d, rfl, dp1, r1, r2, r3, ?_⟩
  refine ⟨_, rfl, Iv.mk ⟨v, d, rfl, dp1, ok, fun H2 u e S2 fx du => ?_⟩⟩
  refine ⟨_, _, rfl, ?_⟩
  refine ⟨_, rfl, Iv.mk ⟨v, d, rfl, dp1.same S2, ok.mono 8 (by decide), fun H3 u2 e2 S3 fx2 du2 => ?_⟩⟩
  obtain rfl := fx2.det fx
  obtain ⟨t1, t2, t3⟩ := rep_fx fx ok (by decide)
  have okf := fx_okd fx ok
  have du3 := du.same S3
  have dp3 := (dp1.same S2).same S3
  refine ⟨_, rfl, u2, _, rfl, du2, t1, t2, t3, ?_⟩
  refine ⟨_, rfl, u, _, rfl, du3, t1, t2, t3, ?_⟩
  repeat walk_at "s"
  refine if_t (decide_eq_true rfl) ?_
  refine ⟨_, rfl, v, _, rfl, dp3, r1, r2, r3, ?_⟩
  repeat walk_at "s"
  refine if_t (decide_eq_true rfl) ?_
  refine ⟨_, rfl, Iv.mk ⟨u2, e2, rfl, du2, okf, fun H4 u4 e4 S4 fx4 du4 => ?_⟩⟩
  obtain rfl := fx4.det (fx.tupO ok).fx
  refine ⟨u4, _, rfl, du4, t1, t2, t3, ?_⟩
  refine ⟨_, rfl, u, _, rfl, du3.same S4, t1, t2, t3, ?_⟩
  repeat walk_at "s"
  rw [decide_eq_true rfl]
  exact q _ (((W1.same S2).same S3).same S4)
end
end K02

namespace K02
open PySem PySem.Spec PyProof.Rows L2 MyL MyD MyP
theorem kd_of {n : Nat} {H : Hp} {v : V} {d : PyData} (hd : DpR H v d) (ok : Okd n d) (un : Un H v) : Kd 3 H v := by
  cases ok with
  | leaf l => exact .flat l.flat hd
  | list hl _ =>
    cases hd with
    | lst h q =>
      rcases h with h | ⟨o, h⟩
      · exact .lst h (by rw [q.length]; exact hl)
      · exact absurd h (un _ _ _ rfl)
  | tup hl _ =>
    cases hd with
    | tup h q => exact .tup h
  | dict hl _ _ _ _ =>
    cases hd with
    | dct h q =>
      rcases h with h | ⟨o, h⟩
      · exact .dct h (by rw [q.length]; exact hl)
      · exact absurd h (un _ _ _ rfl)
theorem un_nw {H0 H : Hp} {v : V} (h : Un H v) : Un (nw H0 H) v := fun a o u e z => h a o u e (nw_some z).2
theorem Kd.same {n : Nat} {H H' : Hp} {v : V} (h : Kd n H v) (S : Same H H') : Kd n H' v := by
  cases h with
  | flat f hd => exact .flat f (hd.same S)
  | lst h l => exact .lst (S _ _ h) l
  | tup h => exact .tup (S _ _ h)
  | dct h l => exact .dct (S _ _ h) l
theorem Kd.fresh {n : Nat} {H0 H : Hp} {a : Addr} (h : Kd n (nw H0 H) (.ref a)) : H0 a = none := by
  cases h with
  | flat f hd => cases f <;> cases hd
  | lst h l => exact (nw_some h).1
  | tup h => exact (nw_some h).1
  | dct h l => exact (nw_some h).1
def del (E : Addr) (H : Hp) : Hp := fun b => if b = E then none else H b
theorem del_same {E : Addr} {H H' : Hp} (k : ∀ b o, b ≠ E → H b = some o → H' b = some o) : Same (del E H) (del E H') := fun b o e => by
  unfold del at e ⊢
  by_cases h : b = E
  · rw [if_pos h] at e
    cases e
  · rw [if_neg h] at e ⊢
    exact k b o h e
theorem del_all {E : Addr} {H : Hp} : Same (del E H) H := fun b o e => by
  unfold del at e
  by_cases h : b = E
  · rw [if_pos h] at e
    cases e
  · rw [if_neg h] at e
    exact e
theorem ext_del {G H H' H2 : Hp} {E : Addr} (hG : G E = none) (hH : H E ≠ none) (SG : Same G H') (k : ∀ b o, b ≠ E → H' b = some o → H2 b = some o) : Same (ext G H H') (del E H2) := fun b o e => by
  unfold ext at e
  have nb : b ≠ E := fun h => by
    rw [h] at e
    cases z : H E with
    | none => exact hH z
    | some _ =>
      rw [z] at e
      rw [hG] at e
      cases e
  unfold del
  rw [if_neg nb]
  refine k b o nb ?_
  cases z : H b with
  | none => rw [z] at e; exact e
  | some _ => rw [z] at e; exact SG b o e
theorem fxall_snoc : ∀ {ds : List PyData} {d : PyData} {fs : List PyData}, FxAll (ds ++ [d]) fs → ∃ fs1 f1, fs = fs1 ++ [f1] ∧ FxAll ds fs1 ∧ Fx d f1
  | [], _, _, .cons h .nil => ⟨[], _, rfl, .nil, h⟩
  | _ :: _, _, _, .cons h q => by
    obtain ⟨fs1, f1, e, h1, h2⟩ := fxall_snoc q
    exact ⟨_ :: fs1, f1, by rw [e]; rfl, .cons h h1, h2⟩
theorem wl_same {H0 H H' : Hp} (S : Same H H') : Same (nw H0 H) (nw H0 H') := nw_same (fun _ h => h) fun b o _ e => S b o e
section
variable {P : Program} {w : World} {K : PySem.W.Frag} {mg : Str → Option Value} {base : Heap} {A : Adr}
local macro_rules | `(tactic| walk_at "sames") => `(tactic| repeat (first
  | exact Same.refl _
  | refine Same.new ?_ (by assumption)
  | refine Same.trans ?_ (by assumption)))
local macro_rules | `(tactic| walk_at "ne") => `(tactic| first
  | assumption
  | exact Ne.symm (by assumption)
  | exact ne_new (by assumption) (by walk_at "look")
  | exact ne_new' (by assumption) (by walk_at "look")
  | exact ne_of (by walk_at "look") (by walk_at "look") (by intro z; cases z))
local macro_rules | `(tactic| walk_at "look") => `(tactic| first
  | assumption
  | exact upd_same
  | (refine upd_new (by assumption) ?_
     walk_at "look")
  | (refine (upd_ne ?_).trans ?_
     · walk_at "ne"
     · walk_at "look")
  | (refine Kp.get (by assumption) ?_ ?_
     · walk_at "ne"
     · walk_at "look")
  | (refine Same.get (by assumption) ?_
     walk_at "look"))
local macro_rules | `(tactic| walk_at "lenv") => `(tactic| first
  | exact Or.inl ⟨_, SqL.of (by walk_at "look"), rfl⟩
  | exact Or.inr ⟨_, SqT.of (by walk_at "look"), rfl⟩
  | exact ⟨line_le (by omega), rfl⟩)
local macro_rules | `(tactic| walk_at "cond") => `(tactic| first
  | assumption
  | rfl
  | exact Nat.zero_le _
  | exact Nat.le_of_ble_eq_true rfl
  | decide
  | omega
  | exact line_lt (by (try simp only [List.length_map, List.length_append, List.length_cons, List.length_nil]); omega)
  | exact line_le (by (try simp only [List.length_map, List.length_append, List.length_cons, List.length_nil]); omega)
  | (dsimp only; omega)
  | exact ⟨by decide, by decide⟩
  | exact ⟨by decide, by decide, by decide⟩
  | exact Or.inl ⟨by decide, by decide⟩
  | exact Or.inl ⟨by omega, by omega⟩
  | exact Or.inr ⟨by omega, by omega⟩)
local macro_rules | `(tactic| walk_at "kit") => `(tactic| first | assumption | exact kit_NoneType_int | exact kit_NoneType_bool | exact kit_NoneType_str | exact kit_NoneType_list | exact kit_NoneType_tuple | exact kit_NoneType_dict | exact kit_bool_int | exact kit_bool_bool | exact kit_bool_str | exact kit_bool_list | exact kit_bool_tuple | exact kit_bool_dict | exact kit_int_int | exact kit_int_bool | exact kit_int_str | exact kit_int_list | exact kit_int_tuple | exact kit_int_dict | exact kit_str_int | exact kit_str_bool | exact kit_str_str | exact kit_str_list | exact kit_str_tuple | exact kit_str_dict | exact kit_list_int | exact kit_list_bool | exact kit_list_str | exact kit_list_list | exact kit_list_tuple | exact kit_list_dict | exact kit_tuple_int | exact kit_tuple_bool | exact kit_tuple_str | exact kit_tuple_list | exact kit_tuple_tuple | exact kit_tuple_dict | exact kit_dict_int | exact kit_dict_bool | exact kit_dict_str | exact kit_dict_list | exact kit_dict_tuple | exact kit_dict_dict)
local macro_rules | `(tactic| walk_at "ty") => `(tactic| first | assumption | exact tyx_str | exact tyx_int | exact tyx_bl | exact tyx_non | exact tyx_lst (by walk_at "look") | exact tyx_tup (by walk_at "look") | exact tyx_dK (by walk_at "look"))
local macro_rules | `(tactic| walk_at "s") => `(tactic| first
  | refine ⟨_, rfl, ?_⟩
  | refine ⟨_, _, rfl, rfl, ?_⟩
  | refine ⟨_, _, _, _, rfl, rfl, SqL.of (by walk_at "look"), by rfl, ?_⟩
  | refine ⟨_, _, _, _, rfl, rfl, SqT.of (by walk_at "look"), by rfl, ?_⟩
  | refine ⟨_, _, _, _, rfl, rfl, by walk_at "look", by rfl, ?_⟩
  | refine ⟨_, _, rfl, by walk_at "lenv", ?_⟩
  | refine Or.inl ⟨_, rfl, ?_⟩
  | refine ⟨_, _, _, _, _, rfl, ClsV.ty _, by walk_at "ty", by walk_at "kit", ?_⟩
  | refine And.intro (by walk_at "cond") ?_
  | refine ⟨_, _, rfl, SqT.of (by walk_at "look"), rfl, ?_⟩
  | refine ⟨_, _, rfl, SqL.of (by walk_at "look"), rfl, ?_⟩
  | refine And.intro (Or.inl ⟨rfl, _, SqL.of (by walk_at "look")⟩) ?_
  | refine ⟨_, _, _, rfl, rfl, by walk_at "look", by walk_at "cond", ?_⟩
  | refine ⟨_, _, _, _, rfl, rfl, by walk_at "look", by walk_at "look", by walk_at "cond", ?_⟩
  | refine And.intro ⟨_, rfl⟩ ?_
  | refine And.intro ⟨_, SqL.of (by walk_at "look")⟩ ?_
  | refine ⟨_, _, rfl, SqL.of (by walk_at "look"), ?_⟩
  | refine ⟨_, _, rfl, (by assumption : SqL _ _ _ _), ?_⟩
  | refine ⟨_, by walk_at "look", by walk_at "cond", ?_⟩
  | refine ⟨_, _, rfl, Or.inr (SqT.of (by walk_at "look")), ?_⟩
  | refine ⟨_, _, rfl, Or.inl (SqL.of (by walk_at "look")), ?_⟩
  | refine ⟨_, _, rfl, ?_⟩
  | refine ⟨_, _, _, rfl, by walk_at "look", by assumption, ?_⟩
  | refine ⟨_, _, true, _, _, rfl, rfl, ClsV.own _, kit_own (by assumption) (by assumption), rfl, by walk_at "look", ?_⟩
  | refine ⟨_, _, _, _, rfl, ErAt.same (by assumption) (by walk_at "sames"), by assumption, by assumption, ?_⟩
  | refine ⟨_, _, _, _, rfl, ErAt.same (by assumption) (by walk_at "sames"), by assumption, by assumption, by assumption, ?_⟩
  | refine if_t (by first | rfl | assumption | decide) ?_
  | refine if_f (by assumption) ?_
  | refine if_f (by first | decide | exact Bool.false_ne_true) ?_
  | refine fun (_ : _ ≠ sysModules) => ?_
  | refine fun (_ : ErAt _ _ _ _) => ?_
  | refine fun _ _ => ?_)

theorem own_eqP (T : Txt K mg A) {H : Hp} {Q : VK} {x y : V} {C C' : Addr} {nm nm' z z' : Str} {es es' : List PyData} {b : Bool} (X : IsP K A H x C nm z es) (Y : IsP K A H y C' nm' z' es')
    (h1 : (nm == nm' && (z == z' && PyData.eqv (.tuple es) (.tuple es'))) = b) (h2 : C' ≠ C → (nm' == nm && (z' == z && PyData.eqv (.tuple es') (.tuple es))) = b) (q : Q (.bl b) H) : rOwnEq K A.q (spEq K A) x y H Q := by
  obtain ⟨c, ⟨a, fl, rfl, dx, fs, p, vs, g1, _⟩, _⟩ := id X
  obtain ⟨c', ⟨a', fl', rfl, dx', fs', p', vs', g1', _⟩, _⟩ := id Y
  refine ⟨a, C, dx, fs, _, rfl, g1, .ins g1', c.q, ?_⟩
  rcases T.pair C c.mem C' c'.mem with h | ⟨hn, hs⟩
  · exact .inl ⟨h, Iv.mk ⟨_, _, C, nm, z, es, rfl, X, .r ⟨C', nm', z', es', Y, by rw [h1]; exact q⟩⟩⟩
  · exact .inr ⟨C', rfl, hn, hs, c'.q, Iv.mk ⟨_, _, C', nm', z', es', rfl, Y, .r ⟨C, nm, z, es, X, by rw [h2 hn]; exact q⟩⟩⟩
theorem own_eqT (T : Txt K mg A) {H : Hp} {Q : VK} {x : V} {a' : Addr} {us : List V} {C : Addr} {nm z : Str} {es : List PyData} (X : IsP K A H x C nm z es) (h : H a' = some (.tup us)) (q : Q (.bl false) H) : rOwnEq K A.q (spEq K A) x (.ref a') H Q := by
  obtain ⟨c, ⟨a, fl, rfl, dx, fs, p, vs, g1, _⟩, _⟩ := id X
  exact ⟨a, C, dx, fs, _, rfl, g1, .tup h, c.q, .inl ⟨c.tn, Iv.mk ⟨_, _, C, nm, z, es, rfl, X, .l ⟨_, tyx_tup h, T.kT, q⟩⟩⟩⟩
theorem eqvAll_len : ∀ {xs ys : List PyData}, PyData.eqvAll xs ys = true → xs.length = ys.length
  | [], [], _ => rfl
  | [], _ :: _, h => by simp [PyData.eqvAll] at h
  | _ :: _, [], h => by simp [PyData.eqvAll] at h
  | x :: xs, y :: ys, h => by
    simp only [PyData.eqvAll, Bool.and_eq_true] at h
    rw [List.length_cons, List.length_cons, eqvAll_len h.2]
theorem eqv_tup_len {xs ys : List PyData} (h : xs.length ≠ ys.length) : PyData.eqv (.tuple xs) (.tuple ys) = false := by
  simp only [PyData.eqv]
  cases e : PyData.eqvAll xs ys with
  | true => exact absurd (eqvAll_len e) h
  | false => rfl
theorem fn_Denial_bool (T : Txt K mg A) : FnG P w K mg base CX0 1 A.b_Denial (spB false) := by
  obtain ⟨fd, F⟩ := T.FBD
  refine Fun_okN F sc_Denial_bool (fun vs H Q E h => ?_) (fun _ _ _ _ _ _ us hl => match us, hl with | [_], _ => rfl) (fun cdv A' outer s H vs Q E hr hg h => ?_)
  · obtain ⟨_, rfl, _⟩ := h
    rfl
  obtain ⟨a, rfl, q⟩ := h
  refine ⟨_, ((pss_one (ps_ret pe_bl))), ?_⟩
  exact q
theorem bc_of (T : Txt K mg A) : ∀ den, BoolC P w K mg base 1 (clOf A den) (!den)
  | true => ⟨A.b_Denial, T.b_Denial.1, T.b_Denial.2, fn_Denial_bool T⟩
  | false => ⟨A.b_Paper, T.b_Paper.1, T.b_Paper.2, fn_Paper_bool T⟩
theorem ok_l_papers_right (T : Txt K mg A) : FnG P w K mg base CX0 10 A.l_papers_right (spTurn (Cst 4)) := by
  obtain ⟨fd, F⟩ := T.F_l_papers_right
  refine Fun_okN F sc_l_papers_right (fun vs H Q E h => ?_) (fun _ _ _ _ _ _ us hl => match us, hl with | [_], _ => rfl) (fun cdv A' outer s H vs Q E hr hg h => ?_)
  · obtain ⟨_, _, rfl, _⟩ := h
    rfl
  obtain ⟨W, m, rfl, hW, hm, q⟩ := h
  refine ⟨_, ((pss_cons (ps_par (i := 1) (j := 2) (by rfl) sc_l_papers_right.nd rfl rfl (by decide) rfl rfl (pa_cons (pe_callGd (ok_l_take T) (hr.mono (by decide)) hg rfl T.m_l_take T.k_l_take pass0 (pa_cons (pv 0) (pa_cons (pe_lst (pa_cons pe_str (pa_cons pe_str (pa_cons pe_str pa_nil)))) pa_nil))) (pa_cons (pe_callGd (ok_l_lift T) (hr.mono (by decide)) hg rfl T.m_l_lift T.k_l_lift pass0 (pa_cons (pv 0) (pa_cons pe_int pa_nil))) pa_nil)) (by rfl))
    (pss_cons (ps_setLc (own := [(("_law_turn" : PySem.Str), 4)]) (i := 3) rfl sc_l_papers_right.nd rfl rfl (sw_true rfl rfl rfl (by decide +kernel)) (pi_range1 (by rfl) T.n_range (pa_cons (pe_callGd (ok_l_lift T) (hr.mono (by decide)) hg rfl T.m_l_lift T.k_l_lift pass0 (pa_cons (pv 0) (pa_cons pe_int pa_nil))) pa_nil)) (blkOk_by (own := [(("_law_turn" : PySem.Str), 4)]) (N := [("_law_tray_here" : PySem.Str), ("_law_word" : PySem.Str), ("_law_kind" : PySem.Str), ("_law_parts" : PySem.Str), ("_law_turn" : PySem.Str), ("_law_due" : PySem.Str), ("_law_part" : PySem.Str), ("_law_paper_here" : PySem.Str), ("_law_twin" : PySem.Str)]) (sc := defScope s_l_papers_right) (by decide +kernel)) (fun _ _ _ _ _ => (pg_name (i := 4) sc_l_papers_right.nd rfl (Or.inl rfl))) (fun _ _ _ _ _ => pts_nil) (fun _ _ _ _ _ => (pe_callGd (ok_l_value T 3) (hr.mono (by decide)) hg rfl T.m_l_value T.k_l_value pass0 (pa_cons (pv 0) (pa_cons pe_int pa_nil)))))
    (pss_cons (ps_set (i := 5) sc_l_papers_right.nd rfl (Or.inl rfl) (pe_callTy call_tuple_of (by rfl) T.n_tuple (by decide +kernel) (pa_cons (pe_lc (own := [(("_law_part" : PySem.Str), 6)]) rfl sc_l_papers_right.nd (pi_list (pv 3)) (blkOk_by (own := [(("_law_part" : PySem.Str), 6)]) (N := [("_law_tray_here" : PySem.Str), ("_law_word" : PySem.Str), ("_law_kind" : PySem.Str), ("_law_parts" : PySem.Str), ("_law_turn" : PySem.Str), ("_law_due" : PySem.Str), ("_law_part" : PySem.Str), ("_law_paper_here" : PySem.Str), ("_law_twin" : PySem.Str)]) (sc := defScope s_l_papers_right) (by decide +kernel)) (fun _ _ _ _ _ => (pg_name (i := 6) sc_l_papers_right.nd rfl (Or.inl rfl))) (fun _ _ _ _ _ => pts_nil) (fun _ _ _ _ _ => (pe_callGd (ok_l_fixed T 4) (hr.mono (by decide)) hg rfl T.m_l_fixed T.k_l_fixed pass0 (pa_cons (pv 6) pa_nil)))) pa_nil)))
    (pss_cons (ps_set (i := 7) sc_l_papers_right.nd rfl (Or.inl rfl) (pe_callGd (ok_l_paper T) (hr.mono (by decide)) hg rfl T.m_l_paper T.k_l_paper pass0 (pa_cons (pv 2) (pa_cons (pv 1) (pa_cons (pv 3) pa_nil)))))
    (pss_cons (ps_set (i := 8) sc_l_papers_right.nd rfl (Or.inl rfl) (pe_callGd (ok_l_paper T) (hr.mono (by decide)) hg rfl T.m_l_paper T.k_l_paper pass0 (pa_cons (pv 2) (pa_cons (pv 1) (pa_cons (pe_lc (own := [(("_law_part" : PySem.Str), 6)]) rfl sc_l_papers_right.nd (pi_list (pv 3)) (blkOk_by (own := [(("_law_part" : PySem.Str), 6)]) (N := [("_law_tray_here" : PySem.Str), ("_law_word" : PySem.Str), ("_law_kind" : PySem.Str), ("_law_parts" : PySem.Str), ("_law_turn" : PySem.Str), ("_law_due" : PySem.Str), ("_law_part" : PySem.Str), ("_law_paper_here" : PySem.Str), ("_law_twin" : PySem.Str)]) (sc := defScope s_l_papers_right) (by decide +kernel)) (fun _ _ _ _ _ => (pg_name (i := 6) sc_l_papers_right.nd rfl (Or.inl rfl))) (fun _ _ _ _ _ => pts_nil) (fun _ _ _ _ _ => (pe_callGd (ok_l_turned T 4) (hr.mono (by decide)) hg rfl T.m_l_turned T.k_l_turned pass0 (pa_cons (pv 6) pa_nil)))) pa_nil)))))
    (pss_cons (ps_if (PW.pt (pw_or (pt_cmpR op_ne (pe_callB (MyD.call_reprR T.sm hg hr.units) (by rfl) T.n_repr (by decide +kernel) (pa_cons (pe_fld (pv 7) rfl) pa_nil)) (pe_callB (MyD.call_reprR T.sm hg hr.units) (by rfl) T.n_repr (by decide +kernel) (pa_cons (pv 5) pa_nil)) (nomark _)) (pw_or (pt_cmpR op_ne (pe_fld (pv 7) rfl) (pv 1) (nomark _)) (pw_or1 (pt_cmpR op_ne (pe_callTy (MyP.call_boolO (n := 1) (hr.mono (by decide)) hg) (by rfl) T.n_bool (by decide +kernel) (pa_cons (pv 7) pa_nil)) (pe_cmpR op_eq (pv 2) pe_int (nomark _)) (nomark _)))))) (pss_one (ps_ret pe_bl)) pss_nil)
    (pss_cons (ps_if (PW.pt (pw_or (pt_not (pt_cmpR (MyP.op_ownEq T.isq (fn_Paper_eq T) (hr.mono (by decide)) hg) (pv 7) (pv 8) (nomark _))) (pw_or (pt_cmpR (MyP.op_ownEq T.isq (fn_Paper_eq T) (hr.mono (by decide)) hg) (pv 7) (pe_callGd (ok_l_paper T) (hr.mono (by decide)) hg rfl T.m_l_paper T.k_l_paper pass0 (pa_cons (pe_op op_sub pe_int (pv 2)) (pa_cons (pv 1) (pa_cons (pv 3) pa_nil)))) (nomark _)) (pw_or1 (pt_cmpR (MyP.op_ownEq T.isq (fn_Paper_eq T) (hr.mono (by decide)) hg) (pv 7) (pe_callGd (ok_l_paper T) (hr.mono (by decide)) hg rfl T.m_l_paper T.k_l_paper pass0 (pa_cons (pv 2) (pa_cons (pe_op op_add_str (pv 1) pe_str) (pa_cons (pv 3) pa_nil)))) (nomark _)))))) (pss_one (ps_ret pe_bl)) pss_nil)
    (pss_cons (ps_if (PW.pt (pw_or (pt_cmpR (MyP.op_ownEq T.isq (fn_Paper_eq T) (hr.mono (by decide)) hg) (pv 7) (pv 5) (nomark _)) (pw_or1 (PW.pt (pw_and (pt_cmpR (MyP.op_ownEq T.isq (fn_Paper_eq T) (hr.mono (by decide)) hg) (pv 7) (pe_callGd (ok_l_paper T) (hr.mono (by decide)) hg rfl T.m_l_paper T.k_l_paper pass0 (pa_cons (pv 2) (pa_cons (pv 1) (pa_cons (pe_slice sl_list (pe_op op_cat (pv 3) (pe_lst (pa_cons pe_int pa_nil))) po_none (po_some pe_int)) pa_nil)))) (nomark _)) (pw_and1 (pt_cmpR op_lt (pe_callB call_len (by rfl) T.n_len (by decide +kernel) (pa_cons (pv 3) pa_nil)) pe_int (nomark _)))))))) (pss_one (ps_ret pe_bl)) pss_nil)
    (pss_cons (ps_for PassesOwn.never rfl (pi_list (pv 3)) (pg_name (i := 6) sc_l_papers_right.nd rfl (Or.inl rfl))
    (pss_one (ps_expr (pe_callGd (ok_l_spoil T) (hr.mono (by decide)) hg rfl T.m_l_spoil T.k_l_spoil pass0 (pa_cons (pv 6) pa_nil)))))
    (pss_one (ps_ret (pe_and (pe_cmpR op_eq (pe_callB (MyD.call_reprR T.sm hg hr.units) (by rfl) T.n_repr (by decide +kernel) (pa_cons (pe_fld (pv 7) rfl) pa_nil)) (pe_callB (MyD.call_reprR T.sm hg hr.units) (by rfl) T.n_repr (by decide +kernel) (pa_cons (pv 5) pa_nil)) (nomark _)) (pe_and (pe_cmpR op_eq (pe_fld (pv 7) rfl) (pv 1) (nomark _)) (pe_one (pe_cmpR (MyP.op_ownEq T.isq (fn_Paper_eq T) (hr.mono (by decide)) hg) (pv 7) (pv 8) (nomark _))))))))))))))))), ?_⟩
  repeat walk_at "s"
  rename_i pw hpw
  have c3 : Cst 3 = 120 := rfl
  have c4 : Cst 4 = 363 := rfl
  refine Iv.mk ⟨W, pw, _, m, rfl, hW.new hpw, by omega, (hW.ne hpw).1, upd_same, by exact Nat.lt_of_sub_eq_succ rfl, by exact Nat.le_of_ble_eq_true rfl, fun H1 v hv W1 K1 => ?_⟩
  obtain ⟨z, rfl, hz, zl⟩ : ∃ z : Str, v = .str z ∧ (z == z ++ ("x" : Str)) = false ∧ z.length ≤ 100 := by
    simp only [List.mem_cons, List.not_mem_nil, or_false] at hv
    rcases hv with rfl | rfl | rfl
    · exact ⟨_, rfl, by decide +kernel, by decide +kernel⟩
    · exact ⟨_, rfl, by decide +kernel, by decide +kernel⟩
    · exact ⟨_, rfl, by decide +kernel, by decide +kernel⟩
  refine ⟨_, rfl, Iv.mk ⟨W, 2, m + 1, rfl, W1, by omega, by decide, by decide, fun H2 kd k0 k1 W2 K2 => ?_⟩⟩
  obtain ⟨den, rfl⟩ : ∃ den, kd = kdOf den := by
    rcases (show kd = 0 ∨ kd = 1 by omega) with rfl | rfl
    · exact ⟨false, rfl⟩
    · exact ⟨true, rfl⟩
  refine ⟨_, _, rfl, ?_⟩
  refine ⟨_, rfl, Iv.mk ⟨W, 4, m + 2, rfl, W2, by omega, by decide, by decide, fun H3 r r0 r1 W3 K3 => ?_⟩⟩
  repeat walk_at "s"
  rename_i D hD
  have hDW := W3.ne hD
  obtain ⟨oW, hoW⟩ := W3.at
  have W3' := W3.new (o := .lst []) hD
  refine lc_it walk_range (fun i H' => Iv (WellAt H' W (m + 3 + 120 * i) ∧ (∀ b, H' b = none → upd H3 D (.lst []) b = none) ∧ ∃ ws ds, H' D = some (.lst ws) ∧ ws.length = i ∧ DpRs (nw (upd H3 D (.lst [])) H') ws ds ∧ (∀ d ∈ ds, Okd 3 d) ∧ ∀ v ∈ ws, Kd 3 (nw (upd H3 D (.lst [])) H') v))
    (Iv.mk ⟨W3'.mono (by omega), fun _ h => h, [], [], upd_same, rfl, .nil, (fun d h => absurd h List.not_mem_nil), fun d h => absurd h List.not_mem_nil⟩) (fun _ _ _ _ => trivial) ?_ ?_
  · rintro i x H4 H5 hi hI5 ⟨rfl, rfl⟩
    obtain ⟨W5, dm, ws, ds, hDl, hl, hds, hok, hkd⟩ := hI5.out
    have hi4 : i ≤ 2 := by omega
    repeat walk_at "s"
    refine Iv.mk ⟨W, m + 3 + 120 * i, rfl, W5, by omega, fun H6 v d W6 K6 dp okd un => ?_⟩
    have hD6 : H6 D = some (.lst ws) := K6 D _ hDW.1 hDl
    have nD : ∀ b, upd H3 D (.lst []) b = none → b ≠ D ∧ b ≠ W.w := fun b hb => by
      have h1 : b ≠ D := fun e => by (rw [e, upd_same] at hb; cases hb)
      refine ⟨h1, fun e => ?_⟩
      rw [upd_ne h1, e, hoW] at hb
      cases hb
    have SA : ∀ xs, Same (nw (upd H3 D (.lst [])) H5) (nw (upd H3 D (.lst [])) (upd H6 D (.lst xs))) := fun xs => nw_same (fun _ h => h) fun b o hb e => by
      rw [upd_ne (nD b hb).1]
      exact K6 b o (nD b hb).2 e
    have SB : ∀ xs, Same (nw H5 H6) (nw (upd H3 D (.lst [])) (upd H6 D (.lst xs))) := fun xs => nw_same dm fun b o hb e => by
      rw [upd_ne (nD b (dm b hb)).1]
      exact e
    refine ⟨ws, hD6, line_lt (by omega), Iv.mk ⟨(W6.mono (by omega)).put hDW, fun b hb => ?_, ws ++ [v], ds ++ [d], upd_same, by rw [List.length_append, hl]; rfl, (hds.same (SA _)).snoc (dp.same (SB _)), ?_, ?_⟩⟩
    · by_cases e : b = D
      · subst e
        rw [upd_same] at hb
        cases hb
      · rw [upd_ne e] at hb
        obtain ⟨o6, ho6⟩ := W6.at
        exact dm b (Kp.free K6 ⟨_, ho6⟩ hb)
    · intro d' hd'
      rcases List.mem_append.mp hd' with h | h
      · exact hok d' h
      · rw [List.mem_singleton.mp h]; exact okd
    · intro v' hv'
      rcases List.mem_append.mp hv' with h | h
      · exact (hkd v' h).same (SA _)
      · rw [List.mem_singleton.mp h]; exact (kd_of dp okd (un_nw un)).same (SB _)
  · intro H5 hI5
    obtain ⟨W5, dm, ws, ds, hDl, hl, hds, hok, hkd⟩ := hI5.out
    have W6 : WellAt H5 W (m + Cst 4) := W5.mono (by omega)
    have lds : ds.length ≤ 3 := by rw [← hds.length]; omega
    have hds5 : DpRs H5 ws ds := hds.same nw_all
    have ok4 : ∀ d ∈ ds, Okd 4 d := fun d h => (hok d h).mono 4 (by decide)
    have fresh : ∀ v ∈ ws, ∀ a, v = .ref a → a ≠ D ∧ a ≠ W.w ∧ a ≠ W.c := fun v hv a e => by
      have h := hkd v hv
      rw [e] at h
      have h := h.fresh
      have W3' := W3.new (o := .lst []) hD
      have n1 : a ≠ D := fun e => by (rw [e, upd_same] at h; cases h)
      exact ⟨n1, (W3'.ne h).1, (W3'.ne h).2⟩
    have hDu : ∀ {H' : Hp}, Same H5 H' → H' D = some (.lst ws) := fun S => S _ _ hDl
    repeat walk_at "s"
    rename_i E1 hE1
    refine lc_it (walk_list (xs := ws)) (fun i H2 => Iv (Same H5 H2 ∧ ∃ us es, H2 E1 = some (.lst us) ∧ us.length = i ∧ DpRs H2 us es ∧ FxAll (ds.take i) es))
      (Iv.mk ⟨Same.new (Same.refl _) hE1, [], [], upd_same, rfl, .nil, .nil⟩) (fun i H2 _ h => SqL.of (hDu h.out.1)) ?_ ?_
    · rintro i x Ha Hb hi hI2 ⟨rfl, hx⟩
      obtain ⟨sm, us, es, hE, hw, hd1, hf⟩ := hI2.out
      obtain ⟨d, hdi, hdr⟩ := DpRs.at_ hds5 hx
      have okd := ok4 d (List.mem_of_getElem? hdi)
      repeat walk_at "s"
      refine Iv.mk ⟨x, d, rfl, hdr.same sm, okd, fun Hc v3 e3 sm3 fx3 dp3 => ?_⟩
      have hE3 := sm3 _ _ hE
      refine ⟨us, hE3, line_lt (by omega), Iv.mk ⟨Same.put (fun b o e => sm3 b o (sm b o e)) hE1, us ++ [v3], es ++ [e3], upd_same, by rw [List.length_append, hw]; rfl, ?_, by rw [take_one hdi]; exact hf.snoc fx3⟩⟩
      have tupA := (hf.snoc fx3).tupA (n := 4) fun y hy => by
        rcases List.mem_append.mp hy with hy | hy
        · exact ok4 y (List.mem_of_mem_take hy)
        · rw [List.mem_singleton.mp hy]; exact okd
      exact DpRs.tups (fun b xs e => by rw [upd_ne (ne_of e hE3 (fun z => nomatch z))]; exact e) tupA ((hd1.same sm3).snoc dp3)
    · intro Ha hI2
      obtain ⟨sm, us, es, hE, hw, hd1, hf⟩ := hI2.out
      have el : ds.take ws.length = ds := by rw [hds.length, List.take_length]
      rw [el] at hf
      refine ⟨_, _, rfl, .inl ⟨SqL.of hE, fun l hl2 => ?_⟩⟩
      have S7 : Same H5 (upd Ha l (.tup us)) := Same.new sm hl2
      have hdu : DpR (upd Ha l (.tup us)) (.ref l) (.tuple es) := .tup upd_same (hd1.same (Same.new (Same.refl _) hl2))
      generalize upd Ha l (.tup us) = H7 at S7 hdu
      clear hd1 hE hl2 sm hw
      have tuE : Tup (.tuple es) := .tup (hf.tupA ok4)
      have shE := (Shf.tuple (n := 8) (l := Ln 4) (m := 3) (by rw [← hf.length]; exact lds) (FxAll.shf (n := 4) hf ok4))
      have e1 : (PyData.tuple es).showable = true := shE.s
      have e2 : (PyData.tuple es).depth ≤ 60 := Nat.le_trans shE.d (by decide)
      have e3 : (PyData.tuple es).shown.length ≤ sizeLine := line_le (Nat.le_trans shE.l (by decide))
      refine ⟨_, rfl, _, rfl, _, rfl, Iv.mk ⟨den, D, z, ws, ds, rfl, hDu S7, hds5.same S7, ok4, by rw [hds.length]; exact lds, fun H8 x1 es1 S8 X1 f1 => ?_⟩⟩
      obtain rfl := f1.det hf
      have S58 : Same H5 H8 := S7.trans S8
      have hdu8 := hdu.same S8
      clear hdu f1
      repeat walk_at "s"
      rename_i E2 hE2
      refine lc_it (walk_list (xs := ws)) (fun i H2 => Iv (Same H8 H2 ∧ ∃ us tds, H2 E2 = some (.lst us) ∧ us.length = i ∧ DpRs (del E2 H2) us tds ∧ (∀ d ∈ tds, Okd 4 d) ∧ ∀ fs, FxAll (ds.take i) fs → FxAll tds fs))
        (Iv.mk ⟨Same.new (Same.refl _) hE2, [], [], upd_same, rfl, .nil, (fun d h => absurd h List.not_mem_nil), fun fs h => h⟩) (fun i H2 _ h => SqL.of (hDu (S58.trans h.out.1))) ?_ ?_
      · rintro i x Ha Hb hi hI2 ⟨rfl, hx⟩
        obtain ⟨sm, us, tds, hE, hw, hd1, hok1, hf1⟩ := hI2.out
        obtain ⟨d, hdi, hdr⟩ := DpRs.at_ (hds5.same S58) hx
        have okd := ok4 d (List.mem_of_getElem? hdi)
        repeat walk_at "s"
        refine Iv.mk ⟨H8, x, d, rfl, sm, hdr, okd, fun Hc v3 d3 sm3 dp3 ok3 fx3 => ?_⟩
        have hE3 := sm3 _ _ hE
        refine ⟨us, hE3, line_lt (by omega), Iv.mk ⟨Same.put (fun b o e => sm3 b o (sm b o e)) hE2, us ++ [v3], tds ++ [d3], upd_same, by rw [List.length_append, hw]; rfl, ?_, ?_, ?_⟩⟩
        · refine (hd1.same (del_same fun b o nb e => ?_)).snoc (dp3.same (ext_del hE2 (by rw [hE]; exact fun z => nomatch z) (sm.trans sm3) fun b o nb e => ?_))
          · rw [upd_ne nb]
            exact sm3 b o e
          · rw [upd_ne nb]
            exact e
        · intro d' hd'
          rcases List.mem_append.mp hd' with h | h
          · exact hok1 d' h
          · rw [List.mem_singleton.mp h]; exact ok3
        · intro fs hfs
          rw [take_one hdi] at hfs
          obtain ⟨fs1, f1, rfl, h1, h2⟩ := fxall_snoc hfs
          exact (hf1 _ h1).snoc (fx3 _ h2)
      · intro Ha hI2
        obtain ⟨sm, us, tds, hE, hw, hd1, hok1, hf1⟩ := hI2.out
        rw [el] at hf1
        refine Iv.mk ⟨den, E2, z, us, tds, rfl, hE, hd1.same del_all, hok1, by rw [hw, hds.length]; exact lds, fun H9 x2 es2 S9 X2 f2 => ?_⟩
        obtain rfl := f2.det (hf1 _ hf)
        have S89 : Same H8 H9 := sm.trans S9
        have S59 := S58.trans S89
        have X1' := X1.same S89
        have hdu9' := hdu8.same S89
        have W9 : WellAt H9 W (m + Cst 4) := W6.same S59
        have hD9 := hDu S59
        have hds9 := hds5.same S59
        have hkd9 : ∀ v ∈ ws, Kd 3 H9 v := fun v hv => ((hkd v hv).same nw_all).same S59
        clear f2 hf1 hok1 hd1 hw hE sm hI2 hE2 X1 hdu8 hkd S58 S89 S9 S8 S7 S59
        obtain ⟨kc, ⟨a1, fl1, ea1, dx1, fs1, pp1, vs1, g1, g2, g3, g4, g5, g6, g7⟩, sh1⟩ := id X1'
        cases ea1
        refine ⟨_, rfl, x1, _, dx1, fs1, _, rfl, g1, kc.o.c, kc.p, g3, ?_⟩
        refine ⟨_, .tuple es2, rfl, .tup g4 g5, e1, e2, e3, ?_⟩
        refine ⟨_, rfl, .ref l, .tuple es2, rfl, hdu9', e1, e2, e3, ?_⟩
        repeat walk_at "s"
        refine if_f (by simp) ?_
        refine ⟨_, rfl, x1, _, dx1, fs1, _, rfl, g1, kc.o.c, kc.w, g2, ?_⟩
        repeat walk_at "s"
        refine if_f (by simp) ?_
        refine ⟨_, rfl, x1, _, dx1, fs1, !den, rfl, g1, bc_of T den, ?_⟩
        repeat walk_at "s"
        refine if_f (by cases den <;> decide) ?_
        have eqz : (z == z) = true := beq_self_eq_true z
        have eqn : (nmOf den == nmOf den) = true := beq_self_eq_true _
        have eqe : PyData.eqv (.tuple es2) (.tuple es2) = true := tuE.eqv
        have wl3 : ws.length ≤ 3 := by rw [hds.length]; exact lds
        obtain ⟨us2, hl9⟩ : ∃ us, H9 l = some (.tup us) := by
          cases hdu9' with
          | tup h _ => exact ⟨_, h⟩
        refine ⟨_, rfl, _, rfl, own_eqP T X1' X2 (b := true) (by rw [eqz, eqn, eqe]; rfl) (fun h => absurd rfl h) ?_⟩
        repeat walk_at "s"
        show Iv _
        refine Iv.mk ?_
        refine ⟨!den, D, z, ws, ds, by cases den <;> rfl, hD9, hds9, ok4, wl3, fun HA x3 es3 SA X3 f3 => ?_⟩
        refine own_eqP T (X1'.same SA) X3 (b := false) ?_ ?_ ?_
        · have e : (nmOf den == nmOf (!den)) = false := by cases den <;> decide +kernel
          rw [e]; rfl
        · intro _
          have e : (nmOf (!den) == nmOf den) = false := by cases den <;> decide +kernel
          rw [e]; rfl
        repeat walk_at "s"
        show Iv _
        refine Iv.mk ?_
        refine ⟨den, D, z ++ ("x" : Str), ws, ds, rfl, SA _ _ hD9, hds9.same SA, ok4, wl3, fun HB x4 es4 SB X4 f4 => ?_⟩
        refine own_eqP T ((X1'.same SA).same SB) X4 (b := false) ?_ (fun h => absurd rfl h) ?_
        · rw [eqn, hz]; rfl
        have SAB := SA.trans SB
        clear X3 X4 f3 f4
        refine ⟨_, rfl, ?_⟩
        refine ⟨_, rfl, _, rfl, own_eqT T (X1'.same SAB) (SAB _ _ hl9) ?_⟩
        have hDB := SAB _ _ hD9
        repeat walk_at "s"
        rename_i q1 hq1 q2 hq2 q3 hq3
        have S3 : Same HB (upd (upd (upd HB q1 (.lst [V.int 7])) q2 (.lst (ws ++ [V.int 7]))) q3 (.lst (cutV (ws ++ [V.int 7]) none (some 3)))) := Same.new (Same.new (Same.new (Same.refl _) hq1) hq2) hq3
        have hdsB := (hds9.same SAB).same S3
        have hds7 := (hdsB.snoc (DpR.int 7)).cutT (n := 3)
        have ok7 : ∀ d ∈ (ds ++ [PyData.int 7]).take 3, Okd 4 d := fun d hd => by
          rcases List.mem_append.mp (List.mem_of_mem_take hd) with h | h
          · exact ok4 d h
          · rw [List.mem_singleton.mp h]; exact .leaf (leaf_int (by decide) (by decide))
        show Iv _
        refine Iv.mk ?_
        refine ⟨den, q3, z, _, _, rfl, upd_same, hds7, ok7, (by show (cutV _ none (some ((3 : Nat) : Int))).length ≤ 3; rw [hds7.length, List.length_take]; omega), fun HC x5 es5 SC X5 f5 => ?_⟩
        have SBC := S3.trans SC
        have S9C := SAB.trans SBC
        have hlen5 : ws.length < 3 → PyData.eqv (.tuple es2) (.tuple es5) = false := fun h => eqv_tup_len (by
          rw [← f5.length, ← hf.length, List.length_take, List.length_append]
          have := hds9.length
          simp only [List.length_cons, List.length_nil]
          omega)
        refine own_eqP T (X1'.same S9C) X5 (b := PyData.eqv (.tuple es2) (.tuple es5)) (by rw [eqn, eqz]; rfl) (fun h => absurd rfl h) ?_
        have hDC := S9C _ _ hD9
        have X1C := X1'.same S9C
        have X2C := X2.same S9C
        have hduC := hdu9'.same S9C
        have WC := W9.same S9C
        have hkdC : ∀ v ∈ ws, Kd 3 HC v := fun v hv => (hkd9 v hv).same S9C
        clear hdsB hds7 ok7 X5 f5 S3 SBC SC hq1 hq2 hq3 SAB SB SA hDB hdu9' X2 X1' W9 hD9 hds9 hkd9 g1 g2 g3 g4 g5 g7 hl9 S9C
        generalize PyData.eqv (.tuple es2) (.tuple es5) = b5 at hlen5
        refine ⟨_, rfl, ?_⟩
        refine ite2 (fun c1 => ?_) (fun c1 => ?_)
        repeat walk_at "s"
        refine if_f (fun h => by
            have h1 := of_decide_eq_true h
            have h2 := hlen5 (by omega)
            rw [h2] at c1
            cases c1) ?_
        all_goals
          repeat walk_at "s"
          refine for_it (walk_list (xs := ws)) (fun i σ H' => Iv (∃ pv : Option V, σ = [some (.ref W.w), some (.str z), some (.int (kdOf den)), some (.ref D), none, some (.ref l), pv, some (.ref x1), some (.ref x2)] ∧ WellAt H' W (m + Cst 4) ∧ H' D = some (.lst ws) ∧
              IsP K A H' (.ref x1) (clOf A den) (nmOf den) z es2 ∧ IsP K A H' (.ref x2) (clOf A den) (nmOf den) z es2 ∧ DpR H' (.ref l) (.tuple es2) ∧ ∀ v ∈ ws, Kd (3 + i) H' v))
            (Iv.mk ⟨_, rfl, WC, hDC, X1C, X2C, hduC, hkdC⟩) (fun i σ H' _ h => SqL.of (by obtain ⟨_, _, _, h, _⟩ := h.out; exact h)) ?_ ?_
          · rintro i x σ Hp1 Hp2 hi hI5 ⟨rfl, hx⟩
            obtain ⟨pv, rfl, Wi, hDi, X1i, X2i, hdi, hki⟩ := hI5.out
            have hxm := List.mem_of_getElem? hx
            refine ⟨_, rfl, Iv.mk ⟨x, rfl, (hki x hxm).mono (by omega), fun H' SP => ?_⟩⟩
            have fr := fresh x hxm
            refine Iv.mk ⟨_, rfl, ?_, SP.keep hDi (fun e => (fr _ e).1 rfl), X1i.tups SP.fix, X2i.tups SP.fix, hdi.tups (fun b xs e => SP.fix b _ (.inr ⟨_, rfl⟩) e) tuE, fun v hv => (hki v hv).spoilt SP⟩
            obtain ⟨b, r, w1, w2, w3⟩ := Wi
            exact ⟨b, r, SP.keep w1 (fun e => (fr _ e).2.1 rfl), SP.keep w2 (fun e => (fr _ e).2.2 rfl), w3⟩
          · intro σ HE hI5
            obtain ⟨pv, rfl, Wi, hDi, X1i, X2i, hdi, hki⟩ := hI5.out
            obtain ⟨kc, ⟨a1, fl1, ea1, dx1, fs1, pp1, vs1, g1, g2, g3, g4, g5, g6, g7⟩, sh1⟩ := id X1i
            cases ea1
            refine ⟨_, rfl, x1, _, dx1, fs1, _, rfl, g1, kc.o.c, kc.p, g3, ?_⟩
            refine ⟨_, .tuple es2, rfl, .tup g4 g5, e1, e2, e3, ?_⟩
            refine ⟨_, rfl, .ref l, .tuple es2, rfl, hdi, e1, e2, e3, ?_⟩
            repeat walk_at "s"
            refine if_t (decide_eq_true rfl) ?_
            refine ⟨_, rfl, x1, _, dx1, fs1, _, rfl, g1, kc.o.c, kc.w, g2, ?_⟩
            repeat walk_at "s"
            refine if_t (decide_eq_true rfl) ?_
            refine ⟨_, rfl, _, rfl, own_eqP T X1i X2i (b := true) (by rw [eqz, eqn, eqe]; rfl) (fun h => absurd rfl h) ?_⟩
            exact q _ Wi
end
end K02

namespace K02
open PySem PySem.Spec PyProof.Rows L2 MyL MyD MyP
theorem fx3 {d1 d2 d3 : PyData} {es : List PyData} (h : FxAll [d1, d2, d3] es) : ∃ e1 e2 e3, es = [e1, e2, e3] ∧ Fx d1 e1 ∧ Fx d2 e2 ∧ Fx d3 e3 := by
  cases h with
  | cons h1 h => cases h with
    | cons h2 h => cases h with
      | cons h3 h => cases h; exact ⟨_, _, _, rfl, h1, h2, h3⟩
theorem fx2 {d1 d2 : PyData} {es : List PyData} (h : FxAll [d1, d2] es) : ∃ e1 e2, es = [e1, e2] ∧ Fx d1 e1 ∧ Fx d2 e2 := by
  cases h with
  | cons h1 h => cases h with
    | cons h2 h => cases h; exact ⟨_, _, rfl, h1, h2⟩
theorem fx1 {d1 : PyData} {es : List PyData} (h : FxAll [d1] es) : ∃ e1, es = [e1] ∧ Fx d1 e1 := by
  cases h with
  | cons h1 h => cases h; exact ⟨_, rfl, h1⟩
theorem dp_w {H0 H1 H2 : Hp} {w : Addr} {o : HO} {v : V} {d : PyData} (h : DpR (nw H0 H1) v d) (hw : H0 w = some o) (k : Kp w H1 H2) : DpR (nw H0 H2) v d :=
  h.same (nw_same (fun _ h => h) fun b o' hb e => k b o' (fun z => by rw [z, hw] at hb; cases hb) e)
/-- a paper's field -/
theorem pap_fld {H : Hp} {a C : Addr} {z : Str} {es : List PyData} {fl : List Str} (h : PapAt H a C z es fl) : ∃ dx fs, H a = some (.ins C dx fs) ∧ fld fs "word" = some (.str z) ∧ ∀ (i : Nat) (f : Str) (e : PyData), fl[i]? = some f → es[i]? = some e → ∃ v, fld fs f = some v ∧ DpR H v e := by
  obtain ⟨dx, fs, p, vs, h1, h2, h3, h4, h5, h6, h7⟩ := h
  refine ⟨dx, fs, h1, h2, fun i f e hf he => ?_⟩
  obtain ⟨v, g1, g2⟩ := h7 i f hf
  obtain ⟨d, g3, g4⟩ := h5.at_ g2
  rw [he] at g3
  cases g3
  exact ⟨v, g1, g4⟩
theorem PapAt.same {H H' : Hp} {a C : Addr} {z : Str} {es : List PyData} {fl : List Str} (h : PapAt H a C z es fl) (S : Same H H') : PapAt H' a C z es fl := by
  obtain ⟨dx, fs, p, vs, h1, h2, h3, h4, h5, h6, h7⟩ := h
  exact ⟨dx, fs, p, vs, S _ _ h1, h2, h3, S _ _ h4, h5.same S, h6, h7⟩
theorem own_newQ {K : PySem.W.Frag} {A : Adr} {H : Hp} {C x dx : Addr} {nm z : Str} {fl : List Str} {xs : List V} {ds : List PyData} {Q : VK} {E : XK} (hx : H x = none) (hdx : H dx = none) (c : KCls K A C nm) (hd : DpRs H xs ds) (hok : ∀ d ∈ ds, Okd 4 d) (hl : xs.length = fl.length) (hl3 : fl.length ≤ 3)
    (q : ∀ H' es, Same H H' → IsP K A H' (.ref x) C nm z es → PapAt H' x C z es fl → FxAll ds es → Q .non H') : Iv (spC C z fl (.ref x :: xs) (upd (upd H dx (.own x)) x (.ins C dx [])) Q E) :=
  Iv.mk ⟨x, dx, xs, ds, rfl, upd_same, hd.same (Same.put (Same.put (Same.refl H) hdx) hx), hok, hl, fun H' es k pa fa => q H' es (same_of hx hdx k) ⟨c, ⟨x, fl, rfl, pa⟩, sh_of hok (by rw [← hd.length, hl]; exact hl3) fa⟩ pa fa⟩
theorem pap_newQ {K : PySem.W.Frag} {A : Adr} {H : Hp} {C x dx : Addr} {nm z : Str} {xs : List V} {ds : List PyData} {Q : VK} {E : XK} (hx : H x = none) (hdx : H dx = none) (c : KCls K A C nm) (hd : DpRs H xs ds) (hok : ∀ d ∈ ds, Okd 4 d) (hl : ds.length ≤ 3)
    (q : ∀ H' es, Same H H' → IsP K A H' (.ref x) C nm z es → FxAll ds es → Q .non H') : Iv (spPInit K (.ref x :: .str z :: xs) (upd (upd H dx (.own x)) x (.ins C dx [])) Q E) :=
  Iv.mk ⟨x, C, dx, z, xs, ds, rfl, upd_same, ⟨c.o.c, c.w, c.p⟩, hd.same (Same.put (Same.put (Same.refl H) hdx) hx), hok, hl, fun H' es p ws k h1 h2 h3 fa => q H' es (same_of hx hdx k) ⟨c, ⟨x, [], rfl, dx, _, p, ws, h1, rfl, rfl, h2, h3, fa.tupA hok, fun i f h => by simp at h⟩, sh_of hok hl fa⟩ fa⟩
section
variable {P : Program} {w : World} {K : PySem.W.Frag} {mg : Str → Option Value} {base : Heap} {A : Adr}
local macro_rules | `(tactic| walk_at "sames") => `(tactic| repeat (first
  | exact Same.refl _
  | refine Same.new ?_ (by assumption)
  | refine Same.trans ?_ (by assumption)))
local macro_rules | `(tactic| walk_at "ne") => `(tactic| first
  | assumption
  | exact Ne.symm (by assumption)
  | exact ne_new (by assumption) (by walk_at "look")
  | exact ne_new' (by assumption) (by walk_at "look")
  | exact ne_of (by walk_at "look") (by walk_at "look") (by intro z; cases z))
local macro_rules | `(tactic| walk_at "look") => `(tactic| first
  | assumption
  | exact upd_same
  | (refine upd_new (by assumption) ?_
     walk_at "look")
  | (refine (upd_ne ?_).trans ?_
     · walk_at "ne"
     · walk_at "look")
  | (refine Kp.get (by assumption) ?_ ?_
     · walk_at "ne"
     · walk_at "look")
  | (refine Same.get (by assumption) ?_
     walk_at "look"))
local macro_rules | `(tactic| walk_at "lenv") => `(tactic| first
  | exact Or.inl ⟨_, SqL.of (by walk_at "look"), rfl⟩
  | exact Or.inr ⟨_, SqT.of (by walk_at "look"), rfl⟩
  | exact ⟨line_le (by omega), rfl⟩)
local macro_rules | `(tactic| walk_at "cond") => `(tactic| first
  | assumption
  | rfl
  | exact Nat.zero_le _
  | exact Nat.le_of_ble_eq_true rfl
  | decide
  | omega
  | exact line_lt (by (try simp only [List.length_map, List.length_append, List.length_cons, List.length_nil]); omega)
  | exact line_le (by (try simp only [List.length_map, List.length_append, List.length_cons, List.length_nil]); omega)
  | (dsimp only; omega)
  | exact ⟨by decide, by decide⟩
  | exact ⟨by decide, by decide, by decide⟩
  | exact Or.inl ⟨by decide, by decide⟩
  | exact Or.inl ⟨by omega, by omega⟩
  | exact Or.inr ⟨by omega, by omega⟩)
local macro_rules | `(tactic| walk_at "kit") => `(tactic| first | assumption | exact kit_NoneType_int | exact kit_NoneType_bool | exact kit_NoneType_str | exact kit_NoneType_list | exact kit_NoneType_tuple | exact kit_NoneType_dict | exact kit_bool_int | exact kit_bool_bool | exact kit_bool_str | exact kit_bool_list | exact kit_bool_tuple | exact kit_bool_dict | exact kit_int_int | exact kit_int_bool | exact kit_int_str | exact kit_int_list | exact kit_int_tuple | exact kit_int_dict | exact kit_str_int | exact kit_str_bool | exact kit_str_str | exact kit_str_list | exact kit_str_tuple | exact kit_str_dict | exact kit_list_int | exact kit_list_bool | exact kit_list_str | exact kit_list_list | exact kit_list_tuple | exact kit_list_dict | exact kit_tuple_int | exact kit_tuple_bool | exact kit_tuple_str | exact kit_tuple_list | exact kit_tuple_tuple | exact kit_tuple_dict | exact kit_dict_int | exact kit_dict_bool | exact kit_dict_str | exact kit_dict_list | exact kit_dict_tuple | exact kit_dict_dict)
local macro_rules | `(tactic| walk_at "ty") => `(tactic| first | assumption | exact tyx_str | exact tyx_int | exact tyx_bl | exact tyx_non | exact tyx_lst (by walk_at "look") | exact tyx_tup (by walk_at "look") | exact tyx_dK (by walk_at "look"))
local macro_rules | `(tactic| walk_at "s") => `(tactic| first
  | refine ⟨_, rfl, ?_⟩
  | refine ⟨_, _, rfl, rfl, ?_⟩
  | refine ⟨_, _, _, _, rfl, rfl, SqL.of (by walk_at "look"), by rfl, ?_⟩
  | refine ⟨_, _, _, _, rfl, rfl, SqT.of (by walk_at "look"), by rfl, ?_⟩
  | refine ⟨_, _, _, _, rfl, rfl, by walk_at "look", by rfl, ?_⟩
  | refine ⟨_, _, rfl, by walk_at "lenv", ?_⟩
  | refine Or.inl ⟨_, rfl, ?_⟩
  | refine ⟨_, _, _, _, _, rfl, ClsV.ty _, by walk_at "ty", by walk_at "kit", ?_⟩
  | refine And.intro (by walk_at "cond") ?_
  | refine ⟨_, _, rfl, SqT.of (by walk_at "look"), rfl, ?_⟩
  | refine ⟨_, _, rfl, SqL.of (by walk_at "look"), rfl, ?_⟩
  | refine And.intro (Or.inl ⟨rfl, _, SqL.of (by walk_at "look")⟩) ?_
  | refine ⟨_, _, _, rfl, rfl, by walk_at "look", by walk_at "cond", ?_⟩
  | refine ⟨_, _, _, _, rfl, rfl, by walk_at "look", by walk_at "look", by walk_at "cond", ?_⟩
  | refine And.intro ⟨_, rfl⟩ ?_
  | refine And.intro ⟨_, SqL.of (by walk_at "look")⟩ ?_
  | refine ⟨_, _, rfl, SqL.of (by walk_at "look"), ?_⟩
  | refine ⟨_, _, rfl, (by assumption : SqL _ _ _ _), ?_⟩
  | refine ⟨_, by walk_at "look", by walk_at "cond", ?_⟩
  | refine ⟨_, _, rfl, Or.inr (SqT.of (by walk_at "look")), ?_⟩
  | refine ⟨_, _, rfl, Or.inl (SqL.of (by walk_at "look")), ?_⟩
  | refine ⟨_, _, rfl, ?_⟩
  | refine ⟨_, _, _, rfl, by walk_at "look", by assumption, ?_⟩
  | refine ⟨_, _, true, _, _, rfl, rfl, ClsV.own _, kit_own (by assumption) (by assumption), rfl, by walk_at "look", ?_⟩
  | refine ⟨_, _, _, _, rfl, ErAt.same (by assumption) (by walk_at "sames"), by assumption, by assumption, ?_⟩
  | refine ⟨_, _, _, _, rfl, ErAt.same (by assumption) (by walk_at "sames"), by assumption, by assumption, by assumption, ?_⟩
  | refine if_t (by first | rfl | assumption | decide) ?_
  | refine if_f (by assumption) ?_
  | refine if_f (by first | decide | exact Bool.false_ne_true) ?_
  | refine fun (_ : _ ≠ sysModules) => ?_
  | refine fun (_ : ErAt _ _ _ _) => ?_
  | refine fun _ _ => ?_)

set_option maxHeartbeats 0 in
theorem ok_l_kinds_right (PF : Prg P) (T : Txt K mg A) : FnG P w K mg base CX0 10 A.l_kinds_right (spTurn (3 * Cst 2)) := by
  obtain ⟨fd, F⟩ := T.F_l_kinds_right
  refine Fun_okN F sc_l_kinds_right (fun vs H Q E h => ?_) (fun _ _ _ _ _ _ us hl => match us, hl with | [_], _ => rfl) (fun cdv A' outer s H vs Q E hr hg h => ?_)
  · obtain ⟨_, _, rfl, _⟩ := h
    rfl
  obtain ⟨W, m, rfl, hW, hm, q⟩ := h
  obtain ⟨fdK, FA_Kept, _, kb_Kept⟩ := ini_Kept (w := w) (base := base) PF T
  obtain ⟨fdL, FA_Lost, _, kb_Lost⟩ := ini_Lost (w := w) (base := base) PF T
  refine ⟨_, ((pss_cons (ps_par (i := 1) (j := 2) (by rfl) sc_l_kinds_right.nd rfl rfl (by decide) rfl rfl (pa_cons (pe_callGd (ok_l_value T 2) (hr.mono (by decide)) hg rfl T.m_l_value T.k_l_value pass0 (pa_cons (pv 0) (pa_cons pe_int pa_nil))) (pa_cons (pe_callGd (ok_l_value T 2) (hr.mono (by decide)) hg rfl T.m_l_value T.k_l_value pass0 (pa_cons (pv 0) (pa_cons pe_int pa_nil))) pa_nil)) (by rfl))
    (pss_cons (ps_set (i := 3) sc_l_kinds_right.nd rfl (Or.inl rfl) (pe_callGd (ok_l_value T 2) (hr.mono (by decide)) hg rfl T.m_l_value T.k_l_value pass0 (pa_cons (pv 0) (pa_cons pe_int pa_nil))))
    (pss_cons (ps_par (i := 4) (j := 5) (by rfl) sc_l_kinds_right.nd rfl rfl (by decide) rfl rfl (pa_cons (pe_makeG T.Mk_Kept (fn_Kept_init PF T) (hr.mono (by decide)) hg rfl T.m_Kept (pa_cons (pv 1) (pa_cons (pv 2) (pa_cons (pv 3) pa_nil)))) (pa_cons (pe_makeGK (js := [1, 2, 0]) T.Mk_Kept FA_Kept (by decide) kb_Kept (hr.mono (by decide)) hg rfl T.m_Kept (pk_cons (pv 3) (pk_cons (pv 1) (pk_cons (pv 2) pk_nil)))) pa_nil)) (by rfl))
    (pss_cons (ps_par (i := 6) (j := 7) (by rfl) sc_l_kinds_right.nd rfl rfl (by decide) rfl rfl (pa_cons (pe_makeGK (js := [0, 1, 2]) T.Mk_Lost FA_Lost (by decide) kb_Lost (hr.mono (by decide)) hg rfl T.m_Lost (pk_cons (pv 1) (pk_cons (pv 2) (pk_cons (pv 3) pk_nil)))) (pa_cons (pe_makeG T.Mk_Held (fn_Held_init PF T) (hr.mono (by decide)) hg rfl T.m_Held (pa_cons (pv 1) (pa_cons (pv 2) pa_nil))) pa_nil)) (by rfl))
    (pss_cons (ps_par (i := 8) (j := 9) (by rfl) sc_l_kinds_right.nd rfl rfl (by decide) rfl rfl (pa_cons (pe_makeG T.Mk_Broken (fn_Broken_init PF T) (hr.mono (by decide)) hg rfl T.m_Broken (pa_cons (pv 1) (pa_cons (pv 2) pa_nil))) (pa_cons (pe_makeG T.Mk_Holds (fn_Holds_init PF T) (hr.mono (by decide)) hg rfl T.m_Holds (pa_cons (pv 1) pa_nil)) pa_nil)) (by rfl))
    (pss_cons (ps_set (i := 10) sc_l_kinds_right.nd rfl (Or.inl rfl) (pe_lst (pa_cons (pe_fld (pv 4) rfl) (pa_cons (pe_fld (pv 4) rfl) (pa_cons (pe_fld (pv 4) rfl) (pa_cons (pe_fld (pv 6) rfl) (pa_cons (pe_fld (pv 6) rfl) (pa_cons (pe_fld (pv 6) rfl) (pa_cons (pe_fld (pv 7) rfl) (pa_cons (pe_fld (pv 7) rfl) pa_nil))))))))))
    (pss_cons (ps_set (i := 10) sc_l_kinds_right.nd rfl (Or.inl rfl) (pe_op op_cat (pv 10) (pe_lst (pa_cons (pe_fld (pv 8) rfl) (pa_cons (pe_fld (pv 8) rfl) (pa_cons (pe_fld (pv 9) rfl) pa_nil))))))
    (pss_cons (ps_set (i := 11) sc_l_kinds_right.nd rfl (Or.inl rfl) (pe_lst (pa_cons (pv 1) (pa_cons (pv 2) (pa_cons (pv 3) (pa_cons (pv 1) (pa_cons (pv 2) (pa_cons (pv 3) (pa_cons (pv 1) (pa_cons (pv 2) (pa_cons (pv 1) (pa_cons (pv 2) (pa_cons (pv 1) pa_nil)))))))))))))
    (pss_cons (ps_if (PW.pt (pw_or (pt_cmpR op_ne (pe_callB (MyD.call_reprR T.sm hg hr.units) (by rfl) T.n_repr (by decide +kernel) (pa_cons (pv 10) pa_nil)) (pe_callB (MyD.call_reprR T.sm hg hr.units) (by rfl) T.n_repr (by decide +kernel) (pa_cons (pe_lc (own := [(("_law_value_here" : PySem.Str), 12)]) rfl sc_l_kinds_right.nd (pi_list (pv 11)) (blkOk_by (own := [(("_law_value_here" : PySem.Str), 12)]) (N := [("_law_tray_here" : PySem.Str), ("_law_one" : PySem.Str), ("_law_two" : PySem.Str), ("_law_three" : PySem.Str), ("_law_kept" : PySem.Str), ("_law_named" : PySem.Str), ("_law_lost" : PySem.Str), ("_law_held" : PySem.Str), ("_law_broken" : PySem.Str), ("_law_holding" : PySem.Str), ("_law_told" : PySem.Str), ("_law_due" : PySem.Str), ("_law_value_here" : PySem.Str)]) (sc := defScope s_l_kinds_right) (by decide +kernel)) (fun _ _ _ _ _ => (pg_name (i := 12) sc_l_kinds_right.nd rfl (Or.inl rfl))) (fun _ _ _ _ _ => pts_nil) (fun _ _ _ _ _ => (pe_callGd (ok_l_fixed T 2) (hr.mono (by decide)) hg rfl T.m_l_fixed T.k_l_fixed pass0 (pa_cons (pv 12) pa_nil)))) pa_nil)) (nomark _)) (pw_or (pt_not (pt_cmpR (MyP.op_ownEq T.isq (fn_Paper_eq T) (hr.mono (by decide)) hg) (pv 4) (pv 5) (nomark _))) (pw_or1 (pt_cmpR (MyP.op_ownEq T.isq (fn_Paper_eq T) (hr.mono (by decide)) hg) (pv 4) (pv 7) (nomark _)))))) (pss_one (ps_ret pe_bl)) pss_nil)
    (pss_cons (ps_if (pt_cmpR (op_neD hr.units) (pe_lst (pa_cons (pe_fld (pv 4) rfl) (pa_cons (pe_fld (pv 6) rfl) (pa_cons (pe_fld (pv 7) rfl) (pa_cons (pe_fld (pv 8) rfl) (pa_cons (pe_fld (pv 9) rfl) pa_nil)))))) (pe_lst (pa_cons pe_str (pa_cons pe_str (pa_cons pe_str (pa_cons pe_str (pa_cons pe_str pa_nil)))))) (nomark _)) (pss_one (ps_ret pe_bl)) pss_nil)
    (pss_cons (ps_if (pt_cmpR (op_neD hr.units) (pe_lst (pa_cons (pe_callTy (MyP.call_boolO (n := 1) (hr.mono (by decide)) hg) (by rfl) T.n_bool (by decide +kernel) (pa_cons (pv 4) pa_nil)) (pa_cons (pe_callTy (MyP.call_boolO (n := 1) (hr.mono (by decide)) hg) (by rfl) T.n_bool (by decide +kernel) (pa_cons (pv 6) pa_nil)) (pa_cons (pe_callTy (MyP.call_boolO (n := 1) (hr.mono (by decide)) hg) (by rfl) T.n_bool (by decide +kernel) (pa_cons (pv 7) pa_nil)) (pa_cons (pe_callTy (MyP.call_boolO (n := 1) (hr.mono (by decide)) hg) (by rfl) T.n_bool (by decide +kernel) (pa_cons (pv 8) pa_nil)) (pa_cons (pe_callTy (MyP.call_boolO (n := 1) (hr.mono (by decide)) hg) (by rfl) T.n_bool (by decide +kernel) (pa_cons (pv 9) pa_nil)) pa_nil)))))) (pe_lst (pa_cons pe_bl (pa_cons pe_bl (pa_cons pe_bl (pa_cons pe_bl (pa_cons pe_bl pa_nil)))))) (nomark _)) (pss_one (ps_ret pe_bl)) pss_nil)
    (pss_cons (ps_if (PW.pt (pw_or (pt_cmpR (MyP.op_ownEq T.isq (fn_Paper_eq T) (hr.mono (by decide)) hg) (pe_makeG T.Mk_Paper (fn_Paper_init T) (hr.mono (by decide)) hg rfl T.m_Paper (pa_cons pe_str (pa_cons (pv 1) (pa_cons (pv 2) (pa_cons (pv 3) pa_nil))))) (pv 4) (nomark _)) (pw_or (pt_cmpR (MyP.op_ownEq T.isq (fn_Paper_eq T) (hr.mono (by decide)) hg) (pv 6) (pe_makeG T.Mk_Denial (fn_Paper_init T) (hr.mono (by decide)) hg rfl T.m_Denial (pa_cons pe_str (pa_cons (pv 1) (pa_cons (pv 2) (pa_cons (pv 3) pa_nil))))) (nomark _)) (pw_or1 (pt_cmpR (MyP.op_ownEq T.isq (fn_Paper_eq T) (hr.mono (by decide)) hg) (pv 4) (pe_makeG T.Mk_Paper (fn_Paper_init T) (hr.mono (by decide)) hg rfl T.m_Paper (pa_cons pe_str (pa_cons (pv 1) (pa_cons (pv 2) (pa_cons (pv 3) pa_nil))))) (nomark _)))))) (pss_one (ps_ret pe_bl)) pss_nil)
    (pss_one (ps_ret (pe_and (pe_cmpR op_eq (pe_callB (MyD.call_reprR T.sm hg hr.units) (by rfl) T.n_repr (by decide +kernel) (pa_cons (pe_fld (pv 4) rfl) pa_nil)) (pe_callB (MyD.call_reprR T.sm hg hr.units) (by rfl) T.n_repr (by decide +kernel) (pa_cons (pe_callTy call_tuple_of (by rfl) T.n_tuple (by decide +kernel) (pa_cons (pe_lc (own := [(("_law_value_here" : PySem.Str), 12)]) rfl sc_l_kinds_right.nd (pi_list (pe_lst (pa_cons (pv 1) (pa_cons (pv 2) (pa_cons (pv 3) pa_nil))))) (blkOk_by (own := [(("_law_value_here" : PySem.Str), 12)]) (N := [("_law_tray_here" : PySem.Str), ("_law_one" : PySem.Str), ("_law_two" : PySem.Str), ("_law_three" : PySem.Str), ("_law_kept" : PySem.Str), ("_law_named" : PySem.Str), ("_law_lost" : PySem.Str), ("_law_held" : PySem.Str), ("_law_broken" : PySem.Str), ("_law_holding" : PySem.Str), ("_law_told" : PySem.Str), ("_law_due" : PySem.Str), ("_law_value_here" : PySem.Str)]) (sc := defScope s_l_kinds_right) (by decide +kernel)) (fun _ _ _ _ _ => (pg_name (i := 12) sc_l_kinds_right.nd rfl (Or.inl rfl))) (fun _ _ _ _ _ => pts_nil) (fun _ _ _ _ _ => (pe_callGd (ok_l_fixed T 2) (hr.mono (by decide)) hg rfl T.m_l_fixed T.k_l_fixed pass0 (pa_cons (pv 12) pa_nil)))) pa_nil)) pa_nil)) (nomark _)) (pe_one (pe_callB call_isi (by rfl) T.n_isinstance (by decide +kernel) (pa_cons (pv 6) (pa_cons (pe_glob (v := .ref A.c_Denial) (u := .ref A.c_Denial) rfl T.m_Denial rfl) pa_nil)))))))))))))))))))), ?_⟩
  have c2 : Cst 2 = 39 := rfl
  obtain ⟨oW, hoW⟩ := hW.at
  repeat walk_at "s"
  refine Iv.mk ⟨W, m, rfl, hW, by omega, fun H1 v1 d1 W1 K1 dp1 ok1 un1 => ?_⟩
  refine ⟨_, rfl, Iv.mk ⟨W, m + Cst 2, rfl, W1, by omega, fun H2 v2 d2 W2 K2 dp2 ok2 un2 => ?_⟩⟩
  refine ⟨_, _, rfl, ?_⟩
  refine ⟨_, rfl, Iv.mk ⟨W, m + Cst 2 + Cst 2, rfl, W2, by omega, fun H3 v3 d3 W3 K3 dp3 ok3 un3 => ?_⟩⟩
  obtain ⟨oW1, hoW1⟩ := W1.at
  have q1 : DpR H3 v1 d1 := (dp_w (dp_w dp1 hoW K2) hoW K3).same nw_all
  have q2 : DpR H3 v2 d2 := (dp_w dp2 hoW1 K3).same nw_all
  have q3 : DpR H3 v3 d3 := dp3.same nw_all
  have WE : WellAt H3 W (m + 3 * Cst 2) := W3.mono (by omega)
  clear dp1 dp2 dp3 un1 un2 un3 K1 K2 K3 W1 W2 W3 hoW hoW1 hW
  have okA : ∀ d ∈ [d1, d2, d3], Okd 4 d := fun d hd => by
    simp only [List.mem_cons, List.not_mem_nil, or_false] at hd
    rcases hd with rfl | rfl | rfl
    · exact ok1.mono 4 (by decide)
    · exact ok2.mono 4 (by decide)
    · exact ok3.mono 4 (by decide)
  have okB : ∀ d ∈ [d1, d2], Okd 4 d := fun d hd => okA d (by
    simp only [List.mem_cons, List.not_mem_nil, or_false] at hd ⊢
    rcases hd with rfl | rfl
    · exact .inl rfl
    · exact .inr (.inl rfl))
  have okC : ∀ d ∈ [d1], Okd 4 d := fun d hd => okA d (by
    simp only [List.mem_cons, List.not_mem_nil, or_false] at hd ⊢
    exact .inl hd)
  refine ⟨_, rfl, _, rfl, _, rfl, fun xk dx0 hx0 hdx0 _ => own_newQ hx0 hdx0 (fl := ["pages", "entries", "triples"]) (kc_Kept T) (xs := [v1, v2, v3]) (ds := [d1, d2, d3]) (.cons q1 (.cons q2 (.cons q3 .nil))) okA rfl (by decide) (fun H4 esk S4 Xk Pk fk => ⟨rfl, ?_⟩)⟩
  obtain ⟨e1, e2, e3, rfl, f1, f2, f3⟩ := fx3 fk
  refine ⟨_, rfl, _, rfl, _, rfl, rfl, fun xn dx0 hx0 hdx0 _ => own_newQ hx0 hdx0 (fl := ["pages", "entries", "triples"]) (kc_Kept T) (xs := [v1, v2, v3]) (ds := [d1, d2, d3]) (.cons (q1.same S4) (.cons (q2.same S4) (.cons (q3.same S4) .nil))) okA rfl (by decide) (fun H5 esn S5 Xn Pn fn => ⟨rfl, ?_⟩)⟩
  obtain rfl := fn.det fk
  have S45 := S4.trans S5
  refine ⟨_, _, rfl, ?_⟩
  refine ⟨_, rfl, _, rfl, _, rfl, rfl, fun xl dx0 hx0 hdx0 _ => own_newQ hx0 hdx0 (fl := ["number", "ranked", "kept"]) (kc_Lost T) (xs := [v1, v2, v3]) (ds := [d1, d2, d3]) (.cons (q1.same S45) (.cons (q2.same S45) (.cons (q3.same S45) .nil))) okA rfl (by decide) (fun H6 esl S6 Xl Pl fl => ⟨rfl, ?_⟩)⟩
  obtain rfl := fl.det fk
  have S46 := S45.trans S6
  refine ⟨_, rfl, _, rfl, fun xh dx0 hx0 hdx0 _ => own_newQ hx0 hdx0 (fl := ["pages", "entries"]) (kc_Held T) (xs := [v1, v2]) (ds := [d1, d2]) (.cons (q1.same S46) (.cons (q2.same S46) .nil)) okB rfl (by decide) (fun H7 esh S7 Xh Ph fh => ⟨rfl, ?_⟩)⟩
  obtain ⟨e1', e2', rfl, f1', f2'⟩ := fx2 fh
  have E1 := f1.det f1'
  subst E1
  have E2 := f2.det f2'
  subst E2
  have S47 := S46.trans S7
  refine ⟨_, _, rfl, ?_⟩
  refine ⟨_, rfl, _, rfl, fun xb dx0 hx0 hdx0 _ => own_newQ hx0 hdx0 (fl := ["first", "states"]) (kc_Broken T) (xs := [v1, v2]) (ds := [d1, d2]) (.cons (q1.same S47) (.cons (q2.same S47) .nil)) okB rfl (by decide) (fun H8 esb S8 Xb Pb fb => ⟨rfl, ?_⟩)⟩
  obtain rfl := fb.det fh
  have S48 := S47.trans S8
  refine ⟨_, rfl, fun xo dx0 hx0 hdx0 _ => own_newQ hx0 hdx0 (fl := ["triples"]) (kc_Holds T) (xs := [v1]) (ds := [d1]) (.cons (q1.same S48) .nil) okC rfl (by decide) (fun H9 eso S9 Xo Po fo => ⟨rfl, ?_⟩)⟩
  obtain ⟨e1', rfl, f1''⟩ := fx1 fo
  have E1 := f1.det f1''
  subst E1
  have S49 := S48.trans S9
  have y1 := q1.same S49
  have y2 := q2.same S49
  have y3 := q3.same S49
  have W9 := WE.same S49
  have Xl9 := Xl.same (S7.trans (S8.trans S9))
  have Xh9 := Xh.same (S8.trans S9)
  have Xb9 := Xb.same S9
  have Xk9 := Xk.same (S5.trans (S6.trans (S7.trans (S8.trans S9))))
  have Xn9 := Xn.same (S6.trans (S7.trans (S8.trans S9)))
  obtain ⟨dxk, fsk, k1, k2, k3⟩ := pap_fld (Pk.same (S5.trans (S6.trans (S7.trans (S8.trans S9)))))
  obtain ⟨dxl, fsl, l1, l2, l3⟩ := pap_fld (Pl.same (S7.trans (S8.trans S9)))
  obtain ⟨dxh, fsh, h1, h2, h3⟩ := pap_fld (Ph.same (S8.trans S9))
  obtain ⟨dxb, fsb, b1, b2, b3⟩ := pap_fld (Pb.same S9)
  obtain ⟨dxo, fso, o1, o2, o3⟩ := pap_fld Po
  clear Xl Xh Xb Xk Xn Pk Pl Ph Pb Pn Po fn fl fh fb fo WE q1 q2 q3 S45 S46 S47 S48 S49 S4 S5 S6 S7 S8 S9 f1' f2' f1''
  refine ⟨_, _, rfl, ?_⟩
  obtain ⟨vk1, kk1, dk1⟩ := k3 0 "pages" _ rfl rfl
  obtain ⟨vk2, kk2, dk2⟩ := k3 1 "entries" _ rfl rfl
  obtain ⟨vk3, kk3, dk3⟩ := k3 2 "triples" _ rfl rfl
  obtain ⟨vl1, kl1, dl1⟩ := l3 0 "number" _ rfl rfl
  obtain ⟨vl2, kl2, dl2⟩ := l3 1 "ranked" _ rfl rfl
  obtain ⟨vl3, kl3, dl3⟩ := l3 2 "kept" _ rfl rfl
  obtain ⟨vh1, kh1, dh1⟩ := h3 0 "pages" _ rfl rfl
  obtain ⟨vh2, kh2, dh2⟩ := h3 1 "entries" _ rfl rfl
  obtain ⟨vb1, kb1, db1⟩ := b3 0 "first" _ rfl rfl
  obtain ⟨vb2, kb2, db2⟩ := b3 1 "states" _ rfl rfl
  obtain ⟨vo1, ko1, do1⟩ := o3 0 "triples" _ rfl rfl
  refine ⟨_, rfl, xk, _, dxk, fsk, vk1, rfl, k1, T.O_Kept.c, T.n_Kept _ (by decide), kk1, ?_⟩
  refine ⟨_, rfl, xk, _, dxk, fsk, vk2, rfl, k1, T.O_Kept.c, T.n_Kept _ (by decide), kk2, ?_⟩
  refine ⟨_, rfl, xk, _, dxk, fsk, vk3, rfl, k1, T.O_Kept.c, T.n_Kept _ (by decide), kk3, ?_⟩
  refine ⟨_, rfl, xl, _, dxl, fsl, vl1, rfl, l1, T.O_Lost.c, T.n_Lost _ (by decide), kl1, ?_⟩
  refine ⟨_, rfl, xl, _, dxl, fsl, vl2, rfl, l1, T.O_Lost.c, T.n_Lost _ (by decide), kl2, ?_⟩
  refine ⟨_, rfl, xl, _, dxl, fsl, vl3, rfl, l1, T.O_Lost.c, T.n_Lost _ (by decide), kl3, ?_⟩
  refine ⟨_, rfl, xh, _, dxh, fsh, vh1, rfl, h1, T.O_Held.c, T.n_Held _ (by decide), kh1, ?_⟩
  refine ⟨_, rfl, xh, _, dxh, fsh, vh2, rfl, h1, T.O_Held.c, T.n_Held _ (by decide), kh2, ?_⟩
  repeat walk_at "s"
  rename_i p1 hp1
  refine ⟨xb, _, dxb, fsb, vb1, rfl, by walk_at "look", T.O_Broken.c, T.n_Broken _ (by decide), kb1, ?_⟩
  refine ⟨_, rfl, xb, _, dxb, fsb, vb2, rfl, by walk_at "look", T.O_Broken.c, T.n_Broken _ (by decide), kb2, ?_⟩
  refine ⟨_, rfl, xo, _, dxo, fso, vo1, rfl, by walk_at "look", T.O_Holds.c, T.n_Holds _ (by decide), ko1, ?_⟩
  iterate 18 walk_at "s"
  rename_i p2 hp2 p3 hp3 p4 hp4
  have S13 : Same H9 (upd (upd (upd (upd H9 p1 (.lst [vk1, vk2, vk3, vl1, vl2, vl3, vh1, vh2])) p2 (.lst [vb1, vb2, vo1])) p3 (.lst ([vk1, vk2, vk3, vl1, vl2, vl3, vh1, vh2] ++ [vb1, vb2, vo1]))) p4 (.lst [v1, v2, v3, v1, v2, v3, v1, v2, v1, v2, v1])) := Same.new (Same.new (Same.new (Same.new (Same.refl _) hp1) hp2) hp3) hp4
  have hT : DpRs H9 ([vk1, vk2, vk3, vl1, vl2, vl3, vh1, vh2] ++ [vb1, vb2, vo1]) [e1, e2, e3, e1, e2, e3, e1, e2, e1, e2, e1] := .cons dk1 (.cons dk2 (.cons dk3 (.cons dl1 (.cons dl2 (.cons dl3 (.cons dh1 (.cons dh2 (.cons db1 (.cons db2 (.cons do1 .nil))))))))))
  have s1 := f1.shf ok1
  have s2 := f2.shf ok2
  have s3 := f3.shf ok3
  have sE : ∀ e ∈ [e1, e2, e3, e1, e2, e3, e1, e2, e1, e2, e1], Shf (2 * 2) (Ln 2) e := fun e he => by
    simp only [List.mem_cons, List.not_mem_nil, or_false] at he
    rcases he with rfl | rfl | rfl | rfl | rfl | rfl | rfl | rfl | rfl | rfl | rfl <;> assumption
  have sL := Shw.list (m := 11) (by exact Nat.le_of_ble_eq_true rfl) (fun d hd => (sE d hd).toShw)
  have r1 : (PyData.list [e1, e2, e3, e1, e2, e3, e1, e2, e1, e2, e1]).showable = true := sL.s
  have r2 : (PyData.list [e1, e2, e3, e1, e2, e3, e1, e2, e1, e2, e1]).depth ≤ 60 := Nat.le_trans sL.d (by decide)
  have r3 : (PyData.list [e1, e2, e3, e1, e2, e3, e1, e2, e1, e2, e1]).shown.length ≤ sizeLine := line_le (Nat.le_trans sL.l (by decide))
  refine ⟨_, .list [e1, e2, e3, e1, e2, e3, e1, e2, e1, e2, e1], rfl, .lst (.inl (by walk_at "look")) (hT.same S13), r1, r2, r3, ?_⟩
  have hdue : upd (upd (upd (upd H9 p1 (.lst [vk1, vk2, vk3, vl1, vl2, vl3, vh1, vh2])) p2 (.lst [vb1, vb2, vo1])) p3 (.lst ([vk1, vk2, vk3, vl1, vl2, vl3, vh1, vh2] ++ [vb1, vb2, vo1]))) p4 (.lst [v1, v2, v3, v1, v2, v3, v1, v2, v1, v2, v1]) p4 = some (.lst [v1, v2, v3, v1, v2, v3, v1, v2, v1, v2, v1]) := upd_same
  generalize upd (upd (upd (upd H9 p1 (.lst [vk1, vk2, vk3, vl1, vl2, vl3, vh1, vh2])) p2 (.lst [vb1, vb2, vo1])) p3 (.lst ([vk1, vk2, vk3, vl1, vl2, vl3, vh1, vh2] ++ [vb1, vb2, vo1]))) p4 (.lst [v1, v2, v3, v1, v2, v3, v1, v2, v1, v2, v1]) = H13 at S13 hdue ⊢
  have z1 := y1.same S13
  have z2 := y2.same S13
  have z3 := y3.same S13
  have hdd : DpRs H13 [v1, v2, v3, v1, v2, v3, v1, v2, v1, v2, v1] [d1, d2, d3, d1, d2, d3, d1, d2, d1, d2, d1] := .cons z1 (.cons z2 (.cons z3 (.cons z1 (.cons z2 (.cons z3 (.cons z1 (.cons z2 (.cons z1 (.cons z2 (.cons z1 .nil))))))))))
  have okD : ∀ d ∈ [d1, d2, d3, d1, d2, d3, d1, d2, d1, d2, d1], Okd 2 d := fun d hd => by
    simp only [List.mem_cons, List.not_mem_nil, or_false] at hd
    rcases hd with rfl | rfl | rfl | rfl | rfl | rfl | rfl | rfl | rfl | rfl | rfl <;> assumption
  have fxD : FxAll [d1, d2, d3, d1, d2, d3, d1, d2, d1, d2, d1] [e1, e2, e3, e1, e2, e3, e1, e2, e1, e2, e1] := .cons f1 (.cons f2 (.cons f3 (.cons f1 (.cons f2 (.cons f3 (.cons f1 (.cons f2 (.cons f1 (.cons f2 (.cons f1 .nil))))))))))
  have hlD : [v1, v2, v3, v1, v2, v3, v1, v2, v1, v2, v1].length = 11 := rfl
  have hlE : [d1, d2, d3, d1, d2, d3, d1, d2, d1, d2, d1].length = 11 := rfl
  generalize [v1, v2, v3, v1, v2, v3, v1, v2, v1, v2, v1] = dus at hdue hdd hlD
  generalize [d1, d2, d3, d1, d2, d3, d1, d2, d1, d2, d1] = dud at hdd okD fxD hlE
  generalize [e1, e2, e3, e1, e2, e3, e1, e2, e1, e2, e1] = due at fxD r1 r2 r3 ⊢
  have k1' := S13 _ _ k1
  have l1' := S13 _ _ l1
  have h1' := S13 _ _ h1
  have b1' := S13 _ _ b1
  have o1' := S13 _ _ o1
  have WA := W9.same S13
  have XlA := Xl9.same S13
  have XhA := Xh9.same S13
  have XkA := Xk9.same S13
  have XnA := Xn9.same S13
  clear hT sL sE hp1 hp2 hp3 hp4 k1 l1 h1 b1 o1 W9 Xl9 Xh9 Xk9 Xn9 Xb9 S13 y1 y2 y3 dk1 dk2 dk3 dl1 dl2 dl3 dh1 dh2 db1 db2 do1 kk1 kk2 kk3 kl1 kl2 kl3 kh1 kh2 kb1 kb2 ko1 k3 l3 h3 b3 o3
  clear vk1 vk2 vk3 vl1 vl2 vl3 vh1 vh2 vb1 vb2 vo1
  refine ⟨_, rfl, _, rfl, ⟨dus, SqL.of hdue⟩, ?_⟩
  intro E1 hE1
  refine lc_it (walk_list (xs := dus)) (fun i H2 => Iv (Same H13 H2 ∧ ∃ us es, H2 E1 = some (.lst us) ∧ us.length = i ∧ DpRs H2 us es ∧ FxAll (dud.take i) es))
    (Iv.mk ⟨Same.new (Same.refl _) hE1, [], [], upd_same, rfl, .nil, .nil⟩) (fun i H2 _ h => SqL.of ((show Same _ H2 from h.out.1) _ _ hdue)) ?_ ?_
  · rintro i x Ha Hb hi hI2 ⟨rfl, hx⟩
    obtain ⟨sm, us, es, hE, hw, hd1, hf⟩ := hI2.out
    obtain ⟨d, hdi, hdr⟩ := DpRs.at_ hdd hx
    have okd := okD d (List.mem_of_getElem? hdi)
    refine ⟨rfl, _, rfl, ?_⟩
    refine Iv.mk ⟨x, d, rfl, hdr.same sm, okd, fun Hc vv ee smm fxx dpp => ?_⟩
    have hE3 := smm _ _ hE
    refine ⟨us, hE3, line_lt (by omega), Iv.mk ⟨Same.put (fun b o e => smm b o (sm b o e)) hE1, us ++ [vv], es ++ [ee], upd_same, by rw [List.length_append, hw]; rfl, ?_, by rw [take_one hdi]; exact hf.snoc fxx⟩⟩
    have tupA := (hf.snoc fxx).tupA (n := 2) fun y hy => by
      rcases List.mem_append.mp hy with hy | hy
      · exact okD y (List.mem_of_mem_take hy)
      · rw [List.mem_singleton.mp hy]; exact okd
    exact DpRs.tups (fun b xs e => by rw [upd_ne (ne_of e hE3 (fun z => nomatch z))]; exact e) tupA ((hd1.same smm).snoc dpp)
  · intro Ha hI2
    obtain ⟨sm, us, es, hE, hw, hd1, hf⟩ := hI2.out
    have el : dud.take dus.length = dud := by rw [hdd.length, List.take_length]
    rw [el] at hf
    obtain rfl := hf.det fxD
    refine ⟨.ref E1, .list es, rfl, .lst (.inl hE) hd1, r1, r2, r3, ?_⟩
    have XkB := XkA.same sm
    have XnB := XnA.same sm
    have XhB := XhA.same sm
    have XlB := XlA.same sm
    have WB := WA.same sm
    have u1 := z1.same sm
    have u2 := z2.same sm
    have u3 := z3.same sm
    have k1 := sm _ _ k1'
    have l1 := sm _ _ l1'
    have h1 := sm _ _ h1'
    have b1 := sm _ _ b1'
    have o1 := sm _ _ o1'
    clear hdd okD fxD hf hd1 el hE hE1 hI2 sm hdue hlD hlE z1 z2 z3 k1' l1' h1' b1' o1' XkA XnA XhA XlA WA r1 r2 r3
    have tE : Tup (.tuple [e1, e2, e3]) := .tup (.cons (f1.tupO ok1) (.cons (f2.tupO ok2) (.cons (f3.tupO ok3) .nil)))
    have qE := tE.eqv
    have nKH : (("Kept" : Str) == "Held") = false := by decide +kernel
    have nHK : (("Held" : Str) == "Kept") = false := by decide +kernel
    have nPK : (("Paper" : Str) == "Kept") = false := by decide +kernel
    have nKP : (("Kept" : Str) == "Paper") = false := by decide +kernel
    have nLD : (("Lost" : Str) == "Denial") = false := by decide +kernel
    have nDL : (("Denial" : Str) == "Lost") = false := by decide +kernel
    iterate 2 walk_at "s"
    refine if_f (by simp) ?_
    refine ⟨_, rfl, _, rfl, own_eqP T XkB XnB (b := true) (by rw [qE]; decide +kernel) (fun h => absurd rfl h) ?_⟩
    refine ⟨_, rfl, ?_⟩
    refine ⟨_, rfl, _, rfl, own_eqP T XkB XhB (b := false) (by rw [nKH]; rfl) (fun _ => by rw [nHK]; rfl) ?_⟩
    refine ⟨_, rfl, ?_⟩
    refine ⟨_, rfl, xk, _, dxk, fsk, _, rfl, k1, T.O_Kept.c, T.n_Kept _ (by decide), k2, ?_⟩
    refine ⟨_, rfl, xl, _, dxl, fsl, _, rfl, l1, T.O_Lost.c, T.n_Lost _ (by decide), l2, ?_⟩
    refine ⟨_, rfl, xh, _, dxh, fsh, _, rfl, h1, T.O_Held.c, T.n_Held _ (by decide), h2, ?_⟩
    refine ⟨_, rfl, xb, _, dxb, fsb, _, rfl, b1, T.O_Broken.c, T.n_Broken _ (by decide), b2, ?_⟩
    refine ⟨_, rfl, xo, _, dxo, fso, _, rfl, o1, T.O_Holds.c, T.n_Holds _ (by decide), o2, ?_⟩
    refine ⟨line_le (by exact Nat.le_of_ble_eq_true rfl), fun w1 hw1 => ?_⟩
    refine ⟨line_le (by exact Nat.le_of_ble_eq_true rfl), fun w2 hw2 => ?_⟩
    refine ⟨.list ((["kept", "lost", "held", "broken", "holds"] : List Str).map PyData.str), .list ((["kept", "lost", "held", "broken", "holds"] : List Str).map PyData.str), .lst (SqL.of (by walk_at "look")) (dpAll_strs ["kept", "lost", "held", "broken", "holds"]), .lst (SqL.of upd_same) (dpAll_strs ["kept", "lost", "held", "broken", "holds"]), by decide +kernel, by decide +kernel, ?_⟩
    refine ⟨_, rfl, ?_⟩
    refine if_f (by decide +kernel) ?_
    have SW := Same.new (o := .lst [V.str "kept", V.str "lost", V.str "held", V.str "broken", V.str "holds"]) (Same.new (o := .lst [V.str "kept", V.str "lost", V.str "held", V.str "broken", V.str "holds"]) (Same.refl Ha) hw1) hw2
    generalize upd (upd Ha w1 (.lst [V.str "kept", V.str "lost", V.str "held", V.str "broken", V.str "holds"])) w2 (.lst [V.str "kept", V.str "lost", V.str "held", V.str "broken", V.str "holds"]) = HW at SW ⊢
    refine ⟨_, rfl, xk, _, dxk, fsk, true, rfl, SW _ _ k1, ⟨A.b_Paper, T.b_Kept.1, T.b_Kept.2, fn_Paper_bool T⟩, ?_⟩
    refine ⟨_, rfl, xl, _, dxl, fsl, false, rfl, SW _ _ l1, ⟨A.b_Denial, T.b_Lost.1, T.b_Lost.2, fn_Denial_bool T⟩, ?_⟩
    refine ⟨_, rfl, xh, _, dxh, fsh, true, rfl, SW _ _ h1, ⟨A.b_Paper, T.b_Held.1, T.b_Held.2, fn_Paper_bool T⟩, ?_⟩
    refine ⟨_, rfl, xb, _, dxb, fsb, false, rfl, SW _ _ b1, ⟨A.b_Denial, T.b_Broken.1, T.b_Broken.2, fn_Denial_bool T⟩, ?_⟩
    refine ⟨_, rfl, xo, _, dxo, fso, true, rfl, SW _ _ o1, ⟨A.b_Paper, T.b_Holds.1, T.b_Holds.2, fn_Paper_bool T⟩, ?_⟩
    refine ⟨line_le (by exact Nat.le_of_ble_eq_true rfl), fun w3 hw3 => ?_⟩
    refine ⟨line_le (by exact Nat.le_of_ble_eq_true rfl), fun w4 hw4 => ?_⟩
    refine ⟨.list [.bool true, .bool false, .bool true, .bool false, .bool true], .list [.bool true, .bool false, .bool true, .bool false, .bool true], .lst (SqL.of (by walk_at "look")) (.cons (.bl _) (.cons (.bl _) (.cons (.bl _) (.cons (.bl _) (.cons (.bl _) .nil))))), .lst (SqL.of upd_same) (.cons (.bl _) (.cons (.bl _) (.cons (.bl _) (.cons (.bl _) (.cons (.bl _) .nil))))), by decide +kernel, by decide +kernel, ?_⟩
    refine ⟨_, rfl, ?_⟩
    refine if_f (by decide +kernel) ?_
    have SV := Same.new (o := .lst [V.bl true, V.bl false, V.bl true, V.bl false, V.bl true]) (Same.new (o := .lst [V.bl true, V.bl false, V.bl true, V.bl false, V.bl true]) SW hw3) hw4
    generalize upd (upd HW w3 (.lst [V.bl true, V.bl false, V.bl true, V.bl false, V.bl true])) w4 (.lst [V.bl true, V.bl false, V.bl true, V.bl false, V.bl true]) = HV at SV ⊢
    have t1 := u1.same SV
    have t2 := u2.same SV
    have t3 := u3.same SV
    have Xk0 := XkB.same SV
    have Xl0 := XlB.same SV
    have W0 := WB.same SV
    clear SW hw1 hw2 hw3 hw4 SV XkB XlB XnB XhB u1 u2 u3 WB k1 h1 b1 o1
    refine ⟨_, rfl, _, rfl, _, rfl, fun xp dx0 hx0 hdx0 _ => pap_newQ hx0 hdx0 (kc_Paper T) (xs := [v1, v2, v3]) (ds := [d1, d2, d3]) (.cons t1 (.cons t2 (.cons t3 .nil))) okA (Nat.le_refl 3) (fun HD es1 SD XD fD => ⟨rfl, ?_⟩)⟩
    refine ⟨_, rfl, own_eqP T XD (Xk0.same SD) (b := false) (by rw [nPK]; rfl) (fun _ => by rw [nKP]; rfl) ?_⟩
    refine ⟨_, rfl, ?_⟩
    refine ⟨_, rfl, _, rfl, _, rfl, _, rfl, fun xq dx0 hx0 hdx0 _ => pap_newQ hx0 hdx0 (kc_Denial T) (xs := [v1, v2, v3]) (ds := [d1, d2, d3]) (.cons (t1.same SD) (.cons (t2.same SD) (.cons (t3.same SD) .nil))) okA (Nat.le_refl 3) (fun HF es2 SF XF fF => ⟨rfl, ?_⟩)⟩
    refine own_eqP T ((Xl0.same SD).same SF) XF (b := false) (by rw [nLD]; rfl) (fun _ => by rw [nDL]; rfl) ?_
    refine ⟨_, rfl, ?_⟩
    have SDF := SD.trans SF
    refine ⟨_, rfl, _, rfl, _, rfl, _, rfl, fun xr dx0 hx0 hdx0 _ => pap_newQ hx0 hdx0 (kc_Paper T) (xs := [v1, v2, v3]) (ds := [d1, d2, d3]) (.cons (t1.same SDF) (.cons (t2.same SDF) (.cons (t3.same SDF) .nil))) okA (Nat.le_refl 3) (fun HG es3 SG XG fG => ⟨rfl, ?_⟩)⟩
    refine own_eqP T (Xk0.same (SDF.trans SG)) XG (b := false) (by rw [nKP]; rfl) (fun _ => by rw [nPK]; rfl) ?_
    refine ⟨_, rfl, ?_⟩
    have SZ := SDF.trans SG
    have Xk2 := Xk0.same SZ
    have Xl2 := Xl0.same SZ
    have W2 := W0.same SZ
    have m1 := t1.same SZ
    have m2 := t2.same SZ
    have m3 := t3.same SZ
    clear SD SF SDF SG SZ XD XF XG fD fF fG t1 t2 t3 Xk0 Xl0 W0
    have g1s := f1.shf ok1
    have g2s := f2.shf ok2
    have g3s := f3.shf ok3
    have shE := Shf.tuple (n := 2 * 2) (l := Ln 2) (m := 3) (ds := [e1, e2, e3]) (by exact Nat.le_refl 3) (fun e he => by
      simp only [List.mem_cons, List.not_mem_nil, or_false] at he
      rcases he with rfl | rfl | rfl <;> assumption)
    have r1 : (PyData.tuple [e1, e2, e3]).showable = true := shE.s
    have r2 : (PyData.tuple [e1, e2, e3]).depth ≤ 60 := Nat.le_trans shE.d (by decide)
    have r3 : (PyData.tuple [e1, e2, e3]).shown.length ≤ sizeLine := line_le (Nat.le_trans shE.l (by decide))
    obtain ⟨kc, ⟨ak, flk, eak, dxk', fsk', ppk, vsk, j1, j2, j3, j4, j5, j6, j7⟩, shk⟩ := Xk2
    cases eak
    refine ⟨_, rfl, xk, _, dxk', fsk', _, rfl, j1, kc.o.c, kc.p, j3, ?_⟩
    refine ⟨_, .tuple [e1, e2, e3], rfl, .tup j4 j5, r1, r2, r3, ?_⟩
    refine ⟨_, rfl, _, rfl, _, rfl, line_le (by exact Nat.le_of_ble_eq_true rfl), fun p5 hp5 => ⟨_, rfl, ⟨_, SqL.of upd_same⟩, ?_⟩⟩
    have SP := Same.new (o := .lst [v1, v2, v3]) (Same.refl HG) hp5
    have hdd : DpRs (upd HG p5 (.lst [v1, v2, v3])) [v1, v2, v3] [d1, d2, d3] := .cons (m1.same SP) (.cons (m2.same SP) (.cons (m3.same SP) .nil))
    have okD : ∀ d ∈ [d1, d2, d3], Okd 2 d := fun d hd => by
      simp only [List.mem_cons, List.not_mem_nil, or_false] at hd
      rcases hd with rfl | rfl | rfl <;> assumption
    have fxD : FxAll [d1, d2, d3] [e1, e2, e3] := .cons f1 (.cons f2 (.cons f3 .nil))
    have hdue : upd HG p5 (.lst [v1, v2, v3]) p5 = some (.lst [v1, v2, v3]) := upd_same
    have hlD : [v1, v2, v3].length = 3 := rfl
    have W3 := W2.same SP
    have Xl3 := Xl2.same SP
    clear W2 Xl2 m1 m2 m3 j1 j2 j3 j4 j5 j6 j7 shk okA okB okC tE qE f1 f2 f3 g1s g2s g3s shE
    generalize upd HG p5 (.lst [v1, v2, v3]) = H14 at hdd hdue W3 Xl3 SP ⊢
    generalize [v1, v2, v3] = dus2 at hdd hdue hlD
    generalize [d1, d2, d3] = dud2 at hdd okD fxD
    generalize [e1, e2, e3] = due2 at fxD r1 r2 r3 ⊢
    intro E1 hE1
    refine lc_it (walk_list (xs := dus2)) (fun i H2 => Iv (Same H14 H2 ∧ ∃ us es, H2 E1 = some (.lst us) ∧ us.length = i ∧ DpRs H2 us es ∧ FxAll (dud2.take i) es))
      (Iv.mk ⟨Same.new (Same.refl _) hE1, [], [], upd_same, rfl, .nil, .nil⟩) (fun i H2 _ h => SqL.of ((show Same _ H2 from h.out.1) _ _ hdue)) ?_ ?_
    · rintro i x Ha Hb hi hI2 ⟨rfl, hx⟩
      obtain ⟨sm, us, es, hE, hw, hd1, hf⟩ := hI2.out
      obtain ⟨d, hdi, hdr⟩ := DpRs.at_ hdd hx
      have okd := okD d (List.mem_of_getElem? hdi)
      refine ⟨rfl, _, rfl, ?_⟩
      refine Iv.mk ⟨x, d, rfl, hdr.same sm, okd, fun Hc vv ee smm fxx dpp => ?_⟩
      have hE3 := smm _ _ hE
      refine ⟨us, hE3, line_lt (by omega), Iv.mk ⟨Same.put (fun b o e => smm b o (sm b o e)) hE1, us ++ [vv], es ++ [ee], upd_same, by rw [List.length_append, hw]; rfl, ?_, by rw [take_one hdi]; exact hf.snoc fxx⟩⟩
      have tupA := (hf.snoc fxx).tupA (n := 2) fun y hy => by
        rcases List.mem_append.mp hy with hy | hy
        · exact okD y (List.mem_of_mem_take hy)
        · rw [List.mem_singleton.mp hy]; exact okd
      exact DpRs.tups (fun b xs e => by rw [upd_ne (ne_of e hE3 (fun z => nomatch z))]; exact e) tupA ((hd1.same smm).snoc dpp)
    · intro Hz hI2
      obtain ⟨sm, us, es, hE, hw, hd1, hf⟩ := hI2.out
      have el : dud2.take dus2.length = dud2 := by rw [hdd.length, List.take_length]
      rw [el] at hf
      obtain rfl := hf.det fxD
      refine ⟨_, _, rfl, .inl ⟨SqL.of hE, fun l hl2 => ?_⟩⟩
      have SY := Same.new (o := .tup us) sm hl2
      refine ⟨_, .tuple es, rfl, .tup upd_same (hd1.same (Same.new (Same.refl _) hl2)), r1, r2, r3, ?_⟩
      iterate 2 walk_at "s"
      refine if_t (decide_eq_true rfl) ?_
      have Xl4 := Xl3.same SY
      obtain ⟨_, ⟨al, fll, eal, dxl', fsl', ppl, vsl, i1, _⟩, _⟩ := Xl4
      cases eal
      refine ⟨_, rfl, _, _, _, _, true, rfl, ClsV.own _, T.O_Lost.ty i1, T.kD_Lost, ?_⟩
      exact q _ (W3.same SY)
end
end K02

namespace K02
open PySem PySem.Spec PyProof.Rows L2 MyL MyD MyP
def spLaw (K : PySem.W.Frag) : Sp := fun vs H Q _ => ∃ (a : Addr) (ns : List Int), vs = [.ref a] ∧ SqL K H a (ns.map V.int) ∧ ns.length ≤ 63 ∧ ∀ H', Q (.bl true) H'
theorem fl1 {d1 d2 : PyData} {es : List PyData} (h : FxAll [.list [d1, d2]] es) : ∃ e1 e2, es = [.tuple [e1, e2]] ∧ Fx d1 e1 ∧ Fx d2 e2 := by
  obtain ⟨e, rfl, f⟩ := fx1 h
  cases f with
  | flat f => cases f
  | list f =>
    obtain ⟨e1, e2, rfl, f1, f2⟩ := fx2 f
    exact ⟨e1, e2, rfl, f1, f2⟩
theorem ft1 {d1 d2 : PyData} {es : List PyData} (h : FxAll [.tuple [d1, d2]] es) : ∃ e1 e2, es = [.tuple [e1, e2]] ∧ Fx d1 e1 ∧ Fx d2 e2 := by
  obtain ⟨e, rfl, f⟩ := fx1 h
  cases f with
  | flat f => cases f
  | tup f =>
    obtain ⟨e1, e2, rfl, f1, f2⟩ := fx2 f
    exact ⟨e1, e2, rfl, f1, f2⟩
theorem fx_int {i : Int} {e : PyData} (h : Fx (.int i) e) : e = .int i := by
  cases h
  rfl
theorem fx_bl {i : Bool} {e : PyData} (h : Fx (.bool i) e) : e = .bool i := by
  cases h
  rfl
theorem eq_a {e : PyData} (h : PyData.eqv e e = true) : PyData.eqv (.tuple [.tuple [e, .int 1]]) (.tuple [.tuple [e, .bool true]]) = true := by
  simp only [PyData.eqv, PyData.eqvAll, h, Bool.and_true, Bool.true_and]
  decide +kernel
theorem eq_b {e : PyData} : PyData.eqv (.tuple [.tuple [e, .int 1]]) (.tuple [.tuple [e, .int 2]]) = false := by
  have e2 : ((1 : Int) == 2) = false := by decide
  simp only [PyData.eqv, PyData.eqvAll, e2, Bool.and_true, Bool.true_and, Bool.and_false, Bool.false_and]
theorem eq_c {e : PyData} (h : PyData.eqv e e = true) : PyData.eqv (.tuple [.int 0, e]) (.tuple [.bool false, e]) = true := by
  simp only [PyData.eqv, PyData.eqvAll, h, Bool.and_true, Bool.true_and]
  decide +kernel
section
variable {P : Program} {w : World} {K : PySem.W.Frag} {mg : Str → Option Value} {base : Heap} {A : Adr}
local macro_rules | `(tactic| walk_at "sames") => `(tactic| repeat (first
  | exact Same.refl _
  | refine Same.new ?_ (by assumption)
  | refine Same.trans ?_ (by assumption)))
local macro_rules | `(tactic| walk_at "ne") => `(tactic| first
  | assumption
  | exact Ne.symm (by assumption)
  | exact ne_new (by assumption) (by walk_at "look")
  | exact ne_new' (by assumption) (by walk_at "look")
  | exact ne_of (by walk_at "look") (by walk_at "look") (by intro z; cases z))
local macro_rules | `(tactic| walk_at "look") => `(tactic| first
  | assumption
  | exact upd_same
  | (refine upd_new (by assumption) ?_
     walk_at "look")
  | (refine (upd_ne ?_).trans ?_
     · walk_at "ne"
     · walk_at "look")
  | (refine Kp.get (by assumption) ?_ ?_
     · walk_at "ne"
     · walk_at "look")
  | (refine Same.get (by assumption) ?_
     walk_at "look"))
local macro_rules | `(tactic| walk_at "lenv") => `(tactic| first
  | exact Or.inl ⟨_, SqL.of (by walk_at "look"), rfl⟩
  | exact Or.inr ⟨_, SqT.of (by walk_at "look"), rfl⟩
  | exact ⟨line_le (by omega), rfl⟩)
local macro_rules | `(tactic| walk_at "cond") => `(tactic| first
  | assumption
  | rfl
  | exact Nat.zero_le _
  | exact Nat.le_of_ble_eq_true rfl
  | decide
  | omega
  | exact line_lt (by (try simp only [List.length_map, List.length_append, List.length_cons, List.length_nil]); omega)
  | exact line_le (by (try simp only [List.length_map, List.length_append, List.length_cons, List.length_nil]); omega)
  | (dsimp only; omega)
  | exact ⟨by decide, by decide⟩
  | exact ⟨by decide, by decide, by decide⟩
  | exact Or.inl ⟨by decide, by decide⟩
  | exact Or.inl ⟨by omega, by omega⟩
  | exact Or.inr ⟨by omega, by omega⟩)
local macro_rules | `(tactic| walk_at "kit") => `(tactic| first | assumption | exact kit_NoneType_int | exact kit_NoneType_bool | exact kit_NoneType_str | exact kit_NoneType_list | exact kit_NoneType_tuple | exact kit_NoneType_dict | exact kit_bool_int | exact kit_bool_bool | exact kit_bool_str | exact kit_bool_list | exact kit_bool_tuple | exact kit_bool_dict | exact kit_int_int | exact kit_int_bool | exact kit_int_str | exact kit_int_list | exact kit_int_tuple | exact kit_int_dict | exact kit_str_int | exact kit_str_bool | exact kit_str_str | exact kit_str_list | exact kit_str_tuple | exact kit_str_dict | exact kit_list_int | exact kit_list_bool | exact kit_list_str | exact kit_list_list | exact kit_list_tuple | exact kit_list_dict | exact kit_tuple_int | exact kit_tuple_bool | exact kit_tuple_str | exact kit_tuple_list | exact kit_tuple_tuple | exact kit_tuple_dict | exact kit_dict_int | exact kit_dict_bool | exact kit_dict_str | exact kit_dict_list | exact kit_dict_tuple | exact kit_dict_dict)
local macro_rules | `(tactic| walk_at "ty") => `(tactic| first | assumption | exact tyx_str | exact tyx_int | exact tyx_bl | exact tyx_non | exact tyx_lst (by walk_at "look") | exact tyx_tup (by walk_at "look") | exact tyx_dK (by walk_at "look"))
local macro_rules | `(tactic| walk_at "s") => `(tactic| first
  | refine ⟨_, rfl, ?_⟩
  | refine ⟨_, _, rfl, rfl, ?_⟩
  | refine ⟨_, _, _, _, rfl, rfl, SqL.of (by walk_at "look"), by rfl, ?_⟩
  | refine ⟨_, _, _, _, rfl, rfl, SqT.of (by walk_at "look"), by rfl, ?_⟩
  | refine ⟨_, _, _, _, rfl, rfl, by walk_at "look", by rfl, ?_⟩
  | refine ⟨_, _, rfl, by walk_at "lenv", ?_⟩
  | refine Or.inl ⟨_, rfl, ?_⟩
  | refine ⟨_, _, _, _, _, rfl, ClsV.ty _, by walk_at "ty", by walk_at "kit", ?_⟩
  | refine And.intro (by walk_at "cond") ?_
  | refine ⟨_, _, rfl, SqT.of (by walk_at "look"), rfl, ?_⟩
  | refine ⟨_, _, rfl, SqL.of (by walk_at "look"), rfl, ?_⟩
  | refine And.intro (Or.inl ⟨rfl, _, SqL.of (by walk_at "look")⟩) ?_
  | refine ⟨_, _, _, rfl, rfl, by walk_at "look", by walk_at "cond", ?_⟩
  | refine ⟨_, _, _, _, rfl, rfl, by walk_at "look", by walk_at "look", by walk_at "cond", ?_⟩
  | refine And.intro ⟨_, rfl⟩ ?_
  | refine And.intro ⟨_, SqL.of (by walk_at "look")⟩ ?_
  | refine ⟨_, _, rfl, SqL.of (by walk_at "look"), ?_⟩
  | refine ⟨_, _, rfl, (by assumption : SqL _ _ _ _), ?_⟩
  | refine ⟨_, by walk_at "look", by walk_at "cond", ?_⟩
  | refine ⟨_, _, rfl, Or.inr (SqT.of (by walk_at "look")), ?_⟩
  | refine ⟨_, _, rfl, Or.inl (SqL.of (by walk_at "look")), ?_⟩
  | refine ⟨_, _, rfl, ?_⟩
  | refine ⟨_, _, _, rfl, by walk_at "look", by assumption, ?_⟩
  | refine ⟨_, _, true, _, _, rfl, rfl, ClsV.own _, kit_own (by assumption) (by assumption), rfl, by walk_at "look", ?_⟩
  | refine ⟨_, _, _, _, rfl, ErAt.same (by assumption) (by walk_at "sames"), by assumption, by assumption, ?_⟩
  | refine ⟨_, _, _, _, rfl, ErAt.same (by assumption) (by walk_at "sames"), by assumption, by assumption, by assumption, ?_⟩
  | refine if_t (by first | rfl | assumption | decide) ?_
  | refine if_f (by assumption) ?_
  | refine if_f (by first | decide | exact Bool.false_ne_true) ?_
  | refine fun (_ : _ ≠ sysModules) => ?_
  | refine fun (_ : ErAt _ _ _ _) => ?_
  | refine fun _ _ => ?_)

theorem ok_law (PF : Prg P) (T : Txt K mg A) : FnG P w K mg base CX0 11 A.law (spLaw K) := by
  obtain ⟨fd, F⟩ := T.F_law
  refine Fun_okN F sc_law (fun vs H Q E h => ?_) (fun _ _ _ _ _ _ us hl => match us, hl with | [_], _ => rfl) (fun cdv A' outer s H vs Q E hr hg h => ?_)
  · obtain ⟨_, _, rfl, _⟩ := h
    rfl
  obtain ⟨a, ns, rfl, hS, hl, q⟩ := h
  refine ⟨_, ((pss_cons (ps_set (i := 1) sc_law.nd rfl (Or.inl rfl) (pe_callGd (ok_l_tray T) (hr.mono (by decide)) hg rfl T.m_l_tray T.k_l_tray pass0 (pa_cons (pv 0) pa_nil)))
    (pss_cons (ps_for PassesOwn.never rfl (pi_range1 (by rfl) T.n_range (pa_cons pe_int pa_nil)) (pg_name (i := 2) sc_law.nd rfl (Or.inl rfl))
    (pss_one (ps_if (PW.pt (pw_or (pt_not (pt_val (pe_callGd (ok_l_fixed_right T) (hr.mono (by decide)) hg rfl T.m_l_fixed_right T.k_l_fixed_right pass0 (pa_cons (pv 1) pa_nil)))) (pw_or (pt_not (pt_val (pe_callGd (ok_l_papers_right T) (hr.mono (by decide)) hg rfl T.m_l_papers_right T.k_l_papers_right pass0 (pa_cons (pv 1) pa_nil)))) (pw_or1 (pt_not (pt_val (pe_callGd (ok_l_kinds_right PF T) (hr.mono (by decide)) hg rfl T.m_l_kinds_right T.k_l_kinds_right pass0 (pa_cons (pv 1) pa_nil)))))))) (pss_one (ps_ret pe_bl)) pss_nil)))
    (pss_cons (ps_set (i := 3) sc_law.nd rfl (Or.inl rfl) (pe_callGd (ok_l_value T 2) (hr.mono (by decide)) hg rfl T.m_l_value T.k_l_value pass0 (pa_cons (pv 1) (pa_cons pe_int pa_nil))))
    (pss_cons (ps_if (PW.pt (pw_or (pt_not (pt_cmpR (MyP.op_ownEq T.isq (fn_Paper_eq T) (hr.mono (by decide)) hg) (pe_makeG T.Mk_Paper (fn_Paper_init T) (hr.mono (by decide)) hg rfl T.m_Paper (pa_cons pe_str (pa_cons (pe_lst (pa_cons (pv 3) (pa_cons pe_int pa_nil))) pa_nil))) (pe_makeG T.Mk_Paper (fn_Paper_init T) (hr.mono (by decide)) hg rfl T.m_Paper (pa_cons pe_str (pa_cons (pe_tup (pa_cons (pv 3) (pa_cons pe_bl pa_nil))) pa_nil))) (nomark _))) (pw_or1 (pt_cmpR (MyP.op_ownEq T.isq (fn_Paper_eq T) (hr.mono (by decide)) hg) (pe_makeG T.Mk_Paper (fn_Paper_init T) (hr.mono (by decide)) hg rfl T.m_Paper (pa_cons pe_str (pa_cons (pe_lst (pa_cons (pv 3) (pa_cons pe_int pa_nil))) pa_nil))) (pe_makeG T.Mk_Paper (fn_Paper_init T) (hr.mono (by decide)) hg rfl T.m_Paper (pa_cons pe_str (pa_cons (pe_lst (pa_cons (pv 3) (pa_cons pe_int pa_nil))) pa_nil))) (nomark _))))) (pss_one (ps_ret pe_bl)) pss_nil)
    (pss_one (ps_ret (pe_and (pe_cmpR (MyP.op_ownEq T.isq (fn_Paper_eq T) (hr.mono (by decide)) hg) (pe_makeG T.Mk_Denial (fn_Paper_init T) (hr.mono (by decide)) hg rfl T.m_Denial (pa_cons pe_str (pa_cons pe_int (pa_cons (pv 3) pa_nil)))) (pe_makeG T.Mk_Denial (fn_Paper_init T) (hr.mono (by decide)) hg rfl T.m_Denial (pa_cons pe_str (pa_cons pe_bl (pa_cons (pv 3) pa_nil)))) (nomark _)) (pe_one (pe_not (pe_cmpR (MyP.op_ownEq T.isq (fn_Paper_eq T) (hr.mono (by decide)) hg) (pe_makeG T.Mk_Denial (fn_Paper_init T) (hr.mono (by decide)) hg rfl T.m_Denial (pa_cons pe_str (pa_cons pe_int pa_nil))) (pe_makeG T.Mk_Denial (fn_Paper_init T) (hr.mono (by decide)) hg rfl T.m_Denial (pa_cons pe_str (pa_cons pe_int (pa_cons pe_int pa_nil)))) (nomark _)))))))))))), ?_⟩
  have c4 : Cst 4 = 363 := rfl
  have c2 : Cst 2 = 39 := rfl
  repeat walk_at "s"
  refine Iv.mk ⟨a, ns, rfl, hS, hl, fun H1 p S1 hp ⟨c, cs, W1⟩ => ?_⟩
  repeat walk_at "s"
  refine for_it walk_range (fun i σ H' => Iv (∃ (v : Option V), σ = [some (.ref a), some (.ref p), v, none] ∧ WellAt H' ⟨p, c, cs⟩ (843 * i))) (Iv.mk ⟨_, rfl, W1⟩) (fun _ _ _ _ _ => trivial) ?_ ?_
  · rintro i x σ H2 H3 hi hI ⟨rfl, rfl⟩
    obtain ⟨v, rfl, W2⟩ := hI.out
    have hi9 : i < 5 := hi
    repeat walk_at "s"
    refine Iv.mk ⟨_, _, rfl, W2, by omega, fun H4 W3 => ?_⟩
    refine ⟨_, rfl, _, rfl, Iv.mk ⟨_, _, rfl, W3, by omega, fun H5 W4 => ?_⟩⟩
    refine ⟨_, rfl, _, rfl, Iv.mk ⟨_, _, rfl, W4, by omega, fun H6 W5 => ?_⟩⟩
    refine ⟨_, rfl, ?_⟩
    exact Iv.mk ⟨_, rfl, W5.mono (by omega)⟩
  · intro σ H2 hI
    obtain ⟨v, rfl, W2⟩ := hI.out
    have W2 : WellAt H2 ⟨p, c, cs⟩ (843 * 5) := W2
    repeat walk_at "s"
    refine Iv.mk ⟨_, _, rfl, W2, by omega, fun H3 v d W3 K3 dp0 okd un => ?_⟩
    have dp : DpR H3 v d := dp0.same nw_all
    clear dp0 un K3
    have ok3 : Okd 3 d := okd.mono 3 (by decide)
    have li : ∀ n (i : Int), 0 ≤ i → i < 5 → Okd n (.int i) := fun n i h0 h1 => .leaf (leaf_int h0 (by omega))
    have two : ∀ {n : Nat} {x y : PyData}, Okd n x → Okd n y → ∀ z ∈ [x, y], Okd n z := fun h1 h2 z hz => by
      rcases List.mem_cons.mp hz with hz | hz
      · rw [hz]; exact h1
      · rw [List.mem_singleton.mp hz]; exact h2
    have one : ∀ {n : Nat} {x : PyData}, Okd n x → ∀ z ∈ [x], Okd n z := fun h1 z hz => by rw [List.mem_singleton.mp hz]; exact h1
    have l2 : ∀ x y : PyData, [x, y].length ≤ 3 := fun _ _ => Nat.le_of_ble_eq_true rfl
    have eqn : (("n" : Str) == "n") = true := by decide +kernel
    have eqP : (("Paper" : Str) == "Paper") = true := by decide +kernel
    have eqD : (("Denial" : Str) == "Denial") = true := by decide +kernel
    refine ⟨_, rfl, line_le (by exact Nat.le_of_ble_eq_true rfl), fun q1 hq1 => fun x1 dx0 hx0 hdx0 _ => pap_newQ hx0 hdx0 (kc_Paper T) (xs := [.ref q1]) (ds := [.list [d, .int 1]]) (.cons (.lst (.inl upd_same) (.cons (dp.same (Same.new (Same.refl _) hq1)) (.cons (.int 1) .nil))) .nil) (one (.list (l2 _ _) (two ok3 (li 3 1 (by decide) (by decide))))) (by exact Nat.le_of_ble_eq_true rfl) (fun H4 es1 S4 X1 f1 => ⟨rfl, ?_⟩)⟩
    obtain ⟨e, e2, rfl, fe, fi⟩ := fl1 f1
    obtain rfl := fx_int fi
    have S04 : Same H3 H4 := (Same.new (Same.refl _) hq1).trans S4
    clear f1 fi S4 hq1 hx0 hdx0
    have he : PyData.eqv e e = true := (fe.tupO okd).eqv
    refine ⟨_, rfl, line_le (by exact Nat.le_of_ble_eq_true rfl), fun q2 hq2 => fun x2 dx0 hx0 hdx0 _ => pap_newQ hx0 hdx0 (kc_Paper T) (xs := [.ref q2]) (ds := [.tuple [d, .bool true]]) (.cons (.tup upd_same (.cons ((dp.same S04).same (Same.new (Same.refl _) hq2)) (.cons (.bl true) .nil))) .nil) (one (.tup (l2 _ _) (two ok3 (.leaf (leaf_bl _))))) (by exact Nat.le_of_ble_eq_true rfl) (fun H5 es2 S5 X2 f2 => ⟨rfl, ?_⟩)⟩
    obtain ⟨e', e2, rfl, fe', fi⟩ := ft1 f2
    obtain rfl := fx_bl fi
    have E1 := fe.det fe'
    subst E1
    have S45 : Same H4 H5 := (Same.new (Same.refl _) hq2).trans S5
    have S05 := S04.trans S45
    clear f2 fi S5 hq2 hx0 hdx0
    refine own_eqP T (X1.same S45) X2 (b := true) (by rw [eqP, eqn, eq_a he]; rfl) (fun h => absurd rfl h) ?_
    clear X1 X2
    refine ⟨_, rfl, ?_⟩
    refine ⟨_, rfl, line_le (by exact Nat.le_of_ble_eq_true rfl), fun q3 hq3 => fun x3 dx0 hx0 hdx0 _ => pap_newQ hx0 hdx0 (kc_Paper T) (xs := [.ref q3]) (ds := [.list [d, .int 1]]) (.cons (.lst (.inl upd_same) (.cons ((dp.same S05).same (Same.new (Same.refl _) hq3)) (.cons (.int 1) .nil))) .nil) (one (.list (l2 _ _) (two ok3 (li 3 1 (by decide) (by decide))))) (by exact Nat.le_of_ble_eq_true rfl) (fun H6 es1 S6 X1 f1 => ⟨rfl, ?_⟩)⟩
    obtain ⟨e', e2, rfl, fe', fi⟩ := fl1 f1
    obtain rfl := fx_int fi
    have E1 := fe.det fe'
    subst E1
    have S06 : Same H3 H6 := S05.trans ((Same.new (Same.refl _) hq3).trans S6)
    clear f1 fi S6 hq3 hx0 hdx0
    refine ⟨_, rfl, line_le (by exact Nat.le_of_ble_eq_true rfl), fun q4 hq4 => fun x4 dx0 hx0 hdx0 _ => pap_newQ hx0 hdx0 (kc_Paper T) (xs := [.ref q4]) (ds := [.list [d, .int 2]]) (.cons (.lst (.inl upd_same) (.cons ((dp.same S06).same (Same.new (Same.refl _) hq4)) (.cons (.int 2) .nil))) .nil) (one (.list (l2 _ _) (two ok3 (li 3 2 (by decide) (by decide))))) (by exact Nat.le_of_ble_eq_true rfl) (fun H7 es2 S7 X2 f2 => ⟨rfl, ?_⟩)⟩
    obtain ⟨e', e2, rfl, fe', fi⟩ := fl1 f2
    obtain rfl := fx_int fi
    have E1 := fe.det fe'
    subst E1
    have S67 : Same H6 H7 := (Same.new (Same.refl _) hq4).trans S7
    have S07 := S06.trans S67
    clear f2 fi S7 hq4 hx0 hdx0
    refine own_eqP T (X1.same S67) X2 (b := false) (by rw [eqP, eqn, eq_b]; rfl) (fun h => absurd rfl h) ?_
    clear X1 X2 S04 S05 S06 S45 S67
    refine ⟨_, rfl, ?_⟩
    refine ⟨_, rfl, fun x5 dx0 hx0 hdx0 _ => pap_newQ hx0 hdx0 (kc_Denial T) (xs := [.int 0, v]) (ds := [.int 0, d]) (.cons (.int 0) (.cons (dp.same S07) .nil)) (two (li 4 0 (by decide) (by decide)) (okd.mono 4 (by decide))) (by exact Nat.le_of_ble_eq_true rfl) (fun H8 es1 S8 X1 f1 => ⟨rfl, ?_⟩)⟩
    obtain ⟨i1, e', rfl, fi, fe'⟩ := fx2 f1
    obtain rfl := fx_int fi
    have E1 := fe.det fe'
    subst E1
    have S08 := S07.trans S8
    clear f1 fi hx0 hdx0
    refine ⟨_, rfl, fun x6 dx0 hx0 hdx0 _ => pap_newQ hx0 hdx0 (kc_Denial T) (xs := [.bl false, v]) (ds := [.bool false, d]) (.cons (.bl false) (.cons (dp.same S08) .nil)) (two (.leaf (leaf_bl _)) (okd.mono 4 (by decide))) (by exact Nat.le_of_ble_eq_true rfl) (fun H9 es2 S9 X2 f2 => ⟨rfl, ?_⟩)⟩
    obtain ⟨i1, e', rfl, fi, fe'⟩ := fx2 f2
    obtain rfl := fx_bl fi
    have E1 := fe.det fe'
    subst E1
    clear f2 fi hx0 hdx0
    refine own_eqP T (X1.same S9) X2 (b := true) (by rw [eqD, eqn, eq_c he]; rfl) (fun h => absurd rfl h) ?_
    clear X1 X2
    refine ⟨_, rfl, ?_⟩
    refine fun x7 dx0 hx0 hdx0 _ => pap_newQ hx0 hdx0 (kc_Denial T) (xs := [.int 0]) (ds := [.int 0]) (.cons (.int 0) .nil) (one (li 4 0 (by decide) (by decide))) (by exact Nat.le_of_ble_eq_true rfl) (fun HA es1 SA X1 f1 => ⟨rfl, ?_⟩)
    refine fun x8 dx0 hx0 hdx0 _ => pap_newQ hx0 hdx0 (kc_Denial T) (xs := [.int 0, .int 0]) (ds := [.int 0, .int 0]) (.cons (.int 0) (.cons (.int 0) .nil)) (two (li 4 0 (by decide) (by decide)) (li 4 0 (by decide) (by decide))) (by exact Nat.le_of_ble_eq_true rfl) (fun HB es2 SB X2 f2 => ⟨rfl, ?_⟩)
    have l1 := f1.length
    have l2' := f2.length
    refine own_eqP T (X1.same SB) X2 (b := false) (by rw [eqD, eqn, eqv_tup_len (by rw [← l1, ← l2']; exact fun z => nomatch z)]; rfl) (fun h => absurd rfl h) ?_
    refine ⟨_, rfl, ?_⟩
    exact q _
end
end K02

open PySem PySem.W PySem.Calls PyProof.Rows in
set_option maxRecDepth 100000 in
set_option maxHeartbeats 0 in
theorem PySem.Challenge.cw_dimkeeper_k02_papers_keep_what_they_tell_holds : PySem.Challenge.rw_dimkeeper_k02_papers_keep_what_they_tell.Holds := by
  w_on; o_law
  refine HandSHeadRun.head_any (r := K02.R) (q := view K02.R.prog [K02.lawAt]) (H := K02.hk) (ob := K02.ob) (M := 6000) (loose := K02.loose) (d := HandSHeadRun.topDef K02.R.prog K02.lawAt) (kwd := []) K02.ob_eq
    (by kernel_rfl) (fun s => by kernel_rfl) K02.run (by kernel_rfl) (by kernel_rfl) (by kernel_rfl) (by rfl) (by first | assumption | decide +kernel) (by decide +kernel) ⟨rfl, rfl, rfl, rfl, rfl, by decide +kernel⟩ ?hw ?hc
  case hw => w_witness2
  case hc =>
    refine MyH.walk_ofGE (l := PySem.Challenge.rw_dimkeeper_k02_papers_keep_what_they_tell) (n := 63) (k := 11) (CX := fun _ => L2.CX0) rfl (by decide) (by kernel_rfl) ⟨rfl, by decide, by decide⟩ ?F (fun _ _ _ _ _ z => z)
    intro w mg fa h Y G hmg0
    obtain ⟨K, KX, c⟩ := Y
    have hmg : mg ("law" : PySem.Str) = some (.ref fa) := by
      have e : (HandSHeadRun.topDef K02.R.prog K02.lawAt).name = ("law" : PySem.Str) := by kernel_rfl
      rw [← e]
      exact hmg0
    have T := K02.txt_of KX G c
    have e := hmg.symm.trans T.m_law
    cases e
    have PF : MyP.Prg PySem.Challenge.rw_dimkeeper_k02_papers_keep_what_they_tell.prog := ⟨by kernel_rfl, by kernel_rfl⟩
    exact ⟨K, K02.spLaw K, KX, fun H a ns hl _ hS => ⟨a, ns, rfl, hS, hl, fun _ => rfl⟩, fun base _ _ => K02.ok_law PF T⟩
