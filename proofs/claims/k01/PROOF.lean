import PyProof.Rows.All
import PySem.Challenge.RW_dimkeeper_k01_names_and_integers_by_thei
import Wide.All
import OpenK.AllK
import Wide.FinOn
import PyProof.EqAt
import PyProof.EqKinds
import PyProof.TupleCall
import PyProof.ReprRoads
import PyProof.Draws
import PyProof.EnumMake
import PyProof.EnumFor
import HandS.ForMost
import HandS.Wide
import HandS.IsInst
import HandS.Walk
import HandS.Star
import HandS.Exc
import KE.KExcIs
import HandS.ExcOwn
import HandS.ExcInit
import HandS.ExcField
import HandS.ExcIs
import HandS.WordsExc
import HandS.Ends
import HandS.Codes
import HandS.Text
set_option Elab.async false
set_option linter.all false
set_option maxRecDepth 100000
set_option maxHeartbeats 4000000
/-! Rules that the layer lacks: repr of data, enumerate of a text, defs that are called where no repr is under way. -/
namespace MyL
open PySem PySem.Spec PyProof.Rows L2

/-- an invariant, closed to the stepper -/
@[irreducible] def Iv (p : Prop) : Prop := p
theorem Iv.mk {p : Prop} (h : p) : Iv p := by unfold Iv; exact h
theorem Iv.out {p : Prop} (h : Iv p) : p := by unfold Iv at h; exact h
/-! ### repr of data without dicts -/
def rRepr (K : PySem.W.Frag) : List V → Hp → VK → Prop := fun xs H Q => ∃ (a : Addr) (d : PyData), xs = [.ref a] ∧ Dp K H (.ref a) d ∧ d.showable = true ∧ d.hasDict = false ∧ d.depth ≤ 60 ∧ d.shown.length ≤ sizeLine ∧ Q (.str d.shown) H
theorem call_repr_data {X : Cx} (hg : X.A.guards = some []) (hu : X.A.units + 64 < cLine) : CallR X (.builtin "repr") (rRepr X.K) := by
  intro pins s σ H xs us Q I r h
  obtain ⟨a, d, rfl, hd, hs, hn, hz, hl, q⟩ := h
  obtain ⟨u, rfl, ru⟩ := vals1 r
  obtain rfl : u = Value.ref a := ru
  obtain ⟨as, rd⟩ := Dp.reads I d _ (.ref a) hd rfl
  refine repr_of_reads' rd hs (PyData.noDict_hsm hn) hg (by omega) (fun b o e => e) (fun h' u tk hk => ?_) hl
  exact ⟨.str d.shown, H, I.kept (t' := tk) hk, ⟨u, rfl⟩, q⟩

/-! ### enumerate over a text -/
def Ites (x : Str) : It :=
  ⟨fun i _ => i < x.cps.size, fun i H v H' => ∃ T c, v = .ref T ∧ H T = none ∧ H' = upd H T (.tup [.int (i : Nat), .str ⟨#[c]⟩]) ∧ x.cps[i]? = some c, fun i _ => i = x.cps.size⟩
theorem turn_enum_str {P : Program} {w : World} {K : PySem.W.Frag} {elts : List Expr} {kk : Nat} {tpos : Pos} (x : Str) (t : Tok) (ty : String) (hty : ty = "str_ascii_iterator" ∨ ty = "str_iterator") (e it : Addr) :
    Turn P w K (.Tuple elts kk tpos) (Ites x) [e, it] e (fun i h => (∃ old, IsEnum h e it ((i : Nat) : Int) old) ∧ h.IsStrIter it ty x t i ∧ e ≠ it) where
  mem := by simp
  obj := by
    rintro i h ⟨⟨old, he⟩, ⟨o, ho, _, hd⟩, _⟩ b hb
    rcases (show b = e ∨ b = it by simpa using hb) with rfl | rfl
    · exact ⟨_, he, fun v z => nomatch z⟩
    · exact ⟨o, ho, fun v z => by rw [hd] at z; cases z⟩
  keep := by
    rintro i h h' ⟨⟨old, he⟩, ⟨o, ho, hr⟩, hne⟩ k
    exact ⟨⟨old, k e (by simp) _ he⟩, ⟨o, k it (by simp) o ho, hr⟩, hne⟩
  item := by
    intro X hP hw hK hc i pins s σ H E I hf st hg
    subst hP hw hK
    obtain ⟨⟨old, he⟩, hit, hne⟩ := st
    have lt1 : e < s.heap.objs.size := Heap.lt_size he
    have lt2 : it < s.heap.objs.size := by
      obtain ⟨_, z, _⟩ := id hit
      exact Heap.lt_size z
    have D : Draws X.prog X.w X.A.in1 it [it] x.cps.size (fun i v => ∃ c u, x.cps[i]? = some c ∧ v = .str ⟨#[c]⟩ u) (fun i h => h.IsStrIter it ty x t i) := by
      rcases hty with rfl | rfl
      · exact Draws.strAscii (A := X.A.in1) (I.ok.hd hc) it x t
      · exact Draws.strWide (A := X.A.in1) (I.ok.hd hc) it x t
    refine wpAny_pyNext_enum_itemD D he hit hg hne (by simpa using hne) fun v h' tk hv ho hit' hT hsz hk => ?_
    obtain ⟨c, u, hcx, rfl⟩ := hv
    refine ⟨_, rfl, wpAny_letOwnedTupleGo_enum (s := { s with heap := h', toks := tk + 1 }) ho fun h2 he2 sb => ?_⟩
    have hT2 := (sb.2 _ (Nat.ne_of_gt lt1)).trans hT
    have nw : ObjOk X.prog X.w (upd H s.heap.objs.size (.tup [.int (i : Nat), .str ⟨#[c]⟩])) h2 s.heap.objs.size (.tup [.int (i : Nat), .str ⟨#[c]⟩]) :=
      ⟨by show 2 ≤ sizeLine; decide, [.int i tk, .str ⟨#[c]⟩ u], .cons ⟨_, rfl⟩ (.cons ⟨_, rfl⟩ .nil), ⟨_, hT2, rfl, _, rfl⟩⟩
    have J : Inv X pins σ (upd H s.heap.objs.size (.tup [.int (i : Nat), .str ⟨#[c]⟩])) { s with heap := h2, toks := tk + 1 } := by
      refine I.turnedNew (t' := tk + 1) (ch := [e, it]) (fun b ob hb q => ?_) hf (Nat.le_refl _) nw
      have b1 : b ≠ e := fun z => hb (by simp [z])
      have b2 : b ≠ it := fun z => hb (by simp [z])
      exact (sb.2 b b1).trans (hk b ob b1 b2 q)
    refine ⟨.ref s.heap.objs.size, _, J, rfl, ⟨_, c, rfl, I.hok.fresh (Nat.le_refl _), rfl, hcx⟩, ⟨⟨.str ⟨#[c]⟩ u, ?_⟩, ?_, hne⟩, fun b hb => ?_⟩
    · have e1 : ((i + 1 : Nat) : Int) = (i : Int) + 1 := by omega
      rw [e1]
      exact he2
    · obtain ⟨o, ho2, hr⟩ := hit'
      exact ⟨o, (sb.2 it (Ne.symm hne)).trans ho2, hr⟩
    · have lb : b < s.heap.objs.size := by
        rcases (show b = e ∨ b = it by simpa using hb) with rfl | rfl
        · exact lt1
        · exact lt2
      rw [upd_ne (Nat.ne_of_lt lb)]
      exact (hf b hb).1
  done := by
    intro X hP hw hK hc i pins s σ H E I hf st hg
    subst hP hw hK
    obtain ⟨⟨old, he⟩, hit, hne⟩ := st
    obtain ⟨f0, f1, f2, f3, f4, f5⟩ := hf it (by simp)
    have D : Draws X.prog X.w X.A.in1 it [it] x.cps.size (fun i v => ∃ c u, x.cps[i]? = some c ∧ v = .str ⟨#[c]⟩ u) (fun i h => h.IsStrIter it ty x t i) := by
      rcases hty with rfl | rfl
      · exact Draws.strAscii (A := X.A.in1) (I.ok.hd hc) it x t
      · exact Draws.strWide (A := X.A.in1) (I.ok.hd hc) it x t
    have ei : i = x.cps.size := hg
    subst ei
    exact wpAny_pyNext_enum_endD D he hit fun h' eb => ⟨rfl, I.turned (t' := s.toks) (fun b o hb q => eb b o hb q) f0 f1 f3 f4 f5⟩
  self := fun A i s Q E st h => let ⟨⟨_, he⟩, _⟩ := st; wpAny_pyIter_enum he h

def iEnumS (ta : TA) : TI := fun σ H R => ta σ H fun vs H1 => ∃ x : Str, vs = [.str x] ∧ R (Ites x) H1
theorem pi_enum_str {X : Cx} {e : Expr} {ta : TA} {p pos tpos : Pos} {elts : List Expr} {kk : Nat} (hg : Gl X "enumerate") (hm : X.mg "enumerate" = none) (ha : PA X [e] ta) (hs : starEach [e] X.env = [(false, eval e X.env)] := by rfl) :
    PI X (.Tuple elts kk tpos) (.Call (.Name "enumerate" p) [e] [] pos) (iEnumS ta) := by
  refine ⟨fun pins s σ H R I h => ?_⟩
  refine Call_ (ld_blt I hg hm boot_enumerate (PyProof.Rows.callWith_type1 ?_ hs rfl))
  refine thn (ha.run pos pins s σ H _ I h) fun us s1 ⟨vs, H1, I1, r1, x, ex, q⟩ => ?_
  subst ex
  obtain ⟨u, rfl, ru⟩ := vals1 r1
  obtain ⟨t, rfl⟩ := ru
  refine call_enumerate_str fun h' he hit hsz hk => wpAny_pyIter_enum he ?_
  have hty : strIterType x = "str_ascii_iterator" ∨ strIterType x = "str_iterator" := by
    unfold strIterType
    split
    · exact .inl rfl
    · exact .inr rfl
  refine ⟨s1.heap.objs.size + 1, [s1.heap.objs.size + 1, s1.heap.objs.size], _, _, H1, rfl, I1.kept (t' := s1.toks) hk, turn_enum_str x t _ hty (s1.heap.objs.size + 1) s1.heap.objs.size, ⟨⟨.none, he⟩, hit, Nat.succ_ne_self _⟩, fun b hb => ?_, q⟩
  have hle : s1.heap.objs.size ≤ b := by
    rcases (show b = s1.heap.objs.size + 1 ∨ b = s1.heap.objs.size by simpa using hb) with z | z
    · rw [z]; exact Nat.le_add_right _ _
    · rw [z]; exact Nat.le_refl _
  exact I1.fpOk hle (I1.hok.fresh hle)
theorem walk_enum_str {x : Str} : Walk (Ites x) x.cps.size (fun _ => True) (YPair (fun i => some (.int (i : Nat))) (fun i => (x.cps[i]?).map fun c => .str ⟨#[c]⟩)) := by
  refine ⟨fun _ _ hi _ => hi, fun _ _ => rfl, fun i H v H' _ _ y => ?_⟩
  obtain ⟨T, c, h1, h2, h3, h4⟩ := y
  exact ⟨T, .int (i : Nat), .str ⟨#[c]⟩, h1, h2, h3, rfl, (by show (x.cps[i]?).map _ = _; rw [h4] <;> rfl)⟩

/-! ### defs that want to know that no repr is under way -/
def FnG (P : Program) (w : World) (K : PySem.W.Frag) (mg : Str → Option Value) (base : Heap) (CX : CXT) (k : Nat) (f : Addr) (sp : Sp) : Prop :=
  ∀ (A : Around) (outer : List Env) (s : Shared) (H : Hp) (us : List Value) (vs : List V) (Q : VK) (E : XK), Room k A → A.guards = some [] → Env0 P w K mg base A outer s H → Vals vs us → sp vs H Q E →
    codeAny (model P w) A (.call (.ref f) ⟨us, []⟩) (CR CX outer P w H s Q E) s
section
variable {P : Program} {w : World} {K : PySem.W.Frag} {mg : Str → Option Value} {base : Heap} {CX : CXT} {k : Nat} {f : Addr} {sp : Sp}
theorem FnG.mono {j : Nat} (F : FnG P w K mg base CX j f sp) (h : j ≤ k) : FnG P w K mg base CX k f sp := fun A outer s H us vs Q E hr hg => F A outer s H us vs Q E (hr.mono h) hg
/-- a def of the text, by its body -/
theorem Fun_okG {x qual : Str} {st : Stmt} {fd : FuncData} {N ps : List Str} (F : Fun K x qual st f fd) (S : FnScope N ps (defScope st)) (len : ∀ vs H Q E, sp vs H Q E → vs.length = ps.length)
    (hb : ∀ (kV doc pm : Value) (an : Option Addr) (cdv ct : Value) (us : List Value), us.length = ps.length → bindArgs (PySem.W.fnOf x qual (defArgs st) (defBody st) (defScope st) .none kV doc pm an cdv ct) ⟨us, []⟩ = pure (ps.zip us))
    (hbody : ∀ (cdv : Value) (A : Around) (outer : List Env) (s : Shared) (H : Hp) (vs : List V) (Q : VK) (E : XK), Room k (A.deeper (envOfC qual (defScope st) s.heap.objs.size f cdv)) → A.guards = some [] → sp vs H Q E →
      ∃ t, PSs (cxOf CX P w K mg base N qual (defScope st) f cdv A outer s H E) (defBody st) t ∧ t { nx := fun _ H' => Q .non H', rt := Q } (start N vs) H) : FnG P w K mg base CX (k + 1) f sp := by
  obtain ⟨oc, od, kV, doc, pm, an, cdv, ct, osl, rfl, lk, hcd⟩ := F.ex
  intro A outer s H us vs Q E hr hg e0 r hsp
  have hl := len _ _ _ _ hsp
  have hul : us.length = ps.length := by rw [← r.length]; exact hl
  refine StX.run_bnd lk hcd S hr e0 (G := fun xs H2 => xs = vs ∧ H2 = H) (fun A' Ex Q' h => ?_) fun s2 H2 xs ⟨e1, e2⟩ hr' => ?_
  · rw [hb kV doc pm an cdv ct us hul]
    exact wpAny_pure (h s H vs us e0 Un.refl rfl (fun e s' z => z) r hl ⟨rfl, rfl⟩)
  · subst e1 e2
    exact hbody cdv A outer s2 _ _ Q E hr' hg hsp
end
section
variable {P : Program} {w : World} {K : PySem.W.Frag} {mg : Str → Option Value} {base : Heap} {CX : CXT} {k : Nat} {f : Addr} {sp : Sp}
/-- .. for a def that no exception leaves -/
theorem Fun_okN {x qual : Str} {st : Stmt} {fd : FuncData} {N ps : List Str} (F : Fun K x qual st f fd) (S : FnScope N ps (defScope st)) (len : ∀ vs H Q E, sp vs H Q E → vs.length = ps.length)
    (hb : ∀ (kV doc pm : Value) (an : Option Addr) (cdv ct : Value) (us : List Value), us.length = ps.length → bindArgs (PySem.W.fnOf x qual (defArgs st) (defBody st) (defScope st) .none kV doc pm an cdv ct) ⟨us, []⟩ = pure (ps.zip us))
    (hbody : ∀ (cdv : Value) (A : Around) (outer : List Env) (s : Shared) (H : Hp) (vs : List V) (Q : VK) (E : XK), Room k (A.deeper (envOfC qual (defScope st) s.heap.objs.size f cdv)) → A.guards = some [] → sp vs H Q E →
      ∃ t, PSs (cxOf CX P w K mg base N qual (defScope st) f cdv A outer s H E).nox (defBody st) t ∧ t { nx := fun _ H' => Q .non H', rt := Q } (start N vs) H) : FnG P w K mg base CX (k + 1) f sp := by
  refine Fun_okG F S len hb fun cdv A outer s H vs Q E hr hg h => ?_
  obtain ⟨t, ht, hq⟩ := hbody cdv A outer s H vs Q E hr hg h
  exact ⟨t, ht.nox, hq⟩
end
section
variable {X : Cx} {CX : CXT} {k : Nat} {f : Addr} {sp : Sp} {E : XK} {x : Str} {p pos : Pos} {e : Expr} {es : List Expr} {t : TA}
def tCallG (sp : Sp) (E : XK) (t : TA) : TE := fun σ H Q => t σ H fun vs H1 => Iv (sp vs H1 Q E)
theorem pe_callGd (F : FnG X.prog X.w X.K X.mg X.base CX k f sp) (hr : Room k X.A) (hgd : X.A.guards = some []) (hg : Gl X x) (hm : X.mg x = some (.ref f)) (hk : PySem.W.keepIn X.K (.ref f) = true) (hx : Passes CX X E) (ha : PA X (e :: es) t)
    (hdb : (x == ("__debug__" : Str)) = false := by decide) (he : starEach (e :: es) X.env = (false, eval e X.env) :: starEach es X.env := by rfl) (hpl : (backTo pos (starEach es X.env)).any (·.1) = false := by rfl) :
    PE X (.Call (.Name x p) (e :: es) [] pos) (tCallG sp E t) := by
  refine ⟨fun pins s σ H Q I h => ?_⟩
  refine wpAny_Call_Name_kw (ld_glob I hg hm ?_ hdb)
  refine PySem.W.callWith_K (h₀ := X.base) I.ok.mod.kin hk ?_ he hpl
  refine thn (ha.run pos pins s σ H _ I h) fun us s1 ⟨vs, H1, I1, r, q⟩ => ⟨I1.kIn, ?_⟩
  refine wpAny_call (codeAny_mono (F X.A X.stack s1 H1 us vs Q E hr hgd I1.env0 r q.out) fun r' s' hq => ?_)
  cases r' with
  | error er => exact hx pins σ H1 s1 er s' I1 hq
  | ok fl =>
    cases fl with
    | ret u => exact I1.after hq
    | next => exact False.elim hq
    | brk => exact False.elim hq
    | cont => exact False.elim hq
end

/-! ### heaps, what draws -/
/-- all but what stands at w is as it was -/
def Kp (w : Addr) (H H' : Hp) : Prop := ∀ b o, b ≠ w → H b = some o → H' b = some o
theorem Kp.refl (w : Addr) (H : Hp) : Kp w H H := fun _ _ _ h => h
theorem Kp.trans {w : Addr} {H H1 H2 : Hp} (a : Kp w H H1) (b : Kp w H1 H2) : Kp w H H2 := fun c o n h => b c o n (a c o n h)
theorem Kp.put {w : Addr} {H H' : Hp} {o : HO} (a : Kp w H H') : Kp w H (upd H' w o) := fun b u n h => by rw [upd_ne n]; exact a b u n h
theorem Kp.get {w : Addr} {H H' : Hp} {b : Addr} {o : HO} (a : Kp w H H') (n : b ≠ w) (h : H b = some o) : H' b = some o := a b o n h
theorem Kp.new {w : Addr} {H H' : Hp} {p : Addr} {o : HO} (a : Kp w H H') (n : H' p = none) : Kp w H (upd H' p o) := fun b u nb h => by
  have e := a b u nb h
  rw [upd_ne (ne_of_none e n)]
  exact e
theorem Kp.of_same {w : Addr} {H H' : Hp} (a : Same H H') : Kp w H H' := fun b o _ h => a b o h
theorem Kp.free {w : Addr} {H H' : Hp} {p : Addr} (a : Kp w H H') (hw : ∃ o, H' w = some o) (n : H' p = none) : H p = none := by
  cases e : H p with
  | none => rfl
  | some o =>
    have np : p ≠ w := fun z => by
      obtain ⟨u, hu⟩ := hw
      rw [z, hu] at n
      cases n
    rw [a p o np e] at n
    cases n
theorem Same.get {H H' : Hp} {b : Addr} {o : HO} (a : Same H H') (h : H b = some o) : H' b = some o := a b o h
theorem Same.new {H H' : Hp} {p : Addr} {o : HO} (a : Same H H') (n : H' p = none) : Same H (upd H' p o) := fun b u h => by
  have e := a b u h
  rw [upd_ne (ne_of_none e n)]
  exact e
/-- an own new object is written -/
theorem Same.put {H H' : Hp} {p : Addr} {o : HO} (a : Same H H') (n : H p = none) : Same H (upd H' p o) := fun b u h => by
  rw [upd_ne (ne_of_none h n)]
  exact a b u h
theorem Kp.put2 {w : Addr} {H H' : Hp} {p : Addr} {o : HO} (a : Kp w H H') (n : H p = none) : Kp w H (upd H' p o) := fun b u nb h => by
  rw [upd_ne (ne_of_none h n)]
  exact a b u nb h
/-- what draws: where it stands, where its cells stand, the cells -/
structure Wl where
  (w c : Addr) (cs : List Int)
/-- .. the cells, how many were begun (at most n), the rest -/
def WellAt (H : Hp) (W : Wl) (n : Nat) : Prop := ∃ (b r : Int), H W.w = some (.lst [.ref W.c, .int b, .int r]) ∧ H W.c = some (.lst (W.cs.map V.int)) ∧ W.c ≠ W.w ∧ W.cs.length ≤ 63 ∧ 0 ≤ b ∧ b ≤ n
theorem WellAt.mono {H : Hp} {W : Wl} {n m : Nat} (h : WellAt H W n) (l : n ≤ m) : WellAt H W m := by
  obtain ⟨b, r, h1, h2, h3, h4, h5, h6⟩ := h
  exact ⟨b, r, h1, h2, h3, h4, h5, by omega⟩
theorem WellAt.same {H H' : Hp} {W : Wl} {n : Nat} (h : WellAt H W n) (k : Same H H') : WellAt H' W n := by
  obtain ⟨b, r, h1, h2, h3⟩ := h
  exact ⟨b, r, k _ _ h1, k _ _ h2, h3⟩
theorem WellAt.at {H : Hp} {W : Wl} {n : Nat} (h : WellAt H W n) : ∃ o, H W.w = some o := by
  obtain ⟨b, r, h1, _⟩ := h
  exact ⟨_, h1⟩
theorem WellAt.ne {H : Hp} {W : Wl} {n : Nat} (h : WellAt H W n) {p : Addr} (hp : H p = none) : p ≠ W.w ∧ p ≠ W.c := by
  obtain ⟨b, r, h1, h2, _⟩ := h
  exact ⟨Ne.symm (ne_of_none h1 hp), Ne.symm (ne_of_none h2 hp)⟩
theorem WellAt.put {H : Hp} {W : Wl} {n : Nat} (h : WellAt H W n) {p : Addr} {o : HO} (hp : p ≠ W.w ∧ p ≠ W.c) : WellAt (upd H p o) W n := by
  obtain ⟨b, r, h1, h2, h3⟩ := h
  exact ⟨b, r, by rw [upd_ne (Ne.symm hp.1)]; exact h1, by rw [upd_ne (Ne.symm hp.2)]; exact h2, h3⟩
theorem WellAt.new {H : Hp} {W : Wl} {n : Nat} (h : WellAt H W n) {p : Addr} {o : HO} (hp : H p = none) : WellAt (upd H p o) W n := h.put (h.ne hp)
def spDip : Sp := fun vs H Q _ => ∃ (W : Wl) (many : Int) (n : Nat), vs = [.ref W.w, .int many] ∧ WellAt H W n ∧ n < 1000000 ∧ 0 < many ∧ many.natAbs < 2 ^ 300 ∧
  ∀ H' r, 0 ≤ r → r < many → WellAt H' W (n + 1) → Kp W.w H H' → Q (.int r) H'
theorem pow_lt {a b : Int} (h0 : 0 ≤ a) (h : a < b) (hb : b ≤ 2 ^ 64) : a.natAbs < 2 ^ 64 := by omega
/-- the numbers that the draw reckons with stay small -/
theorem draw_one {x b c1 c2 : Int} (hx0 : 0 ≤ x) (hx : x < 2147483543) (hb0 : 0 ≤ b) (hb : b < 1000000) (h1 : 0 ≤ c1) (h1' : c1 < 1000000) (h2 : 0 ≤ c2) (h2' : c2 < 1000000) : (x + c1 * b + c2).natAbs < 2 ^ 64 := by
  have h3 : 0 ≤ c1 * b := Int.mul_nonneg h1 hb0
  have h4 : c1 * b ≤ 1000000 * 1000000 := Int.mul_le_mul (by omega) (by omega) hb0 (by decide)
  omega
theorem draw_two {x b c1 c2 : Int} (hx0 : 0 ≤ x) (hx : x < 2147483647) (hb0 : 0 ≤ b) (hb : b < 1000000) (h1 : 0 ≤ c1) (h1' : c1 < 1000000) (h2 : 0 ≤ c2) (h2' : c2 < 1000000) : (x * (2 * b + 1301) + c1 * b * b + c2).natAbs < 2 ^ 64 := by
  have h3 : 0 ≤ x * (2 * b + 1301) := Int.mul_nonneg hx0 (by omega)
  have h4 : x * (2 * b + 1301) ≤ 2147483647 * 2001301 := Int.mul_le_mul (by omega) (by omega) (by omega) (by decide)
  have h5 : 0 ≤ c1 * b := Int.mul_nonneg h1 hb0
  have h6 : c1 * b ≤ 1000000 * 1000000 := Int.mul_le_mul (by omega) (by omega) hb0 (by decide)
  have h7 : 0 ≤ c1 * b * b := Int.mul_nonneg h5 hb0
  have h8 : c1 * b * b ≤ 1000000000000 * 1000000 := Int.mul_le_mul (by omega) (by omega) hb0 (by decide)
  omega

theorem ne_new {H : Hp} {a b : Addr} {o : HO} (n : H b = none) (h : H a = some o) : a ≠ b := ne_of_none h n
theorem upd_new {H : Hp} {a b : Addr} {o u : HO} (n : H b = none) (h : H a = some o) : upd H b u a = some o := by
  rw [upd_ne (ne_of_none h n)]
  exact h
theorem ne_new' {H : Hp} {a b : Addr} {o : HO} (n : H b = none) (h : H a = some o) : b ≠ a := Ne.symm (ne_of_none h n)
/-! ### data of flat items -/
/-- a flat value's datum -/
def flatD : V → Option PyData
  | .non => some .none
  | .bl b => some (.bool b)
  | .int i => some (.int i)
  | .str x => some (.str x)
  | _ => none
theorem dp_flat {K : PySem.W.Frag} {H : Hp} : ∀ {v : V} {d : PyData}, flatD v = some d → Dp K H v d
  | .non, _, h => by cases h; exact .non
  | .bl b, _, h => by cases h; exact .bl b
  | .int i, _, h => by cases h; exact .int i
  | .str x, _, h => by cases h; exact .str x
  | .byt _, _, h => by cases h
  | .flt _, _, h => by cases h
  | .ref _, _, h => by cases h
  | .ty _, _, h => by cases h
theorem dpAll_ints {K : PySem.W.Frag} {H : Hp} : ∀ ns : List Int, DpAll K H (ns.map V.int) (ns.map PyData.int)
  | [] => .nil
  | n :: ns => .cons (.int n) (dpAll_ints ns)
theorem dpAll_strs {K : PySem.W.Frag} {H : Hp} : ∀ zs : List Str, DpAll K H (zs.map V.str) (zs.map PyData.str)
  | [] => .nil
  | z :: zs => .cons (.str z) (dpAll_strs zs)
theorem canLay_ints : ∀ ns : List Int, PyData.canLayAll0 (ns.map PyData.int) = true
  | [] => rfl
  | n :: ns => by
    simp only [List.map_cons, PyData.canLayAll0, PyData.canLay0, canLay_ints ns, Bool.and_self]
theorem canLay_strs : ∀ zs : List Str, (∀ z ∈ zs, PyData.strOk z = true) → PyData.canLayAll0 (zs.map PyData.str) = true
  | [], _ => rfl
  | z :: zs, h => by
    simp only [List.map_cons, PyData.canLayAll0, PyData.canLay0, canLay_strs zs (fun y hy => h y (List.mem_cons_of_mem _ hy)), h z List.mem_cons_self, Bool.and_self]
theorem depth_ints : ∀ ns : List Int, PyData.depthAll (ns.map PyData.int) = 0
  | [] => rfl
  | n :: ns => by
    simp only [List.map_cons, PyData.depthAll, PyData.depth, depth_ints ns]
    rfl
theorem depth_strs : ∀ zs : List Str, PyData.depthAll (zs.map PyData.str) = 0
  | [] => rfl
  | z :: zs => by
    simp only [List.map_cons, PyData.depthAll, PyData.depth, depth_strs zs]
    rfl
theorem shaped_ints (ns : List Int) : SeqAt.shaped (.list (ns.map PyData.int)) = true := by
  unfold SeqAt.shaped
  simp only [PyData.canLay0, canLay_ints, PyData.depth, depth_ints]
  rfl
theorem shaped_strs (zs : List Str) (h : ∀ z ∈ zs, PyData.strOk z = true) : SeqAt.shaped (.list (zs.map PyData.str)) = true := by
  unfold SeqAt.shaped
  simp only [PyData.canLay0, canLay_strs zs h, PyData.depth, depth_strs]
  rfl
theorem eqv_nil : ∀ ds : List PyData, PyData.eqv (.list ds) (.list []) = ds.isEmpty
  | [] => rfl
  | _ :: _ => rfl
theorem shaped_nil : SeqAt.shaped (.list []) = true := by decide +kernel
theorem at_mod_ints {cs : List Int} (b : Int) (h : 0 < cs.length) : ∃ (j : Nat) (x : Int), j < cs.length ∧ atI (cs.map V.int) (b % ((cs.map V.int).length : Int)) = some (.int x) := by
  have hl : (0 : Int) < ((cs.map V.int).length : Int) := by rw [List.length_map]; omega
  have h0 := Int.emod_nonneg b (show ((cs.map V.int).length : Int) ≠ 0 by omega)
  have h1 := Int.emod_lt_of_pos b hl
  obtain ⟨j, hj⟩ : ∃ j : Nat, b % ((cs.map V.int).length : Int) = j := ⟨(b % ((cs.map V.int).length : Int)).toNat, by omega⟩
  have hj2 : j < cs.length := by rw [hj, List.length_map] at h1; omega
  refine ⟨j, cs[j], hj2, ?_⟩
  rw [hj]
  exact atI_nat (by rw [List.getElem?_map, List.getElem?_eq_getElem hj2] <;> rfl)
/-! ### isinstance of built-in kinds -/
theorem kit_NoneType_int {K : PySem.W.Frag} : PySem.W.kitOne K (.type "NoneType") (.type "int") = some false := kit_ty (by decide +kernel)
theorem kit_NoneType_bool {K : PySem.W.Frag} : PySem.W.kitOne K (.type "NoneType") (.type "bool") = some false := kit_ty (by decide +kernel)
theorem kit_NoneType_str {K : PySem.W.Frag} : PySem.W.kitOne K (.type "NoneType") (.type "str") = some false := kit_ty (by decide +kernel)
theorem kit_NoneType_list {K : PySem.W.Frag} : PySem.W.kitOne K (.type "NoneType") (.type "list") = some false := kit_ty (by decide +kernel)
theorem kit_NoneType_tuple {K : PySem.W.Frag} : PySem.W.kitOne K (.type "NoneType") (.type "tuple") = some false := kit_ty (by decide +kernel)
theorem kit_NoneType_dict {K : PySem.W.Frag} : PySem.W.kitOne K (.type "NoneType") (.type "dict") = some false := kit_ty (by decide +kernel)
theorem kit_bool_int {K : PySem.W.Frag} : PySem.W.kitOne K (.type "bool") (.type "int") = some true := kit_ty (by decide +kernel)
theorem kit_bool_bool {K : PySem.W.Frag} : PySem.W.kitOne K (.type "bool") (.type "bool") = some true := kit_ty (by decide +kernel)
theorem kit_bool_str {K : PySem.W.Frag} : PySem.W.kitOne K (.type "bool") (.type "str") = some false := kit_ty (by decide +kernel)
theorem kit_bool_list {K : PySem.W.Frag} : PySem.W.kitOne K (.type "bool") (.type "list") = some false := kit_ty (by decide +kernel)
theorem kit_bool_tuple {K : PySem.W.Frag} : PySem.W.kitOne K (.type "bool") (.type "tuple") = some false := kit_ty (by decide +kernel)
theorem kit_bool_dict {K : PySem.W.Frag} : PySem.W.kitOne K (.type "bool") (.type "dict") = some false := kit_ty (by decide +kernel)
theorem kit_int_int {K : PySem.W.Frag} : PySem.W.kitOne K (.type "int") (.type "int") = some true := kit_ty (by decide +kernel)
theorem kit_int_bool {K : PySem.W.Frag} : PySem.W.kitOne K (.type "int") (.type "bool") = some false := kit_ty (by decide +kernel)
theorem kit_int_str {K : PySem.W.Frag} : PySem.W.kitOne K (.type "int") (.type "str") = some false := kit_ty (by decide +kernel)
theorem kit_int_list {K : PySem.W.Frag} : PySem.W.kitOne K (.type "int") (.type "list") = some false := kit_ty (by decide +kernel)
theorem kit_int_tuple {K : PySem.W.Frag} : PySem.W.kitOne K (.type "int") (.type "tuple") = some false := kit_ty (by decide +kernel)
theorem kit_int_dict {K : PySem.W.Frag} : PySem.W.kitOne K (.type "int") (.type "dict") = some false := kit_ty (by decide +kernel)
theorem kit_str_int {K : PySem.W.Frag} : PySem.W.kitOne K (.type "str") (.type "int") = some false := kit_ty (by decide +kernel)
theorem kit_str_bool {K : PySem.W.Frag} : PySem.W.kitOne K (.type "str") (.type "bool") = some false := kit_ty (by decide +kernel)
theorem kit_str_str {K : PySem.W.Frag} : PySem.W.kitOne K (.type "str") (.type "str") = some true := kit_ty (by decide +kernel)
theorem kit_str_list {K : PySem.W.Frag} : PySem.W.kitOne K (.type "str") (.type "list") = some false := kit_ty (by decide +kernel)
theorem kit_str_tuple {K : PySem.W.Frag} : PySem.W.kitOne K (.type "str") (.type "tuple") = some false := kit_ty (by decide +kernel)
theorem kit_str_dict {K : PySem.W.Frag} : PySem.W.kitOne K (.type "str") (.type "dict") = some false := kit_ty (by decide +kernel)
theorem kit_list_int {K : PySem.W.Frag} : PySem.W.kitOne K (.type "list") (.type "int") = some false := kit_ty (by decide +kernel)
theorem kit_list_bool {K : PySem.W.Frag} : PySem.W.kitOne K (.type "list") (.type "bool") = some false := kit_ty (by decide +kernel)
theorem kit_list_str {K : PySem.W.Frag} : PySem.W.kitOne K (.type "list") (.type "str") = some false := kit_ty (by decide +kernel)
theorem kit_list_list {K : PySem.W.Frag} : PySem.W.kitOne K (.type "list") (.type "list") = some true := kit_ty (by decide +kernel)
theorem kit_list_tuple {K : PySem.W.Frag} : PySem.W.kitOne K (.type "list") (.type "tuple") = some false := kit_ty (by decide +kernel)
theorem kit_list_dict {K : PySem.W.Frag} : PySem.W.kitOne K (.type "list") (.type "dict") = some false := kit_ty (by decide +kernel)
theorem kit_tuple_int {K : PySem.W.Frag} : PySem.W.kitOne K (.type "tuple") (.type "int") = some false := kit_ty (by decide +kernel)
theorem kit_tuple_bool {K : PySem.W.Frag} : PySem.W.kitOne K (.type "tuple") (.type "bool") = some false := kit_ty (by decide +kernel)
theorem kit_tuple_str {K : PySem.W.Frag} : PySem.W.kitOne K (.type "tuple") (.type "str") = some false := kit_ty (by decide +kernel)
theorem kit_tuple_list {K : PySem.W.Frag} : PySem.W.kitOne K (.type "tuple") (.type "list") = some false := kit_ty (by decide +kernel)
theorem kit_tuple_tuple {K : PySem.W.Frag} : PySem.W.kitOne K (.type "tuple") (.type "tuple") = some true := kit_ty (by decide +kernel)
theorem kit_tuple_dict {K : PySem.W.Frag} : PySem.W.kitOne K (.type "tuple") (.type "dict") = some false := kit_ty (by decide +kernel)
theorem kit_dict_int {K : PySem.W.Frag} : PySem.W.kitOne K (.type "dict") (.type "int") = some false := kit_ty (by decide +kernel)
theorem kit_dict_bool {K : PySem.W.Frag} : PySem.W.kitOne K (.type "dict") (.type "bool") = some false := kit_ty (by decide +kernel)
theorem kit_dict_str {K : PySem.W.Frag} : PySem.W.kitOne K (.type "dict") (.type "str") = some false := kit_ty (by decide +kernel)
theorem kit_dict_list {K : PySem.W.Frag} : PySem.W.kitOne K (.type "dict") (.type "list") = some false := kit_ty (by decide +kernel)
theorem kit_dict_tuple {K : PySem.W.Frag} : PySem.W.kitOne K (.type "dict") (.type "tuple") = some false := kit_ty (by decide +kernel)
theorem kit_dict_dict {K : PySem.W.Frag} : PySem.W.kitOne K (.type "dict") (.type "dict") = some true := kit_ty (by decide +kernel)
/-- a value's kind, by the abstract heap -/
theorem tyx_str {K : PySem.W.Frag} {H : Hp} {z : Str} : TyX K H (.str z) (.type "str") := .base (.str z)
theorem tyx_int {K : PySem.W.Frag} {H : Hp} {i : Int} : TyX K H (.int i) (.type "int") := .base (.int i)
theorem tyx_bl {K : PySem.W.Frag} {H : Hp} {b : Bool} : TyX K H (.bl b) (.type "bool") := .base (.bl b)
theorem tyx_non {K : PySem.W.Frag} {H : Hp} : TyX K H .non (.type "NoneType") := .base .non
theorem tyx_lst {K : PySem.W.Frag} {H : Hp} {a : Addr} {xs : List V} (h : H a = some (.lst xs)) : TyX K H (.ref a) (.type "list") := .base (.lst h)
theorem tyx_tup {K : PySem.W.Frag} {H : Hp} {a : Addr} {xs : List V} (h : H a = some (.tup xs)) : TyX K H (.ref a) (.type "tuple") := .base (.tup h)
theorem tyx_dK {K : PySem.W.Frag} {H : Hp} {a : Addr} {xs : List (Key × V)} (h : H a = some (.dK xs)) : TyX K H (.ref a) (.type "dict") := .base (.dK h)
/-- a draw from a row or a text -/
def spPick : Sp := fun vs H Q _ => ∃ (W : Wl) (x : V) (n : Nat), vs = [.ref W.w, x] ∧ WellAt H W n ∧ n < 1000000 ∧
  ((∃ (p : Addr) (xs : List V), x = .ref p ∧ p ≠ W.w ∧ H p = some (.lst xs) ∧ 0 < xs.length ∧ xs.length ≤ 1000 ∧ ∀ H' v, v ∈ xs → WellAt H' W (n + 1) → Kp W.w H H' → Q v H') ∨
   (∃ z : Str, x = .str z ∧ 0 < z.length ∧ z.length ≤ 1000 ∧ ∀ H' c, c ∈ z.cps.toList → WellAt H' W (n + 1) → Kp W.w H H' → Q (.str ⟨#[c]⟩) H'))
theorem natAbs_small {i : Int} {n : Nat} (h0 : 0 ≤ i) (h : i ≤ n) (hn : n ≤ 2 ^ 200) : i.natAbs < 2 ^ 300 := by
  have e : i.natAbs ≤ n := by omega
  exact Nat.lt_of_le_of_lt (Nat.le_trans e hn) (Nat.pow_lt_pow_right (by decide) (by decide))
theorem atI_of {α : Type} {xs : List α} {i : Int} (h0 : 0 ≤ i) (h : i < xs.length) : ∃ v, atI xs i = some v ∧ v ∈ xs := by
  obtain ⟨j, rfl⟩ : ∃ j : Nat, i = j := ⟨i.toNat, by omega⟩
  have hj : j < xs.length := by omega
  exact ⟨xs[j], atI_nat (List.getElem?_eq_getElem hj), List.getElem_mem hj⟩
theorem line_le {n : Nat} (h : n ≤ 16777216) : n ≤ sizeLine := by rw [sizeLine_eq]; exact h
theorem line_lt {n : Nat} (h : n < 16777216) : n < sizeLine := by rw [sizeLine_eq]; exact h
theorem if_t {c A B : Prop} [Decidable c] (h : c) (a : A) : if c then A else B := by rw [if_pos h]; exact a
theorem if_f {c A B : Prop} [Decidable c] (h : ¬ c) (b : B) : if c then A else B := by rw [if_neg h]; exact b
/-- two ways of an answer k -/
theorem if_2 {k : Bool} {A B : Prop} (h1 : k = true → A) (h2 : k = false → B) : if k = true then A else B := by
  cases k with
  | true => exact if_t rfl (h1 rfl)
  | false => exact if_f Bool.false_ne_true (h2 rfl)

/-! ### texts -/
open TL in
theorem cutS_mem {z : Str} {lo hi : Option Int} {c : Nat} (h : c ∈ tl (cutS z lo hi)) : c ∈ tl z := by
  have h' : c ∈ (z.cps.toList.drop (HT.sIx z.length 0 lo)).take (HT.sIx z.length z.length hi - HT.sIx z.length 0 lo) := h
  exact List.mem_of_mem_drop (List.mem_of_mem_take h')
open TL in
theorem joinL_mem {S : List Nat} {c : Nat} : ∀ {ps : List (List Nat)}, c ∈ joinL S ps → c ∈ S ∨ ∃ p ∈ ps, c ∈ p
  | [], h => absurd h List.not_mem_nil
  | [p], h => .inr ⟨p, List.mem_singleton.mpr rfl, h⟩
  | p :: q :: r, h => by
    have h' : c ∈ p ++ (S ++ joinL S (q :: r)) := h
    rcases List.mem_append.mp h' with h1 | h1
    · exact .inr ⟨p, List.mem_cons_self, h1⟩
    · rcases List.mem_append.mp h1 with h2 | h2
      · exact .inl h2
      · rcases joinL_mem h2 with h3 | ⟨p', hp, h3⟩
        · exact .inl h3
        · exact .inr ⟨p', List.mem_cons_of_mem _ hp, h3⟩
open TL in
theorem joinL_len {S : List Nat} {m : Nat} : ∀ {ps : List (List Nat)}, (∀ p ∈ ps, p.length ≤ m) → (joinL S ps).length ≤ ps.length * (m + S.length)
  | [], _ => Nat.zero_le _
  | [p], h => by
    have := h p (List.mem_singleton.mpr rfl)
    show p.length ≤ 1 * (m + S.length)
    omega
  | p :: q :: r, h => by
    have h1 := h p List.mem_cons_self
    have h2 := joinL_len (S := S) (ps := q :: r) fun z hz => h z (List.mem_cons_of_mem _ hz)
    show (p ++ (S ++ joinL S (q :: r))).length ≤ (r.length + 1 + 1) * (m + S.length)
    rw [List.length_append, List.length_append, Nat.succ_mul]
    have h3 : (q :: r).length * (m + S.length) = (r.length + 1) * (m + S.length) := rfl
    omega
open TL in
theorem join_mem {y : Str} {ys : List Str} {c : Nat} (h : c ∈ tl (Txt.join y ys)) : c ∈ tl y ∨ ∃ p ∈ ys, c ∈ tl p := by
  rw [join_eq, tl_join] at h
  rcases joinL_mem h with h | ⟨p, hp, h⟩
  · exact .inl h
  · obtain ⟨z, hz, rfl⟩ := List.mem_map.mp hp
    exact .inr ⟨z, hz, h⟩
open TL in
theorem join_len {y : Str} {ys : List Str} {m : Nat} (h : ∀ p ∈ ys, p.length ≤ m) : (Txt.join y ys).length ≤ ys.length * (m + y.length) := by
  rw [len_tl, join_eq, tl_join, len_tl y]
  have := joinL_len (S := tl y) (ps := ys.map tl) (m := m) fun p hp => by
    obtain ⟨z, hz, rfl⟩ := List.mem_map.mp hp
    rw [← len_tl]
    exact h z hz
  rw [List.length_map] at this
  exact this
theorem sum_len {ys : List Str} {m : Nat} (h : ∀ p ∈ ys, p.length ≤ m) : (ys.map (·.length)).sum ≤ ys.length * m := by
  induction ys with
  | nil => exact Nat.zero_le _
  | cons p ys ih =>
    rw [List.map_cons, List.sum_cons, List.length_cons, Nat.succ_mul]
    have h1 := h p List.mem_cons_self
    have h2 := ih fun z hz => h z (List.mem_cons_of_mem _ hz)
    omega
open TL in
theorem spl_mem : ∀ (l acc : List Nat), ∀ p ∈ spl [46] 0 acc l, p.length ≤ acc.length + l.length ∧ ∀ c ∈ p, c ∈ acc ∨ c ∈ l
  | [], acc, p, h => by
    rw [spl_nil] at h
    rw [List.mem_singleton.mp h]
    exact ⟨Nat.le_add_right _ _, fun c hc => .inl hc⟩
  | d :: l, acc, p, h => by
    by_cases e : d = 46
    · subst e
      rw [show spl [46] 0 acc (46 :: l) = acc :: spl [46] 0 [] l from spl_hit (by rfl)] at h
      rcases List.mem_cons.mp h with h | h
      · rw [h]
        exact ⟨Nat.le_add_right _ _, fun c hc => .inl hc⟩
      · obtain ⟨h1, h2⟩ := spl_mem l [] p h
        refine ⟨by simp only [List.length_nil, List.length_cons] at h1 ⊢; omega, fun c hc => ?_⟩
        rcases h2 c hc with h3 | h3
        · exact absurd h3 List.not_mem_nil
        · exact .inr (List.mem_cons_of_mem _ h3)
    · rw [spl_miss (pre_of_head [] l e)] at h
      obtain ⟨h1, h2⟩ := spl_mem l (acc ++ [d]) p h
      refine ⟨by simp only [List.length_append, List.length_cons, List.length_nil] at h1 ⊢; omega, fun c hc => ?_⟩
      rcases h2 c hc with h3 | h3
      · rcases List.mem_append.mp h3 with h4 | h4
        · exact .inl h4
        · rw [List.mem_singleton.mp h4]
          exact .inr List.mem_cons_self
      · exact .inr (List.mem_cons_of_mem _ h3)
open TL in
theorem split_dot_mem {z y : Str} (ey : y = Str.ofString ".") : ∀ p ∈ Txt.split z y, p.length ≤ z.length ∧ ∀ c ∈ tl p, c ∈ tl z := by
  intro p hp
  subst ey
  have e := split_spl z (Str.ofString ".") (by decide +kernel) (kind_ok (by decide +kernel))
  have e1 : tl (Str.ofString ".") = [46] := by decide +kernel
  rw [e1] at e
  have h : tl p ∈ spl [46] 0 [] (tl z) := by rw [← e]; exact List.mem_map_of_mem hp
  obtain ⟨h1, h2⟩ := spl_mem _ _ _ h
  refine ⟨by rw [len_tl, len_tl]; simpa using h1, fun c hc => ?_⟩
  rcases h2 c hc with h3 | h3
  · exact absurd h3 List.not_mem_nil
  · exact h3
theorem cutV_ints (ns : List Int) (lo hi : Option Int) : ∃ cs : List Int, cutV (ns.map V.int) lo hi = cs.map V.int ∧ cs.length ≤ ns.length := by
  refine ⟨(ns.drop (HT.sIx (ns.map V.int).length 0 lo)).take (HT.sIx (ns.map V.int).length (ns.map V.int).length hi - HT.sIx (ns.map V.int).length 0 lo), ?_, ?_⟩
  · unfold cutV
    rw [List.map_take, List.map_drop]
  · rw [List.length_take, List.length_drop]
    omega
section
variable {X : Cx} {CX : CXT} {k : Nat} {f : Addr} {sp : Sp} {E : XK} {x : Str} {p pos : Pos}
theorem pe_callGd0 (F : FnG X.prog X.w X.K X.mg X.base CX k f sp) (hr : Room k X.A) (hgd : X.A.guards = some []) (hg : Gl X x) (hm : X.mg x = some (.ref f)) (hk : PySem.W.keepIn X.K (.ref f) = true) (hx : Passes CX X E)
    (hdb : (x == ("__debug__" : Str)) = false := by decide) : PE X (.Call (.Name x p) [] [] pos) (tCallG sp E tNil) := by
  refine ⟨fun pins s σ H Q I h => ?_⟩
  refine wpAny_Call_Name_kw (ld_glob I hg hm ?_ hdb)
  refine PySem.W.callWith_K0 I.kIn hk (wpAny_call (codeAny_mono (F X.A X.stack s H [] [] Q E hr hgd I.env0 .nil (show Iv (sp [] H Q E) from h).out) fun r' s' hq => ?_))
  cases r' with
  | error er => exact hx pins σ H s er s' I hq
  | ok fl =>
    cases fl with
    | ret u => exact I.after hq
    | next => exact False.elim hq
    | brk => exact False.elim hq
    | cont => exact False.elim hq
end

/-- a and b: both ways meet in R -/
theorem and_two {c : Bool} {tb : TE} {σ : L2.St} {H : Hp} {Q : VK} (R : V → Hp → Prop) (fin : ∀ v H', R v H' → Q v H') (h1 : c = true → (∀ v H', R v H' → Q v H') → tb σ H Q) (h2 : c = false → R (.bl false) H) : if c = true then tb σ H Q else Q (.bl false) H := by
  cases c with
  | true => exact if_t rfl (h1 rfl fin)
  | false => exact if_f Bool.false_ne_true (fin _ _ (h2 rfl))
theorem strOk_of {z : Str} (h : ∀ c ∈ z.cps.toList, c < 128) : PyData.strOk z = true := by
  unfold PyData.strOk
  rw [Array.all_eq_true]
  intro i hi
  have := h z.cps[i] (by rw [Array.mem_toList_iff]; exact Array.getElem_mem hi)
  exact decide_eq_true (by omega)
theorem map_at {α : Type} {f : α → V} {xs : List α} {i : Nat} {v : V} (h : (xs.map f)[i]? = some v) : ∃ x, xs[i]? = some x ∧ v = f x := by
  rw [List.getElem?_map] at h
  cases e : xs[i]? with
  | none => rw [e] at h; cases h
  | some s => rw [e] at h; exact ⟨s, rfl, (Option.some.inj h).symm⟩
theorem take_one {α : Type} {xs : List α} {i : Nat} {x : α} (h : xs[i]? = some x) : xs.take (i + 1) = xs.take i ++ [x] := by
  rw [List.take_add_one, h]
  rfl
end MyL

/-! Own errors with fields: made, raised, caught; a def with a star parameter. -/
namespace MyL
open PySem PySem.Spec PyProof.Rows L2

/-- an own error's class: what the top has written of it -/
structure ErrC (K : PySem.W.Frag) (C : Addr) : Prop where
  o : OexC K C
  x : XfC K C
  e : ExcC K C
/-- two fields -/
structure ErrC2 (K : PySem.W.Frag) (C : Addr) (f g : Str) : Prop extends ErrC K C where
  f1 : PySem.W.findIn K (.ref C) f = some none
  f2 : PySem.W.findIn K (.ref C) g = some none
/-- def __init__(self, x, y): self.f = x; self.g = y -/
def spInit2 (C : Addr) (f g : Str) : Sp := fun vs H Q _ => ∃ (a : Addr) (x y : V), vs = [.ref a, x, y] ∧ H a = some (exo a C none) ∧
  ∀ d, H d = none → d ≠ a → Q .non (upd (upd (upd H d (exd d [(f, x)])) a (exo a C (some d))) d (exd d [(g, y), (f, x)]))
/-- a reading of arguments, weakened -/
def tMon (ta : TA) : TA := fun σ H R => ∃ R' : List V → Hp → Prop, ta σ H R' ∧ ∀ vs H1, R' vs H1 → R vs H1
theorem pa_mon {X : Cx} {es : List Expr} {ta : TA} (h : PA X es ta) : PA X es (tMon ta) := by
  refine ⟨fun pos pins s σ H Q I q => ?_⟩
  obtain ⟨R', q1, q2⟩ := q
  exact thn (h.run pos pins s σ H R' I q1) fun us s1 ⟨vs, H1, I1, r, z⟩ => ⟨vs, H1, I1, r, q2 vs H1 z⟩
/-- C(x, y) -/
def tMk2 (C : Addr) (f g : Str) (ta : TA) : L2.St → Hp → XK → Prop := fun σ H Q => ta σ H fun vs H1 => ∃ x y : V, vs = [x, y] ∧ ∀ d, H1 d = none → Q (.ref C) (some d) (upd H1 d (.xd [(g, y), (f, x)]))
theorem mk2_heap {H : Hp} {a d : Addr} {o1 o2 o3 o4 u : HO} (ha : H a = none) (hd : H d = none) (ne : d ≠ a) : upd (del (upd (upd (upd (upd H a o1) d o2) a o3) d o4) a) d u = upd H d u := by
  funext b
  by_cases hbd : b = d
  · rw [hbd, upd_same, upd_same]
  · rw [upd_ne hbd, upd_ne hbd]
    by_cases hba : b = a
    · rw [hba, del_same, ha]
    · rw [del_ne hba, upd_ne hbd, upd_ne hba, upd_ne hbd, upd_ne hba]
section
variable {X : Cx} {e : Expr} {es : List Expr} {ta : TA} {p pos : Pos}
theorem pmk_2 {CX : CXT} {x : Str} {C fI : Addr} {k : Nat} {fd : FuncData} {ps : List Str} {f g : Str} (T : OexC X.K C) (iC : PySem.W.findIn X.K (.ref C) "__init__" = some (some (.ref fI))) (tI : PySem.W.typeIn X.K (.ref fI) = some (.type "function"))
    (F1 : FnOk X.prog X.w X.K X.mg X.base CX k fI fd ps (spInit2 C f g)) (hr : Room (k + 1) X.A) (hb : Binds X.K fd ps []) (hx : Passes CX X (fun _ _ _ => False)) (hg : Gl X x) (hm : X.mg x = some (.ref C)) (ha : PA X (e :: es) ta)
    (hdb : (x == ("__debug__" : Str)) = false := by decide) (he : starEach (e :: es) X.env = (false, eval e X.env) :: starEach es X.env := by rfl) (hpl : (backTo pos (starEach es X.env)).any (·.1) = false := by rfl) :
    PMk X (.Call (.Name x p) (e :: es) [] pos) (tMk2 C f g ta) := by
  intro pins s σ H Q I h
  refine pmk_oex (sp := spInit2 C f g) (ds := []) (dvs := []) T iC tI F1 hr hb .nil hx hg hm (pa_mon ha) hdb he hpl pins s σ H Q I ?_
  refine ⟨_, h, ?_⟩
  rintro vs H1 ⟨v1, v2, rfl, q⟩
  refine ⟨(by show 2 ≤ 1000; decide), fun a ha1 => ⟨a, v1, v2, rfl, upd_same, fun d hd hne => ⟨rfl, d, _, (upd_ne (Ne.symm hne)).trans upd_same, upd_same, ?_, ?_⟩⟩⟩
  · rw [upd_ne hne] at hd
    exact hd
  · rw [upd_ne hne] at hd
    rw [mk2_heap ha1 hd hne]
    exact q d hd
end
/-- the two stores -/
theorem init2_ok {P : Program} {w : World} {K : PySem.W.Frag} {mg : Str → Option Value} {base : Heap} {C fI : Addr} {fd : FuncData} {q n1 n2 f g : Str} {st : Stmt} (T : ErrC2 K C f g)
    (F : Fun K "__init__" q st fI fd) (S : FnScope ["self", n1, n2] ["self", n1, n2] (defScope st))
    (hb : ∀ (cdv : Value) (A : Around) (outer : List Env) (s : Shared) (H : Hp) (E : XK), PSs (cxOf CX0 P w K mg base ["self", n1, n2] q (defScope st) fI cdv A outer s H E).nox (defBody st) (tSeq (tOst K f (tVar 0) (tVar 1)) (tOst K g (tVar 0) (tVar 2)))) :
    FnOk P w K mg base CX0 1 fI fd ["self", n1, n2] (spInit2 C f g) := by
  refine F.ok S (fun vs H Q E h => ?_) (fun cdv A outer s H vs Q E hr h => ⟨_, hb cdv A outer s H E, ?_⟩)
  · obtain ⟨_, _, _, rfl, _⟩ := h
    rfl
  · obtain ⟨a, v1, v2, rfl, ha, q⟩ := h
    refine ⟨_, rfl, _, rfl, a, C, rfl, T.o, T.f1, .inl ⟨ha, fun d hd hne => ⟨_, rfl, _, rfl, a, C, rfl, T.o, T.f2, .inr ⟨d, _, upd_same, (upd_ne hne).trans upd_same, by show 1 ≤ 900; decide, q d hd hne⟩⟩⟩⟩

/-! ### a def f(*v) -/
section
variable {P : Program} {w : World} {K : PySem.W.Frag} {mg : Str → Option Value} {base : Heap} {CX : CXT} {k : Nat} {f : Addr} {sp : Sp}
theorem Fun_starG {x qual pv : Str} {st : Stmt} {fd : FuncData} {N : List Str} (F : Fun K x qual st f fd) (S : FnScope N [pv] (defScope st)) (hCX : StX.CXUp CX)
    (hb : ∀ (kV doc pm : Value) (an : Option Addr) (cdv ct : Value) (us : List Value), bindArgs (PySem.W.fnOf x qual (defArgs st) (defBody st) (defScope st) .none kV doc pm an cdv ct) ⟨us, []⟩ = (newTuple us >>= fun t => pure [(pv, t)]))
    (hbody : ∀ (cdv : Value) (A : Around) (outer : List Env) (s : Shared) (H : Hp) (vs : List V) (Q : VK) (E : XK), Room k (A.deeper (envOfC qual (defScope st) s.heap.objs.size f cdv)) → A.guards = some [] → sp vs H Q E →
      ∃ t, PSs (cxOf CX P w K mg base N qual (defScope st) f cdv A outer s H E) (defBody st) t ∧ t { nx := fun _ H' => Q .non H', rt := Q } (start N vs) H) :
    FnG P w K mg base CX (k + 1) f (fun vs H Q E => vs.length ≤ sizeLine ∧ ∀ p, H p = none → sp [.ref p] (upd H p (.tup vs)) Q E) := by
  obtain ⟨oc, od, kV, doc, pm, an, cdv, ct, osl, rfl, lk, hcd⟩ := F.ex
  intro A outer s H us vs Q E hr hg e0 r hsp
  obtain ⟨hz, hq⟩ := hsp
  have hn : H s.heap.objs.size = none := e0.hok.fresh (Nat.le_refl _)
  have hl : us.length ≤ sizeLine := by rw [← r.length]; exact hz
  refine StX.run_bnd lk hcd S hr e0 (G := fun xs H2 => ∃ p, H p = none ∧ xs = [V.ref p] ∧ H2 = upd H p (.tup vs)) (fun A' Ex Q' h => ?_) fun s2 H2 xs ⟨p, hp, ex, eH⟩ hr' => ?_
  · rw [hb kV doc pm an cdv ct us]
    refine wpAny_bind (wpAny_newTuple (wpAny_pure ?_) hl)
    have new : ObjOk P w (upd H s.heap.objs.size (.tup vs)) (s.heap.push ({ cls := .type "tuple", data := .seq us.toArray } : Obj)) s.heap.objs.size (.tup vs) := ⟨hz, us, r, ⟨_, Heap.get?_push_size _ rfl, rfl, _, rfl⟩⟩
    have un := StX.un_laid (fs := frs outer) (s := s) (o := ({ cls := .type "tuple", data := .seq us.toArray } : Obj)) (u := .tup vs) hn
    exact h _ _ [V.ref s.heap.objs.size] [Value.ref s.heap.objs.size] (StX.env0_laid e0 new) un rfl (fun e s' => hCX outer s H _ _ E e s' un (fun b o q => Heap.get?_push_of_some _ q) rfl) (.cons rfl .nil) rfl ⟨_, hn, rfl, rfl⟩
  · subst ex eH
    exact hbody cdv A outer s2 _ _ Q E hr' hg (hq p hp)
end

/-! ### a def called in a try -/
section
variable {X : Cx} {CX : CXT} {k : Nat} {f : Addr} {sp : Sp} {E : L2.St → XK} {x : Str} {p pos : Pos} {e : Expr} {es : List Expr} {t : TA}
def tCallGS (sp : Sp) (E : L2.St → XK) (t : TA) : TE := fun σ H Q => t σ H fun vs H1 => Iv (sp vs H1 Q (E σ))
theorem pe_callGS (F : FnG X.prog X.w X.K X.mg X.base CX k f sp) (hr : Room k X.A) (hgd : X.A.guards = some []) (hg : Gl X x) (hm : X.mg x = some (.ref f)) (hk : PySem.W.keepIn X.K (.ref f) = true) (hx : ∀ σ, PassesAt CX X σ (E σ)) (ha : PA X (e :: es) t)
    (hdb : (x == ("__debug__" : Str)) = false := by decide) (he : starEach (e :: es) X.env = (false, eval e X.env) :: starEach es X.env := by rfl) (hpl : (backTo pos (starEach es X.env)).any (·.1) = false := by rfl) :
    PE X (.Call (.Name x p) (e :: es) [] pos) (tCallGS sp E t) := by
  refine ⟨fun pins s σ H Q I h => ?_⟩
  refine wpAny_Call_Name_kw (ld_glob I hg hm ?_ hdb)
  refine PySem.W.callWith_K (h₀ := X.base) I.ok.mod.kin hk ?_ he hpl
  refine thn (ha.run pos pins s σ H _ I h) fun us s1 ⟨vs, H1, I1, r, q⟩ => ⟨I1.kIn, ?_⟩
  refine wpAny_call (codeAny_mono (F X.A X.stack s1 H1 us vs Q (E σ) hr hgd I1.env0 r q.out) fun r' s' hq => ?_)
  cases r' with
  | error er => exact hx σ pins H1 s1 er s' I1 hq
  | ok fl =>
    cases fl with
    | ret u => exact I1.after hq
    | next => exact False.elim hq
    | brk => exact False.elim hq
    | cont => exact False.elim hq
theorem pss_eq {body : List Stmt} {t u : TS} (h : PSs X body t) (e : t = u) : PSs X body u := e ▸ h
end

/-! ### isinstance of a caught error that has fields -/
def rIsED (K : PySem.W.Frag) (D a : Addr) (cls : Value) (d : Option Addr) : List V → Hp → VK → Prop := fun xs H Q => ∃ (c : V) (cv : Value) (b : Bool) (dd : Addr) (fs : List (Str × V)), xs = [.ref a, c] ∧ cls = .ref D ∧ ClsV c cv ∧ PySem.W.kitOne K (.ref D) cv = some b ∧ d = some dd ∧ H dd = some (.xd fs) ∧ Q (.bl b) H
theorem call_isED {X : Cx} {a D : Addr} {oe : Obj} {cls : Value} {d : Option Addr} {pn : List (Addr × Obj)} (C : ExcC X.K D) (hz : Zc cls d oe) (hf : ∃ vs, oe.data = .fields vs) : CallR (X.suite a ((a, oe) :: pn)) (.builtin "isinstance") (rIsED X.K D a cls d) := by
  intro pins s σ H xs us Q I r h
  obtain ⟨c, cv, b, dd, fs, rfl, rfl, hcv, e, rfl, hd, q⟩ := h
  cases r with
  | cons rx rr =>
    cases rr with
    | cons rt rr =>
      cases rr
      cases rx
      have ec := hcv.eq rt
      subst ec
      obtain ⟨hget, _⟩ := I.pin (a, oe) (List.mem_append.mpr (.inl List.mem_cons_self))
      obtain ⟨vs, hv⟩ := hf
      have hx : ObjOk X.prog X.w H s.heap dd (.xd fs) := I.hok dd _ hd
      obtain ⟨mA, hns, _⟩ := hx
      obtain ⟨od, ho, _⟩ := lookIn_ns hns
      have J : PySem.W.InstAt s.heap a oe D (some od) := ⟨hget, hz.1, by unfold PySem.W.notCls; rw [hv] <;> rfl, by rw [hz.2]; exact ho⟩
      obtain ⟨cd, hc, _⟩ := PySem.W.any_some C.hd
      exact PySem.W.kia_one (PySem.W.kitx_exc (by rw [hc] <;> rfl) C.hg C.hk C.hs C.ha C.hn C.ht C.hm) I.kIn J e (fun z => nomatch z) fun tk => ⟨.bl b, H, I.kept (t' := tk) fun _ _ z => z, rfl, q⟩
/-- an error's class in an except clause -/
theorem exm_of {K : PySem.W.Frag} {C : Addr} {cls : Value} {b : Bool} (E : ErrC K C) (h : PySem.W.subIn K cls (.ref C) = some b) : PySem.W.exmOne K cls (.ref C) = some b := PySem.W.exm_ref E.o.exC E.e.hd E.o.tyC h
theorem kit_own {K : PySem.W.Frag} {D : Addr} {t : Value} (E : ErrC K D) (h : PySem.W.subIn K t (.ref D) = some true) : PySem.W.kitOne K t (.ref D) = some true := by
  unfold PySem.W.kitOne
  by_cases e : (t == Value.ref D) = true
  · rw [if_pos e]
  · rw [if_neg e]
    obtain ⟨cd, hc, _⟩ := PySem.W.any_some E.e.hd
    have e2 : ((PySem.W.clsIn K D).isSome && PySem.W.typeIn K (.ref D) == some (.type "type")) = true := by rw [hc, E.o.tyC] <;> rfl
    show (if ((PySem.W.clsIn K D).isSome && PySem.W.typeIn K (.ref D) == some (.type "type")) = true then PySem.W.subIn K t (.ref D) else none) = some true
    rw [if_pos e2]
    exact h
end MyL

namespace MyL
open PySem PySem.Spec PyProof.Rows L2
/-! ### the end of a law whose def is called where no repr is under way -/
section
variable {P : Program} {w : World} {K : PySem.W.Frag} {mg mb : Str → Option Value} {CX : CXT} {k : Nat} {fa a : Addr} {sp : Sp} {s1 : Shared} {vs : List Value} {ns : List Int}
/-- what the abstract heap at the law's entry must be -/
structure EntryH (P : Program) (w : World) (K : PySem.W.Frag) (s1 : Shared) (a : Addr) (H : Hp) : Prop where
  only : Only H
  ok : HOk P w H s1.heap
  at_ : ∀ b, H b ≠ none → b = a
  off : H a ≠ none → K.lookup a = none
theorem entry_run {H : Hp} (EH : EntryH P w K s1 a H) (KX : K.In s1.heap) (hns : s1.heap.Ns mainGlobals mg) (hb : s1.heap.Ns builtinsNs mb) (hbb : ∀ x : Str, x ≠ "__name__" → mb x = bootBuiltins x) (hlim : s1.heap.NoLimit) (hg : s1.gens = #[])
    (ha : s1.heap.get? a = some { cls := .type "list", data := .seq vs.toArray }) (hr : Room k callerA)
    (F : ∀ base : Heap, K.In base → base.Ns mainGlobals mg → FnG P w K mg base CX k fa sp)
    (hsp : sp [.ref a] H (fun v _ => v = .bl true) fun _ _ _ => False) (hCX : ∀ e s', CX [] H s1 (fun _ _ _ => False) e s' → False) :
    codeAny (model P w) callerA (.call (.ref fa) ⟨[.ref a], []⟩) (fun r s' => r = .ok (.ret (.bool true)) ∧ OldK s1.heap s'.heap ∧ s'.os = s1.os ∧ AllBare s'.gens) s1 := by
  have untr : ∀ {b : Addr} {o : Obj}, s1.heap.get? b = some o → o ≠ { cls := .type "list", data := .seq vs.toArray } → H b = none := by
    intro b o e d
    cases q : H b with
    | none => rfl
    | some u =>
      have z : b = a := EH.at_ b (by rw [q]; exact fun z => nomatch z)
      rw [z, ha] at e
      exact absurd (Option.some.inj e).symm d
  have hid : ∀ {b : Addr} {m : Str → Option Value}, s1.heap.Ns b m → (hidT s1.heap H).Ns b m := by
    rintro b m ⟨o, es, ep, e, d, r⟩
    refine ⟨o, es, ep, hidT_get e (untr e fun z => ?_), d, r⟩
    rw [z] at d
    exact nomatch d
  have KB : K.In (hidT s1.heap H) := by
    intro b o e
    refine hidT_get (KX b o e) ?_
    cases q : H b with
    | none => rfl
    | some u =>
      have z : b = a := EH.at_ b (by rw [q]; exact fun z => nomatch z)
      subst z
      rw [EH.off (by rw [q]; exact fun z => nomatch z)] at e
      exact nomatch e
  obtain ⟨mc, l1, l2⟩ := hlim
  have M : Mod K mg (hidT s1.heap H) := { kin := KB, glob := hid hns, blt := ⟨mb, hid hb, hbb⟩, nolimit := ⟨mc, hid l1, l2⟩ }
  have E0 : Env0 P w K mg (hidT s1.heap H) callerA [] s1 H :=
    { frames := rfl, mod := M, bs := fun b o e => of_hidT e, bsz := Nat.le_of_eq (hidT_size _ _), funs := trivial, frf := (fun b z => nomatch z), hok := EH.ok, bare := .of_eq hg }
  refine codeAny_mono (F _ KB (hid hns) callerA [] s1 H [.ref a] [.ref a] _ _ hr rfl E0 (.cons rfl .nil) hsp) fun r s' h => ?_
  match r, h with
  | .error e, h => exact (hCX e s' h).elim
  | .ok .next, h => exact h.elim
  | .ok .brk, h => exact h.elim
  | .ok .cont, h => exact h.elim
  | .ok (.ret u), h =>
    obtain ⟨v, H2, hos, hbare, un, hok2, ru, rfl⟩ := h
    obtain rfl : u = Value.bool true := ru
    refine ⟨rfl, OldK.of_keep fun b o e => ?_, hos, hbare⟩
    rcases EH.only b with z | ⟨ob, xs, z⟩
    · exact un.keep b o e z (fun q => nomatch q) (fun q => nomatch q)
    · have e1 := (EH.ok b _ z).1
      have e2 := (hok2 b _ (un.frzs b ob _ z)).1
      rw [e] at e1
      rw [e2, Option.some.inj e1]
theorem entry_at (KX : K.In s1.heap) (ha : s1.heap.get? a = some { cls := .type "list", data := .seq vs.toArray }) (hi : IntsAre vs ns) (hl : ns.length ≤ sizeLine) : ∃ H, EntryH P w K s1 a H ∧ SqL K H a (ns.map V.int) := by
  have rv := vals_ints hi
  cases hk : K.lookup a with
  | some o =>
    have e := KX a o hk
    rw [ha] at e
    obtain rfl := Option.some.inj e
    refine ⟨fun _ => none, ⟨fun _ => .inl rfl, (fun b u z => nomatch z), fun b z => absurd rfl z, fun z => absurd rfl z⟩, .inr ⟨_, vs.toArray, _, hk, rfl, rfl, rfl, ?_, by simpa using rv⟩⟩
    rw [List.size_toArray, hi.length]
    exact hl
  | none =>
    refine ⟨fun b => if b = a then some (.frz { cls := .type "list", data := .seq vs.toArray } (.lst (ns.map V.int))) else none, ⟨fun b => ?_, fun b u z => ?_, fun b z => ?_, fun _ => hk⟩, .inl (.inr ⟨_, if_pos rfl⟩)⟩
    · by_cases c : b = a
      · exact .inr ⟨_, _, if_pos c⟩
      · exact .inl (if_neg c)
    · by_cases c : b = a
      · subst c
        rw [if_pos rfl] at z
        obtain rfl := Option.some.inj z
        exact ⟨ha, (by rw [List.length_map]; exact hl), vs, _, rv, ha⟩
      · rw [if_neg c] at z
        exact nomatch z
    · by_cases c : b = a
      · exact c
      · exact absurd (if_neg c) z
end
theorem walk_ofG {l : PySem.W.OpenLaw} {n k : Nat} {q : Program} {loose : List Str} {XP : (Str → Option Value) → Heap → Prop} {YP : World → Heap → Prop} {d : DefRec} {K : Params → PySem.W.Frag} {CX : World → CXT} {sp : World → Sp}
    (hn : l.most = some n) (hn2 : n ≤ sizeLine) (hdf : d.params.defaults = []) (hr : Room k callerA) (hY : ∀ (w : World) (h : Heap), YP w h → (K w.params).In h)
    (F : ∀ (w : World) (mg : Str → Option Value) (fa : Addr) (h : Heap), (K w.params).In h → h.Ns mainGlobals mg → mg d.name = some (.ref fa) →
      ∀ base : Heap, (K w.params).In base → base.Ns mainGlobals mg → FnG l.prog w (K w.params) mg base (CX w) k fa (sp w))
    (hsp : ∀ (w : World) (H : Hp) (a : Addr) (ns : List Int), ns.length ≤ n → Only H → SqL (K w.params) H a (ns.map V.int) → sp w [.ref a] H (fun v _ => v = .bl true) fun _ _ _ => False)
    (hCX : ∀ (w : World) (H : Hp) (s : Shared) (e : Value) (s' : Shared), CX w [] H s (fun _ _ _ => False) e s' → False) :
    PySem.W.WalkO q loose XP YP l.row.toRowW d [] (fun f vs => PySem.call f vs) := by
  refine Att.attach_call hn hdf fun w s₀ s₁ mg mb fa o pm cd doc a vs ns G Y ho hd hcd hmg hobj hints hlen hg => ?_
  have KX := hY w _ Y
  obtain ⟨H, EH, hS⟩ := entry_at (P := l.prog) (w := w) KX hobj hints (Nat.le_trans hlen hn2)
  exact entry_run EH KX G.T.g G.T.b G.T.builtins G.T.nolimit hg hobj hr (fun base h1 h2 => F w mg fa _ KX G.T.g hmg base h1 h2) (hsp w H a ns hlen EH.only hS) fun e s' => hCX w H s₁ e s'
end MyL

namespace K01
open PySem PySem.Spec PyProof.Rows L2 MyL
def top (i : Nat) : Stmt := PySem.Challenge.pw_dimkeeper_k01_names_and_integers_by_thei.main.body.getD i (.Pass ⟨0, 0, 0, 0⟩)
abbrev s_is_integer : Stmt := top 8
theorem sc_is_integer : FnScope ["value"] ["value"] (defScope s_is_integer) := ⟨rfl, rfl, rfl, by decide +kernel, rfl, by decide +kernel, by decide +kernel⟩
abbrev s_is_within : Stmt := top 9
theorem sc_is_within : FnScope ["value", "least", "most"] ["value", "least", "most"] (defScope s_is_within) := ⟨rfl, rfl, rfl, by decide +kernel, rfl, by decide +kernel, by decide +kernel⟩
abbrev s_is_stem : Stmt := top 10
theorem sc_is_stem : FnScope ["value", "sign"] ["value"] (defScope s_is_stem) := ⟨rfl, rfl, rfl, by decide +kernel, rfl, by decide +kernel, by decide +kernel⟩
abbrev s_is_name : Stmt := top 11
theorem sc_is_name : FnScope ["value", "stems", "stem"] ["value"] (defScope s_is_name) := ⟨rfl, rfl, rfl, by decide +kernel, rfl, by decide +kernel, by decide +kernel⟩
abbrev s_joined_name : Stmt := top 12
theorem sc_joined_name : FnScope ["names", "made"] ["names"] (defScope s_joined_name) := ⟨rfl, rfl, rfl, by decide +kernel, rfl, by decide +kernel, by decide +kernel⟩
abbrev s_l_well : Stmt := top 14
theorem sc_l_well : FnScope ["_law_script", "_law_cell"] ["_law_script"] (defScope s_l_well) := ⟨rfl, rfl, rfl, by decide +kernel, rfl, by decide +kernel, by decide +kernel⟩
abbrev s_l_dip : Stmt := top 15
theorem sc_l_dip : FnScope ["_law_well_here", "_law_many", "_law_rest", "_law_turn", "_law_cell", "_law_mixed"] ["_law_well_here", "_law_many"] (defScope s_l_dip) := ⟨rfl, rfl, rfl, by decide +kernel, rfl, by decide +kernel, by decide +kernel⟩
abbrev s_l_pick : Stmt := top 16
theorem sc_l_pick : FnScope ["_law_well_here", "_law_some"] ["_law_well_here", "_law_some"] (defScope s_l_pick) := ⟨rfl, rfl, rfl, by decide +kernel, rfl, by decide +kernel, by decide +kernel⟩
abbrev s_l_alphabet : Stmt := top 17
theorem sc_l_alphabet : FnScope ["_law_signs"] [] (defScope s_l_alphabet) := ⟨rfl, rfl, rfl, by decide +kernel, rfl, by decide +kernel, by decide +kernel⟩
abbrev s_l_stem : Stmt := top 18
theorem sc_l_stem : FnScope ["_law_well_here", "_law_letters", "_law_more", "_law_at"] ["_law_well_here"] (defScope s_l_stem) := ⟨rfl, rfl, rfl, by decide +kernel, rfl, by decide +kernel, by decide +kernel⟩
abbrev s_l_text : Stmt := top 19
theorem sc_l_text : FnScope ["_law_well_here", "_law_stems_here", "_law_turn", "_law_text_here", "_law_way", "_law_place", "_law_sign"] ["_law_well_here"] (defScope s_l_text) := ⟨rfl, rfl, rfl, by decide +kernel, rfl, by decide +kernel, by decide +kernel⟩
abbrev s_l_sound : Stmt := top 20
theorem sc_l_sound : FnScope ["_law_text_here", "_law_at", "_law_sign"] ["_law_text_here"] (defScope s_l_sound) := ⟨rfl, rfl, rfl, by decide +kernel, rfl, by decide +kernel, by decide +kernel⟩
abbrev s_l_stems : Stmt := top 21
theorem sc_l_stems : FnScope ["_law_text_here", "_law_parts", "_law_begun", "_law_sign"] ["_law_text_here"] (defScope s_l_stems) := ⟨rfl, rfl, rfl, by decide +kernel, rfl, by decide +kernel, by decide +kernel⟩
abbrev s_l_text_right : Stmt := top 22
theorem sc_l_text_right : FnScope ["_law_well_here", "_law_text_here", "_law_stems_here", "_law_due", "_law_stem_here", "_law_told"] ["_law_well_here"] (defScope s_l_text_right) := ⟨rfl, rfl, rfl, by decide +kernel, rfl, by decide +kernel, by decide +kernel⟩
abbrev s_l_number_right : Stmt := top 23
theorem sc_l_number_right : FnScope ["_law_well_here", "_law_number", "_law_least", "_law_most", "_law_due", "_law_told"] ["_law_well_here"] (defScope s_l_number_right) := ⟨rfl, rfl, rfl, by decide +kernel, rfl, by decide +kernel, by decide +kernel⟩
abbrev s_l_odd_right : Stmt := top 24
theorem sc_l_odd_right : FnScope ["_law_well_here", "_law_odd", "_law_told"] ["_law_well_here"] (defScope s_l_odd_right) := ⟨rfl, rfl, rfl, by decide +kernel, rfl, by decide +kernel, by decide +kernel⟩
abbrev s_l_joined_right : Stmt := top 25
theorem sc_l_joined_right : FnScope ["_law_well_here", "_law_names", "_law_stems_here", "_law_turn", "_law_many", "_law_at", "_law_made", "_law_found", "error"] ["_law_well_here"] (defScope s_l_joined_right) := ⟨rfl, rfl, rfl, by decide +kernel, rfl, by decide +kernel, by decide +kernel⟩
abbrev s_law : Stmt := top 26
theorem sc_law : FnScope ["_law_script", "_law_well_here", "_law_turn"] ["_law_script"] (defScope s_law) := ⟨rfl, rfl, rfl, by decide +kernel, rfl, by decide +kernel, by decide +kernel⟩
abbrev s_TooMany_init : Stmt := inClass (top 2) 0
theorem sc_TooMany_init : FnScope ["self", "what", "most"] ["self", "what", "most"] (defScope s_TooMany_init) := ⟨rfl, rfl, rfl, by decide +kernel, rfl, by decide +kernel, by decide +kernel⟩
structure Adr where
  (is_integer is_within is_stem is_name joined_name l_well l_dip l_pick l_alphabet l_stem l_text l_sound l_stems l_text_right l_number_right l_odd_right l_joined_right law c_DimError c_TooMany i_TooMany : Addr)
structure Txt (K : PySem.W.Frag) (mg : Str → Option Value) (A : Adr) : Prop where
  m_is_integer : mg "is_integer" = some (.ref A.is_integer)
  k_is_integer : PySem.W.keepIn K (.ref A.is_integer) = true
  F_is_integer : ∃ fd, Fun K "is_integer" "is_integer" s_is_integer A.is_integer fd
  m_is_within : mg "is_within" = some (.ref A.is_within)
  k_is_within : PySem.W.keepIn K (.ref A.is_within) = true
  F_is_within : ∃ fd, Fun K "is_within" "is_within" s_is_within A.is_within fd
  m_is_stem : mg "is_stem" = some (.ref A.is_stem)
  k_is_stem : PySem.W.keepIn K (.ref A.is_stem) = true
  F_is_stem : ∃ fd, Fun K "is_stem" "is_stem" s_is_stem A.is_stem fd
  m_is_name : mg "is_name" = some (.ref A.is_name)
  k_is_name : PySem.W.keepIn K (.ref A.is_name) = true
  F_is_name : ∃ fd, Fun K "is_name" "is_name" s_is_name A.is_name fd
  m_joined_name : mg "joined_name" = some (.ref A.joined_name)
  k_joined_name : PySem.W.keepIn K (.ref A.joined_name) = true
  F_joined_name : ∃ fd, Fun K "joined_name" "joined_name" s_joined_name A.joined_name fd
  m_l_well : mg "_law_well" = some (.ref A.l_well)
  k_l_well : PySem.W.keepIn K (.ref A.l_well) = true
  F_l_well : ∃ fd, Fun K "_law_well" "_law_well" s_l_well A.l_well fd
  m_l_dip : mg "_law_dip" = some (.ref A.l_dip)
  k_l_dip : PySem.W.keepIn K (.ref A.l_dip) = true
  F_l_dip : ∃ fd, Fun K "_law_dip" "_law_dip" s_l_dip A.l_dip fd
  m_l_pick : mg "_law_pick" = some (.ref A.l_pick)
  k_l_pick : PySem.W.keepIn K (.ref A.l_pick) = true
  F_l_pick : ∃ fd, Fun K "_law_pick" "_law_pick" s_l_pick A.l_pick fd
  m_l_alphabet : mg "_law_alphabet" = some (.ref A.l_alphabet)
  k_l_alphabet : PySem.W.keepIn K (.ref A.l_alphabet) = true
  F_l_alphabet : ∃ fd, Fun K "_law_alphabet" "_law_alphabet" s_l_alphabet A.l_alphabet fd
  m_l_stem : mg "_law_stem" = some (.ref A.l_stem)
  k_l_stem : PySem.W.keepIn K (.ref A.l_stem) = true
  F_l_stem : ∃ fd, Fun K "_law_stem" "_law_stem" s_l_stem A.l_stem fd
  m_l_text : mg "_law_text" = some (.ref A.l_text)
  k_l_text : PySem.W.keepIn K (.ref A.l_text) = true
  F_l_text : ∃ fd, Fun K "_law_text" "_law_text" s_l_text A.l_text fd
  m_l_sound : mg "_law_sound" = some (.ref A.l_sound)
  k_l_sound : PySem.W.keepIn K (.ref A.l_sound) = true
  F_l_sound : ∃ fd, Fun K "_law_sound" "_law_sound" s_l_sound A.l_sound fd
  m_l_stems : mg "_law_stems" = some (.ref A.l_stems)
  k_l_stems : PySem.W.keepIn K (.ref A.l_stems) = true
  F_l_stems : ∃ fd, Fun K "_law_stems" "_law_stems" s_l_stems A.l_stems fd
  m_l_text_right : mg "_law_text_right" = some (.ref A.l_text_right)
  k_l_text_right : PySem.W.keepIn K (.ref A.l_text_right) = true
  F_l_text_right : ∃ fd, Fun K "_law_text_right" "_law_text_right" s_l_text_right A.l_text_right fd
  m_l_number_right : mg "_law_number_right" = some (.ref A.l_number_right)
  k_l_number_right : PySem.W.keepIn K (.ref A.l_number_right) = true
  F_l_number_right : ∃ fd, Fun K "_law_number_right" "_law_number_right" s_l_number_right A.l_number_right fd
  m_l_odd_right : mg "_law_odd_right" = some (.ref A.l_odd_right)
  k_l_odd_right : PySem.W.keepIn K (.ref A.l_odd_right) = true
  F_l_odd_right : ∃ fd, Fun K "_law_odd_right" "_law_odd_right" s_l_odd_right A.l_odd_right fd
  m_l_joined_right : mg "_law_joined_right" = some (.ref A.l_joined_right)
  k_l_joined_right : PySem.W.keepIn K (.ref A.l_joined_right) = true
  F_l_joined_right : ∃ fd, Fun K "_law_joined_right" "_law_joined_right" s_l_joined_right A.l_joined_right fd
  m_law : mg "law" = some (.ref A.law)
  k_law : PySem.W.keepIn K (.ref A.law) = true
  F_law : ∃ fd, Fun K "law" "law" s_law A.law fd
  m_DimError : mg "DimError" = some (.ref A.c_DimError)
  E_DimError : ErrC K A.c_DimError 
  m_TooMany : mg "TooMany" = some (.ref A.c_TooMany)
  E_TooMany : ErrC2 K A.c_TooMany "what" "most"
  iC_TooMany : PySem.W.findIn K (.ref A.c_TooMany) "__init__" = some (some (.ref A.i_TooMany))
  tI_TooMany : PySem.W.typeIn K (.ref A.i_TooMany) = some (.type "function")
  FI_TooMany : ∃ fd, Fun K "__init__" "TooMany.__init__" s_TooMany_init A.i_TooMany fd
  sub_TooMany_TooMany : PySem.W.subIn K (.ref A.c_TooMany) (.ref A.c_TooMany) = some true
  sub_TooMany_DimError : PySem.W.subIn K (.ref A.c_TooMany) (.ref A.c_DimError) = some true
  n_len : mg "len" = none
  n_int : mg "int" = none
  n_abs : mg "abs" = none
  n_isinstance : mg "isinstance" = none
  n_str : mg "str" = none
  n_bool : mg "bool" = none
  n_range : mg "range" = none
  n_enumerate : mg "enumerate" = none
  n_list : mg "list" = none
  n_repr : mg "repr" = none
  n_ValueError : mg "ValueError" = none
  v_MOST_STEMS : ∃ u, mg "MOST_STEMS" = some u ∧ RelV (.int 6) u
  v_MOST_SIGNS : ∃ u, mg "MOST_SIGNS" = some u ∧ RelV (.int 12) u
  v_SMALL : ∃ u, mg "SMALL" = some u ∧ RelV (.str "abcdefghijklmnopqrstuvwxyz") u
  v_DIGITS : ∃ u, mg "DIGITS" = some u ∧ RelV (.str "0123456789") u
end K01

namespace K01
open PySem PySem.Spec PyProof.Rows L2 MyL
section
variable {P : Program} {w : World} {K : PySem.W.Frag} {mg : Str → Option Value} {base : Heap} {A : Adr}
local macro_rules | `(tactic| walk_at "ne") => `(tactic| first
  | assumption
  | exact Ne.symm (by assumption)
  | exact ne_new (by assumption) (by walk_at "look")
  | exact ne_new' (by assumption) (by walk_at "look")
  | exact ne_of (by walk_at "look") (by walk_at "look") (by intro z; cases z))
local macro_rules | `(tactic| walk_at "look") => `(tactic| first
  | assumption
  | exact upd_same
  | (refine upd_new (by assumption) ?_
     walk_at "look")
  | (refine (upd_ne ?_).trans ?_
     · walk_at "ne"
     · walk_at "look")
  | (refine Kp.get (by assumption) ?_ ?_
     · walk_at "ne"
     · walk_at "look")
  | (refine Same.get (by assumption) ?_
     walk_at "look"))
local macro_rules | `(tactic| walk_at "lenv") => `(tactic| first
  | exact Or.inl ⟨_, SqL.of (by walk_at "look"), rfl⟩
  | exact Or.inr ⟨_, SqT.of (by walk_at "look"), rfl⟩
  | exact ⟨line_le (by omega), rfl⟩)
local macro_rules | `(tactic| walk_at "cond") => `(tactic| first
  | assumption
  | rfl
  | exact Nat.zero_le _
  | exact Nat.le_of_ble_eq_true rfl
  | decide
  | omega
  | exact line_lt (by (try simp only [List.length_map, List.length_append, List.length_cons, List.length_nil]); omega)
  | exact line_le (by (try simp only [List.length_map, List.length_append, List.length_cons, List.length_nil]); omega)
  | (dsimp only; omega)
  | exact ⟨by decide, by decide⟩
  | exact ⟨by decide, by decide, by decide⟩
  | exact Or.inl ⟨by decide, by decide⟩
  | exact Or.inl ⟨by omega, by omega⟩
  | exact Or.inr ⟨by omega, by omega⟩)
local macro_rules | `(tactic| walk_at "kit") => `(tactic| first | assumption | exact kit_NoneType_int | exact kit_NoneType_bool | exact kit_NoneType_str | exact kit_NoneType_list | exact kit_NoneType_tuple | exact kit_NoneType_dict | exact kit_bool_int | exact kit_bool_bool | exact kit_bool_str | exact kit_bool_list | exact kit_bool_tuple | exact kit_bool_dict | exact kit_int_int | exact kit_int_bool | exact kit_int_str | exact kit_int_list | exact kit_int_tuple | exact kit_int_dict | exact kit_str_int | exact kit_str_bool | exact kit_str_str | exact kit_str_list | exact kit_str_tuple | exact kit_str_dict | exact kit_list_int | exact kit_list_bool | exact kit_list_str | exact kit_list_list | exact kit_list_tuple | exact kit_list_dict | exact kit_tuple_int | exact kit_tuple_bool | exact kit_tuple_str | exact kit_tuple_list | exact kit_tuple_tuple | exact kit_tuple_dict | exact kit_dict_int | exact kit_dict_bool | exact kit_dict_str | exact kit_dict_list | exact kit_dict_tuple | exact kit_dict_dict)
local macro_rules | `(tactic| walk_at "ty") => `(tactic| first | assumption | exact tyx_str | exact tyx_int | exact tyx_bl | exact tyx_non | exact tyx_lst (by walk_at "look") | exact tyx_tup (by walk_at "look") | exact tyx_dK (by walk_at "look"))
local macro_rules | `(tactic| walk_at "s") => `(tactic| first
  | refine And.intro (by assumption) ?_
  | refine ⟨_, rfl, ?_⟩
  | refine ⟨_, _, rfl, rfl, ?_⟩
  | refine ⟨_, _, _, _, rfl, rfl, SqL.of (by walk_at "look"), by rfl, ?_⟩
  | refine ⟨_, _, _, _, rfl, rfl, SqT.of (by walk_at "look"), by rfl, ?_⟩
  | refine ⟨_, _, _, _, rfl, rfl, by walk_at "look", by rfl, ?_⟩
  | refine ⟨_, _, rfl, by walk_at "lenv", ?_⟩
  | refine Or.inl ⟨_, rfl, ?_⟩
  | refine ⟨_, _, _, _, _, rfl, ClsV.ty _, by walk_at "ty", by walk_at "kit", ?_⟩
  | refine And.intro (by walk_at "cond") ?_
  | refine ⟨_, _, rfl, SqT.of (by walk_at "look"), rfl, ?_⟩
  | refine ⟨_, _, rfl, SqL.of (by walk_at "look"), rfl, ?_⟩
  | refine And.intro (Or.inl ⟨rfl, _, SqL.of (by walk_at "look")⟩) ?_
  | refine ⟨_, _, _, rfl, rfl, by walk_at "look", by walk_at "cond", ?_⟩
  | refine ⟨_, _, _, _, rfl, rfl, by walk_at "look", by walk_at "look", by walk_at "cond", ?_⟩
  | refine And.intro ⟨_, rfl⟩ ?_
  | refine And.intro ⟨_, SqL.of (by walk_at "look")⟩ ?_
  | refine ⟨_, _, rfl, SqL.of (by walk_at "look"), ?_⟩
  | refine ⟨_, _, rfl, (by assumption : SqL _ _ _ _), ?_⟩
  | refine ⟨_, by walk_at "look", by walk_at "cond", ?_⟩
  | refine ⟨_, _, rfl, Or.inr (SqT.of (by walk_at "look")), ?_⟩
  | refine ⟨_, _, rfl, Or.inl (SqL.of (by walk_at "look")), ?_⟩
  | refine ⟨_, _, rfl, ?_⟩
  | refine ⟨rfl, rfl, _, _, _, rfl, by walk_at "look", rfl, ?_⟩
  | refine ⟨_, _, true, _, _, rfl, rfl, ClsV.own _, kit_own (by assumption) (by assumption), rfl, by walk_at "look", ?_⟩
  | refine if_t (by first | rfl | decide) ?_
  | refine if_f (by first | decide | exact Bool.false_ne_true) ?_
  | refine fun _ _ => ?_)

theorem ok_l_dip (T : Txt K mg A) : FnG P w K mg base CX0 1 A.l_dip spDip := by
  obtain ⟨fd, F⟩ := T.F_l_dip
  refine Fun_okN F sc_l_dip (fun vs H Q E h => ?_) (fun _ _ _ _ _ _ us hl => match us, hl with | [_, _], _ => rfl) (fun cdv A' outer s H vs Q E hr hg h => ?_)
  · obtain ⟨_, _, _, rfl, _⟩ := h
    rfl
  obtain ⟨⟨a, c, cs⟩, many, n, rfl, ⟨b, r, ha, hc, hne, hlen, hb0, hbn⟩, hn, hm0, hm1, q⟩ := h
  dsimp only at ha hc hne hlen q ⊢
  refine ⟨_, ((pss_cons (ps_if (pt_cmpR op_gt (pe_ix ix_list (pv 0) pe_int (fun _ _ => rfl)) pe_int (nomark _)) (pss_cons (ps_set (i := 2) sc_l_dip.nd rfl (Or.inl rfl) (pe_ix ix_list (pv 0) pe_int (fun _ _ => rfl)))
    (pss_cons (ps_asg (pe_op op_fdivW (pe_callTy call_int1 (by rfl) T.n_int (by decide +kernel) (pa_cons (pv 2) pa_nil)) (pv 1)) (pg_sub (pv 0) pe_int set_list))
    (pss_one (ps_ret (pe_op op_mod (pe_callTy call_int1 (by rfl) T.n_int (by decide +kernel) (pa_cons (pv 2) pa_nil)) (pv 1)))))) pss_nil)
    (pss_cons (ps_set (i := 3) sc_l_dip.nd rfl (Or.inl rfl) (pe_ix ix_list (pv 0) pe_int (fun _ _ => rfl)))
    (pss_cons (ps_asg (pe_op op_add (pv 3) pe_int) (pg_sub (pv 0) pe_int set_list))
    (pss_cons (ps_set (i := 4) sc_l_dip.nd rfl (Or.inl rfl) (pe_op op_add (pe_op op_mul pe_int (pv 3)) pe_int))
    (pss_cons (ps_if (pt_cmpR (op_neD hr.units) (pe_ix ix_list (pv 0) pe_int (fun _ _ => rfl)) (pe_lst pa_nil) (nomark _)) (pss_one (ps_set (i := 4) sc_l_dip.nd rfl (Or.inl rfl) (pe_ix ix_list (pe_ix ix_list (pv 0) pe_int (fun _ _ => rfl)) (pe_op op_mod (pe_callTy call_int1 (by rfl) T.n_int (by decide +kernel) (pa_cons (pv 3) pa_nil)) (pe_callB call_len (by rfl) T.n_len (by decide +kernel) (pa_cons (pe_ix ix_list (pv 0) pe_int (fun _ _ => rfl)) pa_nil))) (fun _ _ => rfl)))) pss_nil)
    (pss_cons (ps_if (PW.pt (pw_and (pt_cmpR op_lt (pv 3) (pe_callB call_len (by rfl) T.n_len (by decide +kernel) (pa_cons (pe_ix ix_list (pv 0) pe_int (fun _ _ => rfl)) pa_nil)) (nomark _)) (pw_and1 (pt_cmpR op_ge (pe_callB call_abs (by rfl) T.n_abs (by decide +kernel) (pa_cons (pv 4) pa_nil)) (pe_op op_pow pe_int pe_int) (nomark _))))) (pss_cons (ps_set (i := 2) sc_l_dip.nd rfl (Or.inl rfl) (pe_op op_sub (pe_callB call_abs (by rfl) T.n_abs (by decide +kernel) (pa_cons (pv 4) pa_nil)) (pe_op op_pow pe_int pe_int)))
    (pss_cons (ps_asg (pe_op op_fdivW (pe_callTy call_int1 (by rfl) T.n_int (by decide +kernel) (pa_cons (pv 2) pa_nil)) (pv 1)) (pg_sub (pv 0) pe_int set_list))
    (pss_one (ps_ret (pe_op op_mod (pe_callTy call_int1 (by rfl) T.n_int (by decide +kernel) (pa_cons (pv 2) pa_nil)) (pv 1)))))) pss_nil)
    (pss_cons (ps_set (i := 5) sc_l_dip.nd rfl (Or.inl rfl) (pe_op op_mod (pe_callTy call_int1 (by rfl) T.n_int (by decide +kernel) (pa_cons (pe_op op_pow (pe_op op_add (pe_op op_add (pe_op op_mod (pe_callTy call_int1 (by rfl) T.n_int (by decide +kernel) (pa_cons (pv 4) pa_nil)) pe_int) (pe_op op_mul pe_int (pv 3))) pe_int) pe_int) pa_nil)) pe_int))
    (pss_cons (ps_set (i := 5) sc_l_dip.nd rfl (Or.inl rfl) (pe_op op_mod (pe_callTy call_int1 (by rfl) T.n_int (by decide +kernel) (pa_cons (pe_op op_pow (pe_op op_add (pe_op op_add (pe_op op_mul (pv 5) (pe_op op_add (pe_op op_mul pe_int (pv 3)) pe_int)) (pe_op op_mul (pe_op op_mul pe_int (pv 3)) (pv 3))) pe_int) pe_int) pa_nil)) pe_int))
    (pss_one (ps_ret (pe_op op_mod (pe_callTy call_int1 (by rfl) T.n_int (by decide +kernel) (pa_cons (pe_op op_fdivW (pv 5) pe_int) pa_nil)) (pv 1))))))))))))), ?_⟩
  have hw : CDivW r many := wide_div hm0 hm1 (by decide) (by decide)
  repeat walk_at "s"
  refine ite2 (fun c1 => ?_) (fun c1 => ?_)
  · repeat walk_at "s"
    exact q _ _ (Int.emod_nonneg _ (by omega)) (Int.emod_lt_of_pos _ hm0) ⟨b, _, upd_same, by walk_at "look", hne, hlen, hb0, by omega⟩ (Kp.refl _ _).put
  · repeat walk_at "s"
    refine ⟨.list (cs.map PyData.int), .list [], .lst (SqL.of (by walk_at "look")) (dpAll_ints cs), .lst (SqL.of upd_same) .nil, shaped_ints cs, shaped_nil, ?_⟩
    rw [eqv_nil]
    repeat walk_at "s"
    refine ite2 (fun c2 => ?_) (fun c2 => ?_)
    · have hp : 0 < (cs.map V.int).length := by
        rw [List.length_map]
        cases cs with
        | nil => simp at c2
        | cons _ _ => exact Nat.succ_pos _
      have hp' : (0 : Int) < ((cs.map V.int).length : Int) := by omega
      obtain ⟨j, x, hj, hx⟩ := at_mod_ints (cs := cs) b (by simpa using hp)
      repeat walk_at "s"
      refine ⟨_, _, _, _, rfl, rfl, SqL.of (by walk_at "look"), hx, ?_⟩
      have hp5 : CPow (x % 2147483543 + 52489 * b + 1777) 5 := ⟨by decide, by decide, draw_one (by omega) (by omega) hb0 (by omega) (by decide) (by decide) (by decide) (by decide)⟩
      have hp3 : CPow ((x % 2147483543 + 52489 * b + 1777) ^ (5 : Int).toNat % 2147483647 * (2 * b + 1301) + 34019 * b * b + 1777) 3 := ⟨by decide, by decide, draw_two (by omega) (by omega) hb0 (by omega) (by decide) (by decide) (by decide) (by decide)⟩
      repeat walk_at "s"
      refine ite2 (fun c3 => ?_) (fun c3 => ?_)
      · repeat walk_at "s"
        refine ite2 (fun c4 => ?_) (fun c4 => ?_)
        · have hw2 : CDivW ((if x < 0 then -x else x) - 10 ^ (18 : Int).toNat) many := wide_div hm0 hm1 (by decide) (by decide)
          repeat walk_at "s"
          exact q _ _ (Int.emod_nonneg _ (by omega)) (Int.emod_lt_of_pos _ hm0) ⟨b + 1, _, upd_same, by walk_at "look", hne, hlen, by omega, by omega⟩ (((Kp.refl _ _).put.new (by assumption)).put)
        · repeat walk_at "s"
          exact q _ _ (Int.emod_nonneg _ (by omega)) (Int.emod_lt_of_pos _ hm0) ⟨b + 1, _, by walk_at "look", by walk_at "look", hne, hlen, by omega, by omega⟩ ((Kp.refl _ _).put.new (by assumption))
      · repeat walk_at "s"
        exact q _ _ (Int.emod_nonneg _ (by omega)) (Int.emod_lt_of_pos _ hm0) ⟨b + 1, _, by walk_at "look", by walk_at "look", hne, hlen, by omega, by omega⟩ ((Kp.refl _ _).put.new (by assumption))
    · have hp0 : (cs.map V.int).length = 0 := by
        cases cs with
        | nil => rfl
        | cons _ _ => simp at c2
      repeat walk_at "s"
      refine ite2 (fun c3 => ?_) (fun c3 => ?_)
      · exfalso
        have := of_decide_eq_true c3
        omega
      · have hp5 : CPow ((34019 * b + 1777) % 2147483543 + 52489 * b + 1777) 5 := ⟨by decide, by decide, draw_one (by omega) (by omega) hb0 (by omega) (by decide) (by decide) (by decide) (by decide)⟩
        have hp3 : CPow (((34019 * b + 1777) % 2147483543 + 52489 * b + 1777) ^ (5 : Int).toNat % 2147483647 * (2 * b + 1301) + 34019 * b * b + 1777) 3 := ⟨by decide, by decide, draw_two (by omega) (by omega) hb0 (by omega) (by decide) (by decide) (by decide) (by decide)⟩
        repeat walk_at "s"
        exact q _ _ (Int.emod_nonneg _ (by omega)) (Int.emod_lt_of_pos _ hm0) ⟨b + 1, _, by walk_at "look", by walk_at "look", hne, hlen, by omega, by omega⟩ ((Kp.refl _ _).put.new (by assumption))
end
end K01

namespace K01
open PySem PySem.Spec PyProof.Rows L2 MyL
section
variable {P : Program} {w : World} {K : PySem.W.Frag} {mg : Str → Option Value} {base : Heap} {A : Adr}
local macro_rules | `(tactic| walk_at "ne") => `(tactic| first
  | assumption
  | exact Ne.symm (by assumption)
  | exact ne_new (by assumption) (by walk_at "look")
  | exact ne_new' (by assumption) (by walk_at "look")
  | exact ne_of (by walk_at "look") (by walk_at "look") (by intro z; cases z))
local macro_rules | `(tactic| walk_at "look") => `(tactic| first
  | assumption
  | exact upd_same
  | (refine upd_new (by assumption) ?_
     walk_at "look")
  | (refine (upd_ne ?_).trans ?_
     · walk_at "ne"
     · walk_at "look")
  | (refine Kp.get (by assumption) ?_ ?_
     · walk_at "ne"
     · walk_at "look")
  | (refine Same.get (by assumption) ?_
     walk_at "look"))
local macro_rules | `(tactic| walk_at "lenv") => `(tactic| first
  | exact Or.inl ⟨_, SqL.of (by walk_at "look"), rfl⟩
  | exact Or.inr ⟨_, SqT.of (by walk_at "look"), rfl⟩
  | exact ⟨line_le (by omega), rfl⟩)
local macro_rules | `(tactic| walk_at "cond") => `(tactic| first
  | assumption
  | rfl
  | exact Nat.zero_le _
  | exact Nat.le_of_ble_eq_true rfl
  | decide
  | omega
  | exact line_lt (by (try simp only [List.length_map, List.length_append, List.length_cons, List.length_nil]); omega)
  | exact line_le (by (try simp only [List.length_map, List.length_append, List.length_cons, List.length_nil]); omega)
  | (dsimp only; omega)
  | exact ⟨by decide, by decide⟩
  | exact ⟨by decide, by decide, by decide⟩
  | exact Or.inl ⟨by decide, by decide⟩
  | exact Or.inl ⟨by omega, by omega⟩
  | exact Or.inr ⟨by omega, by omega⟩)
local macro_rules | `(tactic| walk_at "kit") => `(tactic| first | assumption | exact kit_NoneType_int | exact kit_NoneType_bool | exact kit_NoneType_str | exact kit_NoneType_list | exact kit_NoneType_tuple | exact kit_NoneType_dict | exact kit_bool_int | exact kit_bool_bool | exact kit_bool_str | exact kit_bool_list | exact kit_bool_tuple | exact kit_bool_dict | exact kit_int_int | exact kit_int_bool | exact kit_int_str | exact kit_int_list | exact kit_int_tuple | exact kit_int_dict | exact kit_str_int | exact kit_str_bool | exact kit_str_str | exact kit_str_list | exact kit_str_tuple | exact kit_str_dict | exact kit_list_int | exact kit_list_bool | exact kit_list_str | exact kit_list_list | exact kit_list_tuple | exact kit_list_dict | exact kit_tuple_int | exact kit_tuple_bool | exact kit_tuple_str | exact kit_tuple_list | exact kit_tuple_tuple | exact kit_tuple_dict | exact kit_dict_int | exact kit_dict_bool | exact kit_dict_str | exact kit_dict_list | exact kit_dict_tuple | exact kit_dict_dict)
local macro_rules | `(tactic| walk_at "ty") => `(tactic| first | assumption | exact tyx_str | exact tyx_int | exact tyx_bl | exact tyx_non | exact tyx_lst (by walk_at "look") | exact tyx_tup (by walk_at "look") | exact tyx_dK (by walk_at "look"))
local macro_rules | `(tactic| walk_at "s") => `(tactic| first
  | refine And.intro (by assumption) ?_
  | refine ⟨_, rfl, ?_⟩
  | refine ⟨_, _, rfl, rfl, ?_⟩
  | refine ⟨_, _, _, _, rfl, rfl, SqL.of (by walk_at "look"), by rfl, ?_⟩
  | refine ⟨_, _, _, _, rfl, rfl, SqT.of (by walk_at "look"), by rfl, ?_⟩
  | refine ⟨_, _, _, _, rfl, rfl, by walk_at "look", by rfl, ?_⟩
  | refine ⟨_, _, rfl, by walk_at "lenv", ?_⟩
  | refine Or.inl ⟨_, rfl, ?_⟩
  | refine ⟨_, _, _, _, _, rfl, ClsV.ty _, by walk_at "ty", by walk_at "kit", ?_⟩
  | refine And.intro (by walk_at "cond") ?_
  | refine ⟨_, _, rfl, SqT.of (by walk_at "look"), rfl, ?_⟩
  | refine ⟨_, _, rfl, SqL.of (by walk_at "look"), rfl, ?_⟩
  | refine And.intro (Or.inl ⟨rfl, _, SqL.of (by walk_at "look")⟩) ?_
  | refine ⟨_, _, _, rfl, rfl, by walk_at "look", by walk_at "cond", ?_⟩
  | refine ⟨_, _, _, _, rfl, rfl, by walk_at "look", by walk_at "look", by walk_at "cond", ?_⟩
  | refine And.intro ⟨_, rfl⟩ ?_
  | refine And.intro ⟨_, SqL.of (by walk_at "look")⟩ ?_
  | refine ⟨_, _, rfl, SqL.of (by walk_at "look"), ?_⟩
  | refine ⟨_, _, rfl, (by assumption : SqL _ _ _ _), ?_⟩
  | refine ⟨_, by walk_at "look", by walk_at "cond", ?_⟩
  | refine ⟨_, _, rfl, Or.inr (SqT.of (by walk_at "look")), ?_⟩
  | refine ⟨_, _, rfl, Or.inl (SqL.of (by walk_at "look")), ?_⟩
  | refine ⟨_, _, rfl, ?_⟩
  | refine ⟨rfl, rfl, _, _, _, rfl, by walk_at "look", rfl, ?_⟩
  | refine ⟨_, _, true, _, _, rfl, rfl, ClsV.own _, kit_own (by assumption) (by assumption), rfl, by walk_at "look", ?_⟩
  | refine if_t (by first | rfl | decide) ?_
  | refine if_f (by first | decide | exact Bool.false_ne_true) ?_
  | refine fun _ _ => ?_)

theorem ok_l_pick (T : Txt K mg A) : FnG P w K mg base CX0 2 A.l_pick spPick := by
  obtain ⟨fd, F⟩ := T.F_l_pick
  refine Fun_okN F sc_l_pick (fun vs H Q E h => ?_) (fun _ _ _ _ _ _ us hl => match us, hl with | [_, _], _ => rfl) (fun cdv A' outer s H vs Q E hr hg h => ?_)
  · obtain ⟨_, _, _, rfl, _⟩ := h
    rfl
  obtain ⟨a, x, n, rfl, W, hn, h⟩ := h
  refine ⟨_, ((pss_one (ps_ret (pe_ix ix_seq (pv 1) (pe_callGd (ok_l_dip T) (hr.mono (by decide)) hg rfl T.m_l_dip T.k_l_dip pass0 (pa_cons (pv 0) (pa_cons (pe_callB call_len (by rfl) T.n_len (by decide +kernel) (pa_cons (pv 1) pa_nil)) pa_nil))) (fun _ _ => rfl))))), ?_⟩
  rcases h with ⟨p, xs, rfl, hpw, hp, h0, h1, q⟩ | ⟨z, rfl, h0, h1, q⟩
  · repeat walk_at "s"
    refine Iv.mk ⟨a, _, n, rfl, W, hn, by omega, natAbs_small (n := 1000) (by omega) (by omega) (by decide), fun H' r r0 r1 W1 K1 => ?_⟩
    obtain ⟨v, hv, hm⟩ := atI_of r0 r1
    exact .inl ⟨p, xs, r, v, rfl, rfl, SqL.of (K1 p _ hpw hp), hv, q H' v hm W1 K1⟩
  · repeat walk_at "s"
    refine Iv.mk ⟨a, _, n, rfl, W, hn, by omega, natAbs_small (n := 1000) (by omega) (by omega) (by decide), fun H' r r0 r1 W1 K1 => ?_⟩
    obtain ⟨v, hv, hm⟩ := atI_of (xs := z.cps.toList) r0 (by simpa [Str.length] using r1)
    exact .inr (.inr ⟨z, r, v, rfl, rfl, line_le (by omega), hv, q H' v hm W1 K1⟩)
end
end K01

namespace K01
open PySem PySem.Spec PyProof.Rows L2 MyL
def isLet (c : Nat) : Prop := 97 ≤ c ∧ c ≤ 122
def isDig (c : Nat) : Prop := 48 ≤ c ∧ c ≤ 57
theorem small_mem (c : Nat) : c ∈ (Str.ofString "abcdefghijklmnopqrstuvwxyz").cps.toList ↔ isLet c := by
  have e : (Str.ofString "abcdefghijklmnopqrstuvwxyz").cps.toList = List.range' 97 26 := by decide +kernel
  rw [e, List.mem_range'_1]
  unfold isLet
  omega
theorem digit_mem (c : Nat) : c ∈ (Str.ofString "0123456789").cps.toList ↔ isDig c := by
  have e : (Str.ofString "0123456789").cps.toList = List.range' 48 10 := by decide +kernel
  rw [e, List.mem_range'_1]
  unfold isDig
  omega
/-- a stem, sign by sign -/
def StemP (z : Str) : Prop := 1 ≤ z.length ∧ z.length ≤ 12 ∧ ∀ (j c : Nat), z.cps[j]? = some c → isLet c ∨ (0 < j ∧ isDig c)
def dot : Str := "."
def NameP (z : Str) : Prop := (Txt.split z dot).length ≤ 6 ∧ ∀ s ∈ Txt.split z dot, StemP s
def spIsInt (K : PySem.W.Frag) : Sp := fun vs H Q _ => ∃ (v : V) (t : Value) (b1 b2 : Bool), vs = [v] ∧ TyX K H v t ∧ PySem.W.kitOne K t (.type "int") = some b1 ∧ PySem.W.kitOne K t (.type "bool") = some b2 ∧ Q (.bl (b1 && !b2)) H
/-- None or an int -/
def bnd : V → Prop
  | .non => True
  | .int _ => True
  | _ => False
theorem bnd_cases : ∀ {v : V}, bnd v → v = .non ∨ ∃ j, v = .int j
  | .non, _ => .inl rfl
  | .int j, _ => .inr ⟨j, rfl⟩
  | .bl _, h => h.elim
  | .str _, h => h.elim
  | .byt _, h => h.elim
  | .flt _, h => h.elim
  | .ref _, h => h.elim
  | .ty _, h => h.elim
def lowOk : V → Int → Bool
  | .int j, i => decide (j ≤ i)
  | _, _ => true
def highOk : V → Int → Bool
  | .int j, i => decide (i ≤ j)
  | _, _ => true
def spIsWithin (K : PySem.W.Frag) : Sp := fun vs H Q _ => ∃ (v l m : V), vs = [v, l, m] ∧
  ((∃ (t : Value) (b1 b2 : Bool), TyX K H v t ∧ PySem.W.kitOne K t (.type "int") = some b1 ∧ PySem.W.kitOne K t (.type "bool") = some b2 ∧ (b1 && !b2) = false ∧ Q (.bl false) H) ∨
   (∃ i : Int, v = .int i ∧ bnd l ∧ bnd m ∧ Q (.bl (lowOk l i && highOk m i)) H))
/-- a value that is no text -/
def NoStr (K : PySem.W.Frag) (H : Hp) (v : V) : Prop := ∃ t : Value, TyX K H v t ∧ PySem.W.kitOne K t (.type "str") = some false
def spIsStem (K : PySem.W.Frag) : Sp := fun vs H Q _ => ∃ v : V, vs = [v] ∧
  ((NoStr K H v ∧ Q (.bl false) H) ∨ (∃ z : Str, v = .str z ∧ z.length ≤ 16777216 ∧ ∀ b H', Same H H' → (b = true ↔ StemP z) → Q (.bl b) H'))
def spIsName (K : PySem.W.Frag) : Sp := fun vs H Q _ => ∃ v : V, vs = [v] ∧
  ((NoStr K H v ∧ Q (.bl false) H) ∨ (∃ z : Str, v = .str z ∧ z.length ≤ 1000000 ∧ ∀ b H', Same H H' → (b = true ↔ NameP z) → Q (.bl b) H'))
section
variable {P : Program} {w : World} {K : PySem.W.Frag} {mg : Str → Option Value} {base : Heap} {A : Adr}
local macro_rules | `(tactic| walk_at "ne") => `(tactic| first
  | assumption
  | exact Ne.symm (by assumption)
  | exact ne_new (by assumption) (by walk_at "look")
  | exact ne_new' (by assumption) (by walk_at "look")
  | exact ne_of (by walk_at "look") (by walk_at "look") (by intro z; cases z))
local macro_rules | `(tactic| walk_at "look") => `(tactic| first
  | assumption
  | exact upd_same
  | (refine upd_new (by assumption) ?_
     walk_at "look")
  | (refine (upd_ne ?_).trans ?_
     · walk_at "ne"
     · walk_at "look")
  | (refine Kp.get (by assumption) ?_ ?_
     · walk_at "ne"
     · walk_at "look")
  | (refine Same.get (by assumption) ?_
     walk_at "look"))
local macro_rules | `(tactic| walk_at "lenv") => `(tactic| first
  | exact Or.inl ⟨_, SqL.of (by walk_at "look"), rfl⟩
  | exact Or.inr ⟨_, SqT.of (by walk_at "look"), rfl⟩
  | exact ⟨line_le (by omega), rfl⟩)
local macro_rules | `(tactic| walk_at "cond") => `(tactic| first
  | assumption
  | rfl
  | exact Nat.zero_le _
  | exact Nat.le_of_ble_eq_true rfl
  | decide
  | omega
  | exact line_lt (by (try simp only [List.length_map, List.length_append, List.length_cons, List.length_nil]); omega)
  | exact line_le (by (try simp only [List.length_map, List.length_append, List.length_cons, List.length_nil]); omega)
  | (dsimp only; omega)
  | exact ⟨by decide, by decide⟩
  | exact ⟨by decide, by decide, by decide⟩
  | exact Or.inl ⟨by decide, by decide⟩
  | exact Or.inl ⟨by omega, by omega⟩
  | exact Or.inr ⟨by omega, by omega⟩)
local macro_rules | `(tactic| walk_at "kit") => `(tactic| first | assumption | exact kit_NoneType_int | exact kit_NoneType_bool | exact kit_NoneType_str | exact kit_NoneType_list | exact kit_NoneType_tuple | exact kit_NoneType_dict | exact kit_bool_int | exact kit_bool_bool | exact kit_bool_str | exact kit_bool_list | exact kit_bool_tuple | exact kit_bool_dict | exact kit_int_int | exact kit_int_bool | exact kit_int_str | exact kit_int_list | exact kit_int_tuple | exact kit_int_dict | exact kit_str_int | exact kit_str_bool | exact kit_str_str | exact kit_str_list | exact kit_str_tuple | exact kit_str_dict | exact kit_list_int | exact kit_list_bool | exact kit_list_str | exact kit_list_list | exact kit_list_tuple | exact kit_list_dict | exact kit_tuple_int | exact kit_tuple_bool | exact kit_tuple_str | exact kit_tuple_list | exact kit_tuple_tuple | exact kit_tuple_dict | exact kit_dict_int | exact kit_dict_bool | exact kit_dict_str | exact kit_dict_list | exact kit_dict_tuple | exact kit_dict_dict)
local macro_rules | `(tactic| walk_at "ty") => `(tactic| first | assumption | exact tyx_str | exact tyx_int | exact tyx_bl | exact tyx_non | exact tyx_lst (by walk_at "look") | exact tyx_tup (by walk_at "look") | exact tyx_dK (by walk_at "look"))
local macro_rules | `(tactic| walk_at "s") => `(tactic| first
  | refine And.intro (by assumption) ?_
  | refine ⟨_, rfl, ?_⟩
  | refine ⟨_, _, rfl, rfl, ?_⟩
  | refine ⟨_, _, _, _, rfl, rfl, SqL.of (by walk_at "look"), by rfl, ?_⟩
  | refine ⟨_, _, _, _, rfl, rfl, SqT.of (by walk_at "look"), by rfl, ?_⟩
  | refine ⟨_, _, _, _, rfl, rfl, by walk_at "look", by rfl, ?_⟩
  | refine ⟨_, _, rfl, by walk_at "lenv", ?_⟩
  | refine Or.inl ⟨_, rfl, ?_⟩
  | refine ⟨_, _, _, _, _, rfl, ClsV.ty _, by walk_at "ty", by walk_at "kit", ?_⟩
  | refine And.intro (by walk_at "cond") ?_
  | refine ⟨_, _, rfl, SqT.of (by walk_at "look"), rfl, ?_⟩
  | refine ⟨_, _, rfl, SqL.of (by walk_at "look"), rfl, ?_⟩
  | refine And.intro (Or.inl ⟨rfl, _, SqL.of (by walk_at "look")⟩) ?_
  | refine ⟨_, _, _, rfl, rfl, by walk_at "look", by walk_at "cond", ?_⟩
  | refine ⟨_, _, _, _, rfl, rfl, by walk_at "look", by walk_at "look", by walk_at "cond", ?_⟩
  | refine And.intro ⟨_, rfl⟩ ?_
  | refine And.intro ⟨_, SqL.of (by walk_at "look")⟩ ?_
  | refine ⟨_, _, rfl, SqL.of (by walk_at "look"), ?_⟩
  | refine ⟨_, _, rfl, (by assumption : SqL _ _ _ _), ?_⟩
  | refine ⟨_, by walk_at "look", by walk_at "cond", ?_⟩
  | refine ⟨_, _, rfl, Or.inr (SqT.of (by walk_at "look")), ?_⟩
  | refine ⟨_, _, rfl, Or.inl (SqL.of (by walk_at "look")), ?_⟩
  | refine ⟨_, _, rfl, ?_⟩
  | refine ⟨rfl, rfl, _, _, _, rfl, by walk_at "look", rfl, ?_⟩
  | refine ⟨_, _, true, _, _, rfl, rfl, ClsV.own _, kit_own (by assumption) (by assumption), rfl, by walk_at "look", ?_⟩
  | refine if_t (by first | rfl | decide) ?_
  | refine if_f (by first | decide | exact Bool.false_ne_true) ?_
  | refine fun _ _ => ?_)

theorem ok_is_integer (T : Txt K mg A) : FnG P w K mg base CX0 1 A.is_integer (spIsInt K) := by
  obtain ⟨fd, F⟩ := T.F_is_integer
  refine Fun_okN F sc_is_integer (fun vs H Q E h => ?_) (fun _ _ _ _ _ _ us hl => match us, hl with | [_], _ => rfl) (fun cdv A' outer s H vs Q E hr hg h => ?_)
  · obtain ⟨_, _, _, _, rfl, _⟩ := h
    rfl
  obtain ⟨v, t, b1, b2, rfl, h0, h1, h2, q⟩ := h
  refine ⟨_, ((pss_one (ps_ret (pe_and (pe_callB call_isi (by rfl) T.n_isinstance (by decide +kernel) (pa_cons (pv 0) (pa_cons (pe_bltn (v := .ty "int") (u := .type "int") (by rfl) T.n_int (by decide +kernel) rfl) pa_nil))) (pe_one (pe_not (pe_callB call_isi (by rfl) T.n_isinstance (by decide +kernel) (pa_cons (pv 0) (pa_cons (pe_bltn (v := .ty "bool") (u := .type "bool") (by rfl) T.n_bool (by decide +kernel) rfl) pa_nil))))))))), ?_⟩
  repeat walk_at "s"
  cases b1 with
  | false =>
    repeat walk_at "s"
    exact q
  | true =>
    repeat walk_at "s"
    exact q
theorem ok_is_within (T : Txt K mg A) : FnG P w K mg base CX0 2 A.is_within (spIsWithin K) := by
  obtain ⟨fd, F⟩ := T.F_is_within
  refine Fun_okN F sc_is_within (fun vs H Q E h => ?_) (fun _ _ _ _ _ _ us hl => match us, hl with | [_, _, _], _ => rfl) (fun cdv A' outer s H vs Q E hr hg h => ?_)
  · obtain ⟨_, _, _, rfl, _⟩ := h
    rfl
  obtain ⟨v, l, m, rfl, h⟩ := h
  refine ⟨_, ((pss_cons (ps_if (pt_not (pt_val (pe_callGd (ok_is_integer T) (hr.mono (by decide)) hg rfl T.m_is_integer T.k_is_integer pass0 (pa_cons (pv 0) pa_nil)))) (pss_one (ps_ret pe_bl)) pss_nil)
    (pss_cons (ps_if (PW.pt (pw_and (pt_cmpR op_notN (pv 1) pe_non (nomark _)) (pw_and1 (pt_cmpR op_lt (pv 0) (pv 1) (nomark _))))) (pss_one (ps_ret pe_bl)) pss_nil)
    (pss_one (ps_ret (pe_or (pe_cmpR op_isN (pv 2) pe_non (nomark _)) (pe_one (pe_cmpR op_le (pv 0) (pv 2) (nomark _))))))))), ?_⟩
  rcases h with ⟨t, b1, b2, h0, h1, h2, h3, q⟩ | ⟨i, rfl, hl, hm, q⟩
  · repeat walk_at "s"
    refine Iv.mk ⟨v, t, b1, b2, rfl, h0, h1, h2, ?_⟩
    rw [h3]
    repeat walk_at "s"
    exact q
  · repeat walk_at "s"
    refine Iv.mk ⟨.int i, _, _, _, rfl, tyx_int, kit_int_int, kit_int_bool, ?_⟩
    repeat walk_at "s"
    rcases bnd_cases hl with rfl | ⟨j, rfl⟩
    · rcases bnd_cases hm with rfl | ⟨k, rfl⟩
      · repeat walk_at "s"
        exact q
      · repeat walk_at "s"
        exact q
    · repeat walk_at "s"
      refine if_2 (fun c => ?_) (fun c => ?_)
      · repeat walk_at "s"
        have e : lowOk (.int j) i = false := decide_eq_false (by have := of_decide_eq_true c; omega)
        rw [e] at q
        exact q
      · have e : lowOk (.int j) i = true := decide_eq_true (by have := of_decide_eq_false c; omega)
        rw [e] at q
        rcases bnd_cases hm with rfl | ⟨k, rfl⟩
        · repeat walk_at "s"
          exact q
        · repeat walk_at "s"
          exact q
theorem stem_sign {z : Str} {c : Nat} (h : StemP z) (hc : z.cps[0]? = some c) : isLet c := by
  rcases h.2.2 0 c hc with h | h
  · exact h
  · omega
theorem ok_is_stem (T : Txt K mg A) : FnG P w K mg base CX0 1 A.is_stem (spIsStem K) := by
  obtain ⟨fd, F⟩ := T.F_is_stem
  refine Fun_okN F sc_is_stem (fun vs H Q E h => ?_) (fun _ _ _ _ _ _ us hl => match us, hl with | [_], _ => rfl) (fun cdv A' outer s H vs Q E hr hg h => ?_)
  · obtain ⟨_, rfl, _⟩ := h
    rfl
  obtain ⟨v, rfl, h⟩ := h
  refine ⟨_, ((pss_cons (ps_if (PW.pt (pw_or (pt_not (pt_val (pe_callB call_isi (by rfl) T.n_isinstance (by decide +kernel) (pa_cons (pv 0) (pa_cons (pe_bltn (v := .ty "str") (u := .type "str") (by rfl) T.n_str (by decide +kernel) rfl) pa_nil))))) (pw_or1 (pt_not (pt_chain op_le op_le pe_int (pe_callB call_len (by rfl) T.n_len (by decide +kernel) (pa_cons (pv 0) pa_nil)) (C8.pe_gc rfl T.v_MOST_SIGNS)))))) (pss_one (ps_ret pe_bl)) pss_nil)
    (pss_cons (ps_if (pt_cmpR op_notIn_sign (pe_ix ix_str (pv 0) pe_int (fun _ _ => rfl)) (C8.pe_gc rfl T.v_SMALL) (by rfl)) (pss_one (ps_ret pe_bl)) pss_nil)
    (pss_cons (ps_for PassesOwn.never rfl (pi_str (pv 0)) (pg_name (i := 1) sc_is_stem.nd rfl (Or.inl rfl))
    (pss_one (ps_if (PW.pt (pw_and (pt_cmpR op_notIn_sign (pv 1) (C8.pe_gc rfl T.v_SMALL) (by rfl)) (pw_and1 (pt_cmpR op_notIn_sign (pv 1) (C8.pe_gc rfl T.v_DIGITS) (by rfl))))) (pss_one (ps_ret pe_bl)) pss_nil)))
    (pss_one (ps_ret pe_bl)))))), ?_⟩
  rcases h with ⟨⟨t, h0, h1⟩, q⟩ | ⟨z, rfl, hz, q⟩
  · repeat walk_at "s"
    exact q
  · repeat walk_at "s"
    refine if_2 (fun c1 => ?_) (fun c1 => ?_)
    · repeat walk_at "s"
      refine if_2 (fun c2 => ?_) (fun c2 => ?_)
      · repeat walk_at "s"
        refine q false H (Same.refl H) ⟨(fun e => nomatch e), fun e => ?_⟩
        have := e.2.1
        simp at c2
        omega
      · have h1 : 1 ≤ z.length := by have := of_decide_eq_true c1; omega
        have h2 : z.length ≤ 12 := by simp at c2; omega
        obtain ⟨c, hc⟩ : ∃ c, z.cps[0]? = some c := ⟨_, Array.getElem?_eq_getElem (show 0 < z.cps.size from h1)⟩
        repeat walk_at "s"
        refine ⟨z, 0, c, rfl, rfl, line_le hz, atI_nat (j := 0) (by rw [Array.getElem?_toList]; exact hc), ?_⟩
        repeat walk_at "s"
        refine if_2 (fun c3 => ?_) (fun c3 => ?_)
        · repeat walk_at "s"
          refine q false H (Same.refl H) ⟨(fun e => nomatch e), fun e => ?_⟩
          have := (small_mem c).mpr (stem_sign e hc)
          simp [this] at c3
        · have hl : isLet c := (small_mem c).mp (by simpa using c3)
          repeat walk_at "s"
          refine for_it walk_str (fun i σ H' => Iv ((∃ v, σ = [some (V.str z), v]) ∧ H' = H ∧ ∀ (j c : Nat), j < i → z.cps[j]? = some c → isLet c ∨ isDig c)) (Iv.mk ⟨⟨_, rfl⟩, rfl, fun j c h => absurd h (Nat.not_lt_zero _)⟩) (fun _ _ _ _ _ => trivial) ?_ ?_
          · rintro i x σ H1 H2 hi hI ⟨rfl, d, hd, rfl⟩
            obtain ⟨⟨v, rfl⟩, rfl, hp⟩ := hI.out
            repeat walk_at "s"
            have more : isLet d ∨ isDig d → ∀ (j c : Nat), j < i + 1 → z.cps[j]? = some c → isLet c ∨ isDig c := by
              intro hd' j c' hj hc'
              rcases Nat.lt_or_ge j i with h | h
              · exact hp j c' h hc'
              · obtain rfl : j = i := by omega
                rw [hd] at hc'
                cases hc'
                exact hd'
            refine if_2 (fun c4 => ?_) (fun c4 => ?_)
            · repeat walk_at "s"
              refine if_2 (fun c5 => ?_) (fun c5 => ?_)
              · repeat walk_at "s"
                refine q false _ (Same.refl _) ⟨(fun e => nomatch e), fun e => ?_⟩
                rcases e.2.2 i d hd with h | h
                · have := (small_mem d).mpr h
                  simp [this] at c4
                · have := (digit_mem d).mpr h.2
                  simp [this] at c5
              · repeat walk_at "s"
                exact Iv.mk ⟨⟨_, rfl⟩, rfl, more (.inr ((digit_mem d).mp (by simpa using c5)))⟩
            · repeat walk_at "s"
              exact Iv.mk ⟨⟨_, rfl⟩, rfl, more (.inl ((small_mem d).mp (by simpa using c4)))⟩
          · intro σ H1 hI
            obtain ⟨⟨v, rfl⟩, rfl, hp⟩ := hI.out
            repeat walk_at "s"
            refine q true _ (Same.refl _) ⟨fun _ => ⟨h1, h2, fun j c' hc' => ?_⟩, fun _ => rfl⟩
            have hj : j < z.cps.size := by
              rcases Nat.lt_or_ge j z.cps.size with h | h
              · exact h
              · rw [Array.getElem?_eq_none h] at hc'
                cases hc'
            rcases Nat.eq_zero_or_pos j with rfl | hj0
            · rw [hc] at hc'
              cases hc'
              exact .inl hl
            · rcases hp j c' hj hc' with h | h
              · exact .inl h
              · exact .inr ⟨hj0, h⟩
    · repeat walk_at "s"
      refine q false H (Same.refl H) ⟨(fun e => nomatch e), fun e => ?_⟩
      have := e.1
      have := of_decide_eq_false c1
      omega
end
end K01

namespace K01
open PySem PySem.Spec PyProof.Rows L2 MyL TL
theorem sing_lt (c d : Nat) : ([c] < [d]) ↔ c < d := by
  rw [List.cons_lt_cons_iff]
  simp
theorem ge_sign {s : String} {c : Nat} (e : (Str.ofString s).cps.toList = [c]) (d : Nat) : (!decide ((⟨#[d]⟩ : Str).cps.toList < (Str.ofString s).cps.toList)) = decide (c ≤ d) := by
  rw [e]
  have h : ((⟨#[d]⟩ : Str).cps.toList < [c]) ↔ d < c := sing_lt d c
  by_cases hc : c ≤ d
  · rw [decide_eq_true hc, decide_eq_false (fun z => by have := h.mp z; omega)]
    rfl
  · rw [decide_eq_false hc, decide_eq_true (h.mpr (by omega))]
    rfl
theorem le_sign {s : String} {c : Nat} (e : (Str.ofString s).cps.toList = [c]) (d : Nat) : (!decide ((Str.ofString s).cps.toList < (⟨#[d]⟩ : Str).cps.toList)) = decide (d ≤ c) := by
  rw [e]
  have h : ([c] < (⟨#[d]⟩ : Str).cps.toList) ↔ c < d := sing_lt c d
  by_cases hc : d ≤ c
  · rw [decide_eq_true hc, decide_eq_false (fun z => by have := h.mp z; omega)]
    rfl
  · rw [decide_eq_false hc, decide_eq_true (h.mpr (by omega))]
    rfl
def spSound : Sp := fun vs H Q _ => ∃ z : Str, vs = [.str z] ∧ z.length ≤ 16777216 ∧ ∀ b H', Same H H' → (b = true ↔ StemP z) → Q (.bl b) H'
def spStems : Sp := fun vs H Q _ => ∃ z : Str, vs = [.str z] ∧ z.length ≤ 1000000 ∧ ∀ H' p, Same H H' → H p = none → H' p = some (.lst ((Txt.split z dot).map V.str)) → Q (.ref p) H'
section
variable {P : Program} {w : World} {K : PySem.W.Frag} {mg : Str → Option Value} {base : Heap} {A : Adr}
local macro_rules | `(tactic| walk_at "ne") => `(tactic| first
  | assumption
  | exact Ne.symm (by assumption)
  | exact ne_new (by assumption) (by walk_at "look")
  | exact ne_new' (by assumption) (by walk_at "look")
  | exact ne_of (by walk_at "look") (by walk_at "look") (by intro z; cases z))
local macro_rules | `(tactic| walk_at "look") => `(tactic| first
  | assumption
  | exact upd_same
  | (refine upd_new (by assumption) ?_
     walk_at "look")
  | (refine (upd_ne ?_).trans ?_
     · walk_at "ne"
     · walk_at "look")
  | (refine Kp.get (by assumption) ?_ ?_
     · walk_at "ne"
     · walk_at "look")
  | (refine Same.get (by assumption) ?_
     walk_at "look"))
local macro_rules | `(tactic| walk_at "lenv") => `(tactic| first
  | exact Or.inl ⟨_, SqL.of (by walk_at "look"), rfl⟩
  | exact Or.inr ⟨_, SqT.of (by walk_at "look"), rfl⟩
  | exact ⟨line_le (by omega), rfl⟩)
local macro_rules | `(tactic| walk_at "cond") => `(tactic| first
  | assumption
  | rfl
  | exact Nat.zero_le _
  | exact Nat.le_of_ble_eq_true rfl
  | decide
  | omega
  | exact line_lt (by (try simp only [List.length_map, List.length_append, List.length_cons, List.length_nil]); omega)
  | exact line_le (by (try simp only [List.length_map, List.length_append, List.length_cons, List.length_nil]); omega)
  | (dsimp only; omega)
  | exact ⟨by decide, by decide⟩
  | exact ⟨by decide, by decide, by decide⟩
  | exact Or.inl ⟨by decide, by decide⟩
  | exact Or.inl ⟨by omega, by omega⟩
  | exact Or.inr ⟨by omega, by omega⟩)
local macro_rules | `(tactic| walk_at "kit") => `(tactic| first | assumption | exact kit_NoneType_int | exact kit_NoneType_bool | exact kit_NoneType_str | exact kit_NoneType_list | exact kit_NoneType_tuple | exact kit_NoneType_dict | exact kit_bool_int | exact kit_bool_bool | exact kit_bool_str | exact kit_bool_list | exact kit_bool_tuple | exact kit_bool_dict | exact kit_int_int | exact kit_int_bool | exact kit_int_str | exact kit_int_list | exact kit_int_tuple | exact kit_int_dict | exact kit_str_int | exact kit_str_bool | exact kit_str_str | exact kit_str_list | exact kit_str_tuple | exact kit_str_dict | exact kit_list_int | exact kit_list_bool | exact kit_list_str | exact kit_list_list | exact kit_list_tuple | exact kit_list_dict | exact kit_tuple_int | exact kit_tuple_bool | exact kit_tuple_str | exact kit_tuple_list | exact kit_tuple_tuple | exact kit_tuple_dict | exact kit_dict_int | exact kit_dict_bool | exact kit_dict_str | exact kit_dict_list | exact kit_dict_tuple | exact kit_dict_dict)
local macro_rules | `(tactic| walk_at "ty") => `(tactic| first | assumption | exact tyx_str | exact tyx_int | exact tyx_bl | exact tyx_non | exact tyx_lst (by walk_at "look") | exact tyx_tup (by walk_at "look") | exact tyx_dK (by walk_at "look"))
local macro_rules | `(tactic| walk_at "s") => `(tactic| first
  | refine And.intro (by assumption) ?_
  | refine ⟨_, rfl, ?_⟩
  | refine ⟨_, _, rfl, rfl, ?_⟩
  | refine ⟨_, _, _, _, rfl, rfl, SqL.of (by walk_at "look"), by rfl, ?_⟩
  | refine ⟨_, _, _, _, rfl, rfl, SqT.of (by walk_at "look"), by rfl, ?_⟩
  | refine ⟨_, _, _, _, rfl, rfl, by walk_at "look", by rfl, ?_⟩
  | refine ⟨_, _, rfl, by walk_at "lenv", ?_⟩
  | refine Or.inl ⟨_, rfl, ?_⟩
  | refine ⟨_, _, _, _, _, rfl, ClsV.ty _, by walk_at "ty", by walk_at "kit", ?_⟩
  | refine And.intro (by walk_at "cond") ?_
  | refine ⟨_, _, rfl, SqT.of (by walk_at "look"), rfl, ?_⟩
  | refine ⟨_, _, rfl, SqL.of (by walk_at "look"), rfl, ?_⟩
  | refine And.intro (Or.inl ⟨rfl, _, SqL.of (by walk_at "look")⟩) ?_
  | refine ⟨_, _, _, rfl, rfl, by walk_at "look", by walk_at "cond", ?_⟩
  | refine ⟨_, _, _, _, rfl, rfl, by walk_at "look", by walk_at "look", by walk_at "cond", ?_⟩
  | refine And.intro ⟨_, rfl⟩ ?_
  | refine And.intro ⟨_, SqL.of (by walk_at "look")⟩ ?_
  | refine ⟨_, _, rfl, SqL.of (by walk_at "look"), ?_⟩
  | refine ⟨_, _, rfl, (by assumption : SqL _ _ _ _), ?_⟩
  | refine ⟨_, by walk_at "look", by walk_at "cond", ?_⟩
  | refine ⟨_, _, rfl, Or.inr (SqT.of (by walk_at "look")), ?_⟩
  | refine ⟨_, _, rfl, Or.inl (SqL.of (by walk_at "look")), ?_⟩
  | refine ⟨_, _, rfl, ?_⟩
  | refine ⟨rfl, rfl, _, _, _, rfl, by walk_at "look", rfl, ?_⟩
  | refine ⟨_, _, true, _, _, rfl, rfl, ClsV.own _, kit_own (by assumption) (by assumption), rfl, by walk_at "look", ?_⟩
  | refine if_t (by first | rfl | decide) ?_
  | refine if_f (by first | decide | exact Bool.false_ne_true) ?_
  | refine fun _ _ => ?_)

theorem ok_l_sound (T : Txt K mg A) : FnG P w K mg base CX0 1 A.l_sound spSound := by
  obtain ⟨fd, F⟩ := T.F_l_sound
  refine Fun_okN F sc_l_sound (fun vs H Q E h => ?_) (fun _ _ _ _ _ _ us hl => match us, hl with | [_], _ => rfl) (fun cdv A' outer s H vs Q E hr hg h => ?_)
  · obtain ⟨_, rfl, _⟩ := h
    rfl
  obtain ⟨z, rfl, hz, q⟩ := h
  refine ⟨_, ((pss_cons (ps_if (PW.pt (pw_or (pt_cmpR op_eq (pe_callB call_len (by rfl) T.n_len (by decide +kernel) (pa_cons (pv 0) pa_nil)) pe_int (nomark _)) (pw_or1 (pt_cmpR op_gt (pe_callB call_len (by rfl) T.n_len (by decide +kernel) (pa_cons (pv 0) pa_nil)) pe_int (nomark _))))) (pss_one (ps_ret pe_bl)) pss_nil)
    (pss_cons (ps_for PassesOwn.never rfl (pi_enum_str (by rfl) T.n_enumerate (pa_cons (pv 0) pa_nil)) (pg_tup (by rfl) (pgs_cons (pg_name (i := 1) sc_l_sound.nd rfl (Or.inl rfl)) (pgs_cons (pg_name (i := 2) sc_l_sound.nd rfl (Or.inl rfl)) pgs_nil)))
    (pss_cons (ps_if (PW.pt (pw_or (pt_chain op_le_str op_le_str pe_str (pv 2) pe_str) (pw_or1 (PW.pt (pw_and (pt_cmpR op_gt (pv 1) pe_int (nomark _)) (pw_and1 (pt_chain op_le_str op_le_str pe_str (pv 2) pe_str))))))) (pss_one ps_continue) pss_nil)
    (pss_one (ps_ret pe_bl))))
    (pss_one (ps_ret pe_bl))))), ?_⟩
  repeat walk_at "s"
  refine if_2 (fun c1 => ?_) (fun c1 => ?_)
  · repeat walk_at "s"
    refine q false H (Same.refl H) ⟨(fun e => nomatch e), fun e => ?_⟩
    have h1 := e.1
    have h2 := V.int.inj (of_decide_eq_true c1)
    omega
  · repeat walk_at "s"
    refine if_2 (fun c2 => ?_) (fun c2 => ?_)
    · repeat walk_at "s"
      refine q false H (Same.refl H) ⟨(fun e => nomatch e), fun e => ?_⟩
      have h1 := e.2.1
      have h2 := of_decide_eq_true c2
      omega
    · have h2 : z.length ≤ 12 := by have := of_decide_eq_false c2; omega
      have h1 : 1 ≤ z.length := by
        rcases Nat.eq_zero_or_pos z.length with e | e
        · rw [e] at c1
          simp at c1
        · exact e
      repeat walk_at "s"
      refine for_it walk_enum_str (fun i σ H' => Iv ((∃ v1 v2, σ = [some (V.str z), v1, v2]) ∧ Same H H' ∧ ∀ (j c : Nat), j < i → z.cps[j]? = some c → isLet c ∨ (0 < j ∧ isDig c))) (Iv.mk ⟨⟨_, _, rfl⟩, Same.refl H, fun j c h => absurd h (Nat.not_lt_zero _)⟩) (fun _ _ _ _ _ => trivial) ?_ ?_
      · rintro i x σ H1 H2 hi hI ⟨T', x', y, rfl, hT, rfl, e1, e2⟩
        obtain ⟨⟨v1, v2, rfl⟩, sm, hp⟩ := hI.out
        obtain ⟨d, hd⟩ : ∃ d, z.cps[i]? = some d := ⟨_, Array.getElem?_eq_getElem hi⟩
        have e3 : (z.cps[i]?).map (fun c => V.str ⟨#[c]⟩) = some y := e2
        rw [hd] at e3
        cases e1
        cases e3
        have sm2 : Same H (upd H1 T' (.tup [.int (i : Nat), .str ⟨#[d]⟩])) := Same.new sm hT
        have more : isLet d ∨ (0 < i ∧ isDig d) → ∀ (j c : Nat), j < i + 1 → z.cps[j]? = some c → isLet c ∨ (0 < j ∧ isDig c) := by
          intro hd' j c' hj hc'
          rcases Nat.lt_or_ge j i with h | h
          · exact hp j c' h hc'
          · obtain rfl : j = i := by omega
            rw [hd] at hc'
            cases hc'
            exact hd'
        repeat walk_at "s"
        have k1 := ge_sign (s := "a") (c := 97) (by decide +kernel) d
        have k2 := le_sign (s := "z") (c := 122) (by decide +kernel) d
        have k3 := ge_sign (s := "0") (c := 48) (by decide +kernel) d
        have k4 := le_sign (s := "9") (c := 57) (by decide +kernel) d
        have done : ∀ (h : ¬ (isLet d ∨ (0 < i ∧ isDig d))), Q (.bl false) (upd H1 T' (.tup [.int (i : Nat), .str ⟨#[d]⟩])) := fun h =>
          q false _ sm2 ⟨(fun e => nomatch e), fun e => absurd (e.2.2 i d hd) h⟩
        refine if_2 (fun c3 => ?_) (fun c3 => ?_)
        · rw [k1] at c3
          repeat walk_at "s"
          refine if_2 (fun c4 => ?_) (fun c4 => ?_)
          · rw [k2] at c4
            repeat walk_at "s"
            exact Iv.mk ⟨⟨_, _, rfl⟩, sm2, more (.inl ⟨of_decide_eq_true c3, of_decide_eq_true c4⟩)⟩
          · rw [k2] at c4
            have nl : ¬ isLet d := fun e => of_decide_eq_false c4 e.2
            repeat walk_at "s"
            refine if_2 (fun c5 => ?_) (fun c5 => ?_)
            · have p5 : 0 < i := by have := of_decide_eq_true c5; omega
              repeat walk_at "s"
              refine if_2 (fun c6 => ?_) (fun c6 => ?_)
              · rw [k3] at c6
                repeat walk_at "s"
                refine if_2 (fun c7 => ?_) (fun c7 => ?_)
                · rw [k4] at c7
                  repeat walk_at "s"
                  exact Iv.mk ⟨⟨_, _, rfl⟩, sm2, more (.inr ⟨p5, of_decide_eq_true c6, of_decide_eq_true c7⟩)⟩
                · rw [k4] at c7
                  repeat walk_at "s"
                  exact done fun e => e.elim nl fun e => of_decide_eq_false c7 e.2.2
              · rw [k3] at c6
                repeat walk_at "s"
                exact done fun e => e.elim nl fun e => of_decide_eq_false c6 e.2.1
            · repeat walk_at "s"
              exact done fun e => e.elim nl fun e => by
                have := of_decide_eq_false c5
                omega
        · rw [k1] at c3
          have nl : ¬ isLet d := fun e => of_decide_eq_false c3 e.1
          repeat walk_at "s"
          refine if_2 (fun c5 => ?_) (fun c5 => ?_)
          · have p5 : 0 < i := by have := of_decide_eq_true c5; omega
            repeat walk_at "s"
            refine if_2 (fun c6 => ?_) (fun c6 => ?_)
            · rw [k3] at c6
              repeat walk_at "s"
              refine if_2 (fun c7 => ?_) (fun c7 => ?_)
              · rw [k4] at c7
                repeat walk_at "s"
                exact Iv.mk ⟨⟨_, _, rfl⟩, sm2, more (.inr ⟨p5, of_decide_eq_true c6, of_decide_eq_true c7⟩)⟩
              · rw [k4] at c7
                repeat walk_at "s"
                exact done fun e => e.elim nl fun e => of_decide_eq_false c7 e.2.2
            · rw [k3] at c6
              repeat walk_at "s"
              exact done fun e => e.elim nl fun e => of_decide_eq_false c6 e.2.1
          · repeat walk_at "s"
            exact done fun e => e.elim nl fun e => by
              have := of_decide_eq_false c5
              omega
      · intro σ H1 hI
        obtain ⟨⟨v1, v2, rfl⟩, sm, hp⟩ := hI.out
        repeat walk_at "s"
        refine q true _ sm ⟨fun _ => ⟨h1, h2, fun j c' hc' => ?_⟩, fun _ => rfl⟩
        have hj : j < z.cps.size := by
          rcases Nat.lt_or_ge j z.cps.size with h | h
          · exact h
          · rw [Array.getElem?_eq_none h] at hc'
            cases hc'
        exact hp j c' hj hc'
/-- cut at dots -/
theorem spl_dot_hit (acc r : List Nat) : spl [46] 0 acc (46 :: r) = acc :: spl [46] 0 [] r := spl_hit (by rfl)
theorem spl_dot_miss {c : Nat} (h : c ≠ 46) (acc r : List Nat) : spl [46] 0 acc (c :: r) = spl [46] 0 (acc ++ [c]) r := spl_miss (pre_of_head [] r h)
theorem split_dot (z : Str) : (Txt.split z dot).map tl = spl [46] 0 [] (tl z) := split_spl z dot (by decide +kernel) (kind_ok (by decide +kernel))
theorem ok_l_stems (T : Txt K mg A) : FnG P w K mg base CX0 1 A.l_stems spStems := by
  obtain ⟨fd, F⟩ := T.F_l_stems
  refine Fun_okN F sc_l_stems (fun vs H Q E h => ?_) (fun _ _ _ _ _ _ us hl => match us, hl with | [_], _ => rfl) (fun cdv A' outer s H vs Q E hr hg h => ?_)
  · obtain ⟨_, rfl, _⟩ := h
    rfl
  obtain ⟨z, rfl, hz, q⟩ := h
  refine ⟨_, ((pss_cons (ps_par (i := 1) (j := 2) (by rfl) sc_l_stems.nd rfl rfl (by decide) rfl rfl (pa_cons (pe_lst pa_nil) (pa_cons pe_str pa_nil)) (by rfl))
    (pss_cons (ps_for PassesOwn.never rfl (pi_str (pv 0)) (pg_name (i := 3) sc_l_stems.nd rfl (Or.inl rfl))
    (pss_one (ps_if (pt_cmpR op_eq (pv 3) pe_str (nomark _)) (pss_cons (ps_expr (pe_bm PySem.F.plainAttrs_list PySem.F.slot_list_append PySem.F.type_list_append mt_append (pv 1) (pa_cons (pv 2) pa_nil)))
    (pss_one (ps_set (i := 2) sc_l_stems.nd rfl (Or.inl rfl) pe_str))) (pss_one (ps_set (i := 2) sc_l_stems.nd rfl (Or.inl rfl) (pe_op op_add_str (pv 2) (pv 3)))))))
    (pss_one (ps_ret (pe_op op_cat (pv 1) (pe_lst (pa_cons (pv 2) pa_nil)))))))), ?_⟩
  repeat walk_at "s"
  rename_i p hp
  refine for_it walk_str (fun i σ H' => Iv (∃ (ps : List Str) (b : Str) (v : Option V), σ = [some (V.str z), some (.ref p), some (.str b), v] ∧ Same H H' ∧ H' p = some (.lst (ps.map V.str)) ∧ ps.length ≤ i ∧ b.length ≤ i ∧ ps.map tl ++ spl [46] 0 (tl b) ((tl z).drop i) = spl [46] 0 [] (tl z)))
    (Iv.mk ⟨[], Str.ofString "", _, rfl, Same.new (Same.refl H) hp, upd_same, Nat.le_refl _, Nat.le_refl _, rfl⟩) (fun _ _ _ _ _ => trivial) ?_ ?_
  · rintro i x σ H1 H2 hi hI ⟨rfl, d, hd, rfl⟩
    obtain ⟨ps, b, v, rfl, sm, hps, l1, l2, e⟩ := hI.out
    have hiz : i < (tl z).length := by rw [← len_tl]; exact hi
    have hd' : (tl z)[i]? = some d := by rw [← hd]; exact Array.getElem?_toList
    have hdr : (tl z).drop i = d :: (tl z).drop (i + 1) := by
      rw [List.drop_eq_getElem_cons hiz]
      rw [List.getElem?_eq_getElem hiz] at hd'
      rw [Option.some.inj hd']
    rw [hdr] at e
    have hz' : i < z.length := hi
    repeat walk_at "s"
    refine if_2 (fun c1 => ?_) (fun c1 => ?_)
    · repeat walk_at "s"
      have ed : d = 46 := by
        have h := V.str.inj (of_decide_eq_true c1)
        have h2 : tl ⟨#[d]⟩ = tl (Str.ofString ".") := by rw [h]
        have h3 : tl (Str.ofString ".") = [46] := by decide +kernel
        rw [h3] at h2
        exact (List.cons.inj h2).1
      subst ed
      rw [spl_dot_hit] at e
      refine Iv.mk ⟨ps ++ [b], Str.ofString "", _, rfl, Same.put sm hp, (by rw [upd_same, List.map_append] <;> rfl), (by rw [List.length_append]; exact Nat.succ_le_succ l1), Nat.zero_le _, ?_⟩
      rw [List.map_append, List.append_assoc]
      exact e
    · have ed : d ≠ 46 := fun z => by
        subst z
        exact of_decide_eq_false c1 rfl
      rw [spl_dot_miss ed] at e
      have lb : b.length + (⟨#[d]⟩ : Str).length ≤ sizeLine := line_le (by show b.length + 1 ≤ _; omega)
      repeat walk_at "s"
      refine Iv.mk ⟨ps, b ++ ⟨#[d]⟩, _, rfl, sm, hps, Nat.le_succ_of_le l1, ?_, ?_⟩
      · rw [len_tl, tl_append, List.length_append, ← len_tl]
        exact Nat.succ_le_succ l2
      · rw [tl_append]
        exact e
  · intro σ H1 hI
    obtain ⟨ps, b, v, rfl, sm, hps, l1, l2, e⟩ := hI.out
    have hz2 : z.cps.size ≤ 1000000 := hz
    repeat walk_at "s"
    rename_i p1 hp1 p2 hp2
    refine q _ p2 (Same.new (Same.new sm hp1) hp2) (Same.free sm (Same.free (Same.new (Same.refl H1) hp1) hp2)) ?_
    rw [upd_same]
    have e2 : (tl z).drop z.cps.size = [] := List.drop_eq_nil_of_le (Nat.le_of_eq (len_tl z).symm)
    rw [e2, spl_nil] at e
    have e3 : (ps ++ [b]).map tl = (Txt.split z dot).map tl := by
      rw [split_dot, ← e, List.map_append]
      rfl
    rw [← map_tl_inj e3, List.map_append]
    rfl
end
end K01

namespace K01
open PySem PySem.Spec PyProof.Rows L2 MyL TL
def spWell (K : PySem.W.Frag) : Sp := fun vs H Q _ => ∃ (a : Addr) (ns : List Int), vs = [.ref a] ∧ SqL K H a (ns.map V.int) ∧ ns.length ≤ 63 ∧ ∀ H' p, Same H H' → H p = none → (∃ c cs, WellAt H' ⟨p, c, cs⟩ 0) → Q (.ref p) H'
def alpha : Str := Str.ofString " !#$&()*+,-./0123456789:;<=>?@ABCDEFGHIJKLMNOPQRSTUVWXYZ[]^_" ++ Str.ofString "abcdefghijklmnopqrstuvwxyz{|}~\n"
def spAlpha : Sp := fun vs H Q _ => vs = [] ∧ Q (.str alpha) H
/-- a drawn stem: short, plain, without dots -/
def Plain (z : Str) : Prop := ∀ c ∈ tl z, c < 128
def NoDot (z : Str) : Prop := ∀ c ∈ tl z, c < 128 ∧ c ≠ 46
def spStem : Sp := fun vs H Q _ => ∃ (W : Wl) (n : Nat), vs = [.ref W.w] ∧ WellAt H W n ∧ n + 20 < 1000000 ∧ ∀ H' z, z.length ≤ 13 → NoDot z → WellAt H' W (n + 20) → Kp W.w H H' → Q (.str z) H'
def spText : Sp := fun vs H Q _ => ∃ (W : Wl) (n : Nat), vs = [.ref W.w] ∧ WellAt H W n ∧ n + 200 < 1000000 ∧ ∀ H' z, z.length ≤ 200 → Plain z → WellAt H' W (n + 200) → Kp W.w H H' → Q (.str z) H'
section
variable {P : Program} {w : World} {K : PySem.W.Frag} {mg : Str → Option Value} {base : Heap} {A : Adr}
local macro_rules | `(tactic| walk_at "ne") => `(tactic| first
  | assumption
  | exact Ne.symm (by assumption)
  | exact ne_new (by assumption) (by walk_at "look")
  | exact ne_new' (by assumption) (by walk_at "look")
  | exact ne_of (by walk_at "look") (by walk_at "look") (by intro z; cases z))
local macro_rules | `(tactic| walk_at "look") => `(tactic| first
  | assumption
  | exact upd_same
  | (refine upd_new (by assumption) ?_
     walk_at "look")
  | (refine (upd_ne ?_).trans ?_
     · walk_at "ne"
     · walk_at "look")
  | (refine Kp.get (by assumption) ?_ ?_
     · walk_at "ne"
     · walk_at "look")
  | (refine Same.get (by assumption) ?_
     walk_at "look"))
local macro_rules | `(tactic| walk_at "lenv") => `(tactic| first
  | exact Or.inl ⟨_, SqL.of (by walk_at "look"), rfl⟩
  | exact Or.inr ⟨_, SqT.of (by walk_at "look"), rfl⟩
  | exact ⟨line_le (by omega), rfl⟩)
local macro_rules | `(tactic| walk_at "cond") => `(tactic| first
  | assumption
  | rfl
  | exact Nat.zero_le _
  | exact Nat.le_of_ble_eq_true rfl
  | decide
  | omega
  | exact line_lt (by (try simp only [List.length_map, List.length_append, List.length_cons, List.length_nil]); omega)
  | exact line_le (by (try simp only [List.length_map, List.length_append, List.length_cons, List.length_nil]); omega)
  | (dsimp only; omega)
  | exact ⟨by decide, by decide⟩
  | exact ⟨by decide, by decide, by decide⟩
  | exact Or.inl ⟨by decide, by decide⟩
  | exact Or.inl ⟨by omega, by omega⟩
  | exact Or.inr ⟨by omega, by omega⟩)
local macro_rules | `(tactic| walk_at "kit") => `(tactic| first | assumption | exact kit_NoneType_int | exact kit_NoneType_bool | exact kit_NoneType_str | exact kit_NoneType_list | exact kit_NoneType_tuple | exact kit_NoneType_dict | exact kit_bool_int | exact kit_bool_bool | exact kit_bool_str | exact kit_bool_list | exact kit_bool_tuple | exact kit_bool_dict | exact kit_int_int | exact kit_int_bool | exact kit_int_str | exact kit_int_list | exact kit_int_tuple | exact kit_int_dict | exact kit_str_int | exact kit_str_bool | exact kit_str_str | exact kit_str_list | exact kit_str_tuple | exact kit_str_dict | exact kit_list_int | exact kit_list_bool | exact kit_list_str | exact kit_list_list | exact kit_list_tuple | exact kit_list_dict | exact kit_tuple_int | exact kit_tuple_bool | exact kit_tuple_str | exact kit_tuple_list | exact kit_tuple_tuple | exact kit_tuple_dict | exact kit_dict_int | exact kit_dict_bool | exact kit_dict_str | exact kit_dict_list | exact kit_dict_tuple | exact kit_dict_dict)
local macro_rules | `(tactic| walk_at "ty") => `(tactic| first | assumption | exact tyx_str | exact tyx_int | exact tyx_bl | exact tyx_non | exact tyx_lst (by walk_at "look") | exact tyx_tup (by walk_at "look") | exact tyx_dK (by walk_at "look"))
local macro_rules | `(tactic| walk_at "s") => `(tactic| first
  | refine And.intro (by assumption) ?_
  | refine ⟨_, rfl, ?_⟩
  | refine ⟨_, _, rfl, rfl, ?_⟩
  | refine ⟨_, _, _, _, rfl, rfl, SqL.of (by walk_at "look"), by rfl, ?_⟩
  | refine ⟨_, _, _, _, rfl, rfl, SqT.of (by walk_at "look"), by rfl, ?_⟩
  | refine ⟨_, _, _, _, rfl, rfl, by walk_at "look", by rfl, ?_⟩
  | refine ⟨_, _, rfl, by walk_at "lenv", ?_⟩
  | refine Or.inl ⟨_, rfl, ?_⟩
  | refine ⟨_, _, _, _, _, rfl, ClsV.ty _, by walk_at "ty", by walk_at "kit", ?_⟩
  | refine And.intro (by walk_at "cond") ?_
  | refine ⟨_, _, rfl, SqT.of (by walk_at "look"), rfl, ?_⟩
  | refine ⟨_, _, rfl, SqL.of (by walk_at "look"), rfl, ?_⟩
  | refine And.intro (Or.inl ⟨rfl, _, SqL.of (by walk_at "look")⟩) ?_
  | refine ⟨_, _, _, rfl, rfl, by walk_at "look", by walk_at "cond", ?_⟩
  | refine ⟨_, _, _, _, rfl, rfl, by walk_at "look", by walk_at "look", by walk_at "cond", ?_⟩
  | refine And.intro ⟨_, rfl⟩ ?_
  | refine And.intro ⟨_, SqL.of (by walk_at "look")⟩ ?_
  | refine ⟨_, _, rfl, SqL.of (by walk_at "look"), ?_⟩
  | refine ⟨_, _, rfl, (by assumption : SqL _ _ _ _), ?_⟩
  | refine ⟨_, by walk_at "look", by walk_at "cond", ?_⟩
  | refine ⟨_, _, rfl, Or.inr (SqT.of (by walk_at "look")), ?_⟩
  | refine ⟨_, _, rfl, Or.inl (SqL.of (by walk_at "look")), ?_⟩
  | refine ⟨_, _, rfl, ?_⟩
  | refine ⟨rfl, rfl, _, _, _, rfl, by walk_at "look", rfl, ?_⟩
  | refine ⟨_, _, true, _, _, rfl, rfl, ClsV.own _, kit_own (by assumption) (by assumption), rfl, by walk_at "look", ?_⟩
  | refine if_t (by first | rfl | decide) ?_
  | refine if_f (by first | decide | exact Bool.false_ne_true) ?_
  | refine fun _ _ => ?_)

theorem ok_is_name (T : Txt K mg A) : FnG P w K mg base CX0 2 A.is_name (spIsName K) := by
  obtain ⟨fd, F⟩ := T.F_is_name
  refine Fun_okN F sc_is_name (fun vs H Q E h => ?_) (fun _ _ _ _ _ _ us hl => match us, hl with | [_], _ => rfl) (fun cdv A' outer s H vs Q E hr hg h => ?_)
  · obtain ⟨_, rfl, _⟩ := h
    rfl
  obtain ⟨v, rfl, h⟩ := h
  refine ⟨_, ((pss_cons (ps_if (pt_not (pt_val (pe_callB call_isi (by rfl) T.n_isinstance (by decide +kernel) (pa_cons (pv 0) (pa_cons (pe_bltn (v := .ty "str") (u := .type "str") (by rfl) T.n_str (by decide +kernel) rfl) pa_nil))))) (pss_one (ps_ret pe_bl)) pss_nil)
    (pss_cons (ps_set (i := 1) sc_is_name.nd rfl (Or.inl rfl) (pe_split (pv 0) pe_str))
    (pss_cons (ps_if (pt_cmpR op_gt (pe_callB call_len (by rfl) T.n_len (by decide +kernel) (pa_cons (pv 1) pa_nil)) (C8.pe_gc rfl T.v_MOST_STEMS) (nomark _)) (pss_one (ps_ret pe_bl)) pss_nil)
    (pss_cons (ps_for PassesOwn.never rfl (pi_list (pv 1)) (pg_name (i := 2) sc_is_name.nd rfl (Or.inl rfl))
    (pss_one (ps_if (pt_not (pt_val (pe_callGd (ok_is_stem T) (hr.mono (by decide)) hg rfl T.m_is_stem T.k_is_stem pass0 (pa_cons (pv 2) pa_nil)))) (pss_one (ps_ret pe_bl)) pss_nil)))
    (pss_one (ps_ret pe_bl))))))), ?_⟩
  rcases h with ⟨⟨t, h0, h1⟩, q⟩ | ⟨z, rfl, hz, q⟩
  · repeat walk_at "s"
    exact q
  · repeat walk_at "s"
    rename_i p hp
    refine if_2 (fun c1 => ?_) (fun c1 => ?_)
    · repeat walk_at "s"
      refine q false _ (Same.new (Same.refl H) hp) ⟨(fun e => nomatch e), fun e => ?_⟩
      have h1 := e.1
      have h2 := of_decide_eq_true c1
      rw [List.length_map] at h2
      have h3 : (Txt.split z dot).length = (Txt.split z (Str.ofString ".")).length := rfl
      omega
    · repeat walk_at "s"
      refine for_list (K := K) (a := p) (xs := (Txt.split z dot).map V.str) (fun i σ H' => Iv ((∃ v, σ = [some (V.str z), some (.ref p), v]) ∧ Same (upd H p (.lst ((Txt.split z dot).map V.str))) H' ∧ ∀ s ∈ (Txt.split z dot).take i, StemP s))
        (Iv.mk ⟨⟨_, rfl⟩, Same.refl _, fun s h => by simp at h⟩) (fun i σ H' _ h => SqL.of (h.out.2.1 _ _ upd_same)) ?_ ?_
      · intro i x σ H1 hi hI
        obtain ⟨⟨v, rfl⟩, sm, hp1⟩ := hI.out
        obtain ⟨s, hs, rfl⟩ : ∃ s, (Txt.split z dot)[i]? = some s ∧ x = V.str s := by
          rw [List.getElem?_map] at hi
          cases e : (Txt.split z dot)[i]? with
          | none => rw [e] at hi; cases hi
          | some s => rw [e] at hi; exact ⟨s, rfl, (Option.some.inj hi).symm⟩
        have hm := List.mem_of_getElem? hs
        have hsl := (split_dot_mem (z := z) (y := dot) rfl s hm).1
        repeat walk_at "s"
        refine Iv.mk ⟨.str s, rfl, .inr ⟨s, rfl, by omega, fun b H2 sm2 hb => ?_⟩⟩
        repeat walk_at "s"
        refine if_2 (fun c2 => ?_) (fun c2 => ?_)
        · repeat walk_at "s"
          refine q false _ ((Same.new (Same.refl H) hp).trans (sm.trans sm2)) ⟨(fun e => nomatch e), fun e => ?_⟩
          rw [hb.mpr (e.2 s hm)] at c2
          exact nomatch c2
        · repeat walk_at "s"
          refine Iv.mk ⟨⟨_, rfl⟩, sm.trans sm2, fun y hy => ?_⟩
          have e3 : (Txt.split z dot).take (i + 1) = (Txt.split z dot).take i ++ [s] := by
            rw [List.take_add_one, hs]
            rfl
          rw [e3] at hy
          rcases List.mem_append.mp hy with h | h
          · exact hp1 y h
          · rw [List.mem_singleton.mp h]
            exact hb.mp (by simpa using c2)
      · intro σ H1 hI
        obtain ⟨⟨v, rfl⟩, sm, hp1⟩ := hI.out
        repeat walk_at "s"
        refine q true _ ((Same.new (Same.refl H) hp).trans sm) ⟨fun _ => ⟨?_, fun s hs => hp1 s ?_⟩, fun _ => rfl⟩
        · have h2 := of_decide_eq_false c1
          rw [List.length_map] at h2
          have h3 : (Txt.split z dot).length = (Txt.split z (Str.ofString ".")).length := rfl
          omega
        · rw [List.length_map, List.take_length]
          exact hs
theorem ok_l_well (T : Txt K mg A) : FnG P w K mg base CX0 1 A.l_well (spWell K) := by
  obtain ⟨fd, F⟩ := T.F_l_well
  refine Fun_okN F sc_l_well (fun vs H Q E h => ?_) (fun _ _ _ _ _ _ us hl => match us, hl with | [_], _ => rfl) (fun cdv A' outer s H vs Q E hr hg h => ?_)
  · obtain ⟨_, _, rfl, _⟩ := h
    rfl
  obtain ⟨a, ns, rfl, hS, hn, q⟩ := h
  refine ⟨_, ((pss_one (ps_ret (pe_lst (pa_cons (pe_lc (own := [(("_law_cell" : PySem.Str), 1)]) rfl sc_l_well.nd (pi_list (pe_slice sl_list (pv 0) po_none (po_some pe_int))) (blkOk_by (own := [(("_law_cell" : PySem.Str), 1)]) (N := [("_law_script" : PySem.Str), ("_law_cell" : PySem.Str)]) (sc := defScope s_l_well) (by decide +kernel)) (fun _ _ _ _ _ => (pg_name (i := 1) sc_l_well.nd rfl (Or.inl rfl))) (fun _ _ _ _ _ => pts_nil) (fun _ _ _ _ _ => (pe_callTy call_int1 (by rfl) T.n_int (by decide +kernel) (pa_cons (pv 1) pa_nil)))) (pa_cons pe_int (pa_cons pe_int pa_nil))))))), ?_⟩
  repeat walk_at "s"
  rename_i p hp D hD
  obtain ⟨cs, ec, lc⟩ := cutV_ints ns none (some 63)
  rw [ec] at hD ⊢
  refine lc_it (walk_list (xs := cs.map V.int)) (fun i H' => Iv (Same H H' ∧ H' p = some (.lst (cs.map V.int)) ∧ H' D = some (.lst ((cs.take i).map V.int)))) (Iv.mk ⟨Same.new (Same.new (Same.refl H) hp) hD, by walk_at "look", upd_same⟩) (fun i H' _ h => SqL.of h.out.2.1) ?_ ?_
  · rintro i x H1 H2 hi hI ⟨rfl, hx⟩
    obtain ⟨sm, hpl, hDl⟩ := hI.out
    obtain ⟨c, hc, rfl⟩ : ∃ c, cs[i]? = some c ∧ x = V.int c := by
      rw [List.getElem?_map] at hx
      cases e : cs[i]? with
      | none => rw [e] at hx; cases hx
      | some s => rw [e] at hx; exact ⟨s, rfl, (Option.some.inj hx).symm⟩
    have lt : (List.map V.int (cs.take i)).length < sizeLine := line_lt (by rw [List.length_map, List.length_take]; omega)
    repeat walk_at "s"
    refine Iv.mk ⟨Same.put sm (Same.free (Same.new (Same.refl H) hp) hD), by walk_at "look", ?_⟩
    rw [upd_same, List.take_add_one, hc, List.map_append]
    rfl
  · intro H1 hI
    obtain ⟨sm, hpl, hDl⟩ := hI.out
    repeat walk_at "s"
    rename_i r hr2
    have el : (cs.take (cs.map V.int).length) = cs := by rw [List.length_map, List.take_length]
    rw [el] at hDl
    refine q _ r (Same.new sm hr2) (Same.free sm hr2) ⟨D, cs, 0, 0, upd_same, (by show upd H1 r _ D = _; walk_at "look"), (by show D ≠ r; walk_at "ne"), (by show cs.length ≤ 63; omega), Int.le_refl _, Int.le_refl _⟩
theorem ok_l_alphabet (T : Txt K mg A) : FnG P w K mg base CX0 1 A.l_alphabet spAlpha := by
  obtain ⟨fd, F⟩ := T.F_l_alphabet
  refine Fun_okN F sc_l_alphabet (fun vs H Q E h => ?_) (fun _ _ _ _ _ _ us hl => match us, hl with | [], _ => rfl) (fun cdv A' outer s H vs Q E hr hg h => ?_)
  · obtain ⟨rfl, _⟩ := h
    rfl
  obtain ⟨rfl, q⟩ := h
  refine ⟨_, ((pss_cons (ps_set (i := 0) sc_l_alphabet.nd rfl (Or.inl rfl) pe_str)
    (pss_one (ps_ret (pe_op op_add_str (pv 0) pe_str))))), ?_⟩
  have hl : (Str.ofString " !#$&()*+,-./0123456789:;<=>?@ABCDEFGHIJKLMNOPQRSTUVWXYZ[]^_").length + (Str.ofString "abcdefghijklmnopqrstuvwxyz{|}~\n").length ≤ sizeLine := by decide +kernel
  repeat walk_at "s"
  exact q
end
end K01

namespace K01
open PySem PySem.Spec PyProof.Rows L2 MyL TL
theorem ints_mem {js : List Nat} {m : Nat} (hm : ∀ j ∈ js, j ≤ m) {v : V} (h : v ∈ js.map fun (j : Nat) => V.int (j : Int)) : ∃ j : Nat, v = .int j ∧ j ≤ m ∧ j ∈ js := by
  obtain ⟨j, hj, rfl⟩ := List.mem_map.mp h
  exact ⟨j, rfl, hm j hj, hj⟩
theorem one_tl (c : Nat) : tl ⟨#[c]⟩ = [c] := rfl
section
variable {P : Program} {w : World} {K : PySem.W.Frag} {mg : Str → Option Value} {base : Heap} {A : Adr}
local macro_rules | `(tactic| walk_at "ne") => `(tactic| first
  | assumption
  | exact Ne.symm (by assumption)
  | exact ne_new (by assumption) (by walk_at "look")
  | exact ne_new' (by assumption) (by walk_at "look")
  | exact ne_of (by walk_at "look") (by walk_at "look") (by intro z; cases z))
local macro_rules | `(tactic| walk_at "look") => `(tactic| first
  | assumption
  | exact upd_same
  | (refine upd_new (by assumption) ?_
     walk_at "look")
  | (refine (upd_ne ?_).trans ?_
     · walk_at "ne"
     · walk_at "look")
  | (refine Kp.get (by assumption) ?_ ?_
     · walk_at "ne"
     · walk_at "look")
  | (refine Same.get (by assumption) ?_
     walk_at "look"))
local macro_rules | `(tactic| walk_at "lenv") => `(tactic| first
  | exact Or.inl ⟨_, SqL.of (by walk_at "look"), rfl⟩
  | exact Or.inr ⟨_, SqT.of (by walk_at "look"), rfl⟩
  | exact ⟨line_le (by omega), rfl⟩)
local macro_rules | `(tactic| walk_at "cond") => `(tactic| first
  | assumption
  | rfl
  | exact Nat.zero_le _
  | exact Nat.le_of_ble_eq_true rfl
  | decide
  | omega
  | exact line_lt (by (try simp only [List.length_map, List.length_append, List.length_cons, List.length_nil]); omega)
  | exact line_le (by (try simp only [List.length_map, List.length_append, List.length_cons, List.length_nil]); omega)
  | (dsimp only; omega)
  | exact ⟨by decide, by decide⟩
  | exact ⟨by decide, by decide, by decide⟩
  | exact Or.inl ⟨by decide, by decide⟩
  | exact Or.inl ⟨by omega, by omega⟩
  | exact Or.inr ⟨by omega, by omega⟩)
local macro_rules | `(tactic| walk_at "kit") => `(tactic| first | assumption | exact kit_NoneType_int | exact kit_NoneType_bool | exact kit_NoneType_str | exact kit_NoneType_list | exact kit_NoneType_tuple | exact kit_NoneType_dict | exact kit_bool_int | exact kit_bool_bool | exact kit_bool_str | exact kit_bool_list | exact kit_bool_tuple | exact kit_bool_dict | exact kit_int_int | exact kit_int_bool | exact kit_int_str | exact kit_int_list | exact kit_int_tuple | exact kit_int_dict | exact kit_str_int | exact kit_str_bool | exact kit_str_str | exact kit_str_list | exact kit_str_tuple | exact kit_str_dict | exact kit_list_int | exact kit_list_bool | exact kit_list_str | exact kit_list_list | exact kit_list_tuple | exact kit_list_dict | exact kit_tuple_int | exact kit_tuple_bool | exact kit_tuple_str | exact kit_tuple_list | exact kit_tuple_tuple | exact kit_tuple_dict | exact kit_dict_int | exact kit_dict_bool | exact kit_dict_str | exact kit_dict_list | exact kit_dict_tuple | exact kit_dict_dict)
local macro_rules | `(tactic| walk_at "ty") => `(tactic| first | assumption | exact tyx_str | exact tyx_int | exact tyx_bl | exact tyx_non | exact tyx_lst (by walk_at "look") | exact tyx_tup (by walk_at "look") | exact tyx_dK (by walk_at "look"))
local macro_rules | `(tactic| walk_at "s") => `(tactic| first
  | refine And.intro (by assumption) ?_
  | refine ⟨_, rfl, ?_⟩
  | refine ⟨_, _, rfl, rfl, ?_⟩
  | refine ⟨_, _, _, _, rfl, rfl, SqL.of (by walk_at "look"), by rfl, ?_⟩
  | refine ⟨_, _, _, _, rfl, rfl, SqT.of (by walk_at "look"), by rfl, ?_⟩
  | refine ⟨_, _, _, _, rfl, rfl, by walk_at "look", by rfl, ?_⟩
  | refine ⟨_, _, rfl, by walk_at "lenv", ?_⟩
  | refine Or.inl ⟨_, rfl, ?_⟩
  | refine ⟨_, _, _, _, _, rfl, ClsV.ty _, by walk_at "ty", by walk_at "kit", ?_⟩
  | refine And.intro (by walk_at "cond") ?_
  | refine ⟨_, _, rfl, SqT.of (by walk_at "look"), rfl, ?_⟩
  | refine ⟨_, _, rfl, SqL.of (by walk_at "look"), rfl, ?_⟩
  | refine And.intro (Or.inl ⟨rfl, _, SqL.of (by walk_at "look")⟩) ?_
  | refine ⟨_, _, _, rfl, rfl, by walk_at "look", by walk_at "cond", ?_⟩
  | refine ⟨_, _, _, _, rfl, rfl, by walk_at "look", by walk_at "look", by walk_at "cond", ?_⟩
  | refine And.intro ⟨_, rfl⟩ ?_
  | refine And.intro ⟨_, SqL.of (by walk_at "look")⟩ ?_
  | refine ⟨_, _, rfl, SqL.of (by walk_at "look"), ?_⟩
  | refine ⟨_, _, rfl, (by assumption : SqL _ _ _ _), ?_⟩
  | refine ⟨_, by walk_at "look", by walk_at "cond", ?_⟩
  | refine ⟨_, _, rfl, Or.inr (SqT.of (by walk_at "look")), ?_⟩
  | refine ⟨_, _, rfl, Or.inl (SqL.of (by walk_at "look")), ?_⟩
  | refine ⟨_, _, rfl, ?_⟩
  | refine ⟨rfl, rfl, _, _, _, rfl, by walk_at "look", rfl, ?_⟩
  | refine ⟨_, _, true, _, _, rfl, rfl, ClsV.own _, kit_own (by assumption) (by assumption), rfl, by walk_at "look", ?_⟩
  | refine if_t (by first | rfl | decide) ?_
  | refine if_f (by first | decide | exact Bool.false_ne_true) ?_
  | refine fun _ _ => ?_)

theorem ok_l_stem (T : Txt K mg A) : FnG P w K mg base CX0 3 A.l_stem spStem := by
  obtain ⟨fd, F⟩ := T.F_l_stem
  refine Fun_okN F sc_l_stem (fun vs H Q E h => ?_) (fun _ _ _ _ _ _ us hl => match us, hl with | [_], _ => rfl) (fun cdv A' outer s H vs Q E hr hg h => ?_)
  · obtain ⟨_, _, rfl, _⟩ := h
    rfl
  obtain ⟨a, n, rfl, W, hn, q⟩ := h
  refine ⟨_, ((pss_cons (ps_set (i := 1) sc_l_stem.nd rfl (Or.inr rfl) pe_str)
    (pss_cons (ps_setLc (own := [(("_law_at" : PySem.Str), 3)]) (i := 2) rfl sc_l_stem.nd rfl rfl (sw_true rfl rfl rfl (by decide +kernel)) (pi_range1 (by rfl) T.n_range (pa_cons (pe_callGd (ok_l_pick T) (hr.mono (by decide)) hg rfl T.m_l_pick T.k_l_pick pass0 (pa_cons (pv 0) (pa_cons (pe_lst (pa_cons pe_int (pa_cons pe_int (pa_cons pe_int (pa_cons pe_int (pa_cons pe_int (pa_cons pe_int (pa_cons pe_int pa_nil)))))))) pa_nil))) pa_nil)) (blkOk_by (own := [(("_law_at" : PySem.Str), 3)]) (N := [("_law_well_here" : PySem.Str), ("_law_letters" : PySem.Str), ("_law_more" : PySem.Str), ("_law_at" : PySem.Str)]) (sc := defScope s_l_stem) (by decide +kernel)) (fun _ _ _ _ _ => (pg_name (i := 3) sc_l_stem.nd rfl (Or.inl rfl))) (fun _ _ _ _ _ => pts_nil) (fun _ _ _ _ _ => (pe_callGd (ok_l_pick T) (hr.mono (by decide)) hg rfl T.m_l_pick T.k_l_pick pass0 (pa_cons (pv 0) (pa_cons (pe_op op_add_str (pv 1) pe_str) pa_nil)))))
    (pss_one (ps_ret (pe_op op_add_str (pe_callGd (ok_l_pick T) (hr.mono (by decide)) hg rfl T.m_l_pick T.k_l_pick pass0 (pa_cons (pv 0) (pa_cons (pv 1) pa_nil))) (pe_join pe_str (pv 2)))))))), ?_⟩
  repeat walk_at "s"
  rename_i p hp
  obtain ⟨ow, how⟩ := W.at
  have hpa : p ≠ a.w := (W.ne hp).1
  refine Iv.mk ⟨a, _, n, rfl, W.same (Same.new (Same.refl H) hp), by omega, .inl ⟨p, _, rfl, hpa, upd_same, by show 0 < 7; decide, by show 7 ≤ 1000; decide, fun H1 v hv W1 K1 => ?_⟩⟩
  obtain ⟨j, rfl, hj, _⟩ := ints_mem (js := [0, 1, 2, 4, 10, 11, 12]) (m := 12) (by decide) hv
  have K01 : Kp a.w H H1 := (Kp.of_same (Same.new (Same.refl H) hp)).trans K1
  repeat walk_at "s"
  rename_i D hD
  obtain ⟨ow1, how1⟩ := W1.at
  have hDa : D ≠ a.w := (W1.ne hD).1
  refine lc_it walk_range (fun i H' => Iv (WellAt H' a (n + 1 + i) ∧ Kp a.w H H' ∧ ∃ zs : List Str, H' D = some (.lst (zs.map V.str)) ∧ zs.length ≤ i ∧ ∀ z ∈ zs, z.length = 1 ∧ NoDot z))
    (Iv.mk ⟨W1.same (Same.new (Same.refl H1) hD), Kp.new K01 hD, [], upd_same, Nat.le_refl _, fun z h => absurd h List.not_mem_nil⟩) (fun _ _ _ _ => trivial) ?_ ?_
  · rintro i x H2 H3 hi hI ⟨rfl, rfl⟩
    obtain ⟨W2, K2, zs, hz, lz, hzs⟩ := hI.out
    have hi12 : i < 12 := by
      have e : ((j : Nat) : Int).toNat = j := Int.toNat_natCast j
      omega
    have hl : ("abcdefghijklmnopqrstuvwxyz" : Str).length + ("0123456789" : Str).length ≤ sizeLine := by decide +kernel
    repeat walk_at "s"
    refine Iv.mk ⟨a, _, n + 1 + i, rfl, W2, by omega, .inr ⟨_, rfl, by decide +kernel, by decide +kernel, fun H4 c hc W3 K3 => ?_⟩⟩
    have pc : c < 128 ∧ c ≠ 46 := (show ∀ c ∈ tl (("abcdefghijklmnopqrstuvwxyz" : Str) ++ ("0123456789" : Str)), c < 128 ∧ c ≠ 46 by decide +kernel) c hc
    have hD4 : H4 D = some (.lst (zs.map V.str)) := K3 D _ hDa hz
    refine ⟨_, hD4, line_lt (by rw [List.length_map]; omega), ?_⟩
    refine Iv.mk ⟨?_, (K2.trans K3).put2 (Kp.free K01 ⟨_, how1⟩ hD), zs ++ [⟨#[c]⟩], (by rw [upd_same, List.map_append] <;> rfl), (by rw [List.length_append]; exact Nat.succ_le_succ lz), fun z h => ?_⟩
    · exact (W3.mono (by omega)).put (W1.ne hD)
    · rcases List.mem_append.mp h with h | h
      · exact hzs z h
      · rw [List.mem_singleton.mp h]
        exact ⟨rfl, fun d hd => by rw [one_tl] at hd; rw [List.mem_singleton.mp hd]; exact pc⟩
  · intro H2 hI
    obtain ⟨W2, K2, zs, hz, lz, hzs⟩ := hI.out
    have ej : ((j : Nat) : Int).toNat = j := Int.toNat_natCast j
    rw [ej] at W2 lz
    repeat walk_at "s"
    refine Iv.mk ⟨a, _, n + 1 + j, rfl, W2, by omega, .inr ⟨_, rfl, by decide +kernel, by decide +kernel, fun H4 c hc W3 K3 => ?_⟩⟩
    have pc : c < 128 ∧ c ≠ 46 := (show ∀ c ∈ tl ("abcdefghijklmnopqrstuvwxyz" : Str), c < 128 ∧ c ≠ 46 by decide +kernel) c hc
    have hD4 : H4 D = some (.lst (zs.map V.str)) := K3 D _ hDa hz
    repeat walk_at "s"
    have le1 : ∀ p ∈ zs, p.length ≤ 1 := fun p hp => by rw [(hzs p hp).1]; exact Nat.le_refl _
    have lj := join_len (y := ("" : Str)) le1
    have ej2 : ("" : Str).length = 0 := by decide +kernel
    rw [ej2] at lj
    refine ⟨_, _, zs, rfl, rfl, .inl (SqL.of hD4), ?_, ?_⟩
    · have := sum_len le1
      rw [ej2]
      omega
    have lz2 : (⟨#[c]⟩ : Str).length + (Txt.join ("" : Str) zs).length ≤ sizeLine := line_le (by show 1 + _ ≤ _; omega)
    repeat walk_at "s"
    refine q H4 _ ?_ ?_ (W3.mono (by omega)) (K2.trans K3)
    · rw [len_tl, tl_append, List.length_append, ← len_tl, ← len_tl]
      show 1 + _ ≤ 13
      omega
    · intro d hd
      rw [tl_append] at hd
      rcases List.mem_append.mp hd with h | h
      · rw [one_tl] at h
        rw [List.mem_singleton.mp h]
        exact pc
      · rcases join_mem h with h | ⟨p', hp', h⟩
        · have e0 : tl ("" : Str) = [] := by decide +kernel
          rw [e0] at h
          exact absurd h List.not_mem_nil
        · exact (hzs p' hp').2 d h
end
end K01

namespace K01
open PySem PySem.Spec PyProof.Rows L2 MyL TL
theorem cut_len {z : Str} {lo hi : Option Int} {n : Nat} (h : z.length ≤ n) : (cutS z lo hi).length ≤ n := Nat.le_trans (cutS_length z lo hi) h
theorem app_len {x y : Str} : (x ++ y).length = x.length + y.length := by
  rw [len_tl, tl_append, List.length_append, ← len_tl, ← len_tl]
theorem plain_app {x y : Str} (hx : Plain x) (hy : Plain y) : Plain (x ++ y) := fun c hc => by
  rw [tl_append] at hc
  rcases List.mem_append.mp hc with h | h
  · exact hx c h
  · exact hy c h
theorem plain_cut {x : Str} {lo hi : Option Int} (hx : Plain x) : Plain (cutS x lo hi) := fun c hc => hx c (cutS_mem hc)
section
variable {P : Program} {w : World} {K : PySem.W.Frag} {mg : Str → Option Value} {base : Heap} {A : Adr}
local macro_rules | `(tactic| walk_at "ne") => `(tactic| first
  | assumption
  | exact Ne.symm (by assumption)
  | exact ne_new (by assumption) (by walk_at "look")
  | exact ne_new' (by assumption) (by walk_at "look")
  | exact ne_of (by walk_at "look") (by walk_at "look") (by intro z; cases z))
local macro_rules | `(tactic| walk_at "look") => `(tactic| first
  | assumption
  | exact upd_same
  | (refine upd_new (by assumption) ?_
     walk_at "look")
  | (refine (upd_ne ?_).trans ?_
     · walk_at "ne"
     · walk_at "look")
  | (refine Kp.get (by assumption) ?_ ?_
     · walk_at "ne"
     · walk_at "look")
  | (refine Same.get (by assumption) ?_
     walk_at "look"))
local macro_rules | `(tactic| walk_at "lenv") => `(tactic| first
  | exact Or.inl ⟨_, SqL.of (by walk_at "look"), rfl⟩
  | exact Or.inr ⟨_, SqT.of (by walk_at "look"), rfl⟩
  | exact ⟨line_le (by omega), rfl⟩)
local macro_rules | `(tactic| walk_at "cond") => `(tactic| first
  | assumption
  | rfl
  | exact Nat.zero_le _
  | exact Nat.le_of_ble_eq_true rfl
  | decide
  | omega
  | exact line_lt (by (try simp only [List.length_map, List.length_append, List.length_cons, List.length_nil]); omega)
  | exact line_le (by (try simp only [List.length_map, List.length_append, List.length_cons, List.length_nil]); omega)
  | (dsimp only; omega)
  | exact ⟨by decide, by decide⟩
  | exact ⟨by decide, by decide, by decide⟩
  | exact Or.inl ⟨by decide, by decide⟩
  | exact Or.inl ⟨by omega, by omega⟩
  | exact Or.inr ⟨by omega, by omega⟩)
local macro_rules | `(tactic| walk_at "kit") => `(tactic| first | assumption | exact kit_NoneType_int | exact kit_NoneType_bool | exact kit_NoneType_str | exact kit_NoneType_list | exact kit_NoneType_tuple | exact kit_NoneType_dict | exact kit_bool_int | exact kit_bool_bool | exact kit_bool_str | exact kit_bool_list | exact kit_bool_tuple | exact kit_bool_dict | exact kit_int_int | exact kit_int_bool | exact kit_int_str | exact kit_int_list | exact kit_int_tuple | exact kit_int_dict | exact kit_str_int | exact kit_str_bool | exact kit_str_str | exact kit_str_list | exact kit_str_tuple | exact kit_str_dict | exact kit_list_int | exact kit_list_bool | exact kit_list_str | exact kit_list_list | exact kit_list_tuple | exact kit_list_dict | exact kit_tuple_int | exact kit_tuple_bool | exact kit_tuple_str | exact kit_tuple_list | exact kit_tuple_tuple | exact kit_tuple_dict | exact kit_dict_int | exact kit_dict_bool | exact kit_dict_str | exact kit_dict_list | exact kit_dict_tuple | exact kit_dict_dict)
local macro_rules | `(tactic| walk_at "ty") => `(tactic| first | assumption | exact tyx_str | exact tyx_int | exact tyx_bl | exact tyx_non | exact tyx_lst (by walk_at "look") | exact tyx_tup (by walk_at "look") | exact tyx_dK (by walk_at "look"))
local macro_rules | `(tactic| walk_at "s") => `(tactic| first
  | refine And.intro (by assumption) ?_
  | refine ⟨_, rfl, ?_⟩
  | refine ⟨_, _, rfl, rfl, ?_⟩
  | refine ⟨_, _, _, _, rfl, rfl, SqL.of (by walk_at "look"), by rfl, ?_⟩
  | refine ⟨_, _, _, _, rfl, rfl, SqT.of (by walk_at "look"), by rfl, ?_⟩
  | refine ⟨_, _, _, _, rfl, rfl, by walk_at "look", by rfl, ?_⟩
  | refine ⟨_, _, rfl, by walk_at "lenv", ?_⟩
  | refine Or.inl ⟨_, rfl, ?_⟩
  | refine ⟨_, _, _, _, _, rfl, ClsV.ty _, by walk_at "ty", by walk_at "kit", ?_⟩
  | refine And.intro (by walk_at "cond") ?_
  | refine ⟨_, _, rfl, SqT.of (by walk_at "look"), rfl, ?_⟩
  | refine ⟨_, _, rfl, SqL.of (by walk_at "look"), rfl, ?_⟩
  | refine And.intro (Or.inl ⟨rfl, _, SqL.of (by walk_at "look")⟩) ?_
  | refine ⟨_, _, _, rfl, rfl, by walk_at "look", by walk_at "cond", ?_⟩
  | refine ⟨_, _, _, _, rfl, rfl, by walk_at "look", by walk_at "look", by walk_at "cond", ?_⟩
  | refine And.intro ⟨_, rfl⟩ ?_
  | refine And.intro ⟨_, SqL.of (by walk_at "look")⟩ ?_
  | refine ⟨_, _, rfl, SqL.of (by walk_at "look"), ?_⟩
  | refine ⟨_, _, rfl, (by assumption : SqL _ _ _ _), ?_⟩
  | refine ⟨_, by walk_at "look", by walk_at "cond", ?_⟩
  | refine ⟨_, _, rfl, Or.inr (SqT.of (by walk_at "look")), ?_⟩
  | refine ⟨_, _, rfl, Or.inl (SqL.of (by walk_at "look")), ?_⟩
  | refine ⟨_, _, rfl, ?_⟩
  | refine ⟨rfl, rfl, _, _, _, rfl, by walk_at "look", rfl, ?_⟩
  | refine ⟨_, _, true, _, _, rfl, rfl, ClsV.own _, kit_own (by assumption) (by assumption), rfl, by walk_at "look", ?_⟩
  | refine if_t (by first | rfl | decide) ?_
  | refine if_f (by first | decide | exact Bool.false_ne_true) ?_
  | refine fun _ _ => ?_)

theorem ok_l_text (T : Txt K mg A) : FnG P w K mg base CX0 4 A.l_text spText := by
  obtain ⟨fd, F⟩ := T.F_l_text
  refine Fun_okN F sc_l_text (fun vs H Q E h => ?_) (fun _ _ _ _ _ _ us hl => match us, hl with | [_], _ => rfl) (fun cdv A' outer s H vs Q E hr hg h => ?_)
  · obtain ⟨_, _, rfl, _⟩ := h
    rfl
  obtain ⟨a, n, rfl, W, hn, q⟩ := h
  refine ⟨_, ((pss_cons (ps_setLc (own := [(("_law_turn" : PySem.Str), 2)]) (i := 1) rfl sc_l_text.nd rfl rfl (sw_true rfl rfl rfl (by decide +kernel)) (pi_range1 (by rfl) T.n_range (pa_cons (pe_callGd (ok_l_pick T) (hr.mono (by decide)) hg rfl T.m_l_pick T.k_l_pick pass0 (pa_cons (pv 0) (pa_cons (pe_lst (pa_cons pe_int (pa_cons pe_int (pa_cons pe_int (pa_cons pe_int (pa_cons pe_int (pa_cons pe_int (pa_cons pe_int (pa_cons pe_int pa_nil))))))))) pa_nil))) pa_nil)) (blkOk_by (own := [(("_law_turn" : PySem.Str), 2)]) (N := [("_law_well_here" : PySem.Str), ("_law_stems_here" : PySem.Str), ("_law_turn" : PySem.Str), ("_law_text_here" : PySem.Str), ("_law_way" : PySem.Str), ("_law_place" : PySem.Str), ("_law_sign" : PySem.Str)]) (sc := defScope s_l_text) (by decide +kernel)) (fun _ _ _ _ _ => (pg_name (i := 2) sc_l_text.nd rfl (Or.inl rfl))) (fun _ _ _ _ _ => pts_nil) (fun _ _ _ _ _ => (pe_callGd (ok_l_stem T) (hr.mono (by decide)) hg rfl T.m_l_stem T.k_l_stem pass0 (pa_cons (pv 0) pa_nil))))
    (pss_cons (ps_par (i := 3) (j := 4) (by rfl) sc_l_text.nd rfl rfl (by decide) rfl rfl (pa_cons (pe_join pe_str (pv 1)) (pa_cons (pe_callGd (ok_l_dip T) (hr.mono (by decide)) hg rfl T.m_l_dip T.k_l_dip pass0 (pa_cons (pv 0) (pa_cons pe_int pa_nil))) pa_nil)) (by rfl))
    (pss_cons (ps_par (i := 5) (j := 6) (by rfl) sc_l_text.nd rfl rfl (by decide) rfl rfl (pa_cons (pe_callGd (ok_l_dip T) (hr.mono (by decide)) hg rfl T.m_l_dip T.k_l_dip pass0 (pa_cons (pv 0) (pa_cons (pe_op op_add (pe_callB call_len (by rfl) T.n_len (by decide +kernel) (pa_cons (pv 3) pa_nil)) pe_int) pa_nil))) (pa_cons (pe_callGd (ok_l_pick T) (hr.mono (by decide)) hg rfl T.m_l_pick T.k_l_pick pass0 (pa_cons (pv 0) (pa_cons (pe_callGd0 (ok_l_alphabet T) (hr.mono (by decide)) hg rfl T.m_l_alphabet T.k_l_alphabet pass0) pa_nil))) pa_nil)) (by rfl))
    (pss_cons (ps_if (pt_cmpR op_eq (pv 4) pe_int (nomark _)) (pss_one (ps_ret (pe_op op_add_str (pe_op op_add_str (pe_slice sl_str (pv 3) po_none (po_some (pv 5))) (pv 6)) (pe_slice sl_str (pv 3) (po_some (pv 5)) po_none)))) pss_nil)
    (pss_cons (ps_if (pt_cmpR op_eq (pv 4) pe_int (nomark _)) (pss_one (ps_ret (pe_op op_add_str (pe_op op_add_str (pe_slice sl_str (pv 3) po_none (po_some (pv 5))) (pv 6)) (pe_slice sl_str (pv 3) (po_some (pe_op op_add (pv 5) pe_int)) po_none)))) pss_nil)
    (pss_cons (ps_if (pt_cmpR op_eq (pv 4) pe_int (nomark _)) (pss_one (ps_ret (pe_op op_add_str (pe_slice sl_str (pv 3) po_none (po_some (pv 5))) (pe_slice sl_str (pv 3) (po_some (pe_op op_add (pv 5) pe_int)) po_none)))) pss_nil)
    (pss_one (ps_ret (pv 3)))))))))), ?_⟩
  repeat walk_at "s"
  rename_i p hp
  refine Iv.mk ⟨a, _, n, rfl, W.same (Same.new (Same.refl H) hp), by omega, .inl ⟨p, _, rfl, (W.ne hp).1, upd_same, by show 0 < 8; decide, by show 8 ≤ 1000; decide, fun H1 v hv W1 K1 => ?_⟩⟩
  obtain ⟨j, rfl, hj, _⟩ := ints_mem (js := [1, 1, 1, 2, 3, 5, 6, 7]) (m := 7) (by decide) hv
  have K01 : Kp a.w H H1 := (Kp.of_same (Same.new (Same.refl H) hp)).trans K1
  repeat walk_at "s"
  rename_i D hD
  have hDa := W1.ne hD
  obtain ⟨ow1, how1⟩ := W1.at
  refine lc_it walk_range (fun i H' => Iv (WellAt H' a (n + 1 + 20 * i) ∧ Kp a.w H H' ∧ ∃ zs : List Str, H' D = some (.lst (zs.map V.str)) ∧ zs.length ≤ i ∧ ∀ z ∈ zs, z.length ≤ 13 ∧ NoDot z))
    (Iv.mk ⟨W1.new hD, Kp.new K01 hD, [], upd_same, Nat.le_refl _, fun z h => absurd h List.not_mem_nil⟩) (fun _ _ _ _ => trivial) ?_ ?_
  · rintro i x H2 H3 hi hI ⟨rfl, rfl⟩
    obtain ⟨W2, K2, zs, hz, lz, hzs⟩ := hI.out
    have hi7 : i < 7 := by
      have e : ((j : Nat) : Int).toNat = j := Int.toNat_natCast j
      omega
    repeat walk_at "s"
    refine Iv.mk ⟨a, n + 1 + 20 * i, rfl, W2, by omega, fun H4 z h13 hnd W3 K3 => ?_⟩
    have hD4 : H4 D = some (.lst (zs.map V.str)) := K3 D _ hDa.1 hz
    refine ⟨_, hD4, line_lt (by rw [List.length_map]; omega), ?_⟩
    refine Iv.mk ⟨(W3.mono (by omega)).put hDa, (K2.trans K3).put2 (Kp.free K01 ⟨_, how1⟩ hD), zs ++ [z], (by rw [upd_same, List.map_append] <;> rfl), (by rw [List.length_append]; exact Nat.succ_le_succ lz), fun y h => ?_⟩
    rcases List.mem_append.mp h with h | h
    · exact hzs y h
    · rw [List.mem_singleton.mp h]
      exact ⟨h13, hnd⟩
  · intro H2 hI
    obtain ⟨W2, K2, zs, hz, lz, hzs⟩ := hI.out
    have ej : ((j : Nat) : Int).toNat = j := Int.toNat_natCast j
    rw [ej] at W2 lz
    have le1 : ∀ p ∈ zs, p.length ≤ 13 := fun p hp => (hzs p hp).1
    have lj := join_len (y := ("." : Str)) le1
    have ej2 : ("." : Str).length = 1 := by decide +kernel
    rw [ej2] at lj
    have pj : Plain (Txt.join ("." : Str) zs) := fun c hc => by
      rcases join_mem hc with h | ⟨p', hp', h⟩
      · exact (show ∀ c ∈ tl ("." : Str), c < 128 by decide +kernel) c h
      · exact ((hzs p' hp').2 c h).1
    repeat walk_at "s"
    refine ⟨_, _, zs, rfl, rfl, .inl (SqL.of hz), ?_, ?_⟩
    · have := sum_len le1
      rw [ej2]
      omega
    repeat walk_at "s"
    refine Iv.mk ⟨a, _, _, rfl, W2, by omega, by omega, by decide, fun H3 r r0 r1 W3 K3 => ?_⟩
    have lz2 : (Txt.join ("." : Str) zs).length ≤ 98 := by omega
    repeat walk_at "s"
    refine Iv.mk ⟨a, _, _, rfl, W3, by omega, by omega, natAbs_small (n := 1000) (by omega) (by omega) (by decide), fun H4 r2 r3 r4 W4 K4 => ?_⟩
    repeat walk_at "s"
    refine Iv.mk ⟨rfl, ?_⟩
    repeat walk_at "s"
    refine Iv.mk ⟨a, _, _, rfl, W4, by omega, .inr ⟨_, rfl, by decide +kernel, by decide +kernel, fun H5 c hc W5 K5 => ?_⟩⟩
    have pc : Plain ⟨#[c]⟩ := fun d hd => by
      rw [one_tl] at hd
      rw [List.mem_singleton.mp hd]
      exact (show ∀ c ∈ tl alpha, c < 128 by decide +kernel) c hc
    have K5' := ((K2.trans K3).trans K4).trans K5
    have W5' := W5.mono (show n + 1 + 20 * j + 1 + 1 + 1 ≤ n + 200 by omega)
    have c1 : (⟨#[c]⟩ : Str).length = 1 := rfl
    have one : ∀ lo hi, (cutS (Txt.join ("." : Str) zs) lo hi).length ≤ 98 := fun lo hi => cut_len lz2
    have two : ∀ lo hi, (cutS (Txt.join ("." : Str) zs) lo hi).length + (⟨#[c]⟩ : Str).length ≤ sizeLine := fun lo hi => line_le (by have := one lo hi; rw [c1]; omega)
    have three : ∀ lo hi lo' hi', (cutS (Txt.join ("." : Str) zs) lo hi ++ ⟨#[c]⟩).length + (cutS (Txt.join ("." : Str) zs) lo' hi').length ≤ sizeLine := fun lo hi lo' hi' => line_le (by have := one lo hi; have := one lo' hi'; rw [app_len, c1]; omega)
    have four : ∀ lo hi lo' hi', (cutS (Txt.join ("." : Str) zs) lo hi).length + (cutS (Txt.join ("." : Str) zs) lo' hi').length ≤ sizeLine := fun lo hi lo' hi' => line_le (by have := one lo hi; have := one lo' hi'; omega)
    repeat walk_at "s"
    refine if_2 (fun c2 => ?_) (fun c2 => ?_)
    · repeat walk_at "s"
      refine And.intro (two _ _) ?_
      repeat walk_at "s"
      refine And.intro (three _ _ _ _) ?_
      exact q H5 _ (by have h1 := one none (some r2); have h2 := one (some r2) none; rw [app_len, app_len, c1]; omega) (plain_app (plain_app (plain_cut pj) pc) (plain_cut pj)) W5' K5'
    · repeat walk_at "s"
      refine if_2 (fun c3 => ?_) (fun c3 => ?_)
      · repeat walk_at "s"
        refine And.intro (two _ _) ?_
        repeat walk_at "s"
        refine And.intro (three _ _ _ _) ?_
        exact q H5 _ (by have h1 := one none (some r2); have h2 := one (some (r2 + 1)) none; rw [app_len, app_len, c1]; omega) (plain_app (plain_app (plain_cut pj) pc) (plain_cut pj)) W5' K5'
      · repeat walk_at "s"
        refine if_2 (fun c4 => ?_) (fun c4 => ?_)
        · repeat walk_at "s"
          refine And.intro (four _ _ _ _) ?_
          exact q H5 _ (by have h1 := one none (some r2); have h2 := one (some (r2 + 1)) none; rw [app_len]; omega) (plain_app (plain_cut pj) (plain_cut pj)) W5' K5'
        · repeat walk_at "s"
          exact q H5 _ (by omega) pj W5' K5'
end
end K01

namespace K01
open PySem PySem.Spec PyProof.Rows L2 MyL TL
/-- a part of the law that is right: True, the well as it is now, all else as it was -/
def spRight (c : Nat) : Sp := fun vs H Q _ => ∃ (W : Wl) (n : Nat), vs = [.ref W.w] ∧ WellAt H W n ∧ n + c < 1000000 ∧ ∀ H', WellAt H' W (n + c) → Kp W.w H H' → Q (.bl true) H'
theorem dpAll_bls {K : PySem.W.Frag} {H : Hp} : ∀ bs : List Bool, DpAll K H (bs.map V.bl) (bs.map PyData.bool)
  | [] => .nil
  | b :: bs => .cons (.bl b) (dpAll_bls bs)
theorem show_bls : ∀ bs : List Bool, PyData.showableAll (bs.map PyData.bool) = true
  | [] => rfl
  | b :: bs => by simp only [List.map_cons, PyData.showableAll, PyData.showable, show_bls bs, Bool.and_self]
theorem nodict_bls : ∀ bs : List Bool, PyData.hasDictAll (bs.map PyData.bool) = false
  | [] => rfl
  | b :: bs => by simp only [List.map_cons, PyData.hasDictAll, PyData.hasDict, nodict_bls bs, Bool.or_self]
theorem depth_bls : ∀ bs : List Bool, PyData.depthAll (bs.map PyData.bool) = 0
  | [] => rfl
  | b :: bs => by
    simp only [List.map_cons, PyData.depthAll, PyData.depth, depth_bls bs]
    rfl
theorem sh1 (bs : List Bool) : (PyData.tuple (bs.map PyData.bool)).showable = true := by simp only [PyData.showable, show_bls]
theorem sh2 (bs : List Bool) : (PyData.tuple (bs.map PyData.bool)).hasDict = false := by simp only [PyData.hasDict, nodict_bls]
theorem sh3 (bs : List Bool) : (PyData.tuple (bs.map PyData.bool)).depth ≤ 60 := by
  simp only [PyData.depth, depth_bls]
  decide
theorem shown4 : ∀ b1 b2 b3 b4 : Bool, (PyData.shown (.tuple ([b1, b2, b3, b4].map PyData.bool))).length ≤ sizeLine := by decide +kernel
theorem shown5 : (PyData.shown (.tuple ([false, false, false, false, false].map PyData.bool))).length ≤ sizeLine := by decide +kernel
theorem rt_true {A B : PyData} {Q : VK} {H : Hp} (e : A = B) (q : Q (.bl true) H) : Q (.bl (decide (V.str A.shown = V.str B.shown))) H := by
  subst e
  rw [decide_eq_true rfl]
  exact q
section
variable {P : Program} {w : World} {K : PySem.W.Frag} {mg : Str → Option Value} {base : Heap} {A : Adr}
local macro_rules | `(tactic| walk_at "ne") => `(tactic| first
  | assumption
  | exact Ne.symm (by assumption)
  | exact ne_new (by assumption) (by walk_at "look")
  | exact ne_new' (by assumption) (by walk_at "look")
  | exact ne_of (by walk_at "look") (by walk_at "look") (by intro z; cases z))
local macro_rules | `(tactic| walk_at "look") => `(tactic| first
  | assumption
  | exact upd_same
  | (refine upd_new (by assumption) ?_
     walk_at "look")
  | (refine (upd_ne ?_).trans ?_
     · walk_at "ne"
     · walk_at "look")
  | (refine Kp.get (by assumption) ?_ ?_
     · walk_at "ne"
     · walk_at "look")
  | (refine Same.get (by assumption) ?_
     walk_at "look"))
local macro_rules | `(tactic| walk_at "lenv") => `(tactic| first
  | exact Or.inl ⟨_, SqL.of (by walk_at "look"), rfl⟩
  | exact Or.inr ⟨_, SqT.of (by walk_at "look"), rfl⟩
  | exact ⟨line_le (by omega), rfl⟩)
local macro_rules | `(tactic| walk_at "cond") => `(tactic| first
  | assumption
  | rfl
  | exact Nat.zero_le _
  | exact Nat.le_of_ble_eq_true rfl
  | decide
  | omega
  | exact line_lt (by (try simp only [List.length_map, List.length_append, List.length_cons, List.length_nil]); omega)
  | exact line_le (by (try simp only [List.length_map, List.length_append, List.length_cons, List.length_nil]); omega)
  | (dsimp only; omega)
  | exact ⟨by decide, by decide⟩
  | exact ⟨by decide, by decide, by decide⟩
  | exact Or.inl ⟨by decide, by decide⟩
  | exact Or.inl ⟨by omega, by omega⟩
  | exact Or.inr ⟨by omega, by omega⟩)
local macro_rules | `(tactic| walk_at "kit") => `(tactic| first | assumption | exact kit_NoneType_int | exact kit_NoneType_bool | exact kit_NoneType_str | exact kit_NoneType_list | exact kit_NoneType_tuple | exact kit_NoneType_dict | exact kit_bool_int | exact kit_bool_bool | exact kit_bool_str | exact kit_bool_list | exact kit_bool_tuple | exact kit_bool_dict | exact kit_int_int | exact kit_int_bool | exact kit_int_str | exact kit_int_list | exact kit_int_tuple | exact kit_int_dict | exact kit_str_int | exact kit_str_bool | exact kit_str_str | exact kit_str_list | exact kit_str_tuple | exact kit_str_dict | exact kit_list_int | exact kit_list_bool | exact kit_list_str | exact kit_list_list | exact kit_list_tuple | exact kit_list_dict | exact kit_tuple_int | exact kit_tuple_bool | exact kit_tuple_str | exact kit_tuple_list | exact kit_tuple_tuple | exact kit_tuple_dict | exact kit_dict_int | exact kit_dict_bool | exact kit_dict_str | exact kit_dict_list | exact kit_dict_tuple | exact kit_dict_dict)
local macro_rules | `(tactic| walk_at "ty") => `(tactic| first | assumption | exact tyx_str | exact tyx_int | exact tyx_bl | exact tyx_non | exact tyx_lst (by walk_at "look") | exact tyx_tup (by walk_at "look") | exact tyx_dK (by walk_at "look"))
local macro_rules | `(tactic| walk_at "s") => `(tactic| first
  | refine And.intro (by assumption) ?_
  | refine ⟨_, rfl, ?_⟩
  | refine ⟨_, _, rfl, rfl, ?_⟩
  | refine ⟨_, _, _, _, rfl, rfl, SqL.of (by walk_at "look"), by rfl, ?_⟩
  | refine ⟨_, _, _, _, rfl, rfl, SqT.of (by walk_at "look"), by rfl, ?_⟩
  | refine ⟨_, _, _, _, rfl, rfl, by walk_at "look", by rfl, ?_⟩
  | refine ⟨_, _, rfl, by walk_at "lenv", ?_⟩
  | refine Or.inl ⟨_, rfl, ?_⟩
  | refine ⟨_, _, _, _, _, rfl, ClsV.ty _, by walk_at "ty", by walk_at "kit", ?_⟩
  | refine And.intro (by walk_at "cond") ?_
  | refine ⟨_, _, rfl, SqT.of (by walk_at "look"), rfl, ?_⟩
  | refine ⟨_, _, rfl, SqL.of (by walk_at "look"), rfl, ?_⟩
  | refine And.intro (Or.inl ⟨rfl, _, SqL.of (by walk_at "look")⟩) ?_
  | refine ⟨_, _, _, rfl, rfl, by walk_at "look", by walk_at "cond", ?_⟩
  | refine ⟨_, _, _, _, rfl, rfl, by walk_at "look", by walk_at "look", by walk_at "cond", ?_⟩
  | refine And.intro ⟨_, rfl⟩ ?_
  | refine And.intro ⟨_, SqL.of (by walk_at "look")⟩ ?_
  | refine ⟨_, _, rfl, SqL.of (by walk_at "look"), ?_⟩
  | refine ⟨_, _, rfl, (by assumption : SqL _ _ _ _), ?_⟩
  | refine ⟨_, by walk_at "look", by walk_at "cond", ?_⟩
  | refine ⟨_, _, rfl, Or.inr (SqT.of (by walk_at "look")), ?_⟩
  | refine ⟨_, _, rfl, Or.inl (SqL.of (by walk_at "look")), ?_⟩
  | refine ⟨_, _, rfl, ?_⟩
  | refine ⟨rfl, rfl, _, _, _, rfl, by walk_at "look", rfl, ?_⟩
  | refine ⟨_, _, true, _, _, rfl, rfl, ClsV.own _, kit_own (by assumption) (by assumption), rfl, by walk_at "look", ?_⟩
  | refine if_t (by first | rfl | decide) ?_
  | refine if_f (by first | decide | exact Bool.false_ne_true) ?_
  | refine fun _ _ => ?_)

theorem ok_l_text_right (T : Txt K mg A) : FnG P w K mg base CX0 5 A.l_text_right (spRight 200) := by
  obtain ⟨fd, F⟩ := T.F_l_text_right
  refine Fun_okN F sc_l_text_right (fun vs H Q E h => ?_) (fun _ _ _ _ _ _ us hl => match us, hl with | [_], _ => rfl) (fun cdv A' outer s H vs Q E hr hg h => ?_)
  · obtain ⟨_, _, rfl, _⟩ := h
    rfl
  obtain ⟨a, n, rfl, W, hn, q⟩ := h
  refine ⟨_, ((pss_cons (ps_set (i := 1) sc_l_text_right.nd rfl (Or.inl rfl) (pe_callGd (ok_l_text T) (hr.mono (by decide)) hg rfl T.m_l_text T.k_l_text pass0 (pa_cons (pv 0) pa_nil)))
    (pss_cons (ps_set (i := 2) sc_l_text_right.nd rfl (Or.inl rfl) (pe_callGd (ok_l_stems T) (hr.mono (by decide)) hg rfl T.m_l_stems T.k_l_stems pass0 (pa_cons (pv 1) pa_nil)))
    (pss_cons (ps_set (i := 3) sc_l_text_right.nd rfl (Or.inl rfl) (pe_and (pe_cmpR op_le (pe_callB call_len (by rfl) T.n_len (by decide +kernel) (pa_cons (pv 2) pa_nil)) pe_int (nomark _)) (pe_one (pe_cmpR (op_eqD hr.units) (pe_lc (own := [(("_law_stem_here" : PySem.Str), 4)]) rfl sc_l_text_right.nd (pi_list (pv 2)) (blkOk_by (own := [(("_law_stem_here" : PySem.Str), 4)]) (N := [("_law_well_here" : PySem.Str), ("_law_text_here" : PySem.Str), ("_law_stems_here" : PySem.Str), ("_law_due" : PySem.Str), ("_law_stem_here" : PySem.Str), ("_law_told" : PySem.Str)]) (sc := defScope s_l_text_right) (by decide +kernel)) (fun _ _ _ _ _ => (pg_name (i := 4) sc_l_text_right.nd rfl (Or.inl rfl))) (fun _ _ _ _ _ => (pts_one (pt_not (pt_val (pe_callGd (ok_l_sound T) (hr.mono (by decide)) hg rfl T.m_l_sound T.k_l_sound pass0 (pa_cons (pv 4) pa_nil)))))) (fun _ _ _ _ _ => (pv 4))) (pe_lst pa_nil) (nomark _)))))
    (pss_cons (ps_set (i := 5) sc_l_text_right.nd rfl (Or.inl rfl) (pe_tup (pa_cons (pe_callGd (ok_is_stem T) (hr.mono (by decide)) hg rfl T.m_is_stem T.k_is_stem pass0 (pa_cons (pv 1) pa_nil)) (pa_cons (pe_callGd (ok_is_name T) (hr.mono (by decide)) hg rfl T.m_is_name T.k_is_name pass0 (pa_cons (pv 1) pa_nil)) (pa_cons (pe_callGd (ok_is_integer T) (hr.mono (by decide)) hg rfl T.m_is_integer T.k_is_integer pass0 (pa_cons (pv 1) pa_nil)) (pa_cons (pe_callGd (ok_is_within T) (hr.mono (by decide)) hg rfl T.m_is_within T.k_is_within pass0 (pa_cons (pv 1) (pa_cons pe_non (pa_cons pe_non pa_nil)))) pa_nil))))))
    (pss_one (ps_ret (pe_cmpR op_eq (pe_callB (call_repr_data hg hr.units) (by rfl) T.n_repr (by decide +kernel) (pa_cons (pv 5) pa_nil)) (pe_callB (call_repr_data hg hr.units) (by rfl) T.n_repr (by decide +kernel) (pa_cons (pe_tup (pa_cons (pe_callGd (ok_l_sound T) (hr.mono (by decide)) hg rfl T.m_l_sound T.k_l_sound pass0 (pa_cons (pv 1) pa_nil)) (pa_cons (pv 3) (pa_cons pe_bl (pa_cons pe_bl pa_nil))))) pa_nil)) (nomark _))))))))), ?_⟩
  repeat walk_at "s"
  refine Iv.mk ⟨a, n, rfl, W, hn, fun H1 z hz pz W1 K1 => ?_⟩
  repeat walk_at "s"
  refine Iv.mk ⟨z, rfl, by omega, fun H2 p S2 hp2 hp => ?_⟩
  repeat walk_at "s"
  have hsm : ∀ s ∈ Txt.split z dot, s.length ≤ 200 ∧ Plain s := fun s hs => by
    obtain ⟨h1, h2⟩ := split_dot_mem (z := z) (y := dot) rfl s hs
    exact ⟨by omega, fun c hc => pz c (h2 c hc)⟩
  refine and_two (fun v H' => ∃ due : Bool, v = .bl due ∧ (due = true ↔ NameP z) ∧ Same H1 H') ?_ ?_ ?_
  · rintro v H3 ⟨due, rfl, hdue, S3⟩
    have S13 : Same H1 H3 := S3
    repeat walk_at "s"
    refine Iv.mk ⟨.str z, rfl, .inr ⟨z, rfl, by omega, fun b1 H4 S4 hb1 => ?_⟩⟩
    repeat walk_at "s"
    refine Iv.mk ⟨.str z, rfl, .inr ⟨z, rfl, by omega, fun b2 H5 S5 hb2 => ?_⟩⟩
    repeat walk_at "s"
    refine Iv.mk ⟨.str z, _, _, _, rfl, tyx_str, kit_str_int, kit_str_bool, ?_⟩
    repeat walk_at "s"
    refine Iv.mk ⟨.str z, .non, .non, rfl, .inl ⟨_, _, _, tyx_str, kit_str_int, kit_str_bool, rfl, ?_⟩⟩
    repeat walk_at "s"
    rename_i t1 ht1
    refine ⟨_, .tuple ([b1, b2, false, false].map PyData.bool), rfl, .tup (SqT.of upd_same) (dpAll_bls [b1, b2, false, false]), sh1 _, sh2 _, sh3 _, shown4 _ _ _ _, ?_⟩
    repeat walk_at "s"
    refine Iv.mk ⟨z, rfl, by omega, fun b3 H6 S6 hb3 => ?_⟩
    repeat walk_at "s"
    rename_i t2 ht2
    refine ⟨_, .tuple ([b3, due, false, false].map PyData.bool), rfl, .tup (SqT.of upd_same) (dpAll_bls [b3, due, false, false]), sh1 _, sh2 _, sh3 _, shown4 _ _ _ _, ?_⟩
    have e1 : b1 = b3 := Bool.eq_iff_iff.mpr (hb1.trans hb3.symm)
    have e2 : b2 = due := Bool.eq_iff_iff.mpr (hb2.trans hdue.symm)
    subst e1 e2
    repeat walk_at "s"
    have Sf : Same H1 H6 := S13.trans (S4.trans (S5.trans ((Same.new (Same.refl H5) ht1).trans S6)))
    exact rt_true (Q := Q) rfl (q _ (W1.same (Same.new Sf ht2)) (K1.trans (Kp.of_same (Same.new Sf ht2))))
  · intro c1 fin
    have l6 : (Txt.split z dot).length ≤ 6 := by
      have := of_decide_eq_true c1
      rw [List.length_map] at this
      omega
    repeat walk_at "s"
    rename_i D hD
    refine lc_it (walk_list (xs := (Txt.split z dot).map V.str)) (fun i H' => Iv (Same H2 H' ∧ ∃ zs : List Str, H' D = some (.lst (zs.map V.str)) ∧ zs.length ≤ i ∧ (∀ y ∈ zs, y ∈ Txt.split z dot) ∧ (zs = [] ↔ ∀ s ∈ (Txt.split z dot).take i, StemP s)))
      (Iv.mk ⟨Same.new (Same.refl H2) hD, [], upd_same, Nat.le_refl _, (fun y h => absurd h List.not_mem_nil), ⟨fun _ s h => absurd h List.not_mem_nil, fun _ => rfl⟩⟩) (fun i H' _ h => SqL.of (h.out.1 _ _ hp)) ?_ ?_
    · rintro i x H3 H4 hi hI ⟨rfl, hx⟩
      obtain ⟨s, hs, rfl⟩ := map_at hx
      obtain ⟨S3, zs, hz3, lz, mz, ez⟩ := hI.out
      have hsi := List.mem_of_getElem? hs
      have e3 := take_one hs
      repeat walk_at "s"
      refine Iv.mk ⟨s, rfl, by have := (hsm s hsi).1; omega, fun b H5 S5 hb => ?_⟩
      repeat walk_at "s"
      refine if_2 (fun c2 => ?_) (fun c2 => ?_)
      · have nb : ¬ StemP s := fun e => by
          rw [hb.mpr e] at c2
          exact nomatch c2
        repeat walk_at "s"
        refine ⟨_, S5 _ _ hz3, line_lt (by rw [List.length_map]; rw [List.length_map] at hi; omega), ?_⟩
        refine Iv.mk ⟨Same.put (S3.trans S5) hD, zs ++ [s], (by rw [upd_same, List.map_append] <;> rfl), (by rw [List.length_append]; exact Nat.succ_le_succ lz), fun y h => ?_, ⟨fun e => ?_, fun e => ?_⟩⟩
        · rcases List.mem_append.mp h with h | h
          · exact mz y h
          · rw [List.mem_singleton.mp h]
            exact hsi
        · simp at e
        · rw [e3] at e
          exact absurd (e s (List.mem_append_right _ (List.mem_singleton.mpr rfl))) nb
      · have yb : StemP s := hb.mp (by simpa using c2)
        refine Iv.mk ⟨S3.trans S5, zs, S5 _ _ hz3, Nat.le_succ_of_le lz, mz, ?_⟩
        rw [ez, e3]
        exact ⟨fun e y hy => (List.mem_append.mp hy).elim (e y) fun h => by rw [List.mem_singleton.mp h]; exact yb, fun e y hy => e y (List.mem_append_left _ hy)⟩
    · intro H3 hI
      obtain ⟨S3, zs, hz3, lz, mz, ez⟩ := hI.out
      repeat walk_at "s"
      rename_i r hr2
      refine ⟨.list (zs.map PyData.str), .list [], .lst (SqL.of (by walk_at "look")) (dpAll_strs zs), .lst (SqL.of upd_same) .nil, shaped_strs zs (fun y hy => strOk_of ((hsm y (mz y hy)).2)), shaped_nil, ?_⟩
      refine fin _ _ ⟨_, rfl, ?_, Same.new (S2.trans S3) hr2⟩
      rw [List.length_map, List.take_length] at ez
      rw [eqv_nil]
      cases zs with
      | nil => exact ⟨fun _ => ⟨l6, ez.mp rfl⟩, fun _ => rfl⟩
      | cons y ys => exact ⟨(fun e => nomatch e), fun e => nomatch ez.mpr e.2⟩
  · intro c1
    refine ⟨false, rfl, ⟨(fun e => nomatch e), fun e => ?_⟩, S2⟩
    have := of_decide_eq_false c1
    rw [List.length_map] at this
    have := e.1
    omega
theorem bnd_of {x : Int} {v : V} (h : v ∈ [V.non, V.int x, V.int (x + 1), V.int (x - 1), V.int (-5), V.int 0] ∨ v ∈ [V.non, V.int x, V.int (x - 1), V.int (x + 1), V.int 0, V.int 9]) : bnd v := by
  simp only [List.mem_cons, List.not_mem_nil, or_false] at h
  rcases h with (rfl | rfl | rfl | rfl | rfl | rfl) | (rfl | rfl | rfl | rfl | rfl | rfl) <;> exact True.intro
theorem ok_l_number_right (T : Txt K mg A) : FnG P w K mg base CX0 3 A.l_number_right (spRight 5) := by
  obtain ⟨fd, F⟩ := T.F_l_number_right
  refine Fun_okN F sc_l_number_right (fun vs H Q E h => ?_) (fun _ _ _ _ _ _ us hl => match us, hl with | [_], _ => rfl) (fun cdv A' outer s H vs Q E hr hg h => ?_)
  · obtain ⟨_, _, rfl, _⟩ := h
    rfl
  obtain ⟨a, n, rfl, W, hn, q⟩ := h
  refine ⟨_, ((pss_cons (ps_set (i := 1) sc_l_number_right.nd rfl (Or.inl rfl) (pe_op op_mul (pe_callGd (ok_l_pick T) (hr.mono (by decide)) hg rfl T.m_l_pick T.k_l_pick pass0 (pa_cons (pv 0) (pa_cons (pe_lst (pa_cons (pe_un un_neg pe_int) (pa_cons pe_int pa_nil))) pa_nil))) (pe_callGd (ok_l_dip T) (hr.mono (by decide)) hg rfl T.m_l_dip T.k_l_dip pass0 (pa_cons (pv 0) (pa_cons (pe_callGd (ok_l_pick T) (hr.mono (by decide)) hg rfl T.m_l_pick T.k_l_pick pass0 (pa_cons (pv 0) (pa_cons (pe_lst (pa_cons pe_int (pa_cons pe_int (pa_cons pe_int (pa_cons (pe_op op_pow pe_int pe_int) pa_nil))))) pa_nil))) pa_nil)))))
    (pss_cons (ps_set (i := 2) sc_l_number_right.nd rfl (Or.inl rfl) (pe_callGd (ok_l_pick T) (hr.mono (by decide)) hg rfl T.m_l_pick T.k_l_pick pass0 (pa_cons (pv 0) (pa_cons (pe_lst (pa_cons pe_non (pa_cons (pv 1) (pa_cons (pe_op op_add (pv 1) pe_int) (pa_cons (pe_op op_sub (pv 1) pe_int) (pa_cons (pe_un un_neg pe_int) (pa_cons pe_int pa_nil))))))) pa_nil))))
    (pss_cons (ps_set (i := 3) sc_l_number_right.nd rfl (Or.inl rfl) (pe_callGd (ok_l_pick T) (hr.mono (by decide)) hg rfl T.m_l_pick T.k_l_pick pass0 (pa_cons (pv 0) (pa_cons (pe_lst (pa_cons pe_non (pa_cons (pv 1) (pa_cons (pe_op op_sub (pv 1) pe_int) (pa_cons (pe_op op_add (pv 1) pe_int) (pa_cons pe_int (pa_cons pe_int pa_nil))))))) pa_nil))))
    (pss_cons (ps_set (i := 4) sc_l_number_right.nd rfl (Or.inl rfl) (pe_and (pe_or (pe_cmpR op_isN (pv 2) pe_non (nomark _)) (pe_one (pe_cmpR op_le (pv 2) (pv 1) (nomark _)))) (pe_one (pe_or (pe_cmpR op_isN (pv 3) pe_non (nomark _)) (pe_one (pe_cmpR op_le (pv 1) (pv 3) (nomark _)))))))
    (pss_cons (ps_set (i := 5) sc_l_number_right.nd rfl (Or.inl rfl) (pe_tup (pa_cons (pe_callGd (ok_is_integer T) (hr.mono (by decide)) hg rfl T.m_is_integer T.k_is_integer pass0 (pa_cons (pv 1) pa_nil)) (pa_cons (pe_callGd (ok_is_within T) (hr.mono (by decide)) hg rfl T.m_is_within T.k_is_within pass0 (pa_cons (pv 1) (pa_cons (pv 2) (pa_cons (pv 3) pa_nil)))) (pa_cons (pe_callGd (ok_is_stem T) (hr.mono (by decide)) hg rfl T.m_is_stem T.k_is_stem pass0 (pa_cons (pv 1) pa_nil)) (pa_cons (pe_callGd (ok_is_name T) (hr.mono (by decide)) hg rfl T.m_is_name T.k_is_name pass0 (pa_cons (pv 1) pa_nil)) pa_nil))))))
    (pss_one (ps_ret (pe_cmpR op_eq (pe_callB (call_repr_data hg hr.units) (by rfl) T.n_repr (by decide +kernel) (pa_cons (pv 5) pa_nil)) (pe_callB (call_repr_data hg hr.units) (by rfl) T.n_repr (by decide +kernel) (pa_cons (pe_tup (pa_cons pe_bl (pa_cons (pv 4) (pa_cons pe_bl (pa_cons pe_bl pa_nil))))) pa_nil)) (nomark _)))))))))), ?_⟩
  repeat walk_at "s"
  rename_i p hp
  refine Iv.mk ⟨a, _, n, rfl, W.new hp, by omega, .inl ⟨p, _, rfl, (W.ne hp).1, upd_same, by show 0 < 2; decide, by show 2 ≤ 1000; decide, fun H1 v hv W1 K1 => ?_⟩⟩
  obtain ⟨s1, rfl, hs1⟩ : ∃ s : Int, v = .int s ∧ (-1 ≤ s ∧ s ≤ 1) := by
    simp only [List.mem_cons, List.not_mem_nil, or_false] at hv
    rcases hv with rfl | rfl
    · exact ⟨_, rfl, by decide⟩
    · exact ⟨_, rfl, by decide⟩
  have K1' := (Kp.of_same (Same.new (Same.refl H) hp) : Kp a.w H _).trans K1
  repeat walk_at "s"
  rename_i p2 hp2
  refine Iv.mk ⟨a, _, _, rfl, W1.new hp2, by omega, .inl ⟨p2, _, rfl, (W1.ne hp2).1, upd_same, by show 0 < 4; decide, by show 4 ≤ 1000; decide, fun H2 v hv W2 K2 => ?_⟩⟩
  obtain ⟨m, rfl, hm⟩ : ∃ m : Int, v = .int m ∧ (0 < m ∧ m.natAbs < 2 ^ 300) := by
    simp only [List.mem_cons, List.not_mem_nil, or_false] at hv
    rcases hv with rfl | rfl | rfl | rfl
    · exact ⟨_, rfl, by decide, by decide +kernel⟩
    · exact ⟨_, rfl, by decide, by decide +kernel⟩
    · exact ⟨_, rfl, by decide, by decide +kernel⟩
    · exact ⟨_, rfl, by decide +kernel, by decide +kernel⟩
  have K2' := (K1'.trans (Kp.of_same (Same.new (Same.refl H1) hp2) : Kp a.w H1 _)).trans K2
  repeat walk_at "s"
  refine Iv.mk ⟨a, m, _, rfl, W2, by omega, hm.1, hm.2, fun H3 r r0 r1 W3 K3 => ?_⟩
  have K3' := K2'.trans K3
  have hmul : CMul s1 r := .inl ⟨by omega, by omega⟩
  repeat walk_at "s"
  rename_i p3 hp3
  refine Iv.mk ⟨a, _, _, rfl, W3.new hp3, by omega, .inl ⟨p3, _, rfl, (W3.ne hp3).1, upd_same, by show 0 < 6; decide, by show 6 ≤ 1000; decide, fun H4 l hl W4 K4 => ?_⟩⟩
  have K4' := (K3'.trans (Kp.of_same (Same.new (Same.refl H3) hp3) : Kp a.w H3 _)).trans K4
  replace hl := bnd_of (x := s1 * r) (.inl hl)
  repeat walk_at "s"
  rename_i p4 hp4
  refine Iv.mk ⟨a, _, _, rfl, W4.new hp4, by omega, .inl ⟨p4, _, rfl, (W4.ne hp4).1, upd_same, by show 0 < 6; decide, by show 6 ≤ 1000; decide, fun H5 m2 hm2 W5 K5 => ?_⟩⟩
  have K5' := (K4'.trans (Kp.of_same (Same.new (Same.refl H4) hp4) : Kp a.w H4 _)).trans K5
  replace hm2 := bnd_of (x := s1 * r) (.inr hm2)
  rcases bnd_cases hl with rfl | ⟨j, rfl⟩
  all_goals rcases bnd_cases hm2 with rfl | ⟨k, rfl⟩
  all_goals
    repeat walk_at "s"
    try (refine if_2 (fun c => ?_) (fun c => ?_))
    all_goals
      repeat walk_at "s"
      refine Iv.mk ⟨.int (s1 * r), _, _, _, rfl, tyx_int, kit_int_int, kit_int_bool, ?_⟩
      repeat walk_at "s"
      refine Iv.mk ⟨.int (s1 * r), _, _, rfl, .inr ⟨s1 * r, rfl, True.intro, True.intro, ?_⟩⟩
      repeat walk_at "s"
      refine Iv.mk ⟨.int (s1 * r), rfl, .inl ⟨⟨_, tyx_int, kit_int_str⟩, ?_⟩⟩
      repeat walk_at "s"
      refine Iv.mk ⟨.int (s1 * r), rfl, .inl ⟨⟨_, tyx_int, kit_int_str⟩, ?_⟩⟩
      repeat walk_at "s"
      rename_i t1 ht1
      refine ⟨_, .tuple ([true, _, false, false].map PyData.bool), rfl, .tup (SqT.of upd_same) (dpAll_bls [true, _, false, false]), sh1 _, sh2 _, sh3 _, shown4 _ _ _ _, ?_⟩
      repeat walk_at "s"
      rename_i t2 ht2
      refine ⟨_, .tuple ([true, _, false, false].map PyData.bool), rfl, .tup (SqT.of upd_same) (dpAll_bls [true, _, false, false]), sh1 _, sh2 _, sh3 _, shown4 _ _ _ _, ?_⟩
      repeat walk_at "s"
      refine rt_true (Q := Q) ?_ (q _ ((W5.mono (by omega)).same (Same.new (Same.new (Same.refl H5) ht1) ht2)) (K5'.trans (Kp.of_same (Same.new (Same.new (Same.refl H5) ht1) ht2))))
      first
        | rfl
        | (have c' := of_decide_eq_true c
           simp only [lowOk, highOk, c, decide_eq_true c', Bool.true_and, Bool.and_true])
        | (simp only [lowOk, highOk, c, Bool.true_and, Bool.and_true, Bool.false_and])
end
end K01

namespace K01
open PySem PySem.Spec PyProof.Rows L2 MyL TL
/-- a value of another kind -/
def OddV (K : PySem.W.Frag) (H : Hp) (v : V) : Prop := (∃ (t : Value) (b1 b2 : Bool), TyX K H v t ∧ PySem.W.kitOne K t (.type "int") = some b1 ∧ PySem.W.kitOne K t (.type "bool") = some b2 ∧ (b1 && !b2) = false) ∧ (NoStr K H v ∨ v = .str (Str.ofString ""))
theorem odd_lst {K : PySem.W.Frag} {H : Hp} {a : Addr} {xs : List V} (h : H a = some (.lst xs)) : OddV K H (.ref a) := ⟨⟨_, _, _, tyx_lst h, kit_list_int, kit_list_bool, rfl⟩, .inl ⟨_, tyx_lst h, kit_list_str⟩⟩
theorem odd_tup {K : PySem.W.Frag} {H : Hp} {a : Addr} {xs : List V} (h : H a = some (.tup xs)) : OddV K H (.ref a) := ⟨⟨_, _, _, tyx_tup h, kit_tuple_int, kit_tuple_bool, rfl⟩, .inl ⟨_, tyx_tup h, kit_tuple_str⟩⟩
theorem odd_dK {K : PySem.W.Frag} {H : Hp} {a : Addr} {xs : List (Key × V)} (h : H a = some (.dK xs)) : OddV K H (.ref a) := ⟨⟨_, _, _, tyx_dK h, kit_dict_int, kit_dict_bool, rfl⟩, .inl ⟨_, tyx_dK h, kit_dict_str⟩⟩
theorem no_stem : ¬ StemP (Str.ofString "") := fun h => absurd h.1 (by decide +kernel)
theorem no_name : ¬ NameP (Str.ofString "") := fun h => by
  have e := split_dot (Str.ofString "")
  have e0 : tl (Str.ofString "") = [] := by decide +kernel
  rw [e0, spl_nil] at e
  cases hs : Txt.split (Str.ofString "") dot with
  | nil => rw [hs] at e; cases e
  | cons s r =>
    rw [hs] at e
    have e1 : tl s = [] := by
      have := (List.cons.inj e).1
      exact this
    have := (h.2 s (by rw [hs]; exact List.mem_cons_self)).1
    rw [len_tl, e1] at this
    exact absurd this (by decide)
section
variable {P : Program} {w : World} {K : PySem.W.Frag} {mg : Str → Option Value} {base : Heap} {A : Adr}
local macro_rules | `(tactic| walk_at "ne") => `(tactic| first
  | assumption
  | exact Ne.symm (by assumption)
  | exact ne_new (by assumption) (by walk_at "look")
  | exact ne_new' (by assumption) (by walk_at "look")
  | exact ne_of (by walk_at "look") (by walk_at "look") (by intro z; cases z))
local macro_rules | `(tactic| walk_at "look") => `(tactic| first
  | assumption
  | exact upd_same
  | (refine upd_new (by assumption) ?_
     walk_at "look")
  | (refine (upd_ne ?_).trans ?_
     · walk_at "ne"
     · walk_at "look")
  | (refine Kp.get (by assumption) ?_ ?_
     · walk_at "ne"
     · walk_at "look")
  | (refine Same.get (by assumption) ?_
     walk_at "look"))
local macro_rules | `(tactic| walk_at "lenv") => `(tactic| first
  | exact Or.inl ⟨_, SqL.of (by walk_at "look"), rfl⟩
  | exact Or.inr ⟨_, SqT.of (by walk_at "look"), rfl⟩
  | exact ⟨line_le (by omega), rfl⟩)
local macro_rules | `(tactic| walk_at "cond") => `(tactic| first
  | assumption
  | rfl
  | exact Nat.zero_le _
  | exact Nat.le_of_ble_eq_true rfl
  | decide
  | omega
  | exact line_lt (by (try simp only [List.length_map, List.length_append, List.length_cons, List.length_nil]); omega)
  | exact line_le (by (try simp only [List.length_map, List.length_append, List.length_cons, List.length_nil]); omega)
  | (dsimp only; omega)
  | exact ⟨by decide, by decide⟩
  | exact ⟨by decide, by decide, by decide⟩
  | exact Or.inl ⟨by decide, by decide⟩
  | exact Or.inl ⟨by omega, by omega⟩
  | exact Or.inr ⟨by omega, by omega⟩)
local macro_rules | `(tactic| walk_at "kit") => `(tactic| first | assumption | exact kit_NoneType_int | exact kit_NoneType_bool | exact kit_NoneType_str | exact kit_NoneType_list | exact kit_NoneType_tuple | exact kit_NoneType_dict | exact kit_bool_int | exact kit_bool_bool | exact kit_bool_str | exact kit_bool_list | exact kit_bool_tuple | exact kit_bool_dict | exact kit_int_int | exact kit_int_bool | exact kit_int_str | exact kit_int_list | exact kit_int_tuple | exact kit_int_dict | exact kit_str_int | exact kit_str_bool | exact kit_str_str | exact kit_str_list | exact kit_str_tuple | exact kit_str_dict | exact kit_list_int | exact kit_list_bool | exact kit_list_str | exact kit_list_list | exact kit_list_tuple | exact kit_list_dict | exact kit_tuple_int | exact kit_tuple_bool | exact kit_tuple_str | exact kit_tuple_list | exact kit_tuple_tuple | exact kit_tuple_dict | exact kit_dict_int | exact kit_dict_bool | exact kit_dict_str | exact kit_dict_list | exact kit_dict_tuple | exact kit_dict_dict)
local macro_rules | `(tactic| walk_at "ty") => `(tactic| first | assumption | exact tyx_str | exact tyx_int | exact tyx_bl | exact tyx_non | exact tyx_lst (by walk_at "look") | exact tyx_tup (by walk_at "look") | exact tyx_dK (by walk_at "look"))
local macro_rules | `(tactic| walk_at "s") => `(tactic| first
  | refine ⟨_, rfl, ?_⟩
  | refine ⟨_, _, rfl, rfl, ?_⟩
  | refine ⟨_, _, _, _, rfl, rfl, SqL.of (by walk_at "look"), by rfl, ?_⟩
  | refine ⟨_, _, _, _, rfl, rfl, SqT.of (by walk_at "look"), by rfl, ?_⟩
  | refine ⟨_, _, _, _, rfl, rfl, by walk_at "look", by rfl, ?_⟩
  | refine ⟨_, _, rfl, by walk_at "lenv", ?_⟩
  | refine Or.inl ⟨_, rfl, ?_⟩
  | refine ⟨_, _, _, _, _, rfl, ClsV.ty _, by walk_at "ty", by walk_at "kit", ?_⟩
  | refine And.intro (by walk_at "cond") ?_
  | refine ⟨_, _, rfl, SqT.of (by walk_at "look"), rfl, ?_⟩
  | refine ⟨_, _, rfl, SqL.of (by walk_at "look"), rfl, ?_⟩
  | refine And.intro (Or.inl ⟨rfl, _, SqL.of (by walk_at "look")⟩) ?_
  | refine ⟨_, _, _, rfl, rfl, by walk_at "look", by walk_at "cond", ?_⟩
  | refine ⟨_, _, _, _, rfl, rfl, by walk_at "look", by walk_at "look", by walk_at "cond", ?_⟩
  | refine And.intro ⟨_, rfl⟩ ?_
  | refine And.intro ⟨_, SqL.of (by walk_at "look")⟩ ?_
  | refine ⟨_, _, rfl, SqL.of (by walk_at "look"), ?_⟩
  | refine ⟨_, _, rfl, (by assumption : SqL _ _ _ _), ?_⟩
  | refine ⟨_, by walk_at "look", by walk_at "cond", ?_⟩
  | refine ⟨_, _, rfl, Or.inr (SqT.of (by walk_at "look")), ?_⟩
  | refine ⟨_, _, rfl, Or.inl (SqL.of (by walk_at "look")), ?_⟩
  | refine ⟨_, _, rfl, ?_⟩
  | refine if_t (by first | rfl | decide) ?_
  | refine if_f (by first | decide | exact Bool.false_ne_true) ?_
  | refine fun _ _ => ?_)

theorem ok_l_odd_right (T : Txt K mg A) : FnG P w K mg base CX0 3 A.l_odd_right (spRight 1) := by
  obtain ⟨fd, F⟩ := T.F_l_odd_right
  refine Fun_okN F sc_l_odd_right (fun vs H Q E h => ?_) (fun _ _ _ _ _ _ us hl => match us, hl with | [_], _ => rfl) (fun cdv A' outer s H vs Q E hr hg h => ?_)
  · obtain ⟨_, _, rfl, _⟩ := h
    rfl
  obtain ⟨a, n, rfl, W, hn, q⟩ := h
  refine ⟨_, ((pss_cons (ps_set (i := 1) sc_l_odd_right.nd rfl (Or.inl rfl) (pe_callGd (ok_l_pick T) (hr.mono (by decide)) hg rfl T.m_l_pick T.k_l_pick pass0 (pa_cons (pv 0) (pa_cons (pe_lst (pa_cons pe_non (pa_cons pe_bl (pa_cons pe_bl (pa_cons (pe_lst pa_nil) (pa_cons (pe_lst (pa_cons pe_str pa_nil)) (pa_cons (pe_tup pa_nil) (pa_cons (pe_tup (pa_cons pe_str pa_nil)) (pa_cons (pe_tup (pa_cons pe_int pa_nil)) (pa_cons pe_dnewK (pa_cons (pe_disp (pps_cons pe_str pe_int pps_nil) (by rfl) (by rfl) (fun z => by cases z) (by decide)) (pa_cons (pe_lst (pa_cons pe_int pa_nil)) (pa_cons pe_str pa_nil))))))))))))) pa_nil))))
    (pss_cons (ps_set (i := 2) sc_l_odd_right.nd rfl (Or.inl rfl) (pe_tup (pa_cons (pe_callGd (ok_is_integer T) (hr.mono (by decide)) hg rfl T.m_is_integer T.k_is_integer pass0 (pa_cons (pv 1) pa_nil)) (pa_cons (pe_callGd (ok_is_within T) (hr.mono (by decide)) hg rfl T.m_is_within T.k_is_within pass0 (pa_cons (pv 1) (pa_cons pe_int (pa_cons pe_int pa_nil)))) (pa_cons (pe_callGd (ok_is_within T) (hr.mono (by decide)) hg rfl T.m_is_within T.k_is_within pass0 (pa_cons (pv 1) (pa_cons pe_non (pa_cons pe_non pa_nil)))) (pa_cons (pe_callGd (ok_is_stem T) (hr.mono (by decide)) hg rfl T.m_is_stem T.k_is_stem pass0 (pa_cons (pv 1) pa_nil)) (pa_cons (pe_callGd (ok_is_name T) (hr.mono (by decide)) hg rfl T.m_is_name T.k_is_name pass0 (pa_cons (pv 1) pa_nil)) pa_nil)))))))
    (pss_one (ps_ret (pe_cmpR op_eq (pe_callB (call_repr_data hg hr.units) (by rfl) T.n_repr (by decide +kernel) (pa_cons (pv 2) pa_nil)) (pe_callB (call_repr_data hg hr.units) (by rfl) T.n_repr (by decide +kernel) (pa_cons (pe_tup (pa_cons pe_bl (pa_cons pe_bl (pa_cons pe_bl (pa_cons pe_bl (pa_cons pe_bl pa_nil)))))) pa_nil)) (nomark _))))))), ?_⟩
  obtain ⟨ow, how⟩ := W.at
  repeat walk_at "s"
  rename_i p1 h1 p2 h2 p3 h3 p4 h4 p5 h5 p6 h6 p7 h7
  refine ⟨by walk_at "look", [(Sum.inr (Str.ofString "a"), .int 1)], rfl, by show 1 ≤ 15; decide, ?_⟩
  repeat walk_at "s"
  rename_i p8 h8 p9 h9
  have W6 := (((((W.new (o := .lst []) h1).new (o := .lst [.str "a"]) h2).new (o := .tup []) h3).new (o := .tup [.str "a"]) h4).new (o := .tup [.int 1]) h5).new (o := .dK []) h6
  have n7 := W6.ne h7
  have K6 : Kp a.w H _ := Kp.of_same (Same.new (o := .dK []) (Same.new (o := .tup [.int 1]) (Same.new (o := .tup [.str "a"]) (Same.new (o := .tup []) (Same.new (o := .lst [.str "a"]) (Same.new (o := .lst []) (Same.refl H) h1) h2) h3) h4) h5) h6)
  have K8 := (K6.new (o := .dK []) h7).put2 (o := .dK (mergeK [] [(Sum.inr (Str.ofString "a"), V.int 1)])) (K6.free ⟨_, W6.at.choose_spec⟩ h7)
  have W7 := ((W6.new (o := .dK []) h7).put (o := .dK (mergeK [] [(Sum.inr (Str.ofString "a"), V.int 1)])) n7)
  have W8 := W7.new (o := .lst [.int 1]) h8
  have K9 := K8.new (o := .lst [.int 1]) h8
  refine Iv.mk ⟨a, _, n, rfl, W8.new h9, by omega, .inl ⟨p9, _, rfl, (W8.ne h9).1, upd_same, by show 0 < 12; decide, by show 12 ≤ 1000; decide, fun H1 v hv W1 K1 => ?_⟩⟩
  simp only [List.mem_cons, List.not_mem_nil, or_false] at hv
  have ho : OddV K H1 v := by
    rcases hv with rfl | rfl | rfl | rfl | rfl | rfl | rfl | rfl | rfl | rfl | rfl | rfl
    · exact ⟨⟨_, _, _, tyx_non, kit_NoneType_int, kit_NoneType_bool, rfl⟩, .inl ⟨_, tyx_non, kit_NoneType_str⟩⟩
    · exact ⟨⟨_, _, _, tyx_bl, kit_bool_int, kit_bool_bool, rfl⟩, .inl ⟨_, tyx_bl, kit_bool_str⟩⟩
    · exact ⟨⟨_, _, _, tyx_bl, kit_bool_int, kit_bool_bool, rfl⟩, .inl ⟨_, tyx_bl, kit_bool_str⟩⟩
    · exact odd_lst (K1.get (by walk_at "ne") (by walk_at "look"))
    · exact odd_lst (K1.get (by walk_at "ne") (by walk_at "look"))
    · exact odd_tup (K1.get (by walk_at "ne") (by walk_at "look"))
    · exact odd_tup (K1.get (by walk_at "ne") (by walk_at "look"))
    · exact odd_tup (K1.get (by walk_at "ne") (by walk_at "look"))
    · exact odd_dK (K1.get (by walk_at "ne") (by walk_at "look"))
    · exact odd_dK (K1.get n7.1 (by walk_at "look"))
    · exact odd_lst (K1.get (W7.ne h8).1 (by walk_at "look"))
    · exact ⟨⟨_, _, _, tyx_str, kit_str_int, kit_str_bool, rfl⟩, .inr rfl⟩
  have KF := (K9.new h9).trans K1
  clear hv K1 W8 K9 K8 K6 W6 W7
  obtain ⟨⟨t, b1, b2, ht, k1, k2, k3⟩, hs⟩ := ho
  have fin : ∀ H2, Same H1 H2 → Q (.bl true) H2 := fun H2 S2 => q H2 (W1.same S2) (KF.trans (Kp.of_same S2))
  repeat walk_at "s"
  refine Iv.mk ⟨v, t, b1, b2, rfl, ht, k1, k2, ?_⟩
  rw [k3]
  repeat walk_at "s"
  refine Iv.mk ⟨v, _, _, rfl, .inl ⟨t, b1, b2, ht, k1, k2, k3, ?_⟩⟩
  repeat walk_at "s"
  refine Iv.mk ⟨v, _, _, rfl, .inl ⟨t, b1, b2, ht, k1, k2, k3, ?_⟩⟩
  repeat walk_at "s"
  rcases hs with hs | rfl
  · refine Iv.mk ⟨v, rfl, .inl ⟨hs, ?_⟩⟩
    repeat walk_at "s"
    refine Iv.mk ⟨v, rfl, .inl ⟨hs, ?_⟩⟩
    repeat walk_at "s"
    rename_i t1 ht1
    refine ⟨_, .tuple ([false, false, false, false, false].map PyData.bool), rfl, .tup (SqT.of upd_same) (dpAll_bls [false, false, false, false, false]), sh1 _, sh2 _, sh3 _, shown5, ?_⟩
    repeat walk_at "s"
    rename_i t2 ht2
    refine ⟨_, .tuple ([false, false, false, false, false].map PyData.bool), rfl, .tup (SqT.of upd_same) (dpAll_bls [false, false, false, false, false]), sh1 _, sh2 _, sh3 _, shown5, ?_⟩
    repeat walk_at "s"
    exact rt_true (Q := Q) rfl (fin _ (Same.new (Same.new (Same.refl H1) ht1) ht2))
  · refine Iv.mk ⟨.str (Str.ofString ""), rfl, .inr ⟨_, rfl, by decide +kernel, fun b4 H4 S4 hb4 => ?_⟩⟩
    have e4 : b4 = false := by
      cases b4 with
      | false => rfl
      | true => exact absurd (hb4.mp rfl) no_stem
    subst e4
    repeat walk_at "s"
    refine Iv.mk ⟨.str (Str.ofString ""), rfl, .inr ⟨_, rfl, by decide +kernel, fun b5 H5 S5 hb5 => ?_⟩⟩
    have e5 : b5 = false := by
      cases b5 with
      | false => rfl
      | true => exact absurd (hb5.mp rfl) no_name
    subst e5
    repeat walk_at "s"
    rename_i t1 ht1
    refine ⟨_, .tuple ([false, false, false, false, false].map PyData.bool), rfl, .tup (SqT.of upd_same) (dpAll_bls [false, false, false, false, false]), sh1 _, sh2 _, sh3 _, shown5, ?_⟩
    repeat walk_at "s"
    rename_i t2 ht2
    refine ⟨_, .tuple ([false, false, false, false, false].map PyData.bool), rfl, .tup (SqT.of upd_same) (dpAll_bls [false, false, false, false, false]), sh1 _, sh2 _, sh3 _, shown5, ?_⟩
    repeat walk_at "s"
    exact rt_true (Q := Q) rfl (fin _ (Same.new (Same.new (S4.trans S5) ht1) ht2))
end
end K01

namespace K01
open PySem PySem.Spec PyProof.Rows L2 MyL TL
/-- how many pieces a text has -/
def pcs (z : Str) : Nat := (tl z).count 46 + 1
theorem spl_count : ∀ (l acc : List Nat), (spl [46] 0 acc l).length = l.count 46 + 1
  | [], acc => by rw [spl_nil]; rfl
  | d :: l, acc => by
    by_cases e : d = 46
    · subst e
      rw [show spl [46] 0 acc (46 :: l) = acc :: spl [46] 0 [] l from spl_hit (by rfl), List.length_cons, spl_count l [], List.count_cons_self]
    · rw [spl_miss (pre_of_head [] l e), spl_count l, List.count_cons_of_ne e]
theorem pcs_split (z : Str) : (Txt.split z dot).length = pcs z := by
  have h := congrArg List.length (split_dot z)
  rw [List.length_map, spl_count] at h
  exact h
theorem pcs_nodot {z : Str} (h : NoDot z) : pcs z = 1 := by
  have e : (tl z).count 46 = 0 := List.count_eq_zero.mpr fun m => (h 46 m).2 rfl
  unfold pcs
  rw [e]
theorem joinL_count : ∀ (p : List Nat) (ps : List (List Nat)), (joinL [46] (p :: ps)).count 46 + 1 = ((p :: ps).map fun q => q.count 46 + 1).sum
  | p, [] => by simp [joinL]
  | p, q :: r => by
    have h := joinL_count q r
    show (p ++ ([46] ++ joinL [46] (q :: r))).count 46 + 1 = _
    rw [List.map_cons, List.sum_cons, ← h, List.count_append, List.count_append]
    have e : [46].count 46 = 1 := by decide
    rw [e]
    omega
theorem pcs_join {zs : List Str} (h : zs ≠ []) : pcs (Txt.join dot zs) = (zs.map pcs).sum := by
  cases zs with
  | nil => exact absurd rfl h
  | cons z zs =>
    unfold pcs
    rw [join_eq, tl_join]
    have e : tl dot = [46] := by decide +kernel
    rw [e, List.map_cons, joinL_count, ← List.map_cons, List.map_map]
    rfl
theorem pcs_all {zs : List Str} (h : ∀ z ∈ zs, NoDot z) : (zs.map pcs).sum = zs.length := by
  induction zs with
  | nil => rfl
  | cons z zs ih =>
    rw [List.map_cons, List.sum_cons, List.length_cons, ih fun y hy => h y (List.mem_cons_of_mem _ hy), pcs_nodot (h z List.mem_cons_self)]
    omega
/-- joined_name(a, ..): the joined text; or TooMany where it has more than six pieces -/
def spJoined (C : Addr) : Sp := fun vs H Q E => ∃ zs : List Str, vs = zs.map V.str ∧ zs.length ≤ 10 ∧ (∀ z ∈ zs, z.length ≤ 100) ∧
  (6 < pcs (Txt.join dot zs) → ∀ H1 d, Same H H1 → H1 d = none → E (.ref C) (some d) (upd H1 d (.xd [("most", .int 6), ("what", .str "stems")]))) ∧
  (pcs (Txt.join dot zs) ≤ 6 → ∀ H1, Same H H1 → Q (.str (Txt.join dot zs)) H1)
def spJoinedIn (C : Addr) : Sp := fun vs H Q E => ∃ (p : Addr) (zs : List Str), vs = [.ref p] ∧ H p = some (.tup (zs.map V.str)) ∧ zs.length ≤ 10 ∧ (∀ z ∈ zs, z.length ≤ 100) ∧
  (6 < pcs (Txt.join dot zs) → ∀ H1 d, Same H H1 → H1 d = none → E (.ref C) (some d) (upd H1 d (.xd [("most", .int 6), ("what", .str "stems")]))) ∧
  (pcs (Txt.join dot zs) ≤ 6 → ∀ H1, Same H H1 → Q (.str (Txt.join dot zs)) H1)
section
variable {P : Program} {w : World} {K : PySem.W.Frag} {mg : Str → Option Value} {base : Heap} {A : Adr}
local macro_rules | `(tactic| walk_at "ne") => `(tactic| first
  | assumption
  | exact Ne.symm (by assumption)
  | exact ne_new (by assumption) (by walk_at "look")
  | exact ne_new' (by assumption) (by walk_at "look")
  | exact ne_of (by walk_at "look") (by walk_at "look") (by intro z; cases z))
local macro_rules | `(tactic| walk_at "look") => `(tactic| first
  | assumption
  | exact upd_same
  | (refine upd_new (by assumption) ?_
     walk_at "look")
  | (refine (upd_ne ?_).trans ?_
     · walk_at "ne"
     · walk_at "look")
  | (refine Kp.get (by assumption) ?_ ?_
     · walk_at "ne"
     · walk_at "look")
  | (refine Same.get (by assumption) ?_
     walk_at "look"))
local macro_rules | `(tactic| walk_at "lenv") => `(tactic| first
  | exact Or.inl ⟨_, SqL.of (by walk_at "look"), rfl⟩
  | exact Or.inr ⟨_, SqT.of (by walk_at "look"), rfl⟩
  | exact ⟨line_le (by omega), rfl⟩)
local macro_rules | `(tactic| walk_at "cond") => `(tactic| first
  | assumption
  | rfl
  | exact Nat.zero_le _
  | exact Nat.le_of_ble_eq_true rfl
  | decide
  | omega
  | exact line_lt (by (try simp only [List.length_map, List.length_append, List.length_cons, List.length_nil]); omega)
  | exact line_le (by (try simp only [List.length_map, List.length_append, List.length_cons, List.length_nil]); omega)
  | (dsimp only; omega)
  | exact ⟨by decide, by decide⟩
  | exact ⟨by decide, by decide, by decide⟩
  | exact Or.inl ⟨by decide, by decide⟩
  | exact Or.inl ⟨by omega, by omega⟩
  | exact Or.inr ⟨by omega, by omega⟩)
local macro_rules | `(tactic| walk_at "kit") => `(tactic| first | assumption | exact kit_NoneType_int | exact kit_NoneType_bool | exact kit_NoneType_str | exact kit_NoneType_list | exact kit_NoneType_tuple | exact kit_NoneType_dict | exact kit_bool_int | exact kit_bool_bool | exact kit_bool_str | exact kit_bool_list | exact kit_bool_tuple | exact kit_bool_dict | exact kit_int_int | exact kit_int_bool | exact kit_int_str | exact kit_int_list | exact kit_int_tuple | exact kit_int_dict | exact kit_str_int | exact kit_str_bool | exact kit_str_str | exact kit_str_list | exact kit_str_tuple | exact kit_str_dict | exact kit_list_int | exact kit_list_bool | exact kit_list_str | exact kit_list_list | exact kit_list_tuple | exact kit_list_dict | exact kit_tuple_int | exact kit_tuple_bool | exact kit_tuple_str | exact kit_tuple_list | exact kit_tuple_tuple | exact kit_tuple_dict | exact kit_dict_int | exact kit_dict_bool | exact kit_dict_str | exact kit_dict_list | exact kit_dict_tuple | exact kit_dict_dict)
local macro_rules | `(tactic| walk_at "ty") => `(tactic| first | assumption | exact tyx_str | exact tyx_int | exact tyx_bl | exact tyx_non | exact tyx_lst (by walk_at "look") | exact tyx_tup (by walk_at "look") | exact tyx_dK (by walk_at "look"))
local macro_rules | `(tactic| walk_at "s") => `(tactic| first
  | refine And.intro (by assumption) ?_
  | refine ⟨_, rfl, ?_⟩
  | refine ⟨_, _, rfl, rfl, ?_⟩
  | refine ⟨_, _, _, _, rfl, rfl, SqL.of (by walk_at "look"), by rfl, ?_⟩
  | refine ⟨_, _, _, _, rfl, rfl, SqT.of (by walk_at "look"), by rfl, ?_⟩
  | refine ⟨_, _, _, _, rfl, rfl, by walk_at "look", by rfl, ?_⟩
  | refine ⟨_, _, rfl, by walk_at "lenv", ?_⟩
  | refine Or.inl ⟨_, rfl, ?_⟩
  | refine ⟨_, _, _, _, _, rfl, ClsV.ty _, by walk_at "ty", by walk_at "kit", ?_⟩
  | refine And.intro (by walk_at "cond") ?_
  | refine ⟨_, _, rfl, SqT.of (by walk_at "look"), rfl, ?_⟩
  | refine ⟨_, _, rfl, SqL.of (by walk_at "look"), rfl, ?_⟩
  | refine And.intro (Or.inl ⟨rfl, _, SqL.of (by walk_at "look")⟩) ?_
  | refine ⟨_, _, _, rfl, rfl, by walk_at "look", by walk_at "cond", ?_⟩
  | refine ⟨_, _, _, _, rfl, rfl, by walk_at "look", by walk_at "look", by walk_at "cond", ?_⟩
  | refine And.intro ⟨_, rfl⟩ ?_
  | refine And.intro ⟨_, SqL.of (by walk_at "look")⟩ ?_
  | refine ⟨_, _, rfl, SqL.of (by walk_at "look"), ?_⟩
  | refine ⟨_, _, rfl, (by assumption : SqL _ _ _ _), ?_⟩
  | refine ⟨_, by walk_at "look", by walk_at "cond", ?_⟩
  | refine ⟨_, _, rfl, Or.inr (SqT.of (by walk_at "look")), ?_⟩
  | refine ⟨_, _, rfl, Or.inl (SqL.of (by walk_at "look")), ?_⟩
  | refine ⟨_, _, rfl, ?_⟩
  | refine ⟨rfl, rfl, _, _, _, rfl, by walk_at "look", rfl, ?_⟩
  | refine ⟨_, _, true, _, _, rfl, rfl, ClsV.own _, kit_own (by assumption) (by assumption), rfl, by walk_at "look", ?_⟩
  | refine if_t (by first | rfl | decide) ?_
  | refine if_f (by first | decide | exact Bool.false_ne_true) ?_
  | refine fun _ _ => ?_)

theorem ok_TooMany_init (T : Txt K mg A) : ∃ fd, FnOk P w K mg base CX0 1 A.i_TooMany fd ["self", "what", "most"] (spInit2 A.c_TooMany "what" "most") ∧ L2.Binds K fd ["self", "what", "most"] [] := by
  obtain ⟨fd, F⟩ := T.FI_TooMany
  exact ⟨fd, init2_ok T.E_TooMany F sc_TooMany_init fun cdv A' outer s H E => pss_cons (ps_ost (pv 0) (pv 1)) (pss_one (ps_ost (pv 0) (pv 2))), F.binds fun _ _ _ _ _ _ us hl => match us, hl with | [_, _, _], _ => rfl⟩
theorem ok_joined_name (T : Txt K mg A) : FnG P w K mg base (L2.CX P w) 3 A.joined_name (spJoined A.c_TooMany) := by
  obtain ⟨fd, F⟩ := T.F_joined_name
  obtain ⟨fI, FI_TooMany, bI_TooMany⟩ := ok_TooMany_init (P := P) (w := w) (base := base) T
  have main := Fun_starG (P := P) (w := w) (mg := mg) (base := base) (CX := L2.CX P w) (k := 2) (sp := spJoinedIn A.c_TooMany) F sc_joined_name StX.cxUp (fun _ _ _ _ _ _ us => by cases us <;> rfl) (fun cdv A' outer s H vs Q E hr hg h => ?_)
  · intro A' outer s H us vs Q E hr hg e0 r h
    obtain ⟨zs, rfl, hz, hl, h1, h2⟩ := h
    refine main A' outer s H us _ Q E hr hg e0 r ⟨by rw [List.length_map]; exact line_le (by omega), fun p hp => ⟨p, zs, rfl, upd_same, hz, hl, fun c H1 d S => h1 c H1 d ((Same.new (Same.refl H) hp).trans S), fun c H1 S => h2 c H1 ((Same.new (Same.refl H) hp).trans S)⟩⟩
  · obtain ⟨p, zs, rfl, hp, hz, hl, h1, h2⟩ := h
    refine ⟨_, ((pss_cons (ps_set (i := 1) sc_joined_name.nd rfl (Or.inl rfl) (pe_join pe_str (pe_callTy call_list_of (by rfl) T.n_list (by decide +kernel) (pa_cons (pv 0) pa_nil))))
    (pss_cons (ps_if (pt_cmpR op_gt (pe_callB call_len (by rfl) T.n_len (by decide +kernel) (pa_cons (pe_split (pv 1) pe_str) pa_nil)) (C8.pe_gc rfl T.v_MOST_STEMS) (nomark _)) (pss_one (ps_raise rfl (takes_of rfl rfl rfl rfl) (pmk_2 T.E_TooMany.o T.iC_TooMany T.tI_TooMany FI_TooMany (hr.mono (by decide)) bI_TooMany L2.pass0 rfl T.m_TooMany (pa_cons pe_str (pa_cons (C8.pe_gc rfl T.v_MOST_STEMS) pa_nil))))) pss_nil)
    (pss_one (ps_ret (pv 1)))))), ?_⟩
    repeat walk_at "s"
    rename_i l hl1
    have lj := join_len (y := Str.ofString ".") hl
    have ed : (Str.ofString ".").length = 1 := by decide +kernel
    rw [ed] at lj
    have lsum := sum_len hl
    have S1 : Same H (upd H l (.lst (zs.map V.str))) := Same.new (Same.refl H) hl1
    refine ⟨_, _, zs, rfl, rfl, .inl (SqL.of upd_same), ?_, ?_⟩
    · rw [ed]
      exact line_le (by omega)
    have lz : (Txt.join (Str.ofString ".") zs).length + 2 ≤ sizeLine := line_le (by omega)
    repeat walk_at "s"
    rename_i l2 hl2
    have S2 := Same.new (o := .lst ((Txt.split (Txt.join (Str.ofString ".") zs) (Str.ofString ".")).map V.str)) S1 hl2
    have ep : ((Txt.split (Txt.join (Str.ofString ".") zs) (Str.ofString ".")).map V.str).length = pcs (Txt.join dot zs) := (List.length_map _).trans (pcs_split _)
    refine if_2 (fun c => ?_) (fun c => ?_)
    · have c1 := of_decide_eq_true c
      rw [ep] at c1
      repeat walk_at "s"
      rename_i d hd
      exact h1 (by omega) _ d S2 hd
    · have c1 := of_decide_eq_false c
      rw [ep] at c1
      repeat walk_at "s"
      exact h2 (by omega) _ S2
end
end K01


namespace K01
open PySem PySem.Spec PyProof.Rows L2 MyL TL
theorem lkA : List.lookup ("what" : Str) [(("most" : Str), V.int 6), (("what" : Str), V.str ("stems" : Str))] = some (V.str ("stems" : Str)) := by
  have e : (("what" : Str) == ("most" : Str)) = false := by decide +kernel
  rw [List.lookup, e]
  simp [List.lookup]
theorem lkB : List.lookup ("most" : Str) [(("most" : Str), V.int 6), (("what" : Str), V.str ("stems" : Str))] = some (V.int 6) := by simp [List.lookup]
theorem cut12 (z : Str) : (cutS z none (some 12)).length ≤ 12 := by
  have e : tl (cutS z none (some 12)) = (z.cps.toList.drop (HT.sIx z.length 0 none)).take (HT.sIx z.length z.length (some 12) - HT.sIx z.length 0 none) := rfl
  rw [len_tl, e, List.length_take]
  have h : HT.sIx z.length z.length (some 12) ≤ 12 := by
    show (if (12 : Int) < 0 then ((12 : Int) + (z.length : Int)).toNat else min (12 : Int).toNat z.length) ≤ 12
    rw [if_neg (by decide)]
    exact Nat.min_le_left _ _
  omega
theorem sh_stems : (PyData.tuple [.str ("stems" : Str), .int 6, .bool true]).showable = true ∧ (PyData.tuple [.str ("stems" : Str), .int 6, .bool true]).hasDict = false ∧ (PyData.tuple [.str ("stems" : Str), .int 6, .bool true]).depth ≤ 60 ∧ (PyData.tuple [.str ("stems" : Str), .int 6, .bool true]).shown.length ≤ sizeLine := by decide +kernel
theorem q_true {Q : VK} {H : Hp} {b : Bool} (e : b = true) (q : Q (.bl true) H) : Q (.bl b) H := by
  rw [e]
  exact q
theorem shT : SeqAt.shaped (.tuple []) = true := by decide +kernel
section
variable {P : Program} {w : World} {K : PySem.W.Frag} {mg : Str → Option Value} {base : Heap} {A : Adr}
local macro_rules | `(tactic| walk_at "ne") => `(tactic| first
  | assumption
  | exact Ne.symm (by assumption)
  | exact ne_new (by assumption) (by walk_at "look")
  | exact ne_new' (by assumption) (by walk_at "look")
  | exact ne_of (by walk_at "look") (by walk_at "look") (by intro z; cases z))
local macro_rules | `(tactic| walk_at "look") => `(tactic| first
  | assumption
  | exact upd_same
  | (refine upd_new (by assumption) ?_
     walk_at "look")
  | (refine (upd_ne ?_).trans ?_
     · walk_at "ne"
     · walk_at "look")
  | (refine Kp.get (by assumption) ?_ ?_
     · walk_at "ne"
     · walk_at "look")
  | (refine Same.get (by assumption) ?_
     walk_at "look"))
local macro_rules | `(tactic| walk_at "lenv") => `(tactic| first
  | exact Or.inl ⟨_, SqL.of (by walk_at "look"), rfl⟩
  | exact Or.inr ⟨_, SqT.of (by walk_at "look"), rfl⟩
  | exact ⟨line_le (by omega), rfl⟩)
local macro_rules | `(tactic| walk_at "cond") => `(tactic| first
  | assumption
  | rfl
  | exact Nat.zero_le _
  | exact Nat.le_of_ble_eq_true rfl
  | decide
  | omega
  | exact line_lt (by (try simp only [List.length_map, List.length_append, List.length_cons, List.length_nil]); omega)
  | exact line_le (by (try simp only [List.length_map, List.length_append, List.length_cons, List.length_nil]); omega)
  | (dsimp only; omega)
  | exact ⟨by decide, by decide⟩
  | exact ⟨by decide, by decide, by decide⟩
  | exact Or.inl ⟨by decide, by decide⟩
  | exact Or.inl ⟨by omega, by omega⟩
  | exact Or.inr ⟨by omega, by omega⟩)
local macro_rules | `(tactic| walk_at "kit") => `(tactic| first | assumption | exact kit_NoneType_int | exact kit_NoneType_bool | exact kit_NoneType_str | exact kit_NoneType_list | exact kit_NoneType_tuple | exact kit_NoneType_dict | exact kit_bool_int | exact kit_bool_bool | exact kit_bool_str | exact kit_bool_list | exact kit_bool_tuple | exact kit_bool_dict | exact kit_int_int | exact kit_int_bool | exact kit_int_str | exact kit_int_list | exact kit_int_tuple | exact kit_int_dict | exact kit_str_int | exact kit_str_bool | exact kit_str_str | exact kit_str_list | exact kit_str_tuple | exact kit_str_dict | exact kit_list_int | exact kit_list_bool | exact kit_list_str | exact kit_list_list | exact kit_list_tuple | exact kit_list_dict | exact kit_tuple_int | exact kit_tuple_bool | exact kit_tuple_str | exact kit_tuple_list | exact kit_tuple_tuple | exact kit_tuple_dict | exact kit_dict_int | exact kit_dict_bool | exact kit_dict_str | exact kit_dict_list | exact kit_dict_tuple | exact kit_dict_dict)
local macro_rules | `(tactic| walk_at "ty") => `(tactic| first | assumption | exact tyx_str | exact tyx_int | exact tyx_bl | exact tyx_non | exact tyx_lst (by walk_at "look") | exact tyx_tup (by walk_at "look") | exact tyx_dK (by walk_at "look"))
local macro_rules | `(tactic| walk_at "s") => `(tactic| first
  | refine ⟨_, rfl, ?_⟩
  | refine ⟨_, _, rfl, rfl, ?_⟩
  | refine ⟨_, _, _, _, rfl, rfl, SqL.of (by walk_at "look"), by rfl, ?_⟩
  | refine ⟨_, _, _, _, rfl, rfl, SqT.of (by walk_at "look"), by rfl, ?_⟩
  | refine ⟨_, _, _, _, rfl, rfl, by walk_at "look", by rfl, ?_⟩
  | refine ⟨_, _, rfl, by walk_at "lenv", ?_⟩
  | refine Or.inl ⟨_, rfl, ?_⟩
  | refine ⟨_, _, _, _, _, rfl, ClsV.ty _, by walk_at "ty", by walk_at "kit", ?_⟩
  | refine And.intro (by walk_at "cond") ?_
  | refine ⟨_, _, rfl, SqT.of (by walk_at "look"), rfl, ?_⟩
  | refine ⟨_, _, rfl, SqL.of (by walk_at "look"), rfl, ?_⟩
  | refine And.intro (Or.inl ⟨rfl, _, SqL.of (by walk_at "look")⟩) ?_
  | refine ⟨_, _, _, rfl, rfl, by walk_at "look", by walk_at "cond", ?_⟩
  | refine ⟨_, _, _, _, rfl, rfl, by walk_at "look", by walk_at "look", by walk_at "cond", ?_⟩
  | refine And.intro ⟨_, rfl⟩ ?_
  | refine And.intro ⟨_, SqL.of (by walk_at "look")⟩ ?_
  | refine ⟨_, _, rfl, SqL.of (by walk_at "look"), ?_⟩
  | refine ⟨_, _, rfl, (by assumption : SqL _ _ _ _), ?_⟩
  | refine ⟨_, by walk_at "look", by walk_at "cond", ?_⟩
  | refine ⟨_, _, rfl, Or.inr (SqT.of (by walk_at "look")), ?_⟩
  | refine ⟨_, _, rfl, Or.inl (SqL.of (by walk_at "look")), ?_⟩
  | refine ⟨_, _, rfl, ?_⟩
  | refine ⟨_, _, _, rfl, by walk_at "look", by assumption, ?_⟩
  | refine ⟨_, _, true, _, _, rfl, rfl, ClsV.own _, kit_own (by assumption) (by assumption), rfl, by walk_at "look", ?_⟩
  | refine if_t (by first | rfl | decide) ?_
  | refine if_f (by first | decide | exact Bool.false_ne_true) ?_
  | refine fun _ _ => ?_)

theorem ok_l_joined_right (T : Txt K mg A) : FnG P w K mg base CX0 4 A.l_joined_right (spRight 400) := by
  obtain ⟨fd, F⟩ := T.F_l_joined_right
  refine Fun_okN F sc_l_joined_right (fun vs H Q E h => ?_) (fun _ _ _ _ _ _ us hl => match us, hl with | [_], _ => rfl) (fun cdv A' outer s H vs Q E hr hg h => ?_)
  · obtain ⟨_, _, rfl, _⟩ := h
    rfl
  obtain ⟨a, n, rfl, W, hn, q⟩ := h
  refine ⟨_, ((pss_cons (ps_par (i := 1) (j := 2) (by rfl) sc_l_joined_right.nd rfl rfl (by decide) rfl rfl (pa_cons (pe_lst pa_nil) (pa_cons pe_int pa_nil)) (by rfl))
    (pss_cons (ps_for PassesOwn.never rfl (pi_range1 (by rfl) T.n_range (pa_cons (pe_op op_add pe_int (pe_callGd (ok_l_dip T) (hr.mono (by decide)) hg rfl T.m_l_dip T.k_l_dip pass0 (pa_cons (pv 0) (pa_cons pe_int pa_nil)))) pa_nil)) (pg_name (i := 3) sc_l_joined_right.nd rfl (Or.inl rfl))
    (pss_cons (ps_set (i := 4) sc_l_joined_right.nd rfl (Or.inl rfl) (pe_callGd (ok_l_pick T) (hr.mono (by decide)) hg rfl T.m_l_pick T.k_l_pick pass0 (pa_cons (pv 0) (pa_cons (pe_lst (pa_cons pe_int (pa_cons pe_int (pa_cons pe_int (pa_cons pe_int pa_nil))))) pa_nil))))
    (pss_cons (ps_set (i := 2) sc_l_joined_right.nd rfl (Or.inl rfl) (pe_op op_add (pv 2) (pv 4)))
    (pss_one (ps_expr (pe_bm PySem.F.plainAttrs_list PySem.F.slot_list_append PySem.F.type_list_append mt_append (pv 1) (pa_cons (pe_join pe_str (pe_lc (own := [(("_law_at" : PySem.Str), 5)]) rfl sc_l_joined_right.nd (pi_range1 (by rfl) T.n_range (pa_cons (pv 4) pa_nil)) (blkOk_by (own := [(("_law_at" : PySem.Str), 5)]) (N := [("_law_well_here" : PySem.Str), ("_law_names" : PySem.Str), ("_law_stems_here" : PySem.Str), ("_law_turn" : PySem.Str), ("_law_many" : PySem.Str), ("_law_at" : PySem.Str), ("_law_made" : PySem.Str), ("_law_found" : PySem.Str), ("error" : PySem.Str)]) (sc := defScope s_l_joined_right) (by decide +kernel)) (fun _ _ _ _ _ => (pg_name (i := 5) sc_l_joined_right.nd rfl (Or.inl rfl))) (fun _ _ _ _ _ => pts_nil) (fun _ _ _ _ _ => (pe_slice sl_str (pe_callGd (ok_l_stem T) (hr.mono (by decide)) hg rfl T.m_l_stem T.k_l_stem pass0 (pa_cons (pv 0) pa_nil)) po_none (po_some pe_int))))) pa_nil)))))))
    (pss_cons (ps_asg (pe_tup (pa_cons pe_str (pa_cons (pe_tup pa_nil) pa_nil))) (pg_tup (by rfl) (pgs_cons (pg_name (i := 6) sc_l_joined_right.nd rfl (Or.inl rfl)) (pgs_cons (pg_name (i := 7) sc_l_joined_right.nd rfl (Or.inl rfl)) pgs_nil))))
    (pss_cons (by refine' ps_try_as (i := 8) (Wout := fun _ _ _ _ => False) rfl rfl sc_l_joined_right.nd rfl rfl ⟨rfl, by decide, Or.inl T.m_TooMany⟩ takes0 (fun W pn xe tk _ => pss_eq (pss_one (ps_if (pt_cmpR op_eq (pe_callB call_len (by rfl) T.n_len (by decide +kernel) (pa_cons (pv 1) pa_nil)) pe_int (nomark _)) (pss_one (ps_set (i := 6) sc_l_joined_right.nd rfl (Or.inl rfl) (by exact (pe_callGS (ok_joined_name T) (hr.mono (by decide)) hg rfl T.m_joined_name T.k_joined_name (fun σ => passAt tk σ) (by exact (pa_cons (pe_ix ix_list (pv 1) pe_int (fun _ _ => rfl)) pa_nil)))))) (pss_one (ps_if (pt_cmpR op_eq (pe_callB call_len (by rfl) T.n_len (by decide +kernel) (pa_cons (pv 1) pa_nil)) pe_int (nomark _)) (pss_one (ps_set (i := 6) sc_l_joined_right.nd rfl (Or.inl rfl) (by exact (pe_callGS (ok_joined_name T) (hr.mono (by decide)) hg rfl T.m_joined_name T.k_joined_name (fun σ => passAt tk σ) (by exact (pa_cons (pe_ix ix_list (pv 1) pe_int (fun _ _ => rfl)) (pa_cons (pe_ix ix_list (pv 1) pe_int (fun _ _ => rfl)) pa_nil))))))) (pss_one (ps_if (pt_cmpR op_eq (pe_callB call_len (by rfl) T.n_len (by decide +kernel) (pa_cons (pv 1) pa_nil)) pe_int (nomark _)) (pss_one (ps_set (i := 6) sc_l_joined_right.nd rfl (Or.inl rfl) (by exact (pe_callGS (ok_joined_name T) (hr.mono (by decide)) hg rfl T.m_joined_name T.k_joined_name (fun σ => passAt tk σ) (by exact (pa_cons (pe_ix ix_list (pv 1) pe_int (fun _ _ => rfl)) (pa_cons (pe_ix ix_list (pv 1) pe_int (fun _ _ => rfl)) (pa_cons (pe_ix ix_list (pv 1) pe_int (fun _ _ => rfl)) pa_nil)))))))) (pss_one (ps_set (i := 6) sc_l_joined_right.nd rfl (Or.inl rfl) (by exact (pe_callGS (ok_joined_name T) (hr.mono (by decide)) hg rfl T.m_joined_name T.k_joined_name (fun σ => passAt tk σ) (by exact (pa_cons (pe_ix ix_list (pv 1) pe_int (fun _ _ => rfl)) (pa_cons (pe_ix ix_list (pv 1) pe_int (fun _ _ => rfl)) (pa_cons (pe_ix ix_list (pv 1) pe_int (fun _ _ => rfl)) (pa_cons (pe_ix ix_list (pv 1) pe_int (fun _ _ => rfl)) pa_nil))))))))))))))) ?_) (fun a oe cls d pn hz hf => pss_eq (pss_one (ps_set (i := 7) sc_l_joined_right.nd rfl (Or.inl rfl) (pe_tup (pa_cons (pe_xf T.E_TooMany.x T.E_TooMany.f1 hz hf (pv 8)) (pa_cons (pe_xf T.E_TooMany.x T.E_TooMany.f2 hz hf (pv 8)) (pa_cons (pe_callB (call_isED T.E_TooMany.e hz hf) (by rfl) T.n_isinstance (by decide +kernel) (pa_cons (pv 8) (pa_cons (pe_glob (v := .ref A.c_DimError) (u := .ref A.c_DimError) rfl T.m_DimError rfl) pa_nil))) pa_nil)))))) ?_); (case refine'_3 => dsimp only [Cx.tr]); (case refine'_4 => dsimp only [Cx.suite]))
    (pss_cons (ps_if (pt_cmpR op_gt (pv 2) pe_int (nomark _)) (pss_one (ps_ret (pe_and (pe_cmpR op_eq (pe_callB (call_repr_data hg hr.units) (by rfl) T.n_repr (by decide +kernel) (pa_cons (pv 7) pa_nil)) (pe_callB (call_repr_data hg hr.units) (by rfl) T.n_repr (by decide +kernel) (pa_cons (pe_tup (pa_cons pe_str (pa_cons pe_int (pa_cons pe_bl pa_nil)))) pa_nil)) (nomark _)) (pe_one (pe_cmpR op_eq (pv 6) pe_str (nomark _)))))) pss_nil)
    (pss_one (ps_ret (pe_and (pe_cmpR (op_eqD hr.units) (pv 7) (pe_tup pa_nil) (nomark _)) (pe_and (pe_callB call_isi (by rfl) T.n_isinstance (by decide +kernel) (pa_cons (pv 6) (pa_cons (pe_bltn (v := .ty "str") (u := .type "str") (by rfl) T.n_str (by decide +kernel) rfl) pa_nil))) (pe_one (pe_cmpR op_eq (pv 6) (pe_join pe_str (pv 1)) (nomark _))))))))))))), ?_⟩
  repeat walk_at "s"
  rename_i pn hpn
  have hpa := W.ne hpn
  obtain ⟨ow, how⟩ := W.at
  refine Iv.mk ⟨a, 4, n, rfl, W.new hpn, by omega, by decide, by decide +kernel, fun H1 r r0 r4 W1 K1 => ?_⟩
  have K01 : Kp a.w H H1 := (Kp.of_same (Same.new (Same.refl H) hpn)).trans K1
  have hp1 : H1 pn = some (.lst []) := K1.get hpa.1 upd_same
  obtain ⟨j, rfl⟩ : ∃ j : Nat, r = j := ⟨r.toNat, by omega⟩
  iterate 2 walk_at "s"
  refine And.intro (by omega) (And.intro (by omega) ?_)
  refine for_it walk_range (fun i σ H' => Iv (∃ (zs : List Str) (st : Nat) (v3 v4 : Option V), σ = [some (.ref a.w), some (.ref pn), some (.int st), v3, v4, none, none, none, none] ∧ WellAt H' a (n + 1 + 61 * i) ∧ Kp a.w H H' ∧ H' pn = some (.lst (zs.map V.str)) ∧ zs.length = i ∧ (∀ z ∈ zs, z.length ≤ 100) ∧ (zs.map pcs).sum = st))
    (Iv.mk ⟨[], 0, _, _, rfl, W1, K01, hp1, rfl, (fun z h => absurd h List.not_mem_nil), rfl⟩) (fun _ _ _ _ _ => trivial) ?_ ?_
  · rintro i x σ H2 H3 hi hI ⟨rfl, rfl⟩
    obtain ⟨zs, st, v3, v4, rfl, W2, K2, hz, lz, hzl, hst⟩ := hI.out
    have hi4 : i < 4 := by
      omega
    repeat walk_at "s"
    rename_i p1 hp1'
    have K2n := K2.new (o := .lst [.int 1, .int 1, .int 2, .int 3]) hp1'
    have hz2 := upd_new (u := .lst [.int 1, .int 1, .int 2, .int 3]) hp1' hz
    refine Iv.mk ⟨a, _, _, rfl, W2.new hp1', by omega, .inl ⟨p1, _, rfl, (W2.ne hp1').1, upd_same, by show 0 < 4; decide, by show 4 ≤ 1000; decide, fun H3 v hv W3 K3 => ?_⟩⟩
    obtain ⟨k, rfl, hk, hk1⟩ := ints_mem (js := [1, 1, 2, 3]) (m := 3) (by decide) hv
    have hk0 : 1 ≤ k := by
      simp only [List.mem_cons, List.not_mem_nil, or_false] at hk1
      omega
    have hz3 : H3 pn = some (.lst (zs.map V.str)) := K3.get hpa.1 hz2
    have K3' := K2n.trans K3
    iterate 8 walk_at "s"
    refine And.intro (by omega) (And.intro (by omega) ?_)
    repeat walk_at "s"
    rename_i D hD
    have hDa := W3.ne hD
    refine lc_it walk_range (fun i' H' => Iv (WellAt H' a (n + 1 + 61 * i + 1 + 20 * i') ∧ Kp a.w H3 H' ∧ ∃ ys : List Str, H' D = some (.lst (ys.map V.str)) ∧ ys.length = i' ∧ ∀ y ∈ ys, y.length ≤ 12 ∧ NoDot y))
      (Iv.mk ⟨W3.new hD, Kp.new (Kp.refl _ _) hD, [], upd_same, rfl, fun z h => absurd h List.not_mem_nil⟩) (fun _ _ _ _ => trivial) ?_ ?_
    · rintro i' x H4 H5 hi' hI ⟨rfl, rfl⟩
      obtain ⟨W4, K4, ys, hy, ly, hys⟩ := hI.out
      have ei : ((k : Nat) : Int).toNat = k := Int.toNat_natCast k
      repeat walk_at "s"
      refine Iv.mk ⟨a, n + 1 + 61 * i + 1 + 20 * i', rfl, W4, by omega, fun H6 z h13 hnd W5 K5 => ?_⟩
      repeat walk_at "s"
      have hD6 : H6 D = some (.lst (ys.map V.str)) := K5.get hDa.1 hy
      refine ⟨_, hD6, line_lt (by rw [List.length_map]; omega), ?_⟩
      refine Iv.mk ⟨(W5.mono (by omega)).put hDa, (K4.trans K5).put2 hD, ys ++ [cutS z none (some 12)], (by rw [upd_same, List.map_append] <;> rfl), (by rw [List.length_append, ly]; rfl), fun y h => ?_⟩
      rcases List.mem_append.mp h with h | h
      · exact hys y h
      · rw [List.mem_singleton.mp h]
        exact ⟨cut12 z, fun c hc => hnd c (cutS_mem hc)⟩
    · intro H4 hI
      obtain ⟨W4, K4, ys, hy, ly, hys⟩ := hI.out
      have ei : ((k : Nat) : Int).toNat = k := Int.toNat_natCast k
      rw [ei] at W4 ly
      have le1 : ∀ p ∈ ys, p.length ≤ 12 := fun p hp => (hys p hp).1
      have lj := join_len (y := ("." : Str)) le1
      have ej2 : ("." : Str).length = 1 := by decide +kernel
      rw [ej2] at lj
      have lsum := sum_len le1
      have hz4 : H4 pn = some (.lst (zs.map V.str)) := K4.get hpa.1 hz3
      have hys0 : ys ≠ [] := fun e => by
        rw [e, List.length_nil] at ly
        omega
      have ps : pcs (Txt.join dot ys) = k := (pcs_join hys0).trans ((pcs_all fun y hy => (hys y hy).2).trans ly)
      repeat walk_at "s"
      refine ⟨_, _, ys, rfl, rfl, .inl (SqL.of hy), ?_, ?_⟩
      · rw [ej2]
        exact line_le (by omega)
      repeat walk_at "s"
      refine Iv.mk ⟨zs ++ [Txt.join dot ys], st + k, _, _, rfl, (W4.mono (by omega)).put hpa, (K3'.trans K4).put2 hpn, (by rw [upd_same, List.map_append] <;> rfl), (by rw [List.length_append, lz]; rfl), fun y h => ?_, (by rw [List.map_append, List.sum_append, hst]; show st + (pcs (Txt.join dot ys) + 0) = st + k; rw [ps, Nat.add_zero])⟩
      rcases List.mem_append.mp h with h | h
      · exact hzl y h
      · rw [List.mem_singleton.mp h]
        have : (Txt.join dot ys).length ≤ ys.length * (12 + 1) := lj
        omega
  · intro σ H2 hI
    obtain ⟨zs, st, v3, v4, rfl, W2, K2, hz, lz, hzl, hst⟩ := hI.out
    have hne : zs ≠ [] := fun e => by
      rw [e, List.length_nil] at lz
      omega
    have hj : pcs (Txt.join dot zs) = st := (pcs_join hne).trans hst
    have lz4 : zs.length ≤ 4 := by omega
    have fin : ∀ H', Same H2 H' → Q (.bl true) H' := fun H' S => q H' ((W2.mono (by omega)).same S) (K2.trans (Kp.of_same S))
    rcases zs with _ | ⟨z0, _ | ⟨z1, _ | ⟨z2, _ | ⟨z3, _ | ⟨z4, zs⟩⟩⟩⟩⟩
    all_goals first | exact absurd rfl hne | (exfalso; simp only [List.length_cons] at lz4; omega) | skip
    all_goals
      repeat walk_at "s"
      refine Iv.mk ⟨_, ?_, ?_, hzl, fun c H3 d S3 hd => ?_, fun c H3 S3 => ?_⟩
      · rfl
      · exact Nat.le_of_ble_eq_true rfl
      · refine ⟨true, exm_of T.E_TooMany.toErrC T.sub_TooMany_TooMany, fun _ e0 he0 => ?_, fun q => Bool.noConfusion q⟩
        have lk1 := lkA
        have lk2 := lkB
        have sD := T.sub_TooMany_DimError
        have eD := T.E_DimError
        repeat walk_at "s"
        have c6 : 6 < (st : Int) := by
          rw [← hj]
          exact Int.ofNat_lt.mpr c
        refine if_t (decide_eq_true c6) ?_
        repeat walk_at "s"
        refine ⟨_, .tuple [.str "stems", .int 6, .bool true], rfl, .tup (SqT.of (by walk_at "look")) (.cons (.str _) (.cons (.int _) (.cons (.bl _) .nil))), sh_stems.1, sh_stems.2.1, sh_stems.2.2.1, sh_stems.2.2.2, ?_⟩
        repeat walk_at "s"
        refine ⟨_, .tuple [.str "stems", .int 6, .bool true], rfl, .tup (SqT.of (by walk_at "look")) (.cons (.str _) (.cons (.int _) (.cons (.bl _) .nil))), sh_stems.1, sh_stems.2.1, sh_stems.2.2.1, sh_stems.2.2.2, ?_⟩
        repeat walk_at "s"
        refine if_t (decide_eq_true rfl) ?_
        repeat walk_at "s"
        refine q_true (Q := Q) (decide_eq_true rfl) (fin _ ?_)
        repeat (first | exact Same.refl _ | refine Same.new ?_ (by assumption) | refine Same.trans ?_ S3)
      · repeat walk_at "s"
        have c6 : ¬ 6 < (st : Int) := by
          rw [← hj]
          exact fun z => absurd (Int.ofNat_lt.mp z) (Nat.not_lt.mpr c)
        refine if_f (by rw [decide_eq_false c6]; exact Bool.false_ne_true) ?_
        repeat walk_at "s"
        refine ⟨.tuple [], .tuple [], .tup (SqT.of (by walk_at "look")) .nil, .tup (SqT.of upd_same) .nil, shT, shT, ?_⟩
        repeat walk_at "s"
        have lsum := sum_len hzl
        have ej2 : ("." : Str).length = 1 := by decide +kernel
        refine ⟨_, _, _, rfl, rfl, .inl (SqL.of (Same.get (by repeat (first | exact Same.refl _ | refine Same.new ?_ (by assumption) | refine Same.trans ?_ S3)) hz)), ?_, ?_⟩
        · rw [ej2]
          exact line_le (by omega)
        repeat walk_at "s"
        refine q_true (Q := Q) (decide_eq_true rfl) (fin _ ?_)
        repeat (first | exact Same.refl _ | refine Same.new ?_ (by assumption) | refine Same.trans ?_ S3)
end
end K01

namespace K01
open PySem PySem.Spec PyProof.Rows L2 MyL TL
def spLaw (K : PySem.W.Frag) : Sp := fun vs H Q _ => ∃ (a : Addr) (ns : List Int), vs = [.ref a] ∧ SqL K H a (ns.map V.int) ∧ ns.length ≤ 63 ∧ ∀ H', Q (.bl true) H'
section
variable {P : Program} {w : World} {K : PySem.W.Frag} {mg : Str → Option Value} {base : Heap} {A : Adr}
local macro_rules | `(tactic| walk_at "ne") => `(tactic| first
  | assumption
  | exact Ne.symm (by assumption)
  | exact ne_new (by assumption) (by walk_at "look")
  | exact ne_new' (by assumption) (by walk_at "look")
  | exact ne_of (by walk_at "look") (by walk_at "look") (by intro z; cases z))
local macro_rules | `(tactic| walk_at "look") => `(tactic| first
  | assumption
  | exact upd_same
  | (refine upd_new (by assumption) ?_
     walk_at "look")
  | (refine (upd_ne ?_).trans ?_
     · walk_at "ne"
     · walk_at "look")
  | (refine Kp.get (by assumption) ?_ ?_
     · walk_at "ne"
     · walk_at "look")
  | (refine Same.get (by assumption) ?_
     walk_at "look"))
local macro_rules | `(tactic| walk_at "lenv") => `(tactic| first
  | exact Or.inl ⟨_, SqL.of (by walk_at "look"), rfl⟩
  | exact Or.inr ⟨_, SqT.of (by walk_at "look"), rfl⟩
  | exact ⟨line_le (by omega), rfl⟩)
local macro_rules | `(tactic| walk_at "cond") => `(tactic| first
  | assumption
  | rfl
  | exact Nat.zero_le _
  | exact Nat.le_of_ble_eq_true rfl
  | decide
  | omega
  | exact line_lt (by (try simp only [List.length_map, List.length_append, List.length_cons, List.length_nil]); omega)
  | exact line_le (by (try simp only [List.length_map, List.length_append, List.length_cons, List.length_nil]); omega)
  | (dsimp only; omega)
  | exact ⟨by decide, by decide⟩
  | exact ⟨by decide, by decide, by decide⟩
  | exact Or.inl ⟨by decide, by decide⟩
  | exact Or.inl ⟨by omega, by omega⟩
  | exact Or.inr ⟨by omega, by omega⟩)
local macro_rules | `(tactic| walk_at "kit") => `(tactic| first | assumption | exact kit_NoneType_int | exact kit_NoneType_bool | exact kit_NoneType_str | exact kit_NoneType_list | exact kit_NoneType_tuple | exact kit_NoneType_dict | exact kit_bool_int | exact kit_bool_bool | exact kit_bool_str | exact kit_bool_list | exact kit_bool_tuple | exact kit_bool_dict | exact kit_int_int | exact kit_int_bool | exact kit_int_str | exact kit_int_list | exact kit_int_tuple | exact kit_int_dict | exact kit_str_int | exact kit_str_bool | exact kit_str_str | exact kit_str_list | exact kit_str_tuple | exact kit_str_dict | exact kit_list_int | exact kit_list_bool | exact kit_list_str | exact kit_list_list | exact kit_list_tuple | exact kit_list_dict | exact kit_tuple_int | exact kit_tuple_bool | exact kit_tuple_str | exact kit_tuple_list | exact kit_tuple_tuple | exact kit_tuple_dict | exact kit_dict_int | exact kit_dict_bool | exact kit_dict_str | exact kit_dict_list | exact kit_dict_tuple | exact kit_dict_dict)
local macro_rules | `(tactic| walk_at "ty") => `(tactic| first | assumption | exact tyx_str | exact tyx_int | exact tyx_bl | exact tyx_non | exact tyx_lst (by walk_at "look") | exact tyx_tup (by walk_at "look") | exact tyx_dK (by walk_at "look"))
local macro_rules | `(tactic| walk_at "s") => `(tactic| first
  | refine ⟨_, rfl, ?_⟩
  | refine ⟨_, _, rfl, rfl, ?_⟩
  | refine ⟨_, _, _, _, rfl, rfl, SqL.of (by walk_at "look"), by rfl, ?_⟩
  | refine ⟨_, _, _, _, rfl, rfl, SqT.of (by walk_at "look"), by rfl, ?_⟩
  | refine ⟨_, _, _, _, rfl, rfl, by walk_at "look", by rfl, ?_⟩
  | refine ⟨_, _, rfl, by walk_at "lenv", ?_⟩
  | refine Or.inl ⟨_, rfl, ?_⟩
  | refine ⟨_, _, _, _, _, rfl, ClsV.ty _, by walk_at "ty", by walk_at "kit", ?_⟩
  | refine And.intro (by walk_at "cond") ?_
  | refine ⟨_, _, rfl, SqT.of (by walk_at "look"), rfl, ?_⟩
  | refine ⟨_, _, rfl, SqL.of (by walk_at "look"), rfl, ?_⟩
  | refine And.intro (Or.inl ⟨rfl, _, SqL.of (by walk_at "look")⟩) ?_
  | refine ⟨_, _, _, rfl, rfl, by walk_at "look", by walk_at "cond", ?_⟩
  | refine ⟨_, _, _, _, rfl, rfl, by walk_at "look", by walk_at "look", by walk_at "cond", ?_⟩
  | refine And.intro ⟨_, rfl⟩ ?_
  | refine And.intro ⟨_, SqL.of (by walk_at "look")⟩ ?_
  | refine ⟨_, _, rfl, SqL.of (by walk_at "look"), ?_⟩
  | refine ⟨_, _, rfl, (by assumption : SqL _ _ _ _), ?_⟩
  | refine ⟨_, by walk_at "look", by walk_at "cond", ?_⟩
  | refine ⟨_, _, rfl, Or.inr (SqT.of (by walk_at "look")), ?_⟩
  | refine ⟨_, _, rfl, Or.inl (SqL.of (by walk_at "look")), ?_⟩
  | refine ⟨_, _, rfl, ?_⟩
  | refine ⟨_, _, _, rfl, by walk_at "look", by assumption, ?_⟩
  | refine ⟨_, _, true, _, _, rfl, rfl, ClsV.own _, kit_own (by assumption) (by assumption), rfl, by walk_at "look", ?_⟩
  | refine if_t (by first | rfl | decide) ?_
  | refine if_f (by first | decide | exact Bool.false_ne_true) ?_
  | refine fun _ _ => ?_)

theorem ok_law (T : Txt K mg A) : FnG P w K mg base CX0 6 A.law (spLaw K) := by
  obtain ⟨fd, F⟩ := T.F_law
  refine Fun_okN F sc_law (fun vs H Q E h => ?_) (fun _ _ _ _ _ _ us hl => match us, hl with | [_], _ => rfl) (fun cdv A' outer s H vs Q E hr hg h => ?_)
  · obtain ⟨_, _, rfl, _⟩ := h
    rfl
  obtain ⟨a, ns, rfl, hS, hl, q⟩ := h
  refine ⟨_, ((pss_cons (ps_set (i := 1) sc_law.nd rfl (Or.inl rfl) (pe_callGd (ok_l_well T) (hr.mono (by decide)) hg rfl T.m_l_well T.k_l_well pass0 (pa_cons (pv 0) pa_nil)))
    (pss_cons (ps_for PassesOwn.never rfl (pi_range1 (by rfl) T.n_range (pa_cons pe_int pa_nil)) (pg_name (i := 2) sc_law.nd rfl (Or.inl rfl))
    (pss_cons (ps_if (PW.pt (pw_or (pt_not (pt_val (pe_callGd (ok_l_text_right T) (hr.mono (by decide)) hg rfl T.m_l_text_right T.k_l_text_right pass0 (pa_cons (pv 1) pa_nil)))) (pw_or1 (pt_not (pt_val (pe_callGd (ok_l_number_right T) (hr.mono (by decide)) hg rfl T.m_l_number_right T.k_l_number_right pass0 (pa_cons (pv 1) pa_nil))))))) (pss_one (ps_ret pe_bl)) pss_nil)
    (pss_one (ps_if (PW.pt (pw_or (pt_not (pt_val (pe_callGd (ok_l_odd_right T) (hr.mono (by decide)) hg rfl T.m_l_odd_right T.k_l_odd_right pass0 (pa_cons (pv 1) pa_nil)))) (pw_or1 (pt_not (pt_val (pe_callGd (ok_l_joined_right T) (hr.mono (by decide)) hg rfl T.m_l_joined_right T.k_l_joined_right pass0 (pa_cons (pv 1) pa_nil))))))) (pss_one (ps_ret pe_bl)) pss_nil))))
    (pss_one (ps_ret pe_bl))))), ?_⟩
  repeat walk_at "s"
  refine Iv.mk ⟨a, ns, rfl, hS, hl, fun H1 p S1 hp ⟨c, cs, W1⟩ => ?_⟩
  repeat walk_at "s"
  refine for_it walk_range (fun i σ H' => Iv (∃ (v : Option V), σ = [some (.ref a), some (.ref p), v] ∧ WellAt H' ⟨p, c, cs⟩ (606 * i))) (Iv.mk ⟨_, rfl, W1⟩) (fun _ _ _ _ _ => trivial) ?_ ?_
  · rintro i x σ H2 H3 hi hI ⟨rfl, rfl⟩
    obtain ⟨v, rfl, W2⟩ := hI.out
    have hi9 : i < 9 := hi
    repeat walk_at "s"
    refine Iv.mk ⟨_, _, rfl, W2, by omega, fun H4 W3 _ => ?_⟩
    repeat walk_at "s"
    refine Iv.mk ⟨_, _, rfl, W3, by omega, fun H5 W4 _ => ?_⟩
    repeat walk_at "s"
    refine Iv.mk ⟨_, _, rfl, W4, by omega, fun H6 W5 _ => ?_⟩
    repeat walk_at "s"
    refine Iv.mk ⟨_, _, rfl, W5, by omega, fun H7 W6 _ => ?_⟩
    repeat walk_at "s"
    exact Iv.mk ⟨_, rfl, W6.mono (by omega)⟩
  · intro σ H2 hI
    obtain ⟨v, rfl, W2⟩ := hI.out
    repeat walk_at "s"
    exact q _
end
end K01

namespace K01
open PySem PySem.Spec PyProof.Rows L2 MyL
theorem txt_mk {K : PySem.W.Frag} {h : Heap} {mg : Str → Option Value} {fa : Addr} (X : K.In h) (G : h.Ns mainGlobals mg) (hfa : mg "law" = some (.ref fa))
    {f_is_integer f_is_within f_is_stem f_is_name f_joined_name f_l_well f_l_dip f_l_pick f_l_alphabet f_l_stem f_l_text f_l_sound f_l_stems f_l_text_right f_l_number_right f_l_odd_right f_l_joined_right f_law e_DimError N_DimError e_TooMany N_TooMany j_TooMany : Addr} {oc_is_integer kV_is_integer dc_is_integer pm_is_integer cd_is_integer ct_is_integer oc_is_within kV_is_within dc_is_within pm_is_within cd_is_within ct_is_within oc_is_stem kV_is_stem dc_is_stem pm_is_stem cd_is_stem ct_is_stem oc_is_name kV_is_name dc_is_name pm_is_name cd_is_name ct_is_name oc_joined_name kV_joined_name dc_joined_name pm_joined_name cd_joined_name ct_joined_name oc_l_well kV_l_well dc_l_well pm_l_well cd_l_well ct_l_well oc_l_dip kV_l_dip dc_l_dip pm_l_dip cd_l_dip ct_l_dip oc_l_pick kV_l_pick dc_l_pick pm_l_pick cd_l_pick ct_l_pick oc_l_alphabet kV_l_alphabet dc_l_alphabet pm_l_alphabet cd_l_alphabet ct_l_alphabet oc_l_stem kV_l_stem dc_l_stem pm_l_stem cd_l_stem ct_l_stem oc_l_text kV_l_text dc_l_text pm_l_text cd_l_text ct_l_text oc_l_sound kV_l_sound dc_l_sound pm_l_sound cd_l_sound ct_l_sound oc_l_stems kV_l_stems dc_l_stems pm_l_stems cd_l_stems ct_l_stems oc_l_text_right kV_l_text_right dc_l_text_right pm_l_text_right cd_l_text_right ct_l_text_right oc_l_number_right kV_l_number_right dc_l_number_right pm_l_number_right cd_l_number_right ct_l_number_right oc_l_odd_right kV_l_odd_right dc_l_odd_right pm_l_odd_right cd_l_odd_right ct_l_odd_right oc_l_joined_right kV_l_joined_right dc_l_joined_right pm_l_joined_right cd_l_joined_right ct_l_joined_right oc_law kV_law dc_law pm_law cd_law ct_law oc_jTooMany kV_jTooMany dc_jTooMany pm_jTooMany cd_jTooMany ct_jTooMany : Value} {od_is_integer an_is_integer od_is_within an_is_within od_is_stem an_is_stem od_is_name an_is_name od_joined_name an_joined_name od_l_well an_l_well od_l_dip an_l_dip od_l_pick an_l_pick od_l_alphabet an_l_alphabet od_l_stem an_l_stem od_l_text an_l_text od_l_sound an_l_sound od_l_stems an_l_stems od_l_text_right an_l_text_right od_l_number_right an_l_number_right od_l_odd_right an_l_odd_right od_l_joined_right an_l_joined_right od_law an_law od_jTooMany an_jTooMany : Option Addr} {sl_is_integer sl_is_within sl_is_stem sl_is_name sl_joined_name sl_l_well sl_l_dip sl_l_pick sl_l_alphabet sl_l_stem sl_l_text sl_l_sound sl_l_stems sl_l_text_right sl_l_number_right sl_l_odd_right sl_l_joined_right sl_law sl_jTooMany : Array (Option Value)}
    {t_MOST_STEMS : Tok}
    {t_MOST_SIGNS : Tok}
    {t_SMALL : Tok}
    {t_DIGITS : Tok}
    {nm_DimError q_DimError : Str} {bs_DimError sub_DimError : List Value} {sn_DimError : List Str} {ab_DimError : Bool} {col_DimError : Option Bool} {dd_DimError : Option Addr} {x0_DimError x1_DimError x2_DimError x3_DimError x5_DimError : Option Value}
    {nm_TooMany q_TooMany : Str} {bs_TooMany sub_TooMany : List Value} {sn_TooMany : List Str} {ab_TooMany : Bool} {col_TooMany : Option Bool} {dd_TooMany : Option Addr} {x0_TooMany x1_TooMany x2_TooMany x3_TooMany x5_TooMany : Option Value}
    (a_is_integer : PySem.W.nsIn K mainGlobals "is_integer" = some (some (.ref f_is_integer)))
    (l_is_integer : K.lookup f_is_integer = some ⟨oc_is_integer, od_is_integer, .func (PySem.W.fnOf "is_integer" "is_integer" (defArgs s_is_integer) (defBody s_is_integer) (defScope s_is_integer) .none kV_is_integer dc_is_integer pm_is_integer an_is_integer cd_is_integer ct_is_integer), sl_is_integer⟩)
    (c_is_integer : PySem.W.codeIn K cd_is_integer "is_integer" = true)
    (k_is_integer : PySem.W.keepIn K (.ref f_is_integer) = true)
    (a_is_within : PySem.W.nsIn K mainGlobals "is_within" = some (some (.ref f_is_within)))
    (l_is_within : K.lookup f_is_within = some ⟨oc_is_within, od_is_within, .func (PySem.W.fnOf "is_within" "is_within" (defArgs s_is_within) (defBody s_is_within) (defScope s_is_within) .none kV_is_within dc_is_within pm_is_within an_is_within cd_is_within ct_is_within), sl_is_within⟩)
    (c_is_within : PySem.W.codeIn K cd_is_within "is_within" = true)
    (k_is_within : PySem.W.keepIn K (.ref f_is_within) = true)
    (a_is_stem : PySem.W.nsIn K mainGlobals "is_stem" = some (some (.ref f_is_stem)))
    (l_is_stem : K.lookup f_is_stem = some ⟨oc_is_stem, od_is_stem, .func (PySem.W.fnOf "is_stem" "is_stem" (defArgs s_is_stem) (defBody s_is_stem) (defScope s_is_stem) .none kV_is_stem dc_is_stem pm_is_stem an_is_stem cd_is_stem ct_is_stem), sl_is_stem⟩)
    (c_is_stem : PySem.W.codeIn K cd_is_stem "is_stem" = true)
    (k_is_stem : PySem.W.keepIn K (.ref f_is_stem) = true)
    (a_is_name : PySem.W.nsIn K mainGlobals "is_name" = some (some (.ref f_is_name)))
    (l_is_name : K.lookup f_is_name = some ⟨oc_is_name, od_is_name, .func (PySem.W.fnOf "is_name" "is_name" (defArgs s_is_name) (defBody s_is_name) (defScope s_is_name) .none kV_is_name dc_is_name pm_is_name an_is_name cd_is_name ct_is_name), sl_is_name⟩)
    (c_is_name : PySem.W.codeIn K cd_is_name "is_name" = true)
    (k_is_name : PySem.W.keepIn K (.ref f_is_name) = true)
    (a_joined_name : PySem.W.nsIn K mainGlobals "joined_name" = some (some (.ref f_joined_name)))
    (l_joined_name : K.lookup f_joined_name = some ⟨oc_joined_name, od_joined_name, .func (PySem.W.fnOf "joined_name" "joined_name" (defArgs s_joined_name) (defBody s_joined_name) (defScope s_joined_name) .none kV_joined_name dc_joined_name pm_joined_name an_joined_name cd_joined_name ct_joined_name), sl_joined_name⟩)
    (c_joined_name : PySem.W.codeIn K cd_joined_name "joined_name" = true)
    (k_joined_name : PySem.W.keepIn K (.ref f_joined_name) = true)
    (a_l_well : PySem.W.nsIn K mainGlobals "_law_well" = some (some (.ref f_l_well)))
    (l_l_well : K.lookup f_l_well = some ⟨oc_l_well, od_l_well, .func (PySem.W.fnOf "_law_well" "_law_well" (defArgs s_l_well) (defBody s_l_well) (defScope s_l_well) .none kV_l_well dc_l_well pm_l_well an_l_well cd_l_well ct_l_well), sl_l_well⟩)
    (c_l_well : PySem.W.codeIn K cd_l_well "_law_well" = true)
    (k_l_well : PySem.W.keepIn K (.ref f_l_well) = true)
    (a_l_dip : PySem.W.nsIn K mainGlobals "_law_dip" = some (some (.ref f_l_dip)))
    (l_l_dip : K.lookup f_l_dip = some ⟨oc_l_dip, od_l_dip, .func (PySem.W.fnOf "_law_dip" "_law_dip" (defArgs s_l_dip) (defBody s_l_dip) (defScope s_l_dip) .none kV_l_dip dc_l_dip pm_l_dip an_l_dip cd_l_dip ct_l_dip), sl_l_dip⟩)
    (c_l_dip : PySem.W.codeIn K cd_l_dip "_law_dip" = true)
    (k_l_dip : PySem.W.keepIn K (.ref f_l_dip) = true)
    (a_l_pick : PySem.W.nsIn K mainGlobals "_law_pick" = some (some (.ref f_l_pick)))
    (l_l_pick : K.lookup f_l_pick = some ⟨oc_l_pick, od_l_pick, .func (PySem.W.fnOf "_law_pick" "_law_pick" (defArgs s_l_pick) (defBody s_l_pick) (defScope s_l_pick) .none kV_l_pick dc_l_pick pm_l_pick an_l_pick cd_l_pick ct_l_pick), sl_l_pick⟩)
    (c_l_pick : PySem.W.codeIn K cd_l_pick "_law_pick" = true)
    (k_l_pick : PySem.W.keepIn K (.ref f_l_pick) = true)
    (a_l_alphabet : PySem.W.nsIn K mainGlobals "_law_alphabet" = some (some (.ref f_l_alphabet)))
    (l_l_alphabet : K.lookup f_l_alphabet = some ⟨oc_l_alphabet, od_l_alphabet, .func (PySem.W.fnOf "_law_alphabet" "_law_alphabet" (defArgs s_l_alphabet) (defBody s_l_alphabet) (defScope s_l_alphabet) .none kV_l_alphabet dc_l_alphabet pm_l_alphabet an_l_alphabet cd_l_alphabet ct_l_alphabet), sl_l_alphabet⟩)
    (c_l_alphabet : PySem.W.codeIn K cd_l_alphabet "_law_alphabet" = true)
    (k_l_alphabet : PySem.W.keepIn K (.ref f_l_alphabet) = true)
    (a_l_stem : PySem.W.nsIn K mainGlobals "_law_stem" = some (some (.ref f_l_stem)))
    (l_l_stem : K.lookup f_l_stem = some ⟨oc_l_stem, od_l_stem, .func (PySem.W.fnOf "_law_stem" "_law_stem" (defArgs s_l_stem) (defBody s_l_stem) (defScope s_l_stem) .none kV_l_stem dc_l_stem pm_l_stem an_l_stem cd_l_stem ct_l_stem), sl_l_stem⟩)
    (c_l_stem : PySem.W.codeIn K cd_l_stem "_law_stem" = true)
    (k_l_stem : PySem.W.keepIn K (.ref f_l_stem) = true)
    (a_l_text : PySem.W.nsIn K mainGlobals "_law_text" = some (some (.ref f_l_text)))
    (l_l_text : K.lookup f_l_text = some ⟨oc_l_text, od_l_text, .func (PySem.W.fnOf "_law_text" "_law_text" (defArgs s_l_text) (defBody s_l_text) (defScope s_l_text) .none kV_l_text dc_l_text pm_l_text an_l_text cd_l_text ct_l_text), sl_l_text⟩)
    (c_l_text : PySem.W.codeIn K cd_l_text "_law_text" = true)
    (k_l_text : PySem.W.keepIn K (.ref f_l_text) = true)
    (a_l_sound : PySem.W.nsIn K mainGlobals "_law_sound" = some (some (.ref f_l_sound)))
    (l_l_sound : K.lookup f_l_sound = some ⟨oc_l_sound, od_l_sound, .func (PySem.W.fnOf "_law_sound" "_law_sound" (defArgs s_l_sound) (defBody s_l_sound) (defScope s_l_sound) .none kV_l_sound dc_l_sound pm_l_sound an_l_sound cd_l_sound ct_l_sound), sl_l_sound⟩)
    (c_l_sound : PySem.W.codeIn K cd_l_sound "_law_sound" = true)
    (k_l_sound : PySem.W.keepIn K (.ref f_l_sound) = true)
    (a_l_stems : PySem.W.nsIn K mainGlobals "_law_stems" = some (some (.ref f_l_stems)))
    (l_l_stems : K.lookup f_l_stems = some ⟨oc_l_stems, od_l_stems, .func (PySem.W.fnOf "_law_stems" "_law_stems" (defArgs s_l_stems) (defBody s_l_stems) (defScope s_l_stems) .none kV_l_stems dc_l_stems pm_l_stems an_l_stems cd_l_stems ct_l_stems), sl_l_stems⟩)
    (c_l_stems : PySem.W.codeIn K cd_l_stems "_law_stems" = true)
    (k_l_stems : PySem.W.keepIn K (.ref f_l_stems) = true)
    (a_l_text_right : PySem.W.nsIn K mainGlobals "_law_text_right" = some (some (.ref f_l_text_right)))
    (l_l_text_right : K.lookup f_l_text_right = some ⟨oc_l_text_right, od_l_text_right, .func (PySem.W.fnOf "_law_text_right" "_law_text_right" (defArgs s_l_text_right) (defBody s_l_text_right) (defScope s_l_text_right) .none kV_l_text_right dc_l_text_right pm_l_text_right an_l_text_right cd_l_text_right ct_l_text_right), sl_l_text_right⟩)
    (c_l_text_right : PySem.W.codeIn K cd_l_text_right "_law_text_right" = true)
    (k_l_text_right : PySem.W.keepIn K (.ref f_l_text_right) = true)
    (a_l_number_right : PySem.W.nsIn K mainGlobals "_law_number_right" = some (some (.ref f_l_number_right)))
    (l_l_number_right : K.lookup f_l_number_right = some ⟨oc_l_number_right, od_l_number_right, .func (PySem.W.fnOf "_law_number_right" "_law_number_right" (defArgs s_l_number_right) (defBody s_l_number_right) (defScope s_l_number_right) .none kV_l_number_right dc_l_number_right pm_l_number_right an_l_number_right cd_l_number_right ct_l_number_right), sl_l_number_right⟩)
    (c_l_number_right : PySem.W.codeIn K cd_l_number_right "_law_number_right" = true)
    (k_l_number_right : PySem.W.keepIn K (.ref f_l_number_right) = true)
    (a_l_odd_right : PySem.W.nsIn K mainGlobals "_law_odd_right" = some (some (.ref f_l_odd_right)))
    (l_l_odd_right : K.lookup f_l_odd_right = some ⟨oc_l_odd_right, od_l_odd_right, .func (PySem.W.fnOf "_law_odd_right" "_law_odd_right" (defArgs s_l_odd_right) (defBody s_l_odd_right) (defScope s_l_odd_right) .none kV_l_odd_right dc_l_odd_right pm_l_odd_right an_l_odd_right cd_l_odd_right ct_l_odd_right), sl_l_odd_right⟩)
    (c_l_odd_right : PySem.W.codeIn K cd_l_odd_right "_law_odd_right" = true)
    (k_l_odd_right : PySem.W.keepIn K (.ref f_l_odd_right) = true)
    (a_l_joined_right : PySem.W.nsIn K mainGlobals "_law_joined_right" = some (some (.ref f_l_joined_right)))
    (l_l_joined_right : K.lookup f_l_joined_right = some ⟨oc_l_joined_right, od_l_joined_right, .func (PySem.W.fnOf "_law_joined_right" "_law_joined_right" (defArgs s_l_joined_right) (defBody s_l_joined_right) (defScope s_l_joined_right) .none kV_l_joined_right dc_l_joined_right pm_l_joined_right an_l_joined_right cd_l_joined_right ct_l_joined_right), sl_l_joined_right⟩)
    (c_l_joined_right : PySem.W.codeIn K cd_l_joined_right "_law_joined_right" = true)
    (k_l_joined_right : PySem.W.keepIn K (.ref f_l_joined_right) = true)
    (a_law : PySem.W.nsIn K mainGlobals "law" = some (some (.ref f_law)))
    (l_law : K.lookup f_law = some ⟨oc_law, od_law, .func (PySem.W.fnOf "law" "law" (defArgs s_law) (defBody s_law) (defScope s_law) .none kV_law dc_law pm_law an_law cd_law ct_law), sl_law⟩)
    (c_law : PySem.W.codeIn K cd_law "law" = true)
    (k_law : PySem.W.keepIn K (.ref f_law) = true)
    (z_len : PySem.W.nsIn K mainGlobals "len" = some none)
    (z_int : PySem.W.nsIn K mainGlobals "int" = some none)
    (z_abs : PySem.W.nsIn K mainGlobals "abs" = some none)
    (z_isinstance : PySem.W.nsIn K mainGlobals "isinstance" = some none)
    (z_str : PySem.W.nsIn K mainGlobals "str" = some none)
    (z_bool : PySem.W.nsIn K mainGlobals "bool" = some none)
    (z_range : PySem.W.nsIn K mainGlobals "range" = some none)
    (z_enumerate : PySem.W.nsIn K mainGlobals "enumerate" = some none)
    (z_list : PySem.W.nsIn K mainGlobals "list" = some none)
    (z_repr : PySem.W.nsIn K mainGlobals "repr" = some none)
    (z_ValueError : PySem.W.nsIn K mainGlobals "ValueError" = some none)
    (g_MOST_STEMS : PySem.W.nsIn K mainGlobals "MOST_STEMS" = some (some (.int 6 t_MOST_STEMS)))
    (g_MOST_SIGNS : PySem.W.nsIn K mainGlobals "MOST_SIGNS" = some (some (.int 12 t_MOST_SIGNS)))
    (g_SMALL : PySem.W.nsIn K mainGlobals "SMALL" = some (some (.str "abcdefghijklmnopqrstuvwxyz" t_SMALL)))
    (g_DIGITS : PySem.W.nsIn K mainGlobals "DIGITS" = some (some (.str "0123456789" t_DIGITS)))
    (g_DimError : PySem.W.nsIn K mainGlobals "DimError" = some (some (.ref e_DimError)))
    (xL_DimError : K.lookup e_DimError = some (excClassObj nm_DimError q_DimError e_DimError N_DimError bs_DimError [.type "ValueError", .type "Exception", .type "BaseException", .type "object"] true sn_DimError sub_DimError ab_DimError col_DimError dd_DimError x0_DimError x1_DimError x2_DimError x3_DimError x5_DimError "ValueError.__new__"))
    (sa_DimError : PySem.W.findIn K (.ref e_DimError) "__setattr__" = some (some (.builtin "object.__setattr__")))
    (ga_DimError : PySem.W.findIn K (.ref e_DimError) "__getattribute__" = some (some (.builtin "BaseException.__getattribute__")))
    (gg_DimError : PySem.W.findIn K (.ref e_DimError) "__getattr__" = some none)
    (ha_DimError : PySem.W.findIn K (.ref e_DimError) "__class__" = some (some (.builtin "object.__class__")))
    (kC_DimError : PySem.W.keepIn K (.ref e_DimError) = true)
    (exC_DimError : PySem.W.subIn K (.ref e_DimError) (.type "BaseException") = some true)
    (tyC_DimError : PySem.W.typeIn K (.ref e_DimError) = some (.type "type"))
    (hdC_DimError : PySem.W.hasDictIn K e_DimError = true)
    (hm_DimError : PySem.W.mroIn K e_DimError (.type "object") = some true)
    (g_TooMany : PySem.W.nsIn K mainGlobals "TooMany" = some (some (.ref e_TooMany)))
    (xL_TooMany : K.lookup e_TooMany = some (excClassObj nm_TooMany q_TooMany e_TooMany N_TooMany bs_TooMany [.ref e_DimError, .type "ValueError", .type "Exception", .type "BaseException", .type "object"] true sn_TooMany sub_TooMany ab_TooMany col_TooMany dd_TooMany x0_TooMany x1_TooMany x2_TooMany x3_TooMany x5_TooMany "ValueError.__new__"))
    (sa_TooMany : PySem.W.findIn K (.ref e_TooMany) "__setattr__" = some (some (.builtin "object.__setattr__")))
    (ga_TooMany : PySem.W.findIn K (.ref e_TooMany) "__getattribute__" = some (some (.builtin "BaseException.__getattribute__")))
    (gg_TooMany : PySem.W.findIn K (.ref e_TooMany) "__getattr__" = some none)
    (ha_TooMany : PySem.W.findIn K (.ref e_TooMany) "__class__" = some (some (.builtin "object.__class__")))
    (kC_TooMany : PySem.W.keepIn K (.ref e_TooMany) = true)
    (exC_TooMany : PySem.W.subIn K (.ref e_TooMany) (.type "BaseException") = some true)
    (tyC_TooMany : PySem.W.typeIn K (.ref e_TooMany) = some (.type "type"))
    (hdC_TooMany : PySem.W.hasDictIn K e_TooMany = true)
    (hm_TooMany : PySem.W.mroIn K e_TooMany (.type "object") = some true)
    (f1_TooMany : PySem.W.findIn K (.ref e_TooMany) "what" = some none)
    (f2_TooMany : PySem.W.findIn K (.ref e_TooMany) "most" = some none)
    (iC_TooMany : PySem.W.findIn K (.ref e_TooMany) "__init__" = some (some (.ref j_TooMany)))
    (tI_TooMany : PySem.W.typeIn K (.ref j_TooMany) = some (.type "function"))
    (lI_TooMany : K.lookup j_TooMany = some ⟨oc_jTooMany, od_jTooMany, .func (PySem.W.fnOf "__init__" "TooMany.__init__" (defArgs s_TooMany_init) (defBody s_TooMany_init) (defScope s_TooMany_init) .none kV_jTooMany dc_jTooMany pm_jTooMany an_jTooMany cd_jTooMany ct_jTooMany), sl_jTooMany⟩)
    (cI_TooMany : PySem.W.codeIn K cd_jTooMany "TooMany.__init__" = true)
    (kI_TooMany : PySem.W.keepIn K (.ref j_TooMany) = true)
    (s_TooMany_TooMany : PySem.W.subIn K (.ref e_TooMany) (.ref e_TooMany) = some true)
    (s_TooMany_DimError : PySem.W.subIn K (.ref e_TooMany) (.ref e_DimError) = some true)
    (hn_all : PySem.W.specialIn K (.builtin "object.__class__") "__get__" = some (some (.builtin "getset_descriptor.__get__")))
    (ht_all : PySem.W.takesIn K (.builtin "object.__class__") = some true)
    : ∃ A : Adr, A.law = fa ∧ Txt K mg A := by
  have e := hfa.symm.trans (PySem.W.mg_of X G a_law)
  cases e
  exact ⟨⟨f_is_integer, f_is_within, f_is_stem, f_is_name, f_joined_name, f_l_well, f_l_dip, f_l_pick, f_l_alphabet, f_l_stem, f_l_text, f_l_sound, f_l_stems, f_l_text_right, f_l_number_right, f_l_odd_right, f_l_joined_right, fa, e_DimError, e_TooMany, j_TooMany⟩, rfl, { m_is_integer := PySem.W.mg_of X G a_is_integer, k_is_integer := k_is_integer, F_is_integer := ⟨_, fun_mk (st := s_is_integer) l_is_integer c_is_integer k_is_integer⟩, m_is_within := PySem.W.mg_of X G a_is_within, k_is_within := k_is_within, F_is_within := ⟨_, fun_mk (st := s_is_within) l_is_within c_is_within k_is_within⟩, m_is_stem := PySem.W.mg_of X G a_is_stem, k_is_stem := k_is_stem, F_is_stem := ⟨_, fun_mk (st := s_is_stem) l_is_stem c_is_stem k_is_stem⟩, m_is_name := PySem.W.mg_of X G a_is_name, k_is_name := k_is_name, F_is_name := ⟨_, fun_mk (st := s_is_name) l_is_name c_is_name k_is_name⟩, m_joined_name := PySem.W.mg_of X G a_joined_name, k_joined_name := k_joined_name, F_joined_name := ⟨_, fun_mk (st := s_joined_name) l_joined_name c_joined_name k_joined_name⟩, m_l_well := PySem.W.mg_of X G a_l_well, k_l_well := k_l_well, F_l_well := ⟨_, fun_mk (st := s_l_well) l_l_well c_l_well k_l_well⟩, m_l_dip := PySem.W.mg_of X G a_l_dip, k_l_dip := k_l_dip, F_l_dip := ⟨_, fun_mk (st := s_l_dip) l_l_dip c_l_dip k_l_dip⟩, m_l_pick := PySem.W.mg_of X G a_l_pick, k_l_pick := k_l_pick, F_l_pick := ⟨_, fun_mk (st := s_l_pick) l_l_pick c_l_pick k_l_pick⟩, m_l_alphabet := PySem.W.mg_of X G a_l_alphabet, k_l_alphabet := k_l_alphabet, F_l_alphabet := ⟨_, fun_mk (st := s_l_alphabet) l_l_alphabet c_l_alphabet k_l_alphabet⟩, m_l_stem := PySem.W.mg_of X G a_l_stem, k_l_stem := k_l_stem, F_l_stem := ⟨_, fun_mk (st := s_l_stem) l_l_stem c_l_stem k_l_stem⟩, m_l_text := PySem.W.mg_of X G a_l_text, k_l_text := k_l_text, F_l_text := ⟨_, fun_mk (st := s_l_text) l_l_text c_l_text k_l_text⟩, m_l_sound := PySem.W.mg_of X G a_l_sound, k_l_sound := k_l_sound, F_l_sound := ⟨_, fun_mk (st := s_l_sound) l_l_sound c_l_sound k_l_sound⟩, m_l_stems := PySem.W.mg_of X G a_l_stems, k_l_stems := k_l_stems, F_l_stems := ⟨_, fun_mk (st := s_l_stems) l_l_stems c_l_stems k_l_stems⟩, m_l_text_right := PySem.W.mg_of X G a_l_text_right, k_l_text_right := k_l_text_right, F_l_text_right := ⟨_, fun_mk (st := s_l_text_right) l_l_text_right c_l_text_right k_l_text_right⟩, m_l_number_right := PySem.W.mg_of X G a_l_number_right, k_l_number_right := k_l_number_right, F_l_number_right := ⟨_, fun_mk (st := s_l_number_right) l_l_number_right c_l_number_right k_l_number_right⟩, m_l_odd_right := PySem.W.mg_of X G a_l_odd_right, k_l_odd_right := k_l_odd_right, F_l_odd_right := ⟨_, fun_mk (st := s_l_odd_right) l_l_odd_right c_l_odd_right k_l_odd_right⟩, m_l_joined_right := PySem.W.mg_of X G a_l_joined_right, k_l_joined_right := k_l_joined_right, F_l_joined_right := ⟨_, fun_mk (st := s_l_joined_right) l_l_joined_right c_l_joined_right k_l_joined_right⟩, m_law := PySem.W.mg_of X G a_law, k_law := k_law, F_law := ⟨_, fun_mk (st := s_law) l_law c_law k_law⟩, n_len := PySem.W.mg_none_of X G z_len, n_int := PySem.W.mg_none_of X G z_int, n_abs := PySem.W.mg_none_of X G z_abs, n_isinstance := PySem.W.mg_none_of X G z_isinstance, n_str := PySem.W.mg_none_of X G z_str, n_bool := PySem.W.mg_none_of X G z_bool, n_range := PySem.W.mg_none_of X G z_range, n_enumerate := PySem.W.mg_none_of X G z_enumerate, n_list := PySem.W.mg_none_of X G z_list, n_repr := PySem.W.mg_none_of X G z_repr, n_ValueError := PySem.W.mg_none_of X G z_ValueError, v_MOST_STEMS := ⟨_, PySem.W.mg_of X G g_MOST_STEMS, ⟨_, rfl⟩⟩, v_MOST_SIGNS := ⟨_, PySem.W.mg_of X G g_MOST_SIGNS, ⟨_, rfl⟩⟩, v_SMALL := ⟨_, PySem.W.mg_of X G g_SMALL, ⟨_, rfl⟩⟩, v_DIGITS := ⟨_, PySem.W.mg_of X G g_DIGITS, ⟨_, rfl⟩⟩, m_DimError := PySem.W.mg_of X G g_DimError, E_DimError := ⟨⟨⟨nm_DimError, q_DimError, N_DimError, bs_DimError, _, sn_DimError, sub_DimError, ab_DimError, col_DimError, dd_DimError, x0_DimError, x1_DimError, x2_DimError, x3_DimError, x5_DimError, xL_DimError, rfl⟩, sa_DimError, exC_DimError, tyC_DimError, kC_DimError⟩, ⟨ga_DimError, gg_DimError, exC_DimError, hdC_DimError⟩, ⟨ga_DimError, gg_DimError, exC_DimError, hdC_DimError, ha_DimError, hn_all, ht_all, hm_DimError⟩⟩, m_TooMany := PySem.W.mg_of X G g_TooMany, iC_TooMany := iC_TooMany, tI_TooMany := tI_TooMany, FI_TooMany := ⟨_, fun_mk (st := s_TooMany_init) lI_TooMany cI_TooMany kI_TooMany⟩, E_TooMany := ⟨⟨⟨⟨nm_TooMany, q_TooMany, N_TooMany, bs_TooMany, _, sn_TooMany, sub_TooMany, ab_TooMany, col_TooMany, dd_TooMany, x0_TooMany, x1_TooMany, x2_TooMany, x3_TooMany, x5_TooMany, xL_TooMany, rfl⟩, sa_TooMany, exC_TooMany, tyC_TooMany, kC_TooMany⟩, ⟨ga_TooMany, gg_TooMany, exC_TooMany, hdC_TooMany⟩, ⟨ga_TooMany, gg_TooMany, exC_TooMany, hdC_TooMany, ha_TooMany, hn_all, ht_all, hm_TooMany⟩⟩, f1_TooMany, f2_TooMany⟩, sub_TooMany_TooMany := s_TooMany_TooMany, sub_TooMany_DimError := s_TooMany_DimError }⟩
theorem done {P : Program} {w : World} {K : PySem.W.Frag} {mg : Str → Option Value} {base : Heap} {fa : Addr} (h : ∃ A : Adr, A.law = fa ∧ Txt K mg A) : FnG P w K mg base CX0 6 fa (spLaw K) := by
  obtain ⟨A, rfl, T⟩ := h
  exact ok_law T
theorem walk {l : PySem.W.OpenLaw} {q : Program} {loose : List Str} {XP : (Str → Option Value) → Heap → Prop} {YP : World → Heap → Prop} {d : DefRec} {K : Params → PySem.W.Frag} (hn : l.most = some 63) (hdf : d.params.defaults = [])
    (hY : ∀ (w : World) (h : Heap), YP w h → (K w.params).In h)
    (F : ∀ (w : World) (mg : Str → Option Value) (fa : Addr) (h : Heap), (K w.params).In h → h.Ns mainGlobals mg → mg d.name = some (.ref fa) → ∃ A : Adr, A.law = fa ∧ Txt (K w.params) mg A) :
    PySem.W.WalkO q loose XP YP l.row.toRowW d [] (fun f vs => PySem.call f vs) :=
  MyL.walk_ofG (n := 63) (k := 6) (CX := fun _ => CX0) (sp := fun w => spLaw (K w.params)) hn (by decide) hdf ⟨rfl, by decide, by decide⟩ hY (fun w mg fa h k1 k2 k3 base _ _ => done (F w mg fa h k1 k2 k3)) (fun _ _ a ns hl _ hS => ⟨a, ns, rfl, hS, hl, fun _ => rfl⟩) fun _ _ _ _ _ z => z
end K01
open PySem PySem.W PyProof.Rows in
set_option maxRecDepth 100000 in
set_option maxHeartbeats 0 in
theorem PySem.Challenge.cw_dimkeeper_k01_names_and_integers_by_thei_holds : PySem.Challenge.rw_dimkeeper_k01_names_and_integers_by_thei.Holds := by
  w_on; o_law; k_head; (case hw => w_witness2)
  k_fill
  refine K01.walk (l := PySem.Challenge.rw_dimkeeper_k01_names_and_integers_by_thei) rfl rfl (fun w h Y => PySem.W.kIn_of Y) ?F
  case F =>
    intro w mg fa h KX G hmg
    refine' K01.txt_mk KX G hmg ?a_is_integer ?l_is_integer ?c_is_integer ?k_is_integer ?a_is_within ?l_is_within ?c_is_within ?k_is_within ?a_is_stem ?l_is_stem ?c_is_stem ?k_is_stem ?a_is_name ?l_is_name ?c_is_name ?k_is_name ?a_joined_name ?l_joined_name ?c_joined_name ?k_joined_name ?a_l_well ?l_l_well ?c_l_well ?k_l_well ?a_l_dip ?l_l_dip ?c_l_dip ?k_l_dip ?a_l_pick ?l_l_pick ?c_l_pick ?k_l_pick ?a_l_alphabet ?l_l_alphabet ?c_l_alphabet ?k_l_alphabet ?a_l_stem ?l_l_stem ?c_l_stem ?k_l_stem ?a_l_text ?l_l_text ?c_l_text ?k_l_text ?a_l_sound ?l_l_sound ?c_l_sound ?k_l_sound ?a_l_stems ?l_l_stems ?c_l_stems ?k_l_stems ?a_l_text_right ?l_l_text_right ?c_l_text_right ?k_l_text_right ?a_l_number_right ?l_l_number_right ?c_l_number_right ?k_l_number_right ?a_l_odd_right ?l_l_odd_right ?c_l_odd_right ?k_l_odd_right ?a_l_joined_right ?l_l_joined_right ?c_l_joined_right ?k_l_joined_right ?a_law ?l_law ?c_law ?k_law ?z_len ?z_int ?z_abs ?z_isinstance ?z_str ?z_bool ?z_range ?z_enumerate ?z_list ?z_repr ?z_ValueError ?g_MOST_STEMS ?g_MOST_SIGNS ?g_SMALL ?g_DIGITS ?g_DimError ?xL_DimError ?sa_DimError ?ga_DimError ?gg_DimError ?ha_DimError ?kC_DimError ?exC_DimError ?tyC_DimError ?hdC_DimError ?hm_DimError ?g_TooMany ?xL_TooMany ?sa_TooMany ?ga_TooMany ?gg_TooMany ?ha_TooMany ?kC_TooMany ?exC_TooMany ?tyC_TooMany ?hdC_TooMany ?hm_TooMany ?f1_TooMany ?f2_TooMany ?iC_TooMany ?tI_TooMany ?lI_TooMany ?cI_TooMany ?kI_TooMany ?s_TooMany_TooMany ?s_TooMany_DimError ?hn_all ?ht_all
    (case a_is_integer => first | k_is | rfl)
    (case l_is_integer => first | k_is | rfl)
    (case c_is_integer => first | k_is | rfl)
    (case k_is_integer => first | k_is | rfl)
    (case a_is_within => first | k_is | rfl)
    (case l_is_within => first | k_is | rfl)
    (case c_is_within => first | k_is | rfl)
    (case k_is_within => first | k_is | rfl)
    (case a_is_stem => first | k_is | rfl)
    (case l_is_stem => first | k_is | rfl)
    (case c_is_stem => first | k_is | rfl)
    (case k_is_stem => first | k_is | rfl)
    (case a_is_name => first | k_is | rfl)
    (case l_is_name => first | k_is | rfl)
    (case c_is_name => first | k_is | rfl)
    (case k_is_name => first | k_is | rfl)
    (case a_joined_name => first | k_is | rfl)
    (case l_joined_name => first | k_is | rfl)
    (case c_joined_name => first | k_is | rfl)
    (case k_joined_name => first | k_is | rfl)
    (case a_l_well => first | k_is | rfl)
    (case l_l_well => first | k_is | rfl)
    (case c_l_well => first | k_is | rfl)
    (case k_l_well => first | k_is | rfl)
    (case a_l_dip => first | k_is | rfl)
    (case l_l_dip => first | k_is | rfl)
    (case c_l_dip => first | k_is | rfl)
    (case k_l_dip => first | k_is | rfl)
    (case a_l_pick => first | k_is | rfl)
    (case l_l_pick => first | k_is | rfl)
    (case c_l_pick => first | k_is | rfl)
    (case k_l_pick => first | k_is | rfl)
    (case a_l_alphabet => first | k_is | rfl)
    (case l_l_alphabet => first | k_is | rfl)
    (case c_l_alphabet => first | k_is | rfl)
    (case k_l_alphabet => first | k_is | rfl)
    (case a_l_stem => first | k_is | rfl)
    (case l_l_stem => first | k_is | rfl)
    (case c_l_stem => first | k_is | rfl)
    (case k_l_stem => first | k_is | rfl)
    (case a_l_text => first | k_is | rfl)
    (case l_l_text => first | k_is | rfl)
    (case c_l_text => first | k_is | rfl)
    (case k_l_text => first | k_is | rfl)
    (case a_l_sound => first | k_is | rfl)
    (case l_l_sound => first | k_is | rfl)
    (case c_l_sound => first | k_is | rfl)
    (case k_l_sound => first | k_is | rfl)
    (case a_l_stems => first | k_is | rfl)
    (case l_l_stems => first | k_is | rfl)
    (case c_l_stems => first | k_is | rfl)
    (case k_l_stems => first | k_is | rfl)
    (case a_l_text_right => first | k_is | rfl)
    (case l_l_text_right => first | k_is | rfl)
    (case c_l_text_right => first | k_is | rfl)
    (case k_l_text_right => first | k_is | rfl)
    (case a_l_number_right => first | k_is | rfl)
    (case l_l_number_right => first | k_is | rfl)
    (case c_l_number_right => first | k_is | rfl)
    (case k_l_number_right => first | k_is | rfl)
    (case a_l_odd_right => first | k_is | rfl)
    (case l_l_odd_right => first | k_is | rfl)
    (case c_l_odd_right => first | k_is | rfl)
    (case k_l_odd_right => first | k_is | rfl)
    (case a_l_joined_right => first | k_is | rfl)
    (case l_l_joined_right => first | k_is | rfl)
    (case c_l_joined_right => first | k_is | rfl)
    (case k_l_joined_right => first | k_is | rfl)
    (case a_law => first | k_is | rfl)
    (case l_law => first | k_is | rfl)
    (case c_law => first | k_is | rfl)
    (case k_law => first | k_is | rfl)
    (case z_len => first | k_is | rfl)
    (case z_int => first | k_is | rfl)
    (case z_abs => first | k_is | rfl)
    (case z_isinstance => first | k_is | rfl)
    (case z_str => first | k_is | rfl)
    (case z_bool => first | k_is | rfl)
    (case z_range => first | k_is | rfl)
    (case z_enumerate => first | k_is | rfl)
    (case z_list => first | k_is | rfl)
    (case z_repr => first | k_is | rfl)
    (case z_ValueError => first | k_is | rfl)
    (case g_MOST_STEMS => first | k_is | rfl)
    (case g_MOST_SIGNS => first | k_is | rfl)
    (case g_SMALL => first | k_is | rfl)
    (case g_DIGITS => first | k_is | rfl)
    (case g_DimError => first | k_is | rfl)
    (case xL_DimError => first | k_is | rfl)
    (case sa_DimError => first | k_is | rfl)
    (case ga_DimError => first | k_is | rfl)
    (case gg_DimError => first | k_is | rfl)
    (case ha_DimError => first | k_is | rfl)
    (case kC_DimError => first | k_is | rfl)
    (case exC_DimError => first | k_is | rfl)
    (case tyC_DimError => first | k_is | rfl)
    (case hdC_DimError => first | k_is | rfl)
    (case hm_DimError => first | k_is | rfl)
    (case g_TooMany => first | k_is | rfl)
    (case xL_TooMany => first | k_is | rfl)
    (case sa_TooMany => first | k_is | rfl)
    (case ga_TooMany => first | k_is | rfl)
    (case gg_TooMany => first | k_is | rfl)
    (case ha_TooMany => first | k_is | rfl)
    (case kC_TooMany => first | k_is | rfl)
    (case exC_TooMany => first | k_is | rfl)
    (case tyC_TooMany => first | k_is | rfl)
    (case hdC_TooMany => first | k_is | rfl)
    (case hm_TooMany => first | k_is | rfl)
    (case f1_TooMany => first | k_is | rfl)
    (case f2_TooMany => first | k_is | rfl)
    (case iC_TooMany => first | k_is | rfl)
    (case tI_TooMany => first | k_is | rfl)
    (case lI_TooMany => first | k_is | rfl)
    (case cI_TooMany => first | k_is | rfl)
    (case kI_TooMany => first | k_is | rfl)
    (case s_TooMany_TooMany => first | k_is | rfl)
    (case s_TooMany_DimError => first | k_is | rfl)
    (case hn_all => first | k_is | rfl)
    (case ht_all => first | k_is | rfl)
