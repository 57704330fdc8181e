import PyProof.Rows.All
import Wide.All
import OpenK.AllK
import Wide.FinOn
import HandS.ForMost
import HandS.Exc
import HandS.ExcOwn
import HandS.WordsExc
import HandS.Evl
import HandS.Steps
import HandS.IsInst
import HandS.Style
import HandS.TupAny
import HandS.Defaults
import HandS.Strs
import HandS.Head0
import HandS.Head1
import HandS.Head2
import HandS.HeadEnd
import HandS.EndBits
import HandS.HeadHook1
import HandS.HeadHook2
import PySem.Challenge.RW_runrows_k02_values
set_option Elab.async false
set_option linter.all false
set_option maxRecDepth 100000
set_option maxHeartbeats 4000000
/-! Our own layer: a def by its name, what an expression comes to, over any row. -/
namespace RB
open PySem PySem.Spec PyProof.Rows L2 Evl

/-! ### products of any size that the law's numbers come to -/
theorem op_mulI {X : Cx} : OpR X (binaryOp .Mult) (rI IntMulOk fun i j => .int (i * j)) := opI fun _ _ _ _ _ _ _ hc q => mul_int q hc

/-! ### a def by its name -/
structure Has (P : Program) (w : World) (K : PySem.W.Frag) (mg : Str → Option Value) (base : Heap) (CX : CXT) (x : Str) (k : Nat) (ps : List Str) (dvs : List V) (sp : Sp) : Prop where
  ex : ∃ f fd ds, mg x = some (.ref f) ∧ PySem.W.keepIn K (.ref f) = true ∧ Binds K fd ps ds ∧ Vals dvs ds ∧ FnOk P w K mg base CX k f fd ps sp
theorem Has.mono {P : Program} {w : World} {K : PySem.W.Frag} {mg : Str → Option Value} {base : Heap} {CX : CXT} {x : Str} {k j : Nat} {ps : List Str} {dvs : List V} {sp : Sp} (h : Has P w K mg base CX x k ps dvs sp) (l : k ≤ j) : Has P w K mg base CX x j ps dvs sp := by
  obtain ⟨f, fd, ds, h1, h2, h3, h4, F⟩ := h.ex
  exact ⟨f, fd, ds, h1, h2, h3, h4, F.mono l⟩
/-- a def of the module without defaults, as the head tells it -/
theorem has_of {P : Program} {w : World} {K : PySem.W.Frag} {mg : Str → Option Value} {base : Heap} {CX : CXT} {x : Str} {k : Nat} {ps : List Str} {sp : Sp} {qual : Str} {params : Arguments} {body : List Stmt} {scope : Scope} {f : Addr} {fd : FuncData}
    (g : mg x = some (.ref f)) (F : FunD K x qual params body scope [] [] f fd) (ok : FnOk P w K mg base CX k f fd ps sp)
    (h : ∀ (kV doc pm : Value) (an : Option Addr) (cdv ct : Value) (us : List Value), us.length = ps.length → bindArgs (PySem.W.fnOf x qual params body scope .none kV doc pm an cdv ct) ⟨us, []⟩ = pure (ps.zip us)) : Has P w K mg base CX x k ps [] sp :=
  ⟨f, fd, [], g, F.kp, F.bindsN h, .nil, ok⟩
/-- a def's body, nothing raised -/
theorem okN {P : Program} {w : World} {K : PySem.W.Frag} {mg : Str → Option Value} {base : Heap} {x qual : Str} {params : Arguments} {body : List Stmt} {scope : Scope} {dvs : List V} {kws : List (Str × V)} {f : Addr} {fd : FuncData} {N ps : List Str} {k : Nat} {sp : Sp}
    (F : FunD K x qual params body scope dvs kws f fd) (S : FnScope N ps scope) (len : ∀ vs H Q E, sp vs H Q E → vs.length = ps.length)
    (hbody : ∀ (cdv : Value) (A : Around) (outer : List Env) (s : Shared) (H : Hp) (vs : List V) (Q : VK) (E : XK), Room k (A.deeper (envOfC qual scope s.heap.objs.size f cdv)) → sp vs H Q E →
      ∃ t, PSs (cxOf CX0 P w K mg base N qual scope f cdv A outer s H E).nox body t ∧ t { nx := fun _ H' => Q .non H', rt := Q } (start N vs) H) : FnOk P w K mg base CX0 (k + 1) f fd ps sp :=
  F.ok S len fun cdv A outer s H vs Q E hr hsp => let ⟨t, h, q⟩ := hbody cdv A outer s H vs Q E hr hsp; ⟨t, h.nox, q⟩
section
variable {X : Cx} {CX : CXT} {k : Nat} {ps : List Str} {dvs : List V} {sp : Sp} {E : XK} {x : Str} {p pos : Pos} {e : Expr} {es : List Expr} {t : TA}
theorem pe_callH (h : Has X.prog X.w X.K X.mg X.base CX x k ps dvs sp) (hr : Room k X.A) (hg : Gl X x) (hx : Passes CX X E) (ha : PA X (e :: es) t) (hdb : (x == ("__debug__" : Str)) = false := by decide)
    (he : starEach (e :: es) X.env = (false, eval e X.env) :: starEach es X.env := by rfl) (hpl : (backTo pos (starEach es X.env)).any (·.1) = false := by rfl) : PE X (.Call (.Name x p) (e :: es) [] pos) (tCall sp dvs E t) := by
  obtain ⟨f, fd, ds, hm, hk, hb, hd, F⟩ := h.ex
  exact pe_call F hr hg hm hk hb hd hx ha hdb he hpl
theorem pe_callH0 (h : Has X.prog X.w X.K X.mg X.base CX x k ps dvs sp) (hr : Room k X.A) (hg : Gl X x) (hx : Passes CX X E) (hdb : (x == ("__debug__" : Str)) = false := by decide) : PE X (.Call (.Name x p) [] [] pos) (tCall sp dvs E tNil) := by
  obtain ⟨f, fd, ds, hm, hk, hb, hd, F⟩ := h.ex
  exact pe_call0 F hr hg hm hk hb hd hx hdb
end
section
variable {X : Cx} {x : Str} {pos : Pos}
/-- a module's number, text, object; a built-in type as a value -/
theorem pe_gI {i : Int} (hm : ∃ t, X.mg x = some (.int i t)) (hg : Gl X x := by rfl) (hd : (x == ("__debug__" : Str)) = false := by decide) : PE X (.Name x pos) (tC (.int i)) :=
  let ⟨_, h⟩ := hm
  pe_glob hg h ⟨_, rfl⟩ hd
theorem pe_gS {z : Str} (hm : ∃ t, X.mg x = some (.str z t)) (hg : Gl X x := by rfl) (hd : (x == ("__debug__" : Str)) = false := by decide) : PE X (.Name x pos) (tC (.str z)) :=
  let ⟨_, h⟩ := hm
  pe_glob hg h ⟨_, rfl⟩ hd
theorem pe_gR {a : Addr} (hm : X.mg x = some (.ref a)) (hg : Gl X x := by rfl) (hd : (x == ("__debug__" : Str)) = false := by decide) : PE X (.Name x pos) (tC (.ref a)) := pe_glob hg hm rfl hd
theorem pe_ty {n : String} (hm : X.mg x = none) (hv : bootBuiltins x = some (.type n)) (hg : Gl X x := by rfl) (hn : x ≠ "__name__" := by decide) (hd : (x == ("__debug__" : Str)) = false := by decide) : PE X (.Name x pos) (tC (.ty n)) := pe_bltn hg hm hv rfl hn hd
end
theorem hu1 {A : Around} {k : Nat} (hr : Room k A) : A.units + 1 < cLine := hu_of hr

/-! ### the built-ins, unbound in the module -/
structure Bi (mg : Str → Option Value) : Prop where
  len_ : mg "len" = none
  isinstance_ : mg "isinstance" = none
  int_ : mg "int" = none
  bool_ : mg "bool" = none
  str_ : mg "str" = none
  list_ : mg "list" = none
  tuple_ : mg "tuple" = none
  dict_ : mg "dict" = none
  set_ : mg "set" = none
  range_ : mg "range" = none
  enumerate_ : mg "enumerate" = none
  zip_ : mg "zip" = none
  all_ : mg "all" = none
  sum_ : mg "sum" = none
  max_ : mg "max" = none
  min_ : mg "min" = none
  sorted_ : mg "sorted" = none
  abs_ : mg "abs" = none
  verr_ : mg "ValueError" = none
/-- the facts that the head is asked for, of the built-ins -/
def biFa : List He.Fa := [.free "len", .free "isinstance", .free "int", .free "bool", .free "str", .free "list", .free "tuple", .free "dict", .free "set", .free "range", .free "enumerate", .free "zip", .free "all", .free "sum", .free "max", .free "min", .free "sorted", .free "abs", .free "ValueError"]
theorem fact_of {fa : List He.Fa} {fn : List He.DefD} {K : PySem.W.Frag} (c : He.SaysD fa fn K) {f : He.Fa} (h : f ∈ fa) : f.ok K = true := by
  obtain ⟨i, hi⟩ := List.getElem?_of_mem h
  exact c.fact i hi
theorem bi_of {fa : List He.Fa} {fn : List He.DefD} {K : PySem.W.Frag} {h : Heap} {mg : Str → Option Value} (X : K.In h) (G : h.Ns mainGlobals mg) (c : He.SaysD (biFa ++ fa) fn K) : Bi mg := by
  exact ⟨He.free_ok X G (c.fact 0), He.free_ok X G (c.fact 1), He.free_ok X G (c.fact 2), He.free_ok X G (c.fact 3), He.free_ok X G (c.fact 4), He.free_ok X G (c.fact 5), He.free_ok X G (c.fact 6), He.free_ok X G (c.fact 7), He.free_ok X G (c.fact 8), He.free_ok X G (c.fact 9), He.free_ok X G (c.fact 10), He.free_ok X G (c.fact 11), He.free_ok X G (c.fact 12), He.free_ok X G (c.fact 13), He.free_ok X G (c.fact 14), He.free_ok X G (c.fact 15), He.free_ok X G (c.fact 16), He.free_ok X G (c.fact 17), He.free_ok X G (c.fact 18)⟩

/-! ### values: more of what evaluates to what -/
section
variable {K : PySem.W.Frag} {σ : L2.St} {H H' : Hp} {ta tb tc te tx : TE} {t u : TT} {x y z v : V} {r : R2}
theorem ty_mono {t : Value} (e : Ex H H') (h : TyX K H x t) : TyX K H' x t := by
  cases h with
  | base b =>
    refine .base ?_
    cases b with
    | non => exact .non
    | bl y => exact .bl y
    | int i => exact .int i
    | str y => exact .str y
    | flt y => exact .flt y
    | lst q => exact .lst (e _ _ q)
    | frz q => exact .frz (e _ _ q)
    | tup q => exact .tup (e _ _ q)
    | dK q => exact .dK (e _ _ q)
    | dT q => exact .dT (e _ _ q)
    | ins q cl a b c d => exact .ins (e _ _ q) cl a b c d
  | byt b => exact .byt b
  | set q => exact .set (e _ _ q)
  | kList q c => exact .kList q c
  | kTuple q c => exact .kTuple q c
  | kDict q c => exact .kDict q c
  | fTuple q => exact .fTuple (e _ _ q)
  | fDict q => exact .fDict (e _ _ q)
theorem rc_isi {c : V} {t u : Value} {b : Bool} (k : ClsV c u) (h : TyX K H x t) (hk : PySem.W.kitOne K t u = some b) : RC (rIsi K) [x, c] H (.bl b) := fun H1 e _ q => ⟨x, c, t, u, b, rfl, k, ty_mono e h, hk, q H1 (Ex.refl H1)⟩
theorem ev_chain {p q : Int → Int → Bool} {i j k : Int} (ha : Ev ta σ H (.int i)) (hb : Ev tb σ H (.int j)) (hc : Ev tc σ H (.int k)) :
    Ev (tChain (rI0 fun i j => .bl (p i j)) (rI0 fun i j => .bl (q i j)) ta tb tc) σ H (.bl (p i j && q j k)) := fun H1 e1 Q h =>
  ha H1 e1 _ fun H2 e2 => hb H2 (e1.trans e2) _ fun H3 e3 => ⟨i, j, rfl, rfl, p i j, rfl, by
    generalize p i j = b at h ⊢
    cases b with
    | true =>
      show tc σ H3 fun w' H4 => rI0 (fun i j => V.bl (q i j)) (V.int j) w' H4 Q
      exact hc H3 ((e1.trans e2).trans e3) _ fun H4 e4 => ⟨j, k, rfl, rfl, h H4 ((e2.trans e3).trans e4)⟩
    | false =>
      show Q (.bl false) H3
      exact h H3 (e2.trans e3)⟩
theorem ev_and0 (h1 : Ev ta σ H (.bl false)) : Ev (tAndV ta tb) σ H (.bl false) := ev_andV (b := false) h1 fun z => by cases z
theorem ev_and1 {b : Bool} (h1 : Ev ta σ H (.bl true)) (h2 : Ev tb σ H (.bl b)) : Ev (tAndV ta tb) σ H (.bl b) := ev_is (ev_andV h1 fun _ => h2) rfl
theorem ev_or1 (h1 : Ev ta σ H (.bl true)) : Ev (tOrV ta tb) σ H (.bl true) := ev_orV (b := false) h1 fun z => by cases z
theorem ev_or0 {b : Bool} (h1 : Ev ta σ H (.bl false)) (h2 : Ev tb σ H (.bl b)) : Ev (tOrV ta tb) σ H (.bl b) := ev_is (ev_orV h1 fun _ => h2) rfl
theorem ev_notT (h1 : Ev ta σ H (.bl true)) : Ev (tNotV ta) σ H (.bl false) := ev_notV h1
theorem ev_notF (h1 : Ev ta σ H (.bl false)) : Ev (tNotV ta) σ H (.bl true) := ev_notV h1
theorem et_and0 (h1 : EvT t σ H false) : EvT (tAnd t u) σ H false := et_and (b := false) h1 fun z => by cases z
theorem et_and1 {b : Bool} (h1 : EvT t σ H true) (h2 : EvT u σ H b) : EvT (tAnd t u) σ H b := et_is (et_and h1 fun _ => h2) rfl
theorem et_or1 (h1 : EvT t σ H true) : EvT (tOr t u) σ H true := et_or (b := false) h1 fun z => by cases z
theorem et_or0 {b : Bool} (h1 : EvT t σ H false) (h2 : EvT u σ H b) : EvT (tOr t u) σ H b := et_is (et_or h1 fun _ => h2) rfl
theorem et_notT (h1 : EvT t σ H true) : EvT (tNot t) σ H false := et_not h1
theorem et_notF (h1 : EvT t σ H false) : EvT (tNot t) σ H true := et_not h1
theorem rv_isB {a b : Bool} : RV rIsB (.bl a) (.bl b) H (.bl (decide (a = b))) := fun H1 _ _ q => ⟨a, b, rfl, rfl, q H1 (Ex.refl H1)⟩
theorem rv_notB {a b : Bool} : RV rNotB (.bl a) (.bl b) H (.bl (!decide (a = b))) := fun H1 _ _ q => ⟨a, b, rfl, rfl, q H1 (Ex.refl H1)⟩
theorem mul_l {i j : Int} (h : Builtin.Int.intBits i ≤ 64) : IntMulOk i j := .of_left h
theorem mul_r {i j : Int} (h : Builtin.Int.intBits j ≤ 64) : IntMulOk i j := .of_right h
theorem mul_lb {i j : Int} (h1 : -(2 ^ 64) < i) (h2 : i < 2 ^ 64) : IntMulOk i j := .of_left (intBits_le_64 h1 h2)
theorem mul_rb {i j : Int} (h1 : -(2 ^ 64) < j) (h2 : j < 2 ^ 64) : IntMulOk i j := .of_right (intBits_le_64 h1 h2)
end

theorem ea_is {σ : L2.St} {H : Hp} {ta : TA} {vs ws : List V} (h : EvA ta σ H vs) (e : vs = ws) : EvA ta σ H ws := by
  rw [← e]
  exact h
/-! ### values by what is true of them -/
def EvP (Pr : Hp → V → Prop) (te : TE) (σ : L2.St) (H : Hp) : Prop := ∀ H1, Ex H H1 → ∀ Q : VK, (∀ v H2, Ex H1 H2 → Pr H2 v → Q v H2) → te σ H1 Q
def EvAP (Pr : Hp → V → Prop) (n : Nat) (ta : TA) (σ : L2.St) (H : Hp) : Prop := ∀ H1, Ex H H1 → ∀ Q : List V → Hp → Prop, (∀ vs H2, Ex H1 H2 → vs.length = n → (∀ x ∈ vs, Pr H2 x) → Q vs H2) → ta σ H1 Q
def Mono (Pr : Hp → V → Prop) : Prop := ∀ H H' x, Ex H H' → Pr H x → Pr H' x
section
variable {K : PySem.W.Frag} {σ : L2.St} {H H' : Hp} {te : TE} {tr : TA} {Pr : Hp → V → Prop} {n : Nat} {v : V} {D : Ends} {tz tu : TS} {j : Nat}
theorem evp_of (m : Mono Pr) (h : Ev te σ H v) (p : Pr H v) : EvP Pr te σ H := fun H1 e Q q => h H1 e Q fun H2 e2 => q v H2 e2 (m _ _ _ (e.trans e2) p)
theorem evp_l {xs : List V} (h : EvL te σ H xs) (p : ∀ a H', H' a = some (.lst xs) → Ex H H' → Pr H' (.ref a)) : EvP Pr te σ H := fun H1 e Q q => h H1 e Q fun a H2 _ e2 hp => q _ H2 e2 (p a H2 hp (e.trans e2))
theorem evp_u {xs : List V} (h : EvU te σ H xs) (p : ∀ a H', H' a = some (.tup xs) → Ex H H' → Pr H' (.ref a)) : EvP Pr te σ H := fun H1 e Q q => h H1 e Q fun a H2 _ e2 hp => q _ H2 e2 (p a H2 hp (e.trans e2))
theorem evp_dK (p : ∀ a H', H' a = some (.dK []) → Pr H' (.ref a)) : EvP Pr tDNewK σ H := fun H1 e Q q a ha => q _ _ (Ex.new ha) (p a _ upd_same)
theorem eap_nil : EvAP Pr 0 tNil σ H := fun H1 _ _ q => q [] H1 (Ex.refl H1) rfl fun _ z => nomatch z
theorem eap_cons (m : Mono Pr) (h : EvP Pr te σ H) (hr : EvAP Pr n tr σ H) : EvAP Pr (n + 1) (tCons te tr) σ H := fun H1 e Q q => h H1 e _ fun v H2 e2 pv => hr H2 (e.trans e2) _ fun vs H3 e3 hl ps =>
  q (v :: vs) H3 (e2.trans e3) (congrArg Nat.succ hl) fun x hx => by
    rcases List.mem_cons.mp hx with z | z
    · rw [z]
      exact m _ _ _ e3 pv
    · exact ps x z
/-- name = [..] -/
theorem q_asgLP {i : Nat} {ta : TA} (h : EvAP Pr n ta σ H) (hn : n ≤ 100000) (m : Mono Pr) (k : ∀ p xs H1, H p = none → Ex H H1 → H1 p = some (.lst xs) → xs.length = n → (∀ x ∈ xs, Pr H1 x) → tz D (σ.set i (some (.ref p))) H1) : tSeq (tAsg (tLst ta) (gName i)) tz D σ H :=
  h H (Ex.refl H) _ fun vs H1 e1 hl ps => ⟨sz_of (by omega), fun p hp => k p vs _ (fresh_back e1 hp) (e1.trans (Ex.new hp)) upd_same hl fun x hx => m _ _ _ (Ex.new hp) (ps x hx)⟩
end
section
variable {K : PySem.W.Frag} {σ : L2.St} {H H' : Hp} {ta tb te : TE} {t : TA} {Pr Pr0 : Hp → V → Prop} {n : Nat}
theorem evp_tup (h : EvAP Pr0 n t σ H) (hn : n ≤ 100000) (p : ∀ a H' xs, H' a = some (.tup xs) → Pr H' (.ref a)) : EvP Pr (tTup t) σ H := fun H1 e Q q => h H1 e _ fun vs H2 e2 hl _ =>
  ⟨sz_of (by omega), fun a ha => q _ _ (e2.trans (Ex.new ha)) (p a _ vs upd_same)⟩
theorem el_cat {xs ys : List V} (ha : EvL ta σ H xs) (hb : EvL tb σ H ys) (hz : xs.length + ys.length ≤ 100000) : EvL (tOp rCat ta tb) σ H (xs ++ ys) := fun H1 e Q k =>
  ha H1 e _ fun p H2 _ e2 hp => hb H2 (e.trans e2) _ fun q H3 _ e3 hq => ⟨p, q, xs, ys, rfl, rfl, e3 p _ hp, hq, sz_of hz, fun r hr => k r _ (fresh_back (e2.trans e3) hr) ((e2.trans e3).trans (Ex.new hr)) upd_same⟩
end
theorem cutV_mem {xs : List V} {lo hi : Option Int} {x : V} (h : x ∈ cutV xs lo hi) : x ∈ xs := by
  unfold cutV at h
  exact List.mem_of_mem_drop (List.mem_of_mem_take h)
mutual
theorem dp_mono {K : PySem.W.Frag} {H H' : Hp} (e : Ex H H') : ∀ {v : V} (d : PyData), Dp K H v d → Dp K H' v d
  | _, .none, h => by
    cases h
    exact .non
  | _, .bool b, h => by
    cases h
    exact .bl b
  | _, .int i, h => by
    cases h
    exact .int i
  | _, .str x, h => by
    cases h
    exact .str x
  | _, .list ds, h => by
    cases h with
    | lst a b => exact .lst (ex_l e a) (dpa_mono e ds b)
  | _, .tuple ds, h => by
    cases h with
    | tup a b => exact .tup (ex_t e a) (dpa_mono e ds b)
  | _, .dict _, h => by cases h
theorem dpa_mono {K : PySem.W.Frag} {H H' : Hp} (e : Ex H H') : ∀ {vs : List V} (ds : List PyData), DpAll K H vs ds → DpAll K H' vs ds
  | _, [], h => by
    cases h
    exact .nil
  | _, d :: ds, h => by
    cases h with
    | cons a b => exact .cons (dp_mono e d a) (dpa_mono e ds b)
end
section
variable {K : PySem.W.Frag} {H : Hp} {x y : V} {d e : PyData}
theorem rv_eqD (hx : Dp K H x d) (hy : Dp K H y e) (sd : SeqAt.shaped d = true) (se : SeqAt.shaped e = true) : RV (rEqD K) x y H (.bl (PyData.eqv d e)) := fun H1 z _ q => ⟨d, e, dp_mono z d hx, dp_mono z e hy, sd, se, q H1 (Ex.refl H1)⟩
theorem rv_neD (hx : Dp K H x d) (hy : Dp K H y e) (sd : SeqAt.shaped d = true) (se : SeqAt.shaped e = true) : RV (rNeD K) x y H (.bl (!PyData.eqv d e)) := fun H1 z _ q => ⟨d, e, dp_mono z d hx, dp_mono z e hy, sd, se, q H1 (Ex.refl H1)⟩
theorem rv_eqDs (hx : Dp K H x d) (hy : Dp K H y d) (sd : SeqAt.shaped d = true) : RV (rEqD K) x y H (.bl true) := by
  have h := rv_eqD hx hy sd sd
  rw [SeqAt.eqv_refl] at h
  · exact h
  · exact SeqAt.canLay_of_shaped sd
theorem rv_neDs (hx : Dp K H x d) (hy : Dp K H y d) (sd : SeqAt.shaped d = true) : RV (rNeD K) x y H (.bl false) := by
  have h := rv_neD hx hy sd sd
  rw [SeqAt.eqv_refl] at h
  · exact h
  · exact SeqAt.canLay_of_shaped sd
end
theorem map_get {ns : List Int} {i : Nat} {x : V} (h : (ns.map V.int)[i]? = some x) : ∃ n, x = .int n ∧ n ∈ ns := by
  rw [List.getElem?_map] at h
  cases e : ns[i]? with
  | none =>
    rw [e] at h
    cases h
  | some n =>
    rw [e] at h
    exact ⟨n, (Option.some.inj h).symm, List.mem_of_getElem? e⟩
theorem at_ints {ns : List Int} {i : Int} (h0 : 0 ≤ i) (h1 : i < ns.length) : atI (ns.map V.int) i = some (.int (ns.getD i.toNat 0)) := by
  obtain ⟨j, rfl⟩ : ∃ j : Nat, i = (j : Int) := ⟨i.toNat, (Int.toNat_of_nonneg h0).symm⟩
  have hj : j < ns.length := by omega
  refine atI_nat ?_
  rw [List.getElem?_map, List.getElem?_eq_getElem hj]
  show some (V.int ns[j]) = some (V.int (ns.getD (Int.toNat (j : Int)) 0))
  rw [Int.toNat_natCast, List.getD_eq_getElem?_getD, List.getElem?_eq_getElem hj] <;> rfl
/-- bits of a product -/
theorem lt_bits (i : Int) : i.natAbs < 2 ^ Builtin.Int.intBits i := by
  unfold Builtin.Int.intBits
  split
  · rename_i h
    have : i = 0 := by simpa using h
    subst this
    decide
  · exact Nat.lt_log2_self
theorem bits_le {i : Int} {n : Nat} (h : i.natAbs < 2 ^ n) : Builtin.Int.intBits i ≤ n := by
  unfold Builtin.Int.intBits
  split
  · exact Nat.zero_le _
  · rename_i h0
    have h0 : i.natAbs ≠ 0 := by
      intro z
      have : i = 0 := Int.natAbs_eq_zero.mp z
      subst this
      exact h0 rfl
    exact (Nat.log2_lt h0).mpr h
theorem bits_mul (i j : Int) : Builtin.Int.intBits (i * j) ≤ Builtin.Int.intBits i + Builtin.Int.intBits j := by
  refine bits_le ?_
  rw [Int.natAbs_mul, Nat.pow_add]
  exact Nat.mul_lt_mul'' (lt_bits i) (lt_bits j)
theorem mul_bits {i j : Int} (h : Builtin.Int.intBits i + Builtin.Int.intBits j ≤ 134217728) : IntMulOk i j := by
  have e : bitsLine = 134217728 := by decide
  unfold IntMulOk
  intro z
  rw [Bool.and_eq_true] at z
  have z2 := z.2
  unfold Builtin.Int.intTooBig at z2
  have z3 := of_decide_eq_true z2
  rw [e] at z3
  omega

/-! ### isinstance of a value and a built-in type -/
theorem rc_int_int {K : PySem.W.Frag} {H : Hp} {i : Int} : RC (rIsi K) [.int i, .ty "int"] H (.bl true) := rc_isi (.ty _) (.base (.int i)) (kit_ty (show kitB "int" "int" = some true by decide +kernel))
theorem rc_int_bool {K : PySem.W.Frag} {H : Hp} {i : Int} : RC (rIsi K) [.int i, .ty "bool"] H (.bl false) := rc_isi (.ty _) (.base (.int i)) (kit_ty (show kitB "int" "bool" = some false by decide +kernel))
theorem rc_int_str {K : PySem.W.Frag} {H : Hp} {i : Int} : RC (rIsi K) [.int i, .ty "str"] H (.bl false) := rc_isi (.ty _) (.base (.int i)) (kit_ty (show kitB "int" "str" = some false by decide +kernel))
theorem rc_int_list {K : PySem.W.Frag} {H : Hp} {i : Int} : RC (rIsi K) [.int i, .ty "list"] H (.bl false) := rc_isi (.ty _) (.base (.int i)) (kit_ty (show kitB "int" "list" = some false by decide +kernel))
theorem rc_int_tuple {K : PySem.W.Frag} {H : Hp} {i : Int} : RC (rIsi K) [.int i, .ty "tuple"] H (.bl false) := rc_isi (.ty _) (.base (.int i)) (kit_ty (show kitB "int" "tuple" = some false by decide +kernel))
theorem rc_int_dict {K : PySem.W.Frag} {H : Hp} {i : Int} : RC (rIsi K) [.int i, .ty "dict"] H (.bl false) := rc_isi (.ty _) (.base (.int i)) (kit_ty (show kitB "int" "dict" = some false by decide +kernel))
theorem rc_bl_int {K : PySem.W.Frag} {H : Hp} {b : Bool} : RC (rIsi K) [.bl b, .ty "int"] H (.bl true) := rc_isi (.ty _) (.base (.bl b)) (kit_ty (show kitB "bool" "int" = some true by decide +kernel))
theorem rc_bl_bool {K : PySem.W.Frag} {H : Hp} {b : Bool} : RC (rIsi K) [.bl b, .ty "bool"] H (.bl true) := rc_isi (.ty _) (.base (.bl b)) (kit_ty (show kitB "bool" "bool" = some true by decide +kernel))
theorem rc_bl_str {K : PySem.W.Frag} {H : Hp} {b : Bool} : RC (rIsi K) [.bl b, .ty "str"] H (.bl false) := rc_isi (.ty _) (.base (.bl b)) (kit_ty (show kitB "bool" "str" = some false by decide +kernel))
theorem rc_bl_list {K : PySem.W.Frag} {H : Hp} {b : Bool} : RC (rIsi K) [.bl b, .ty "list"] H (.bl false) := rc_isi (.ty _) (.base (.bl b)) (kit_ty (show kitB "bool" "list" = some false by decide +kernel))
theorem rc_bl_tuple {K : PySem.W.Frag} {H : Hp} {b : Bool} : RC (rIsi K) [.bl b, .ty "tuple"] H (.bl false) := rc_isi (.ty _) (.base (.bl b)) (kit_ty (show kitB "bool" "tuple" = some false by decide +kernel))
theorem rc_bl_dict {K : PySem.W.Frag} {H : Hp} {b : Bool} : RC (rIsi K) [.bl b, .ty "dict"] H (.bl false) := rc_isi (.ty _) (.base (.bl b)) (kit_ty (show kitB "bool" "dict" = some false by decide +kernel))
theorem rc_str_int {K : PySem.W.Frag} {H : Hp} {x : Str} : RC (rIsi K) [.str x, .ty "int"] H (.bl false) := rc_isi (.ty _) (.base (.str x)) (kit_ty (show kitB "str" "int" = some false by decide +kernel))
theorem rc_str_bool {K : PySem.W.Frag} {H : Hp} {x : Str} : RC (rIsi K) [.str x, .ty "bool"] H (.bl false) := rc_isi (.ty _) (.base (.str x)) (kit_ty (show kitB "str" "bool" = some false by decide +kernel))
theorem rc_str_str {K : PySem.W.Frag} {H : Hp} {x : Str} : RC (rIsi K) [.str x, .ty "str"] H (.bl true) := rc_isi (.ty _) (.base (.str x)) (kit_ty (show kitB "str" "str" = some true by decide +kernel))
theorem rc_str_list {K : PySem.W.Frag} {H : Hp} {x : Str} : RC (rIsi K) [.str x, .ty "list"] H (.bl false) := rc_isi (.ty _) (.base (.str x)) (kit_ty (show kitB "str" "list" = some false by decide +kernel))
theorem rc_str_tuple {K : PySem.W.Frag} {H : Hp} {x : Str} : RC (rIsi K) [.str x, .ty "tuple"] H (.bl false) := rc_isi (.ty _) (.base (.str x)) (kit_ty (show kitB "str" "tuple" = some false by decide +kernel))
theorem rc_str_dict {K : PySem.W.Frag} {H : Hp} {x : Str} : RC (rIsi K) [.str x, .ty "dict"] H (.bl false) := rc_isi (.ty _) (.base (.str x)) (kit_ty (show kitB "str" "dict" = some false by decide +kernel))
theorem rc_non_int {K : PySem.W.Frag} {H : Hp}  : RC (rIsi K) [.non, .ty "int"] H (.bl false) := rc_isi (.ty _) (.base .non) (kit_ty (show kitB "NoneType" "int" = some false by decide +kernel))
theorem rc_non_bool {K : PySem.W.Frag} {H : Hp}  : RC (rIsi K) [.non, .ty "bool"] H (.bl false) := rc_isi (.ty _) (.base .non) (kit_ty (show kitB "NoneType" "bool" = some false by decide +kernel))
theorem rc_non_str {K : PySem.W.Frag} {H : Hp}  : RC (rIsi K) [.non, .ty "str"] H (.bl false) := rc_isi (.ty _) (.base .non) (kit_ty (show kitB "NoneType" "str" = some false by decide +kernel))
theorem rc_non_list {K : PySem.W.Frag} {H : Hp}  : RC (rIsi K) [.non, .ty "list"] H (.bl false) := rc_isi (.ty _) (.base .non) (kit_ty (show kitB "NoneType" "list" = some false by decide +kernel))
theorem rc_non_tuple {K : PySem.W.Frag} {H : Hp}  : RC (rIsi K) [.non, .ty "tuple"] H (.bl false) := rc_isi (.ty _) (.base .non) (kit_ty (show kitB "NoneType" "tuple" = some false by decide +kernel))
theorem rc_non_dict {K : PySem.W.Frag} {H : Hp}  : RC (rIsi K) [.non, .ty "dict"] H (.bl false) := rc_isi (.ty _) (.base .non) (kit_ty (show kitB "NoneType" "dict" = some false by decide +kernel))
theorem rc_lst_int {K : PySem.W.Frag} {H : Hp} {a : Addr} {xs : List V} (h : H a = some (.lst xs)) : RC (rIsi K) [.ref a, .ty "int"] H (.bl false) := rc_isi (.ty _) (.base (.lst h)) (kit_ty (show kitB "list" "int" = some false by decide +kernel))
theorem rc_lst_bool {K : PySem.W.Frag} {H : Hp} {a : Addr} {xs : List V} (h : H a = some (.lst xs)) : RC (rIsi K) [.ref a, .ty "bool"] H (.bl false) := rc_isi (.ty _) (.base (.lst h)) (kit_ty (show kitB "list" "bool" = some false by decide +kernel))
theorem rc_lst_str {K : PySem.W.Frag} {H : Hp} {a : Addr} {xs : List V} (h : H a = some (.lst xs)) : RC (rIsi K) [.ref a, .ty "str"] H (.bl false) := rc_isi (.ty _) (.base (.lst h)) (kit_ty (show kitB "list" "str" = some false by decide +kernel))
theorem rc_lst_list {K : PySem.W.Frag} {H : Hp} {a : Addr} {xs : List V} (h : H a = some (.lst xs)) : RC (rIsi K) [.ref a, .ty "list"] H (.bl true) := rc_isi (.ty _) (.base (.lst h)) (kit_ty (show kitB "list" "list" = some true by decide +kernel))
theorem rc_lst_tuple {K : PySem.W.Frag} {H : Hp} {a : Addr} {xs : List V} (h : H a = some (.lst xs)) : RC (rIsi K) [.ref a, .ty "tuple"] H (.bl false) := rc_isi (.ty _) (.base (.lst h)) (kit_ty (show kitB "list" "tuple" = some false by decide +kernel))
theorem rc_lst_dict {K : PySem.W.Frag} {H : Hp} {a : Addr} {xs : List V} (h : H a = some (.lst xs)) : RC (rIsi K) [.ref a, .ty "dict"] H (.bl false) := rc_isi (.ty _) (.base (.lst h)) (kit_ty (show kitB "list" "dict" = some false by decide +kernel))
theorem rc_tup_int {K : PySem.W.Frag} {H : Hp} {a : Addr} {xs : List V} (h : H a = some (.tup xs)) : RC (rIsi K) [.ref a, .ty "int"] H (.bl false) := rc_isi (.ty _) (.base (.tup h)) (kit_ty (show kitB "tuple" "int" = some false by decide +kernel))
theorem rc_tup_bool {K : PySem.W.Frag} {H : Hp} {a : Addr} {xs : List V} (h : H a = some (.tup xs)) : RC (rIsi K) [.ref a, .ty "bool"] H (.bl false) := rc_isi (.ty _) (.base (.tup h)) (kit_ty (show kitB "tuple" "bool" = some false by decide +kernel))
theorem rc_tup_str {K : PySem.W.Frag} {H : Hp} {a : Addr} {xs : List V} (h : H a = some (.tup xs)) : RC (rIsi K) [.ref a, .ty "str"] H (.bl false) := rc_isi (.ty _) (.base (.tup h)) (kit_ty (show kitB "tuple" "str" = some false by decide +kernel))
theorem rc_tup_list {K : PySem.W.Frag} {H : Hp} {a : Addr} {xs : List V} (h : H a = some (.tup xs)) : RC (rIsi K) [.ref a, .ty "list"] H (.bl false) := rc_isi (.ty _) (.base (.tup h)) (kit_ty (show kitB "tuple" "list" = some false by decide +kernel))
theorem rc_tup_tuple {K : PySem.W.Frag} {H : Hp} {a : Addr} {xs : List V} (h : H a = some (.tup xs)) : RC (rIsi K) [.ref a, .ty "tuple"] H (.bl true) := rc_isi (.ty _) (.base (.tup h)) (kit_ty (show kitB "tuple" "tuple" = some true by decide +kernel))
theorem rc_tup_dict {K : PySem.W.Frag} {H : Hp} {a : Addr} {xs : List V} (h : H a = some (.tup xs)) : RC (rIsi K) [.ref a, .ty "dict"] H (.bl false) := rc_isi (.ty _) (.base (.tup h)) (kit_ty (show kitB "tuple" "dict" = some false by decide +kernel))
theorem rc_dK_int {K : PySem.W.Frag} {H : Hp} {a : Addr} {xs : List (Key × V)} (h : H a = some (.dK xs)) : RC (rIsi K) [.ref a, .ty "int"] H (.bl false) := rc_isi (.ty _) (.base (.dK h)) (kit_ty (show kitB "dict" "int" = some false by decide +kernel))
theorem rc_dK_bool {K : PySem.W.Frag} {H : Hp} {a : Addr} {xs : List (Key × V)} (h : H a = some (.dK xs)) : RC (rIsi K) [.ref a, .ty "bool"] H (.bl false) := rc_isi (.ty _) (.base (.dK h)) (kit_ty (show kitB "dict" "bool" = some false by decide +kernel))
theorem rc_dK_str {K : PySem.W.Frag} {H : Hp} {a : Addr} {xs : List (Key × V)} (h : H a = some (.dK xs)) : RC (rIsi K) [.ref a, .ty "str"] H (.bl false) := rc_isi (.ty _) (.base (.dK h)) (kit_ty (show kitB "dict" "str" = some false by decide +kernel))
theorem rc_dK_list {K : PySem.W.Frag} {H : Hp} {a : Addr} {xs : List (Key × V)} (h : H a = some (.dK xs)) : RC (rIsi K) [.ref a, .ty "list"] H (.bl false) := rc_isi (.ty _) (.base (.dK h)) (kit_ty (show kitB "dict" "list" = some false by decide +kernel))
theorem rc_dK_tuple {K : PySem.W.Frag} {H : Hp} {a : Addr} {xs : List (Key × V)} (h : H a = some (.dK xs)) : RC (rIsi K) [.ref a, .ty "tuple"] H (.bl false) := rc_isi (.ty _) (.base (.dK h)) (kit_ty (show kitB "dict" "tuple" = some false by decide +kernel))
theorem rc_dK_dict {K : PySem.W.Frag} {H : Hp} {a : Addr} {xs : List (Key × V)} (h : H a = some (.dK xs)) : RC (rIsi K) [.ref a, .ty "dict"] H (.bl true) := rc_isi (.ty _) (.base (.dK h)) (kit_ty (show kitB "dict" "dict" = some true by decide +kernel))
theorem rc_dT_int {K : PySem.W.Frag} {H : Hp} {a : Addr} {xs : List (List Key × V)} (h : H a = some (.dT xs)) : RC (rIsi K) [.ref a, .ty "int"] H (.bl false) := rc_isi (.ty _) (.base (.dT h)) (kit_ty (show kitB "dict" "int" = some false by decide +kernel))
theorem rc_dT_bool {K : PySem.W.Frag} {H : Hp} {a : Addr} {xs : List (List Key × V)} (h : H a = some (.dT xs)) : RC (rIsi K) [.ref a, .ty "bool"] H (.bl false) := rc_isi (.ty _) (.base (.dT h)) (kit_ty (show kitB "dict" "bool" = some false by decide +kernel))
theorem rc_dT_str {K : PySem.W.Frag} {H : Hp} {a : Addr} {xs : List (List Key × V)} (h : H a = some (.dT xs)) : RC (rIsi K) [.ref a, .ty "str"] H (.bl false) := rc_isi (.ty _) (.base (.dT h)) (kit_ty (show kitB "dict" "str" = some false by decide +kernel))
theorem rc_dT_list {K : PySem.W.Frag} {H : Hp} {a : Addr} {xs : List (List Key × V)} (h : H a = some (.dT xs)) : RC (rIsi K) [.ref a, .ty "list"] H (.bl false) := rc_isi (.ty _) (.base (.dT h)) (kit_ty (show kitB "dict" "list" = some false by decide +kernel))
theorem rc_dT_tuple {K : PySem.W.Frag} {H : Hp} {a : Addr} {xs : List (List Key × V)} (h : H a = some (.dT xs)) : RC (rIsi K) [.ref a, .ty "tuple"] H (.bl false) := rc_isi (.ty _) (.base (.dT h)) (kit_ty (show kitB "dict" "tuple" = some false by decide +kernel))
theorem rc_dT_dict {K : PySem.W.Frag} {H : Hp} {a : Addr} {xs : List (List Key × V)} (h : H a = some (.dT xs)) : RC (rIsi K) [.ref a, .ty "dict"] H (.bl true) := rc_isi (.ty _) (.base (.dT h)) (kit_ty (show kitB "dict" "dict" = some true by decide +kernel))
theorem ty_sl {K : PySem.W.Frag} {H : Hp} {a : Addr} {xs : List V} (h : SqL K H a xs) : TyX K H (.ref a) (.type "list") := by
  rcases h with (h | ⟨o, h⟩) | h
  · exact .base (.lst h)
  · exact .base (.frz h)
  · obtain ⟨o, its, k, h1, h2, _⟩ := h
    exact .kList h1 h2
theorem rc_sl_int {K : PySem.W.Frag} {H : Hp} {a : Addr} {xs : List V} (h : SqL K H a xs) : RC (rIsi K) [.ref a, .ty "int"] H (.bl false) := rc_isi (.ty _) (ty_sl h) (kit_ty (show kitB "list" "int" = some false by decide +kernel))
theorem rc_sl_bool {K : PySem.W.Frag} {H : Hp} {a : Addr} {xs : List V} (h : SqL K H a xs) : RC (rIsi K) [.ref a, .ty "bool"] H (.bl false) := rc_isi (.ty _) (ty_sl h) (kit_ty (show kitB "list" "bool" = some false by decide +kernel))
theorem rc_sl_str {K : PySem.W.Frag} {H : Hp} {a : Addr} {xs : List V} (h : SqL K H a xs) : RC (rIsi K) [.ref a, .ty "str"] H (.bl false) := rc_isi (.ty _) (ty_sl h) (kit_ty (show kitB "list" "str" = some false by decide +kernel))
theorem rc_sl_list {K : PySem.W.Frag} {H : Hp} {a : Addr} {xs : List V} (h : SqL K H a xs) : RC (rIsi K) [.ref a, .ty "list"] H (.bl true) := rc_isi (.ty _) (ty_sl h) (kit_ty (show kitB "list" "list" = some true by decide +kernel))
theorem rc_sl_tuple {K : PySem.W.Frag} {H : Hp} {a : Addr} {xs : List V} (h : SqL K H a xs) : RC (rIsi K) [.ref a, .ty "tuple"] H (.bl false) := rc_isi (.ty _) (ty_sl h) (kit_ty (show kitB "list" "tuple" = some false by decide +kernel))
theorem rc_sl_dict {K : PySem.W.Frag} {H : Hp} {a : Addr} {xs : List V} (h : SqL K H a xs) : RC (rIsi K) [.ref a, .ty "dict"] H (.bl false) := rc_isi (.ty _) (ty_sl h) (kit_ty (show kitB "list" "dict" = some false by decide +kernel))
theorem ty_st {K : PySem.W.Frag} {H : Hp} {a : Addr} {xs : List V} (h : SqT K H a xs) : TyX K H (.ref a) (.type "tuple") := by
  rcases h with (h | ⟨o, h⟩) | h
  · exact .base (.tup h)
  · exact .fTuple h
  · obtain ⟨o, its, k, h1, h2, _⟩ := h
    exact .kTuple h1 h2
theorem rc_st_int {K : PySem.W.Frag} {H : Hp} {a : Addr} {xs : List V} (h : SqT K H a xs) : RC (rIsi K) [.ref a, .ty "int"] H (.bl false) := rc_isi (.ty _) (ty_st h) (kit_ty (show kitB "tuple" "int" = some false by decide +kernel))
theorem rc_st_bool {K : PySem.W.Frag} {H : Hp} {a : Addr} {xs : List V} (h : SqT K H a xs) : RC (rIsi K) [.ref a, .ty "bool"] H (.bl false) := rc_isi (.ty _) (ty_st h) (kit_ty (show kitB "tuple" "bool" = some false by decide +kernel))
theorem rc_st_str {K : PySem.W.Frag} {H : Hp} {a : Addr} {xs : List V} (h : SqT K H a xs) : RC (rIsi K) [.ref a, .ty "str"] H (.bl false) := rc_isi (.ty _) (ty_st h) (kit_ty (show kitB "tuple" "str" = some false by decide +kernel))
theorem rc_st_list {K : PySem.W.Frag} {H : Hp} {a : Addr} {xs : List V} (h : SqT K H a xs) : RC (rIsi K) [.ref a, .ty "list"] H (.bl false) := rc_isi (.ty _) (ty_st h) (kit_ty (show kitB "tuple" "list" = some false by decide +kernel))
theorem rc_st_tuple {K : PySem.W.Frag} {H : Hp} {a : Addr} {xs : List V} (h : SqT K H a xs) : RC (rIsi K) [.ref a, .ty "tuple"] H (.bl true) := rc_isi (.ty _) (ty_st h) (kit_ty (show kitB "tuple" "tuple" = some true by decide +kernel))
theorem rc_st_dict {K : PySem.W.Frag} {H : Hp} {a : Addr} {xs : List V} (h : SqT K H a xs) : RC (rIsi K) [.ref a, .ty "dict"] H (.bl false) := rc_isi (.ty _) (ty_st h) (kit_ty (show kitB "tuple" "dict" = some false by decide +kernel))
/-! ### the end of a law row, with the script's bits -/
theorem walk_ofEB {l : PySem.W.OpenLaw} {n k : Nat} {q : Program} {loose : List Str} {XP : (Str → Option Value) → Heap → Prop} {YP : World → Heap → Prop} {d : DefRec} {CX : CXT} {x : Str}
    (hn : l.most = some n) (hn2 : n ≤ sizeLine) (hdf : d.params.defaults = []) (hr : Room k callerA)
    (F : ∀ (w : World) (mg : Str → Option Value) (fa : Addr) (h : Heap), YP w h → h.Ns mainGlobals mg → mg d.name = some (.ref fa) →
      ∃ (K : PySem.W.Frag) (fd : FuncData) (sp : Sp), K.In h ∧ (∀ (s : Shared) (u : Value), BindsTo s fd ⟨[u], []⟩ [(x, u)]) ∧
        (∀ (H : Hp) (a : Addr) (ns : List Int), ns.length ≤ n → (∀ z ∈ ns, Builtin.Int.intBits z ≤ 1048576) → Only H → SqL K H a (ns.map V.int) → sp [.ref a] H (fun v _ => v = .bl true) fun _ _ _ => False) ∧
        ∀ base : Heap, K.In base → base.Ns mainGlobals mg → FnOk l.prog w K mg base CX k fa fd [x] sp)
    (hCX : ∀ (H : Hp) (s : Shared) (e : Value) (s' : Shared), CX [] H s (fun _ _ _ => False) e s' → False) :
    PySem.W.WalkO q loose XP YP l.row.toRowW d [] (fun f vs => PySem.call f vs) := by
  refine Att.attach_callB hn hdf fun w s₀ s₁ mg mb fa o pm cd doc a vs ns G Y ho hd hcd hmg hobj hints hlen hbits hg => ?_
  obtain ⟨K, fd, sp, KX, hb, hsp, hF⟩ := F w mg fa _ Y G.T.g hmg
  exact law_call KX G.T.g G.T.b G.T.builtins G.T.nolimit hg hobj hints (Nat.le_trans hlen hn2) hr hF hb (fun H hO hS => hsp H a ns hlen hbits hO hS) fun H e s' => hCX H s₁ e s'
end RB

set_option Elab.async false
set_option linter.all false
set_option maxRecDepth 100000
set_option maxHeartbeats 4000000
namespace K02
open PySem PySem.Spec PyProof.Rows L2 Evl RB
local macro_rules | `(tactic| walk_at "cond") => `(tactic| first
  | assumption
  | decide
  | (constructor <;> decide)
  | exact mul_l (by decide +kernel)
  | exact mul_r (by decide +kernel)
  | omega
  | (constructor <;> omega)
  | exact mul_lb (by omega) (by omega)
  | exact mul_rb (by omega) (by omega))
local macro_rules | `(tactic| walk_at "rv") => `(tactic| first
  | exact rv_I0
  | (refine' rv_I ?rc; (case rc => walk_at "cond"))
  | exact rv_eq rfl
  | exact rv_ne rfl
  | exact rv_isB
  | exact rv_notB
  | exact ru_neg)
local macro_rules | `(tactic| walk_at "ev") => `(tactic| first
  | with_reducible exact ev_c
  | exact ev_var rfl
  | ((with_reducible refine' ev_op ?ea ?eb ?er); (case ea => walk_at "ev"); (case eb => walk_at "ev"); (case er => walk_at "rv"))
  | ((with_reducible refine' ev_un ?ea ?er); (case ea => walk_at "ev"); (case er => walk_at "rv"))
  | ((with_reducible refine' ev_chain ?ea ?eb ?ec); (case ea => walk_at "ev"); (case eb => walk_at "ev"); (case ec => walk_at "ev"))
  | ((with_reducible refine' ev_cb ?ea ?er); (case ea => walk_at "ea"); (case er => walk_at "rc"))
  | ((with_reducible refine' ev_call ?ea ?er); (case ea => walk_at "ea"); (case er => walk_at "sp")))
local macro_rules | `(tactic| walk_at "ev") => `(tactic| first
  | ((with_reducible refine' ev_and0 ?ea); (case ea => walk_at "ev"))
  | ((with_reducible refine' ev_and1 ?ea ?eb); (case ea => walk_at "ev"); (case eb => walk_at "ev"))
  | ((with_reducible refine' ev_andV ?ea ?eb); (case ea => walk_at "ev"); (case eb => intro _; walk_at "ev"))
  | ((with_reducible refine' ev_or1 ?ea); (case ea => walk_at "ev"))
  | ((with_reducible refine' ev_or0 ?ea ?eb); (case ea => walk_at "ev"); (case eb => walk_at "ev"))
  | ((with_reducible refine' ev_orV ?ea ?eb); (case ea => walk_at "ev"); (case eb => intro _; walk_at "ev"))
  | ((with_reducible refine' ev_notT ?ea); (case ea => walk_at "ev"))
  | ((with_reducible refine' ev_notF ?ea); (case ea => walk_at "ev"))
  | ((with_reducible refine' ev_notV ?ea); (case ea => walk_at "ev")))
local macro_rules | `(tactic| walk_at "et") => `(tactic| first
  | ((with_reducible refine' et_and0 ?ea); (case ea => walk_at "et"))
  | ((with_reducible refine' et_and1 ?ea ?eb); (case ea => walk_at "et"); (case eb => walk_at "et"))
  | ((with_reducible refine' et_and ?ea ?eb); (case ea => walk_at "et"); (case eb => intro _; walk_at "et"))
  | ((with_reducible refine' et_or1 ?ea); (case ea => walk_at "et"))
  | ((with_reducible refine' et_or0 ?ea ?eb); (case ea => walk_at "et"); (case eb => walk_at "et"))
  | ((with_reducible refine' et_or ?ea ?eb); (case ea => walk_at "et"); (case eb => intro _; walk_at "et"))
  | ((with_reducible refine' et_notT ?ea); (case ea => walk_at "et"))
  | ((with_reducible refine' et_notF ?ea); (case ea => walk_at "et"))
  | ((with_reducible refine' et_not ?ea); (case ea => walk_at "et"))
  | ((with_reducible refine' et_test ?ea); (case ea => walk_at "ev"))
  | ((with_reducible refine' et_B ?ea); (case ea => walk_at "ev")))
local macro_rules | `(tactic| walk_at "ea") => `(tactic| first
  | with_reducible exact ea_nil
  | ((with_reducible refine' ea_cons ?ea ?eb); (case ea => walk_at "ev"); (case eb => walk_at "ea")))
local macro_rules | `(tactic| walk_at "rc") => `(tactic| first
  | with_reducible exact rc_int_int
  | with_reducible exact rc_int_bool
  | with_reducible exact rc_int_str
  | with_reducible exact rc_int_list
  | with_reducible exact rc_int_tuple
  | with_reducible exact rc_int_dict
  | with_reducible exact rc_bl_int
  | with_reducible exact rc_bl_bool
  | with_reducible exact rc_bl_str
  | with_reducible exact rc_bl_list
  | with_reducible exact rc_bl_tuple
  | with_reducible exact rc_bl_dict
  | with_reducible exact rc_str_int
  | with_reducible exact rc_str_bool
  | with_reducible exact rc_str_str
  | with_reducible exact rc_str_list
  | with_reducible exact rc_str_tuple
  | with_reducible exact rc_str_dict
  | with_reducible exact rc_non_int
  | with_reducible exact rc_non_bool
  | with_reducible exact rc_non_str
  | with_reducible exact rc_non_list
  | with_reducible exact rc_non_tuple
  | with_reducible exact rc_non_dict
  | with_reducible exact rc_lst_int (by assumption)
  | with_reducible exact rc_lst_bool (by assumption)
  | with_reducible exact rc_lst_str (by assumption)
  | with_reducible exact rc_lst_list (by assumption)
  | with_reducible exact rc_lst_tuple (by assumption)
  | with_reducible exact rc_lst_dict (by assumption)
  | with_reducible exact rc_tup_int (by assumption)
  | with_reducible exact rc_tup_bool (by assumption)
  | with_reducible exact rc_tup_str (by assumption)
  | with_reducible exact rc_tup_list (by assumption)
  | with_reducible exact rc_tup_tuple (by assumption)
  | with_reducible exact rc_tup_dict (by assumption)
  | with_reducible exact rc_dK_int (by assumption)
  | with_reducible exact rc_dK_bool (by assumption)
  | with_reducible exact rc_dK_str (by assumption)
  | with_reducible exact rc_dK_list (by assumption)
  | with_reducible exact rc_dK_tuple (by assumption)
  | with_reducible exact rc_dK_dict (by assumption)
  | with_reducible exact rc_dT_int (by assumption)
  | with_reducible exact rc_dT_bool (by assumption)
  | with_reducible exact rc_dT_str (by assumption)
  | with_reducible exact rc_dT_list (by assumption)
  | with_reducible exact rc_dT_tuple (by assumption)
  | with_reducible exact rc_dT_dict (by assumption)
  | with_reducible exact rc_sl_int (by assumption)
  | with_reducible exact rc_sl_bool (by assumption)
  | with_reducible exact rc_sl_str (by assumption)
  | with_reducible exact rc_sl_list (by assumption)
  | with_reducible exact rc_sl_tuple (by assumption)
  | with_reducible exact rc_sl_dict (by assumption)
  | with_reducible exact rc_st_int (by assumption)
  | with_reducible exact rc_st_bool (by assumption)
  | with_reducible exact rc_st_str (by assumption)
  | with_reducible exact rc_st_list (by assumption)
  | with_reducible exact rc_st_tuple (by assumption)
  | with_reducible exact rc_st_dict (by assumption))
def top (i : Nat) : Stmt := PySem.Challenge.pw_runrows_k02_values.main.body.getD i (.Pass ⟨0, 0, 0, 0⟩)
structure Txt (mg : Str → Option Value) : Prop where
  b : Bi mg
  g_LEAST : ∃ t, mg "LEAST" = some (.int (-128) t)
  g_GREATEST : ∃ t, mg "GREATEST" = some (.int 127 t)
section
variable {P : Program} {w : World} {K : PySem.W.Frag} {mg : Str → Option Value} {base : Heap}
abbrev FunK (K : PySem.W.Frag) (x _q : Str) (st : Stmt) (f : Addr) (fd : FuncData) : Prop := FunD K x x (defArgs st) (defBody st) (defScope st) [] [] f fd
/-- what a thing is: a number, a truth, or something else of a known type -/
inductive Th (K : PySem.W.Frag) (H : Hp) : V → Prop where
  | int (i : Int) : Th K H (.int i)
  | bl (b : Bool) : Th K H (.bl b)
  | oth {x : V} {t : String} (h : TyX K H x (.type t)) (h1 : kitB t "int" = some false) (h2 : kitB t "bool" = some false) (n1 : ∀ i, x ≠ .int i) (n2 : ∀ b, x ≠ .bl b) : Th K H x
theorem Th.mono {H H' : Hp} {x : V} (e : Ex H H') (h : Th K H x) : Th K H' x := by
  cases h with
  | int i => exact .int i
  | bl b => exact .bl b
  | oth h h1 h2 n1 n2 => exact .oth (ty_mono e h) h1 h2 n1 n2
def isNum : V → Bool
  | .int i => decide (-128 ≤ i) && decide (i ≤ 127)
  | _ => false
def isBl : V → Bool
  | .bl _ => true
  | _ => false
def spNum (K : PySem.W.Frag) : Sp := fun vs H Q _ => ∃ x, vs = [x] ∧ Th K H x ∧ RetV (.bl (isNum x)) H Q
abbrev s_is_number : Stmt := top 3
theorem sc_is_number : FnScope ["thing"] ["thing"] (defScope s_is_number) := ⟨rfl, rfl, rfl, by decide +kernel, rfl, by decide +kernel, by decide +kernel⟩
theorem ok_is_number {f : Addr} {fd : FuncData} (F : FunK K "is_number" "is_number" s_is_number f fd) (T : Txt mg) : FnOk P w K mg base CX0 1 f fd ["thing"] (spNum K) := by
  refine okN F sc_is_number (fun vs H Q E h => ?_) (fun cdv A outer s H vs Q E hr h => ?_)
  · obtain ⟨x, rfl, _⟩ := h
    rfl
  · obtain ⟨x, rfl, h, k⟩ := h
    have nd := sc_is_number.nd
    refine ⟨_, (pss_one (ps_ret (pe_and (pe_callB call_isi rfl T.b.isinstance_ boot_isinstance (pa_cons (pv 0) (pa_cons (pe_ty T.b.int_ boot_int) pa_nil))) (pe_and (pe_not (pe_callB call_isi rfl T.b.isinstance_ boot_isinstance (pa_cons (pv 0) (pa_cons (pe_ty T.b.bool_ boot_bool) pa_nil)))) (pe_one (pe_chain op_le op_le (pe_gI T.g_LEAST) (pv 0) (pe_gI T.g_GREATEST))))))), ?_⟩
    refine s_ret (v := .bl (isNum x)) ?_ k
    cases h with
    | int i => (refine' ev_is ?h1 ?h2; (case h1 => walk_at "ev"); (case h2 => rfl))
    | bl b => (refine' ev_is ?h1 ?h2; (case h1 => walk_at "ev"); (case h2 => rfl))
    | @oth _ t h h1 h2 n1 n2 =>
      have h0 := rc_isi (K := K) (H := H) (.ty "int") h (kit_ty h1)
      have e : isNum x = false := by cases x <;> first | rfl | exact absurd rfl (n1 _)
      rw [e]
      exact ev_and0 (ev_cb (ea_cons (ev_var rfl) (ea_cons ev_c ea_nil)) h0)

theorem sv_num {H : Hp} {x : V} (h : Th K H x) : SpV (spNum K) [x] H (.bl (isNum x)) := fun H1 e Q q _ => ⟨x, rfl, h.mono e, q⟩
local macro_rules | `(tactic| walk_at "sp") => `(tactic| first | exact sv_num (.int _) | exact sv_num (.bl _) | exact sv_num (by assumption))
def isVal (x : V) : Bool := isBl x || isNum x
def spVal (K : PySem.W.Frag) : Sp := fun vs H Q _ => ∃ x, vs = [x] ∧ Th K H x ∧ RetV (.bl (isVal x)) H Q
abbrev s_is_value : Stmt := top 4
theorem sc_is_value : FnScope ["thing"] ["thing"] (defScope s_is_value) := ⟨rfl, rfl, rfl, by decide +kernel, rfl, by decide +kernel, by decide +kernel⟩
theorem ok_is_value {f : Addr} {fd : FuncData} (F : FunK K "is_value" "is_value" s_is_value f fd) (T : Txt mg) (h_is_number : Has P w K mg base CX0 "is_number" 1 ["thing"] [] (spNum K)) : FnOk P w K mg base CX0 2 f fd ["thing"] (spVal K) := by
  refine okN F sc_is_value (fun vs H Q E h => ?_) (fun cdv A outer s H vs Q E hr h => ?_)
  · obtain ⟨x, rfl, _⟩ := h
    rfl
  · obtain ⟨x, rfl, h, k⟩ := h
    have nd := sc_is_value.nd
    refine ⟨_, (pss_one (ps_ret (pe_or (pe_callB call_isi rfl T.b.isinstance_ boot_isinstance (pa_cons (pv 0) (pa_cons (pe_ty T.b.bool_ boot_bool) pa_nil))) (pe_one (pe_callH h_is_number (hr.mono (by decide)) rfl pass0 (pa_cons (pv 0) pa_nil)))))), ?_⟩
    refine s_ret (v := .bl (isVal x)) ?_ k
    cases h with
    | int i => (refine' ev_is ?h1 ?h2; (case h1 => walk_at "ev"); (case h2 => rfl))
    | bl b => (refine' ev_is ?h1 ?h2; (case h1 => walk_at "ev"); (case h2 => rfl))
    | @oth _ t h h1 h2 n1 n2 =>
      have h0 := rc_isi (K := K) (H := H) (.ty "bool") h (kit_ty h2)
      have e : isVal x = isNum x := by cases x <;> first | rfl | exact absurd rfl (n2 _)
      rw [e]
      exact ev_or0 (ev_cb (ea_cons (ev_var rfl) (ea_cons ev_c ea_nil)) h0) (ev_call (ea_cons (ev_var rfl) ea_nil) (sv_num (.oth h h1 h2 n1 n2)))
theorem sv_val {H : Hp} {x : V} (h : Th K H x) : SpV (spVal K) [x] H (.bl (isVal x)) := fun H1 e Q q _ => ⟨x, rfl, h.mono e, q⟩
local macro_rules | `(tactic| walk_at "sp") => `(tactic| first | exact sv_val (.int _) | exact sv_val (.bl _) | exact sv_val (by assumption))
def brought (n : Int) : Int := (n - -128) % 256 + -128
def spBr : Sp := fun vs H Q _ => ∃ n : Int, vs = [.int n] ∧ RetV (.int (brought n)) H Q
abbrev s_brought : Stmt := top 5
theorem sc_brought : FnScope ["number"] ["number"] (defScope s_brought) := ⟨rfl, rfl, rfl, by decide +kernel, rfl, by decide +kernel, by decide +kernel⟩
theorem ok_brought {f : Addr} {fd : FuncData} (F : FunK K "brought" "brought" s_brought f fd) (T : Txt mg) : FnOk P w K mg base CX0 1 f fd ["number"] spBr := by
  refine okN F sc_brought (fun vs H Q E h => ?_) (fun cdv A outer s H vs Q E hr h => ?_)
  · obtain ⟨x, rfl, _⟩ := h
    rfl
  · obtain ⟨n, rfl, k⟩ := h
    have nd := sc_brought.nd
    refine ⟨_, (pss_one (ps_ret (pe_op op_add (pe_op op_mod (pe_op op_sub (pv 0) (pe_gI T.g_LEAST)) pe_int) (pe_gI T.g_LEAST)))), ?_⟩
    refine s_ret (v := .int (brought n)) ?_ k
    (refine' ev_is ?h1 ?h2; (case h1 => walk_at "ev"); (case h2 => rfl))
theorem sv_br {H : Hp} {n : Int} : SpV spBr [.int n] H (.int (brought n)) := fun H1 e Q q _ => ⟨n, rfl, q⟩
local macro_rules | `(tactic| walk_at "sp") => `(tactic| exact sv_br)
def mixed (c k : Int) : Int := let m := (c + 7919 * k + 11) * 48271 % 2147483647; (m * m + 40692 * m) % 2147483399
theorem mixed_le (c k : Int) : 0 ≤ mixed c k ∧ mixed c k < 2147483399 := by
  unfold mixed
  constructor
  · exact Int.emod_nonneg _ (by decide)
  · exact Int.emod_lt_of_pos _ (by decide)
def spMx : Sp := fun vs H Q _ => ∃ c k : Int, vs = [.int c, .int k] ∧ RetV (.int (mixed c k)) H Q
abbrev s_law_mixed : Stmt := top 8
theorem sc_law_mixed : FnScope ["_law_cell", "_law_k", "_law_mix"] ["_law_cell", "_law_k"] (defScope s_law_mixed) := ⟨rfl, rfl, rfl, by decide +kernel, rfl, by decide +kernel, by decide +kernel⟩
theorem ok_law_mixed {f : Addr} {fd : FuncData} (F : FunK K "_law_mixed" "_law_mixed" s_law_mixed f fd) : FnOk P w K mg base CX0 1 f fd ["_law_cell", "_law_k"] spMx := by
  refine okN F sc_law_mixed (fun vs H Q E h => ?_) (fun cdv A outer s H vs Q E hr h => ?_)
  · obtain ⟨c, k, rfl, _⟩ := h
    rfl
  · obtain ⟨c, j, rfl, k⟩ := h
    have nd := sc_law_mixed.nd
    refine ⟨_, (pss_cons (ps_set (i := 2) nd rfl (Or.inl rfl) (pe_op op_mod (pe_op op_mulI (pe_op op_add (pe_op op_add (pv 0) (pe_op op_mulI pe_int (pv 1))) pe_int) pe_int) pe_int))
      (pss_one (ps_ret (pe_op op_mod (pe_op op_add (pe_op op_mulI (pv 2) (pv 2)) (pe_op op_mulI pe_int (pv 2))) pe_int)))), ?_⟩
    refine' q_asg ?h1 ?h2
    case h1 => walk_at "ev"
    case h2 =>
      intro H1 e1
      refine s_ret (v := .int (mixed c j)) ?_ fun H2 e2 => k H2 (e1.trans e2)
      (refine' ev_is ?h1 ?h2; (case h1 => walk_at "ev"); (case h2 => rfl))
theorem sv_mx {H : Hp} {c k : Int} : SpV spMx [.int c, .int k] H (.int (mixed c k)) := fun H1 e Q q _ => ⟨c, k, rfl, q⟩
local macro_rules | `(tactic| walk_at "sp") => `(tactic| exact sv_mx)
def spWh : Sp := fun vs H Q _ => ∃ n : Int, vs = [.int n] ∧ RetV (.bl true) H Q
abbrev s_law_whole : Stmt := top 9
theorem sc_law_whole : FnScope ["_law_found"] ["_law_found"] (defScope s_law_whole) := ⟨rfl, rfl, rfl, by decide +kernel, rfl, by decide +kernel, by decide +kernel⟩
theorem ok_law_whole {f : Addr} {fd : FuncData} (F : FunK K "_law_whole" "_law_whole" s_law_whole f fd) (T : Txt mg) : FnOk P w K mg base CX0 1 f fd ["_law_found"] spWh := by
  refine okN F sc_law_whole (fun vs H Q E h => ?_) (fun cdv A outer s H vs Q E hr h => ?_)
  · obtain ⟨x, rfl, _⟩ := h
    rfl
  · obtain ⟨n, rfl, k⟩ := h
    have nd := sc_law_whole.nd
    refine ⟨_, (pss_one (ps_ret (pe_and (pe_callB call_isi rfl T.b.isinstance_ boot_isinstance (pa_cons (pv 0) (pa_cons (pe_ty T.b.int_ boot_int) pa_nil))) (pe_one (pe_not (pe_callB call_isi rfl T.b.isinstance_ boot_isinstance (pa_cons (pv 0) (pa_cons (pe_ty T.b.bool_ boot_bool) pa_nil)))))))), ?_⟩
    refine s_ret (v := .bl true) ?_ k
    (refine' ev_is ?h1 ?h2; (case h1 => walk_at "ev"); (case h2 => rfl))
theorem sv_wh {H : Hp} {n : Int} : SpV spWh [.int n] H (.bl true) := fun H1 e Q q _ => ⟨n, rfl, q⟩
local macro_rules | `(tactic| walk_at "sp") => `(tactic| exact sv_wh)
/-- the numbers of a cell: a new list of seven -/
def RetNs (H : Hp) (Q : VK) : Prop := ∀ (ns : List Int) p H2, ns.length = 7 → H p = none → Ex H H2 → H2 p = some (.lst (ns.map V.int)) → Q (.ref p) H2
def spNs : Sp := fun vs H Q _ => ∃ c : Int, vs = [.int c] ∧ Builtin.Int.intBits c ≤ 1048576 ∧ RetNs H Q
abbrev s_law_numbers : Stmt := top 10
theorem sc_law_numbers : FnScope ["_law_cell", "_law_mix", "_law_near"] ["_law_cell"] (defScope s_law_numbers) := ⟨rfl, rfl, rfl, by decide +kernel, rfl, by decide +kernel, by decide +kernel⟩
def nears : List Int := [-129, -128, -127, -1, 0, 1, 126, 127, 128, 255, 256, -256, -255]
theorem ok_law_numbers {f : Addr} {fd : FuncData} (F : FunK K "_law_numbers" "_law_numbers" s_law_numbers f fd) (h__law_mixed : Has P w K mg base CX0 "_law_mixed" 1 ["_law_cell", "_law_k"] [] spMx) : FnOk P w K mg base CX0 2 f fd ["_law_cell"] spNs := by
  refine okN F sc_law_numbers (fun vs H Q E h => ?_) (fun cdv A outer s H vs Q E hr h => ?_)
  · obtain ⟨x, rfl, _⟩ := h
    rfl
  · obtain ⟨c, rfl, hb, k⟩ := h
    have nd := sc_law_numbers.nd
    refine ⟨_, (pss_cons (ps_set (i := 1) nd rfl (Or.inl rfl) (pe_callH h__law_mixed (hr.mono (by decide)) rfl pass0 (pa_cons (pv 0) (pa_cons pe_int pa_nil))))
      (pss_cons (ps_set (i := 2) nd rfl (Or.inl rfl) (pe_ix ix_list (pe_lst (pa_cons (pe_un un_neg pe_int) (pa_cons (pe_un un_neg pe_int) (pa_cons (pe_un un_neg pe_int) (pa_cons (pe_un un_neg pe_int) (pa_cons pe_int (pa_cons pe_int (pa_cons pe_int (pa_cons pe_int (pa_cons pe_int (pa_cons pe_int (pa_cons pe_int (pa_cons (pe_un un_neg pe_int) (pa_cons (pe_un un_neg pe_int) pa_nil)))))))))))))) (pe_op op_mod (pe_op op_fdiv (pv 1) pe_int) pe_int) (fun _ _ => rfl)))
      (pss_one (ps_ret (pe_lst (pa_cons (pv 0) (pa_cons (pe_un un_neg (pv 0)) (pa_cons (pv 2) (pa_cons (pe_op op_add (pv 2) (pe_op op_mulI pe_int (pe_op op_sub (pe_op op_mod (pe_op op_fdiv (pv 1) pe_int) pe_int) pe_int))) (pa_cons (pe_op op_sub (pe_op op_mod (pv 1) pe_int) pe_int) (pa_cons (pv 1) (pa_cons (pe_op op_mulI (pe_op op_mulI (pv 0) (pv 0)) (pv 0)) pa_nil)))))))))))), ?_⟩
    have m1 := mixed_le c 1
    refine' q_asg ?h1 ?h2
    case h1 => walk_at "ev"
    case h2 =>
      intro H1 e1
      refine' q_asg (v := .int (nears.getD ((mixed c 1 / 7 % 13).toNat) 0)) ?h1 ?h2
      case h1 =>
        refine' ev_opL1 (xs := nears.map V.int) (el_lst ?ha (by decide)) (fun H2 e2 => ?hi) ?hr
        case ha => (refine' ea_is ?g1 ?g2; (case g1 => walk_at "ea"); (case g2 => rfl))
        case hi => walk_at "ev"
        case hr => exact fun p H2 hp e2 => rv_ixL (sq_of hp) (at_ints (by omega) (by show _ < (13 : Int); omega))
      case h2 =>
        intro H2 e2
        generalize nears.getD ((mixed c 1 / 7 % 13).toNat) 0 = near
        have c1 : IntMulOk c c := mul_bits (by omega)
        have c2 : IntMulOk (c * c) c := mul_bits (by have := bits_mul c c; omega)
        refine' s_retL (xs := ([c, -c, near, near + 256 * (mixed c 1 / 91 % 9 - 4), mixed c 1 % 1000 - 500, mixed c 1, c * c * c] : List Int).map V.int) (el_lst ?ha (by show 7 ≤ 100000; decide)) ?hk
        case ha => (refine' ea_is ?g1 ?g2; (case g1 => walk_at "ea"); (case g2 => rfl))
        case hk => exact fun p H3 hp e3 h3 => k _ p H3 rfl (fresh_back (e1.trans e2) hp) ((e1.trans e2).trans e3) h3

theorem sl_ns {c : Int} {H : Hp} (hb : Builtin.Int.intBits c ≤ 1048576) {te : TE} {σ : L2.St} (h : Ev te σ H (.int c)) {E : XK} :
    ∀ H1, Ex H H1 → ∀ Q : VK, RetNs H1 Q → tCall spNs [] E (tCons te tNil) σ H1 Q := fun H1 e Q q => h H1 e _ fun H2 e2 => ⟨c, rfl, hb, fun ns p H3 hl hp e3 h3 => q ns p H3 hl (fresh_back e2 hp) (e2.trans e3) h3⟩
/-- a thing that is no number -/
def Nn (K : PySem.W.Frag) (H : Hp) (x : V) : Prop := Th K H x ∧ ∀ i, x ≠ .int i
theorem Nn.mo : Mono (Nn K) := fun H H' x e h => ⟨h.1.mono e, h.2⟩
theorem nn_bl {H : Hp} {b : Bool} : Nn K H (.bl b) := ⟨.bl b, fun _ z => nomatch z⟩
theorem nn_o {H : Hp} {x : V} {t : String} (h : TyX K H x (.type t)) (h1 : kitB t "int" = some false) (h2 : kitB t "bool" = some false) (n1 : ∀ i, x ≠ .int i) (n2 : ∀ b, x ≠ .bl b) : Nn K H x := ⟨.oth h h1 h2 n1 n2, n1⟩
theorem nn_str {H : Hp} {x : Str} : Nn K H (.str x) := nn_o (t := "str") (.base (.str x)) (by decide +kernel) (by decide +kernel) (fun _ z => nomatch z) (fun _ z => nomatch z)
theorem nn_non {H : Hp} : Nn K H .non := nn_o (t := "NoneType") (.base .non) (by decide +kernel) (by decide +kernel) (fun _ z => nomatch z) (fun _ z => nomatch z)
theorem nn_l {H : Hp} {a : Addr} {xs : List V} (h : H a = some (.lst xs)) : Nn K H (.ref a) := nn_o (t := "list") (.base (.lst h)) (by decide +kernel) (by decide +kernel) (fun _ z => nomatch z) (fun _ z => nomatch z)
theorem nn_t {H : Hp} {a : Addr} {xs : List V} (h : H a = some (.tup xs)) : Nn K H (.ref a) := nn_o (t := "tuple") (.base (.tup h)) (by decide +kernel) (by decide +kernel) (fun _ z => nomatch z) (fun _ z => nomatch z)
theorem nn_d {H : Hp} {a : Addr} {xs : List (Key × V)} (h : H a = some (.dK xs)) : Nn K H (.ref a) := nn_o (t := "dict") (.base (.dK h)) (by decide +kernel) (by decide +kernel) (fun _ z => nomatch z) (fun _ z => nomatch z)
/-- the law's test of a thing -/
def spLaw (K : PySem.W.Frag) : Sp := fun vs H Q _ => ∃ (a : Addr) (ns : List Int), vs = [.ref a] ∧ SqL K H a (ns.map V.int) ∧ ns.length ≤ 63 ∧ (∀ z ∈ ns, Builtin.Int.intBits z ≤ 1048576) ∧ ∀ H', Q (.bl true) H'
abbrev s_law : Stmt := top 11
theorem sc_law : FnScope ["_law_script", "_law_things", "_law_thing", "_law_told", "_law_cell", "_law_number", "_law_good", "_law_found"] ["_law_script"] (defScope s_law) := ⟨rfl, rfl, rfl, by decide +kernel, rfl, by decide +kernel, by decide +kernel⟩
theorem ok_law {f : Addr} {fd : FuncData} (F : FunK K "law" "law" s_law f fd) (T : Txt mg) (h_is_number : Has P w K mg base CX0 "is_number" 1 ["thing"] [] (spNum K)) (h_is_value : Has P w K mg base CX0 "is_value" 2 ["thing"] [] (spVal K))
    (h_brought : Has P w K mg base CX0 "brought" 1 ["number"] [] spBr) (h__law_whole : Has P w K mg base CX0 "_law_whole" 1 ["_law_found"] [] spWh) (h__law_numbers : Has P w K mg base CX0 "_law_numbers" 2 ["_law_cell"] [] spNs) : FnOk P w K mg base CX0 3 f fd ["_law_script"] (spLaw K) := by
  refine okN F sc_law (fun vs H Q E h => ?_) (fun cdv A outer s H vs Q E hr h => ?_)
  · obtain ⟨a, ns, rfl, _⟩ := h
    rfl
  · obtain ⟨a, ns, rfl, hS, hlen, hb, k⟩ := h
    have nd := sc_law.nd
    refine ⟨_, (pss_cons (ps_set (i := 1) nd rfl (Or.inl rfl) (pe_lst (pa_cons pe_bl (pa_cons pe_bl (pa_cons pe_non (pa_cons pe_str (pa_cons pe_str (pa_cons pe_str (pa_cons (pe_lst (pa_cons pe_int pa_nil)) (pa_cons (pe_tup (pa_cons pe_int pa_nil)) (pa_cons (pe_lst pa_nil) (pa_cons (pe_tup pa_nil) (pa_cons (pe_lst (pa_cons pe_str pa_nil)) (pa_cons (pe_tup (pa_cons pe_bl pa_nil)) (pa_cons (pe_tup (pa_cons (pe_tup (pa_cons pe_int pa_nil)) pa_nil)) (pa_cons (pe_lst (pa_cons pe_non pa_nil)) (pa_cons pe_str (pa_cons pe_dnewK pa_nil))))))))))))))))))
      (pss_cons (ps_for PassesOwn.never rfl (pi_list (pv 1)) (pg_name (i := 2) nd rfl (Or.inl rfl))
      (pss_cons (ps_set (i := 3) nd rfl (Or.inl rfl) (pe_callH h_is_value (hr.mono (by decide)) rfl pass0 (pa_cons (pv 2) pa_nil)))
      (pss_one (ps_if (PW.pt (pw_or (pt_cmpR op_notBl (pe_callH h_is_number (hr.mono (by decide)) rfl pass0 (pa_cons (pv 2) pa_nil)) pe_bl (nomark _)) (pw_or (pt_not (pt_val (pe_callB call_isi rfl T.b.isinstance_ boot_isinstance (pa_cons (pv 3) (pa_cons (pe_ty T.b.bool_ boot_bool) pa_nil))))) (pw_or1 (pt_cmpR op_ne (pv 3) (pe_callB call_isi rfl T.b.isinstance_ boot_isinstance (pa_cons (pv 2) (pa_cons (pe_ty T.b.bool_ boot_bool) pa_nil))) (nomark _))))))
      (pss_one (ps_ret pe_bl))
      pss_nil))))
      (pss_cons (ps_for PassesOwn.never rfl (pi_list (pe_op op_cat (pe_slice sl_list (pv 0) po_none (po_some pe_int)) (pe_lst (pa_cons pe_int (pa_cons pe_int (pa_cons pe_int (pa_cons pe_int pa_nil))))))) (pg_name (i := 4) nd rfl (Or.inl rfl))
      (pss_one (ps_for PassesOwn.never rfl (pi_list (pe_callH h__law_numbers (hr.mono (by decide)) rfl pass0 (pa_cons (pv 4) pa_nil))) (pg_name (i := 5) nd rfl (Or.inl rfl))
      (pss_cons (ps_set (i := 6) nd rfl (Or.inl rfl) (pe_chain op_le op_le (pe_un un_neg pe_int) (pv 5) pe_int))
      (pss_cons (ps_if (PW.pt (pw_or (pt_cmpR (op_neD hr.units) (pe_lst (pa_cons (pe_callH h_is_number (hr.mono (by decide)) rfl pass0 (pa_cons (pv 5) pa_nil)) (pa_cons (pe_callH h_is_value (hr.mono (by decide)) rfl pass0 (pa_cons (pv 5) pa_nil)) pa_nil))) (pe_lst (pa_cons (pv 6) (pa_cons (pv 6) pa_nil))) (nomark _)) (pw_or1 (pt_not (pt_val (pe_callB call_isi rfl T.b.isinstance_ boot_isinstance (pa_cons (pe_callH h_is_number (hr.mono (by decide)) rfl pass0 (pa_cons (pv 5) pa_nil)) (pa_cons (pe_ty T.b.bool_ boot_bool) pa_nil))))))))
      (pss_one (ps_ret pe_bl))
      pss_nil)
      (pss_cons (ps_set (i := 7) nd rfl (Or.inl rfl) (pe_callH h_brought (hr.mono (by decide)) rfl pass0 (pa_cons (pv 5) pa_nil)))
      (pss_one (ps_if (PW.pt (pw_or (pt_not (pt_val (pe_callH h__law_whole (hr.mono (by decide)) rfl pass0 (pa_cons (pv 7) pa_nil)))) (pw_or (pt_not (pt_chain op_le op_le (pe_un un_neg pe_int) (pv 7) pe_int)) (pw_or1 (pt_cmpR op_ne (pe_op op_mod (pe_op op_sub (pv 7) (pv 5)) pe_int) pe_int (nomark _))))))
      (pss_one (ps_ret pe_bl))
      pss_nil))))))))
      (pss_one (ps_ret pe_bl))))), ?_⟩
    -- the things
    refine' q_asgLP (n := 16) (Pr := Nn K) ?hi (by decide) Nn.mo ?hk
    case hi =>
      repeat' first
        | exact eap_nil
        | (refine' eap_cons Nn.mo ?_ ?_)
      all_goals first
        | exact evp_of Nn.mo ev_c nn_bl
        | exact evp_of Nn.mo ev_c nn_str
        | exact evp_of Nn.mo ev_c nn_non
        | exact evp_l (el_lst (ea_cons ev_c ea_nil) (by decide)) fun _ _ h _ => nn_l h
        | exact evp_l (el_lst ea_nil (by decide)) fun _ _ h _ => nn_l h
        | exact evp_u (eu_tup (ea_cons ev_c ea_nil) (by decide)) fun _ _ h _ => nn_t h
        | exact evp_u (eu_tup ea_nil (by decide)) fun _ _ h _ => nn_t h
        | exact evp_dK fun _ _ h => nn_d h
        | skip
      exact evp_tup (Pr0 := fun _ _ => True) (eap_cons (fun _ _ _ _ _ => trivial) (evp_u (eu_tup (ea_cons ev_c ea_nil) (by decide)) fun _ _ _ _ => trivial) eap_nil) (by decide) fun _ _ _ h => nn_t h
    case hk =>
      intro p xs H1 hp e1 h1 hl hN
      refine q_forLn (a := p) (xs := xs) (ev_var rfl) (sq_of h1) (fun i σ' H' => ∃ u v, σ' = [some (.ref a), some (.ref p), u, v, none, none, none, none] ∧ Ex H1 H') (fun H2 e2 => ⟨none, none, rfl, e2⟩) (fun i σ' H' _ ⟨_, _, _, e2⟩ => ex_l e2 (sq_of h1)) ?_ ?_
      · rintro i x σ' H' hi ⟨u, v, rfl, e2⟩
        have hx : Nn K H' x := Nn.mo _ _ _ e2 (hN x (List.mem_of_getElem? hi))
        obtain ⟨ht, hni⟩ := hx
        refine' q_asg (v := .bl (isVal x)) ?ha ?hk
        case ha => walk_at "ev"
        case hk =>
          intro H2 e3
          have ht2 := ht.mono e3
          refine' s_if (b := false) ?hb (fun z => by cases z) ?hc
          case hb =>
            cases ht2 with
            | int i => exact absurd rfl (hni i)
            | bl b => walk_at "et"
            | @oth _ t h h1 h2 n1 n2 =>
              have h0 := rc_isi (K := K) (H := H2) (.ty "bool") h (kit_ty h2)
              have e : isNum x = false := by cases x <;> first | rfl | exact absurd rfl (n1 _)
              have e' : isVal x = false := by cases x <;> first | rfl | exact absurd rfl (n1 _) | exact absurd rfl (n2 _)
              rw [e']
              have s1 := sv_num (K := K) (.oth h h1 h2 n1 n2)
              rw [e] at s1
              refine' et_or0 (et_test (ev_is (ev_op (ev_call (ea_cons (ev_var rfl) ea_nil) s1) ev_c rv_notB) rfl)) (et_or0 ?_ ?_)
              · walk_at "et"
              · exact et_test (ev_is (ev_op (ev_var rfl) (ev_cb (ea_cons (ev_var rfl) (ea_cons ev_c ea_nil)) h0) (rv_ne rfl)) rfl)
          case hc =>
            intro _ H3 e4
            exact ⟨_, _, rfl, (e2.trans e3).trans e4⟩
      · rintro σ' H' ⟨u, v, rfl, e2⟩
        have hS' : SqL K H' a (ns.map V.int) := ex_l (e1.trans e2) hS
        have hc : (cutV (ns.map V.int) none (some 20)).length ≤ 63 := by
          have := cutV_length (ns.map V.int) none (some 20)
          rw [List.length_map] at this
          omega
        refine q_forNLn (xs := cutV (ns.map V.int) none (some 20) ++ [.int 0, .int 1, .int 127, .int 128]) (el_cat (el_sl (ev_var rfl) eo_none (eo_some ev_c) hS') (el_lst (ea_cons ev_c (ea_cons ev_c (ea_cons ev_c (ea_cons ev_c ea_nil)))) (by decide)) (by show _ + 4 ≤ 100000; omega))
          (fun q i σ' H2 => H2 q = some (.lst (cutV (ns.map V.int) none (some 20) ++ [.int 0, .int 1, .int 127, .int 128])) ∧ ∃ u v c d e f g, σ' = [some (.ref a), u, v, c, d, e, f, g]) ?_ ?_ ?_ ?_
        · exact fun q H2 _ _ h2 => ⟨h2, _, _, _, _, _, _, _, rfl⟩
        · exact fun q i σ' H2 _ h => sq_of h.1
        · rintro q i x σ' H2 hi ⟨hq, u, v, c, d, e, f, g, rfl⟩
          have hx : ∃ n, x = .int n ∧ Builtin.Int.intBits n ≤ 1048576 := by
            rcases List.mem_append.mp (List.mem_of_getElem? hi) with z | z
            · obtain ⟨n, hn, rfl⟩ := List.mem_map.mp (cutV_mem z)
              exact ⟨n, rfl, hb n hn⟩
            · simp only [List.mem_cons, List.not_mem_nil, or_false] at z
              rcases z with rfl | rfl | rfl | rfl <;> exact ⟨_, rfl, by decide +kernel⟩
          obtain ⟨n, rfl, hbn⟩ := hx
          refine sl_ns (H := H2) hbn (ev_var rfl) H2 (Ex.refl _) _ fun n7 p7 H3 hl7 hp7 e3 h3 => ⟨p7, rfl, ⟨_, sq_of h3⟩, for_list (xs := n7.map V.int) (fun i σ' H4 => Ex H3 H4 ∧ ∃ u v c d e f g, σ' = [some (.ref a), u, v, c, d, e, f, g]) ⟨Ex.refl _, _, _, _, _, _, _, _, rfl⟩ (fun _ _ _ _ z => sq_of (z.1 _ _ h3)) ?_ ?_⟩
          · rintro j y σ' H4 hj ⟨e4, u, v, c, d, e, f, g, rfl⟩
            obtain ⟨m, rfl, _⟩ := map_get hj
            show tSeq _ _ _ ([some (.ref a), u, v, c, d, some (.int m), f, g] : L2.St) H4
            refine' q_asg (v := .bl (isNum (.int m))) ?ha ?hk
            case ha => (refine' ev_is ?g1 ?g2; (case g1 => walk_at "ev"); (case g2 => rfl))
            case hk =>
              intro H5 e5
              refine' q_when (b := false) ?hb (fun z => by cases z) ?hc
              case hb =>
                refine' et_or0 (et_test (ev_opLL (el_lst ?ha ?hl) (el_lst ?hb ?hl2) fun p q H6 hp hq e6 => ?hr)) ?hz
                case ha => walk_at "ea"
                case hl => exact (by decide : 2 ≤ 100000)
                case hb => walk_at "ea"
                case hl2 => exact (by decide : 2 ≤ 100000)
                case hr =>
                  refine rv_neDs (d := .list [.bool (isNum (.int m)), .bool (isNum (.int m))]) (.lst (sq_of hp) (.cons (.bl _) (.cons ?_ .nil))) (.lst (sq_of hq) (.cons (.bl _) (.cons (.bl _) .nil))) ?_
                  · exact .bl _
                  · cases isNum (.int m) <;> decide +kernel
                case hz => walk_at "et"
              case hc =>
                intro _ H6 e6
                refine' q_asg (v := .int (brought m)) ?ha ?hk
                case ha => walk_at "ev"
                case hk =>
                  intro H7 e7
                  have h1 : -128 ≤ brought m ∧ brought m ≤ 127 := by unfold brought; omega
                  have h2 : (brought m - m) % 256 = 0 := by unfold brought; omega
                  refine' s_when (b := false) ?hb (fun z => by cases z) ?hc
                  case hb =>
                    refine' et_is ?g1 ?g2
                    case g1 => walk_at "et"
                    case g2 => simp [h1.1, h1.2, h2]
                  case hc => exact fun _ H8 e8 => ⟨((e4.trans e5).trans e6).trans (e7.trans e8), _, _, _, _, _, _, _, rfl⟩
          · rintro σ' H4 ⟨e4, u, v, c, d, e, f, g, rfl⟩
            exact ⟨e4 _ _ (e3 _ _ hq), _, _, _, _, _, _, _, rfl⟩
        · intro q σ' H2 h
          exact k H2
end
/-! ### the head -/
def dd (x : Str) (st : Stmt) : He.DefD := ⟨(x, none), x, x, defArgs st, defBody st, defScope st, [], []⟩
def fn : List He.DefD := [dd "is_number" s_is_number, dd "is_value" s_is_value, dd "brought" s_brought, dd "_law_mixed" s_law_mixed, dd "_law_whole" s_law_whole, dd "_law_numbers" s_law_numbers, dd "law" s_law]
def fa : List He.Fa := biFa ++ [.int "LEAST" (-128), .int "GREATEST" 127, .glo "is_number", .glo "is_value", .glo "brought", .glo "_law_mixed", .glo "_law_whole", .glo "_law_numbers", .glo "law"]
abbrev R : PySem.W.OpenRow := PySem.W.OpenLaw.row PySem.Challenge.rw_runrows_k02_values
abbrev hk : PySem.W.Hook := He.hookD 4 fa fn
def ob (s : PySem.W.SharedT) : He.AlD := He.obsDG 4 fa fn (HandSHeadRun.getT s)
theorem ob_eq (s : PySem.W.SharedT) : ob s = hk.obs s.abs := He.obsDG_eq (HandSHeadRun.getT_eq s)
theorem run (w : World) : HandSHeadRun.RunEq R (PySem.W.view R.prog [11]) hk ob 4000 ["__name__", "LEAST", "GREATEST", "is_number", "is_value", "brought", "_law_cell_at", "_law_mixed", "_law_whole", "_law_numbers"] w := by
  intro os
  kernel_rfl
theorem facts {P : Program} {w : World} {K : PySem.W.Frag} {h : Heap} {mg : Str → Option Value} {f : Addr} (X : K.In h) (G : h.Ns mainGlobals mg) (hfa : mg ("law" : Str) = some (.ref f)) (c : He.SaysD fa fn K) :
    ∃ fd : FuncData, (∀ (s : Shared) (v : Value), BindsTo s fd ⟨[v], []⟩ [("_law_script", v)]) ∧ ∀ base : Heap, K.In base → base.Ns mainGlobals mg → FnOk P w K mg base CX0 3 f fd ["_law_script"] (spLaw K) := by
  have T : Txt mg := ⟨bi_of X G c, He.int_ok X G (c.fact 19), He.int_ok X G (c.fact 20)⟩
  obtain ⟨fd0, F0⟩ := c.def_ 0 (d := dd "is_number" s_is_number) rfl
  obtain ⟨fd1, F1⟩ := c.def_ 1 (d := dd "is_value" s_is_value) rfl
  obtain ⟨fd2, F2⟩ := c.def_ 2 (d := dd "brought" s_brought) rfl
  obtain ⟨fd3, F3⟩ := c.def_ 3 (d := dd "_law_mixed" s_law_mixed) rfl
  obtain ⟨fd4, F4⟩ := c.def_ 4 (d := dd "_law_whole" s_law_whole) rfl
  obtain ⟨fd5, F5⟩ := c.def_ 5 (d := dd "_law_numbers" s_law_numbers) rfl
  obtain ⟨fd6, F6⟩ := c.def_ 6 (d := dd "law" s_law) rfl
  have e := hfa.symm.trans (He.glo_ok X G (c.fact 27 (f := .glo "law") rfl))
  cases e
  have b := FunD.bindsA (ps := ["_law_script"]) F6 fun _ _ _ _ _ _ us hl => match us, hl with | [_], _ => rfl
  refine ⟨fd6, fun s v => b s [v] rfl, fun base _ _ => ?_⟩
  have H0 := has_of (He.glo_ok X G (c.fact 21)) F0 (ok_is_number (P := P) (w := w) (base := base) F0 T) fun _ _ _ _ _ _ us hl => match us, hl with | [_], _ => rfl
  have H1 := has_of (He.glo_ok X G (c.fact 22)) F1 (ok_is_value F1 T H0) fun _ _ _ _ _ _ us hl => match us, hl with | [_], _ => rfl
  have H2 := has_of (He.glo_ok X G (c.fact 23)) F2 (ok_brought (P := P) (w := w) (base := base) F2 T) fun _ _ _ _ _ _ us hl => match us, hl with | [_], _ => rfl
  have H3 := has_of (He.glo_ok X G (c.fact 24)) F3 (ok_law_mixed (P := P) (w := w) (base := base) F3) fun _ _ _ _ _ _ us hl => match us, hl with | [_, _], _ => rfl
  have H4 := has_of (He.glo_ok X G (c.fact 25)) F4 (ok_law_whole (P := P) (w := w) (base := base) F4 T) fun _ _ _ _ _ _ us hl => match us, hl with | [_], _ => rfl
  have H5 := has_of (He.glo_ok X G (c.fact 26)) F5 (ok_law_numbers F5 H3) fun _ _ _ _ _ _ us hl => match us, hl with | [_], _ => rfl
  exact ok_law F6 T H0 H1 H2 H4 H5
end K02
open PySem PySem.W PySem.Calls PyProof.Rows
theorem PySem.Challenge.cw_runrows_k02_values_holds : PySem.Challenge.rw_runrows_k02_values.Holds := by
  w_on; o_law
  refine HandSHeadRun.head_any (r := OpenLaw.row PySem.Challenge.rw_runrows_k02_values) (q := view (OpenLaw.row PySem.Challenge.rw_runrows_k02_values).prog [11]) (H := K02.hk) (ob := K02.ob) (M := 4000) (loose := ["__name__", "LEAST", "GREATEST", "is_number", "is_value", "brought", "_law_cell_at", "_law_mixed", "_law_whole", "_law_numbers"]) (d := HandSHeadRun.topDef (OpenLaw.row PySem.Challenge.rw_runrows_k02_values).prog 11) (kwd := []) K02.ob_eq
    (by kernel_rfl) (fun s => by kernel_rfl) K02.run (by kernel_rfl) (by kernel_rfl) (by kernel_rfl) (by rfl) (by first | assumption | decide +kernel) (by decide +kernel) ⟨rfl, rfl, rfl, rfl, rfl, by decide +kernel⟩ ?hw ?hc
  case hw => w_witness2
  case hc =>
    refine RB.walk_ofEB (l := PySem.Challenge.rw_runrows_k02_values) (n := 63) (k := 3) (x := "_law_script") (CX := L2.CX0) rfl (by decide) (by kernel_rfl) ⟨rfl, by decide, by decide⟩ ?F (fun _ _ _ _ z => z)
    intro w mg fa h Y G hmg0
    obtain ⟨K, KX, c⟩ := Y
    have hmg : mg ("law" : PySem.Str) = some (.ref fa) := by
      have e : (HandSHeadRun.topDef (OpenLaw.row PySem.Challenge.rw_runrows_k02_values).prog 11).name = ("law" : PySem.Str) := by kernel_rfl
      rw [← e]
      exact hmg0
    obtain ⟨fd, hb, hF⟩ := K02.facts (P := (PySem.Challenge.rw_runrows_k02_values).prog) (w := w) KX G hmg c
    exact ⟨K, fd, K02.spLaw K, KX, hb, fun H a ns hl hbits _ hS => ⟨a, ns, rfl, hS, hl, hbits, fun _ => rfl⟩, hF⟩
