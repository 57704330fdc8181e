import PyProof.Rows.All
import Wide.All
import OpenK.AllK
import Wide.FinOn
import HandS.ForMost
import HandS.Exc
import HandS.ExcOwn
import HandS.WordsExc
import HandS.Evl
import HandS.Steps
import HandS.IsInst
import HandS.Style
import HandS.TupAny
import HandS.Defaults
import HandS.Strs
import HandS.Head0
import HandS.Head1
import HandS.Head2
import HandS.HeadEnd
import HandS.EndBits
import HandS.HeadHook1
import HandS.HeadHook2
import HandS.Walk
import HandS.Zip
import PySem.Challenge.RW_runrows_k01_words_and_names
set_option Elab.async false
set_option linter.all false
set_option maxRecDepth 100000
set_option maxHeartbeats 4000000
/-! Our own layer: a def by its name, what an expression comes to, over any row. -/
namespace RB
open PySem PySem.Spec PyProof.Rows L2 Evl

/-! ### products of any size that the law's numbers come to -/
theorem op_mulI {X : Cx} : OpR X (binaryOp .Mult) (rI IntMulOk fun i j => .int (i * j)) := opI fun _ _ _ _ _ _ _ hc q => mul_int q hc

/-! ### a def by its name -/
structure Has (P : Program) (w : World) (K : PySem.W.Frag) (mg : Str → Option Value) (base : Heap) (CX : CXT) (x : Str) (k : Nat) (ps : List Str) (dvs : List V) (sp : Sp) : Prop where
  ex : ∃ f fd ds, mg x = some (.ref f) ∧ PySem.W.keepIn K (.ref f) = true ∧ Binds K fd ps ds ∧ Vals dvs ds ∧ FnOk P w K mg base CX k f fd ps sp
theorem Has.mono {P : Program} {w : World} {K : PySem.W.Frag} {mg : Str → Option Value} {base : Heap} {CX : CXT} {x : Str} {k j : Nat} {ps : List Str} {dvs : List V} {sp : Sp} (h : Has P w K mg base CX x k ps dvs sp) (l : k ≤ j) : Has P w K mg base CX x j ps dvs sp := by
  obtain ⟨f, fd, ds, h1, h2, h3, h4, F⟩ := h.ex
  exact ⟨f, fd, ds, h1, h2, h3, h4, F.mono l⟩
/-- a def of the module without defaults, as the head tells it -/
theorem has_of {P : Program} {w : World} {K : PySem.W.Frag} {mg : Str → Option Value} {base : Heap} {CX : CXT} {x : Str} {k : Nat} {ps : List Str} {sp : Sp} {qual : Str} {params : Arguments} {body : List Stmt} {scope : Scope} {f : Addr} {fd : FuncData}
    (g : mg x = some (.ref f)) (F : FunD K x qual params body scope [] [] f fd) (ok : FnOk P w K mg base CX k f fd ps sp)
    (h : ∀ (kV doc pm : Value) (an : Option Addr) (cdv ct : Value) (us : List Value), us.length = ps.length → bindArgs (PySem.W.fnOf x qual params body scope .none kV doc pm an cdv ct) ⟨us, []⟩ = pure (ps.zip us)) : Has P w K mg base CX x k ps [] sp :=
  ⟨f, fd, [], g, F.kp, F.bindsN h, .nil, ok⟩
/-- a def's body, nothing raised -/
theorem okN {P : Program} {w : World} {K : PySem.W.Frag} {mg : Str → Option Value} {base : Heap} {x qual : Str} {params : Arguments} {body : List Stmt} {scope : Scope} {dvs : List V} {kws : List (Str × V)} {f : Addr} {fd : FuncData} {N ps : List Str} {k : Nat} {sp : Sp}
    (F : FunD K x qual params body scope dvs kws f fd) (S : FnScope N ps scope) (len : ∀ vs H Q E, sp vs H Q E → vs.length = ps.length)
    (hbody : ∀ (cdv : Value) (A : Around) (outer : List Env) (s : Shared) (H : Hp) (vs : List V) (Q : VK) (E : XK), Room k (A.deeper (envOfC qual scope s.heap.objs.size f cdv)) → sp vs H Q E →
      ∃ t, PSs (cxOf CX0 P w K mg base N qual scope f cdv A outer s H E).nox body t ∧ t { nx := fun _ H' => Q .non H', rt := Q } (start N vs) H) : FnOk P w K mg base CX0 (k + 1) f fd ps sp :=
  F.ok S len fun cdv A outer s H vs Q E hr hsp => let ⟨t, h, q⟩ := hbody cdv A outer s H vs Q E hr hsp; ⟨t, h.nox, q⟩
section
variable {X : Cx} {CX : CXT} {k : Nat} {ps : List Str} {dvs : List V} {sp : Sp} {E : XK} {x : Str} {p pos : Pos} {e : Expr} {es : List Expr} {t : TA}
theorem pe_callH (h : Has X.prog X.w X.K X.mg X.base CX x k ps dvs sp) (hr : Room k X.A) (hg : Gl X x) (hx : Passes CX X E) (ha : PA X (e :: es) t) (hdb : (x == ("__debug__" : Str)) = false := by decide)
    (he : starEach (e :: es) X.env = (false, eval e X.env) :: starEach es X.env := by rfl) (hpl : (backTo pos (starEach es X.env)).any (·.1) = false := by rfl) : PE X (.Call (.Name x p) (e :: es) [] pos) (tCall sp dvs E t) := by
  obtain ⟨f, fd, ds, hm, hk, hb, hd, F⟩ := h.ex
  exact pe_call F hr hg hm hk hb hd hx ha hdb he hpl
theorem pe_callH0 (h : Has X.prog X.w X.K X.mg X.base CX x k ps dvs sp) (hr : Room k X.A) (hg : Gl X x) (hx : Passes CX X E) (hdb : (x == ("__debug__" : Str)) = false := by decide) : PE X (.Call (.Name x p) [] [] pos) (tCall sp dvs E tNil) := by
  obtain ⟨f, fd, ds, hm, hk, hb, hd, F⟩ := h.ex
  exact pe_call0 F hr hg hm hk hb hd hx hdb
end
section
variable {X : Cx} {x : Str} {pos : Pos}
/-- a module's number, text, object; a built-in type as a value -/
theorem pe_gI {i : Int} (hm : ∃ t, X.mg x = some (.int i t)) (hg : Gl X x := by rfl) (hd : (x == ("__debug__" : Str)) = false := by decide) : PE X (.Name x pos) (tC (.int i)) :=
  let ⟨_, h⟩ := hm
  pe_glob hg h ⟨_, rfl⟩ hd
theorem pe_gS {z : Str} (hm : ∃ t, X.mg x = some (.str z t)) (hg : Gl X x := by rfl) (hd : (x == ("__debug__" : Str)) = false := by decide) : PE X (.Name x pos) (tC (.str z)) :=
  let ⟨_, h⟩ := hm
  pe_glob hg h ⟨_, rfl⟩ hd
theorem pe_gR {a : Addr} (hm : X.mg x = some (.ref a)) (hg : Gl X x := by rfl) (hd : (x == ("__debug__" : Str)) = false := by decide) : PE X (.Name x pos) (tC (.ref a)) := pe_glob hg hm rfl hd
theorem pe_ty {n : String} (hm : X.mg x = none) (hv : bootBuiltins x = some (.type n)) (hg : Gl X x := by rfl) (hn : x ≠ "__name__" := by decide) (hd : (x == ("__debug__" : Str)) = false := by decide) : PE X (.Name x pos) (tC (.ty n)) := pe_bltn hg hm hv rfl hn hd
end
theorem hu1 {A : Around} {k : Nat} (hr : Room k A) : A.units + 1 < cLine := hu_of hr

/-! ### the built-ins, unbound in the module -/
structure Bi (mg : Str → Option Value) : Prop where
  len_ : mg "len" = none
  isinstance_ : mg "isinstance" = none
  int_ : mg "int" = none
  bool_ : mg "bool" = none
  str_ : mg "str" = none
  list_ : mg "list" = none
  tuple_ : mg "tuple" = none
  dict_ : mg "dict" = none
  set_ : mg "set" = none
  range_ : mg "range" = none
  enumerate_ : mg "enumerate" = none
  zip_ : mg "zip" = none
  all_ : mg "all" = none
  sum_ : mg "sum" = none
  max_ : mg "max" = none
  min_ : mg "min" = none
  sorted_ : mg "sorted" = none
  abs_ : mg "abs" = none
  verr_ : mg "ValueError" = none
/-- the facts that the head is asked for, of the built-ins -/
def biFa : List He.Fa := [.free "len", .free "isinstance", .free "int", .free "bool", .free "str", .free "list", .free "tuple", .free "dict", .free "set", .free "range", .free "enumerate", .free "zip", .free "all", .free "sum", .free "max", .free "min", .free "sorted", .free "abs", .free "ValueError"]
theorem fact_of {fa : List He.Fa} {fn : List He.DefD} {K : PySem.W.Frag} (c : He.SaysD fa fn K) {f : He.Fa} (h : f ∈ fa) : f.ok K = true := by
  obtain ⟨i, hi⟩ := List.getElem?_of_mem h
  exact c.fact i hi
theorem bi_of {fa : List He.Fa} {fn : List He.DefD} {K : PySem.W.Frag} {h : Heap} {mg : Str → Option Value} (X : K.In h) (G : h.Ns mainGlobals mg) (c : He.SaysD (biFa ++ fa) fn K) : Bi mg := by
  exact ⟨He.free_ok X G (c.fact 0), He.free_ok X G (c.fact 1), He.free_ok X G (c.fact 2), He.free_ok X G (c.fact 3), He.free_ok X G (c.fact 4), He.free_ok X G (c.fact 5), He.free_ok X G (c.fact 6), He.free_ok X G (c.fact 7), He.free_ok X G (c.fact 8), He.free_ok X G (c.fact 9), He.free_ok X G (c.fact 10), He.free_ok X G (c.fact 11), He.free_ok X G (c.fact 12), He.free_ok X G (c.fact 13), He.free_ok X G (c.fact 14), He.free_ok X G (c.fact 15), He.free_ok X G (c.fact 16), He.free_ok X G (c.fact 17), He.free_ok X G (c.fact 18)⟩

/-! ### values: more of what evaluates to what -/
section
variable {K : PySem.W.Frag} {σ : L2.St} {H H' : Hp} {ta tb tc te tx : TE} {t u : TT} {x y z v : V} {r : R2}
theorem ty_mono {t : Value} (e : Ex H H') (h : TyX K H x t) : TyX K H' x t := by
  cases h with
  | base b =>
    refine .base ?_
    cases b with
    | non => exact .non
    | bl y => exact .bl y
    | int i => exact .int i
    | str y => exact .str y
    | flt y => exact .flt y
    | lst q => exact .lst (e _ _ q)
    | frz q => exact .frz (e _ _ q)
    | tup q => exact .tup (e _ _ q)
    | dK q => exact .dK (e _ _ q)
    | dT q => exact .dT (e _ _ q)
    | ins q cl a b c d => exact .ins (e _ _ q) cl a b c d
  | byt b => exact .byt b
  | set q => exact .set (e _ _ q)
  | kList q c => exact .kList q c
  | kTuple q c => exact .kTuple q c
  | kDict q c => exact .kDict q c
  | fTuple q => exact .fTuple (e _ _ q)
  | fDict q => exact .fDict (e _ _ q)
theorem rc_isi {c : V} {t u : Value} {b : Bool} (k : ClsV c u) (h : TyX K H x t) (hk : PySem.W.kitOne K t u = some b) : RC (rIsi K) [x, c] H (.bl b) := fun H1 e _ q => ⟨x, c, t, u, b, rfl, k, ty_mono e h, hk, q H1 (Ex.refl H1)⟩
theorem ev_chain {p q : Int → Int → Bool} {i j k : Int} (ha : Ev ta σ H (.int i)) (hb : Ev tb σ H (.int j)) (hc : Ev tc σ H (.int k)) :
    Ev (tChain (rI0 fun i j => .bl (p i j)) (rI0 fun i j => .bl (q i j)) ta tb tc) σ H (.bl (p i j && q j k)) := fun H1 e1 Q h =>
  ha H1 e1 _ fun H2 e2 => hb H2 (e1.trans e2) _ fun H3 e3 => ⟨i, j, rfl, rfl, p i j, rfl, by
    generalize p i j = b at h ⊢
    cases b with
    | true =>
      show tc σ H3 fun w' H4 => rI0 (fun i j => V.bl (q i j)) (V.int j) w' H4 Q
      exact hc H3 ((e1.trans e2).trans e3) _ fun H4 e4 => ⟨j, k, rfl, rfl, h H4 ((e2.trans e3).trans e4)⟩
    | false =>
      show Q (.bl false) H3
      exact h H3 (e2.trans e3)⟩
theorem ev_and0 (h1 : Ev ta σ H (.bl false)) : Ev (tAndV ta tb) σ H (.bl false) := ev_andV (b := false) h1 fun z => by cases z
theorem ev_and1 {b : Bool} (h1 : Ev ta σ H (.bl true)) (h2 : Ev tb σ H (.bl b)) : Ev (tAndV ta tb) σ H (.bl b) := ev_is (ev_andV h1 fun _ => h2) rfl
theorem ev_or1 (h1 : Ev ta σ H (.bl true)) : Ev (tOrV ta tb) σ H (.bl true) := ev_orV (b := false) h1 fun z => by cases z
theorem ev_or0 {b : Bool} (h1 : Ev ta σ H (.bl false)) (h2 : Ev tb σ H (.bl b)) : Ev (tOrV ta tb) σ H (.bl b) := ev_is (ev_orV h1 fun _ => h2) rfl
theorem ev_notT (h1 : Ev ta σ H (.bl true)) : Ev (tNotV ta) σ H (.bl false) := ev_notV h1
theorem ev_notF (h1 : Ev ta σ H (.bl false)) : Ev (tNotV ta) σ H (.bl true) := ev_notV h1
theorem et_and0 (h1 : EvT t σ H false) : EvT (tAnd t u) σ H false := et_and (b := false) h1 fun z => by cases z
theorem et_and1 {b : Bool} (h1 : EvT t σ H true) (h2 : EvT u σ H b) : EvT (tAnd t u) σ H b := et_is (et_and h1 fun _ => h2) rfl
theorem et_or1 (h1 : EvT t σ H true) : EvT (tOr t u) σ H true := et_or (b := false) h1 fun z => by cases z
theorem et_or0 {b : Bool} (h1 : EvT t σ H false) (h2 : EvT u σ H b) : EvT (tOr t u) σ H b := et_is (et_or h1 fun _ => h2) rfl
theorem et_notT (h1 : EvT t σ H true) : EvT (tNot t) σ H false := et_not h1
theorem et_notF (h1 : EvT t σ H false) : EvT (tNot t) σ H true := et_not h1
theorem rv_isB {a b : Bool} : RV rIsB (.bl a) (.bl b) H (.bl (decide (a = b))) := fun H1 _ _ q => ⟨a, b, rfl, rfl, q H1 (Ex.refl H1)⟩
theorem rv_notB {a b : Bool} : RV rNotB (.bl a) (.bl b) H (.bl (!decide (a = b))) := fun H1 _ _ q => ⟨a, b, rfl, rfl, q H1 (Ex.refl H1)⟩
theorem mul_l {i j : Int} (h : Builtin.Int.intBits i ≤ 64) : IntMulOk i j := .of_left h
theorem mul_r {i j : Int} (h : Builtin.Int.intBits j ≤ 64) : IntMulOk i j := .of_right h
theorem mul_lb {i j : Int} (h1 : -(2 ^ 64) < i) (h2 : i < 2 ^ 64) : IntMulOk i j := .of_left (intBits_le_64 h1 h2)
theorem mul_rb {i j : Int} (h1 : -(2 ^ 64) < j) (h2 : j < 2 ^ 64) : IntMulOk i j := .of_right (intBits_le_64 h1 h2)
end

theorem ea_is {σ : L2.St} {H : Hp} {ta : TA} {vs ws : List V} (h : EvA ta σ H vs) (e : vs = ws) : EvA ta σ H ws := by
  rw [← e]
  exact h
/-! ### values by what is true of them -/
def EvP (Pr : Hp → V → Prop) (te : TE) (σ : L2.St) (H : Hp) : Prop := ∀ H1, Ex H H1 → ∀ Q : VK, (∀ v H2, Ex H1 H2 → Pr H2 v → Q v H2) → te σ H1 Q
def EvAP (Pr : Hp → V → Prop) (n : Nat) (ta : TA) (σ : L2.St) (H : Hp) : Prop := ∀ H1, Ex H H1 → ∀ Q : List V → Hp → Prop, (∀ vs H2, Ex H1 H2 → vs.length = n → (∀ x ∈ vs, Pr H2 x) → Q vs H2) → ta σ H1 Q
def Mono (Pr : Hp → V → Prop) : Prop := ∀ H H' x, Ex H H' → Pr H x → Pr H' x
section
variable {K : PySem.W.Frag} {σ : L2.St} {H H' : Hp} {te : TE} {tr : TA} {Pr : Hp → V → Prop} {n : Nat} {v : V} {D : Ends} {tz tu : TS} {j : Nat}
theorem evp_of (m : Mono Pr) (h : Ev te σ H v) (p : Pr H v) : EvP Pr te σ H := fun H1 e Q q => h H1 e Q fun H2 e2 => q v H2 e2 (m _ _ _ (e.trans e2) p)
theorem evp_l {xs : List V} (h : EvL te σ H xs) (p : ∀ a H', H' a = some (.lst xs) → Ex H H' → Pr H' (.ref a)) : EvP Pr te σ H := fun H1 e Q q => h H1 e Q fun a H2 _ e2 hp => q _ H2 e2 (p a H2 hp (e.trans e2))
theorem evp_u {xs : List V} (h : EvU te σ H xs) (p : ∀ a H', H' a = some (.tup xs) → Ex H H' → Pr H' (.ref a)) : EvP Pr te σ H := fun H1 e Q q => h H1 e Q fun a H2 _ e2 hp => q _ H2 e2 (p a H2 hp (e.trans e2))
theorem evp_dK (p : ∀ a H', H' a = some (.dK []) → Pr H' (.ref a)) : EvP Pr tDNewK σ H := fun H1 e Q q a ha => q _ _ (Ex.new ha) (p a _ upd_same)
theorem eap_nil : EvAP Pr 0 tNil σ H := fun H1 _ _ q => q [] H1 (Ex.refl H1) rfl fun _ z => nomatch z
theorem eap_cons (m : Mono Pr) (h : EvP Pr te σ H) (hr : EvAP Pr n tr σ H) : EvAP Pr (n + 1) (tCons te tr) σ H := fun H1 e Q q => h H1 e _ fun v H2 e2 pv => hr H2 (e.trans e2) _ fun vs H3 e3 hl ps =>
  q (v :: vs) H3 (e2.trans e3) (congrArg Nat.succ hl) fun x hx => by
    rcases List.mem_cons.mp hx with z | z
    · rw [z]
      exact m _ _ _ e3 pv
    · exact ps x z
/-- name = [..] -/
theorem q_asgLP {i : Nat} {ta : TA} (h : EvAP Pr n ta σ H) (hn : n ≤ 100000) (m : Mono Pr) (k : ∀ p xs H1, H p = none → Ex H H1 → H1 p = some (.lst xs) → xs.length = n → (∀ x ∈ xs, Pr H1 x) → tz D (σ.set i (some (.ref p))) H1) : tSeq (tAsg (tLst ta) (gName i)) tz D σ H :=
  h H (Ex.refl H) _ fun vs H1 e1 hl ps => ⟨sz_of (by omega), fun p hp => k p vs _ (fresh_back e1 hp) (e1.trans (Ex.new hp)) upd_same hl fun x hx => m _ _ _ (Ex.new hp) (ps x hx)⟩
end
section
variable {K : PySem.W.Frag} {σ : L2.St} {H H' : Hp} {ta tb te : TE} {t : TA} {Pr Pr0 : Hp → V → Prop} {n : Nat}
theorem evp_tup (h : EvAP Pr0 n t σ H) (hn : n ≤ 100000) (p : ∀ a H' xs, H' a = some (.tup xs) → Pr H' (.ref a)) : EvP Pr (tTup t) σ H := fun H1 e Q q => h H1 e _ fun vs H2 e2 hl _ =>
  ⟨sz_of (by omega), fun a ha => q _ _ (e2.trans (Ex.new ha)) (p a _ vs upd_same)⟩
theorem el_cat {xs ys : List V} (ha : EvL ta σ H xs) (hb : EvL tb σ H ys) (hz : xs.length + ys.length ≤ 100000) : EvL (tOp rCat ta tb) σ H (xs ++ ys) := fun H1 e Q k =>
  ha H1 e _ fun p H2 _ e2 hp => hb H2 (e.trans e2) _ fun q H3 _ e3 hq => ⟨p, q, xs, ys, rfl, rfl, e3 p _ hp, hq, sz_of hz, fun r hr => k r _ (fresh_back (e2.trans e3) hr) ((e2.trans e3).trans (Ex.new hr)) upd_same⟩
end
theorem cutV_mem {xs : List V} {lo hi : Option Int} {x : V} (h : x ∈ cutV xs lo hi) : x ∈ xs := by
  unfold cutV at h
  exact List.mem_of_mem_drop (List.mem_of_mem_take h)
mutual
theorem dp_mono {K : PySem.W.Frag} {H H' : Hp} (e : Ex H H') : ∀ {v : V} (d : PyData), Dp K H v d → Dp K H' v d
  | _, .none, h => by
    cases h
    exact .non
  | _, .bool b, h => by
    cases h
    exact .bl b
  | _, .int i, h => by
    cases h
    exact .int i
  | _, .str x, h => by
    cases h
    exact .str x
  | _, .list ds, h => by
    cases h with
    | lst a b => exact .lst (ex_l e a) (dpa_mono e ds b)
  | _, .tuple ds, h => by
    cases h with
    | tup a b => exact .tup (ex_t e a) (dpa_mono e ds b)
  | _, .dict _, h => by cases h
theorem dpa_mono {K : PySem.W.Frag} {H H' : Hp} (e : Ex H H') : ∀ {vs : List V} (ds : List PyData), DpAll K H vs ds → DpAll K H' vs ds
  | _, [], h => by
    cases h
    exact .nil
  | _, d :: ds, h => by
    cases h with
    | cons a b => exact .cons (dp_mono e d a) (dpa_mono e ds b)
end
section
variable {K : PySem.W.Frag} {H : Hp} {x y : V} {d e : PyData}
theorem rv_eqD (hx : Dp K H x d) (hy : Dp K H y e) (sd : SeqAt.shaped d = true) (se : SeqAt.shaped e = true) : RV (rEqD K) x y H (.bl (PyData.eqv d e)) := fun H1 z _ q => ⟨d, e, dp_mono z d hx, dp_mono z e hy, sd, se, q H1 (Ex.refl H1)⟩
theorem rv_neD (hx : Dp K H x d) (hy : Dp K H y e) (sd : SeqAt.shaped d = true) (se : SeqAt.shaped e = true) : RV (rNeD K) x y H (.bl (!PyData.eqv d e)) := fun H1 z _ q => ⟨d, e, dp_mono z d hx, dp_mono z e hy, sd, se, q H1 (Ex.refl H1)⟩
theorem rv_eqDs (hx : Dp K H x d) (hy : Dp K H y d) (sd : SeqAt.shaped d = true) : RV (rEqD K) x y H (.bl true) := by
  have h := rv_eqD hx hy sd sd
  rw [SeqAt.eqv_refl] at h
  · exact h
  · exact SeqAt.canLay_of_shaped sd
theorem rv_neDs (hx : Dp K H x d) (hy : Dp K H y d) (sd : SeqAt.shaped d = true) : RV (rNeD K) x y H (.bl false) := by
  have h := rv_neD hx hy sd sd
  rw [SeqAt.eqv_refl] at h
  · exact h
  · exact SeqAt.canLay_of_shaped sd
end
theorem map_get {ns : List Int} {i : Nat} {x : V} (h : (ns.map V.int)[i]? = some x) : ∃ n, x = .int n ∧ n ∈ ns := by
  rw [List.getElem?_map] at h
  cases e : ns[i]? with
  | none =>
    rw [e] at h
    cases h
  | some n =>
    rw [e] at h
    exact ⟨n, (Option.some.inj h).symm, List.mem_of_getElem? e⟩
theorem at_ints {ns : List Int} {i : Int} (h0 : 0 ≤ i) (h1 : i < ns.length) : atI (ns.map V.int) i = some (.int (ns.getD i.toNat 0)) := by
  obtain ⟨j, rfl⟩ : ∃ j : Nat, i = (j : Int) := ⟨i.toNat, (Int.toNat_of_nonneg h0).symm⟩
  have hj : j < ns.length := by omega
  refine atI_nat ?_
  rw [List.getElem?_map, List.getElem?_eq_getElem hj]
  show some (V.int ns[j]) = some (V.int (ns.getD (Int.toNat (j : Int)) 0))
  rw [Int.toNat_natCast, List.getD_eq_getElem?_getD, List.getElem?_eq_getElem hj] <;> rfl
/-- bits of a product -/
theorem lt_bits (i : Int) : i.natAbs < 2 ^ Builtin.Int.intBits i := by
  unfold Builtin.Int.intBits
  split
  · rename_i h
    have : i = 0 := by simpa using h
    subst this
    decide
  · exact Nat.lt_log2_self
theorem bits_le {i : Int} {n : Nat} (h : i.natAbs < 2 ^ n) : Builtin.Int.intBits i ≤ n := by
  unfold Builtin.Int.intBits
  split
  · exact Nat.zero_le _
  · rename_i h0
    have h0 : i.natAbs ≠ 0 := by
      intro z
      have : i = 0 := Int.natAbs_eq_zero.mp z
      subst this
      exact h0 rfl
    exact (Nat.log2_lt h0).mpr h
theorem bits_mul (i j : Int) : Builtin.Int.intBits (i * j) ≤ Builtin.Int.intBits i + Builtin.Int.intBits j := by
  refine bits_le ?_
  rw [Int.natAbs_mul, Nat.pow_add]
  exact Nat.mul_lt_mul'' (lt_bits i) (lt_bits j)
theorem mul_bits {i j : Int} (h : Builtin.Int.intBits i + Builtin.Int.intBits j ≤ 134217728) : IntMulOk i j := by
  have e : bitsLine = 134217728 := by decide
  unfold IntMulOk
  intro z
  rw [Bool.and_eq_true] at z
  have z2 := z.2
  unfold Builtin.Int.intTooBig at z2
  have z3 := of_decide_eq_true z2
  rw [e] at z3
  omega

/-! ### isinstance of a value and a built-in type -/
theorem rc_int_int {K : PySem.W.Frag} {H : Hp} {i : Int} : RC (rIsi K) [.int i, .ty "int"] H (.bl true) := rc_isi (.ty _) (.base (.int i)) (kit_ty (show kitB "int" "int" = some true by decide +kernel))
theorem rc_int_bool {K : PySem.W.Frag} {H : Hp} {i : Int} : RC (rIsi K) [.int i, .ty "bool"] H (.bl false) := rc_isi (.ty _) (.base (.int i)) (kit_ty (show kitB "int" "bool" = some false by decide +kernel))
theorem rc_int_str {K : PySem.W.Frag} {H : Hp} {i : Int} : RC (rIsi K) [.int i, .ty "str"] H (.bl false) := rc_isi (.ty _) (.base (.int i)) (kit_ty (show kitB "int" "str" = some false by decide +kernel))
theorem rc_int_list {K : PySem.W.Frag} {H : Hp} {i : Int} : RC (rIsi K) [.int i, .ty "list"] H (.bl false) := rc_isi (.ty _) (.base (.int i)) (kit_ty (show kitB "int" "list" = some false by decide +kernel))
theorem rc_int_tuple {K : PySem.W.Frag} {H : Hp} {i : Int} : RC (rIsi K) [.int i, .ty "tuple"] H (.bl false) := rc_isi (.ty _) (.base (.int i)) (kit_ty (show kitB "int" "tuple" = some false by decide +kernel))
theorem rc_int_dict {K : PySem.W.Frag} {H : Hp} {i : Int} : RC (rIsi K) [.int i, .ty "dict"] H (.bl false) := rc_isi (.ty _) (.base (.int i)) (kit_ty (show kitB "int" "dict" = some false by decide +kernel))
theorem rc_bl_int {K : PySem.W.Frag} {H : Hp} {b : Bool} : RC (rIsi K) [.bl b, .ty "int"] H (.bl true) := rc_isi (.ty _) (.base (.bl b)) (kit_ty (show kitB "bool" "int" = some true by decide +kernel))
theorem rc_bl_bool {K : PySem.W.Frag} {H : Hp} {b : Bool} : RC (rIsi K) [.bl b, .ty "bool"] H (.bl true) := rc_isi (.ty _) (.base (.bl b)) (kit_ty (show kitB "bool" "bool" = some true by decide +kernel))
theorem rc_bl_str {K : PySem.W.Frag} {H : Hp} {b : Bool} : RC (rIsi K) [.bl b, .ty "str"] H (.bl false) := rc_isi (.ty _) (.base (.bl b)) (kit_ty (show kitB "bool" "str" = some false by decide +kernel))
theorem rc_bl_list {K : PySem.W.Frag} {H : Hp} {b : Bool} : RC (rIsi K) [.bl b, .ty "list"] H (.bl false) := rc_isi (.ty _) (.base (.bl b)) (kit_ty (show kitB "bool" "list" = some false by decide +kernel))
theorem rc_bl_tuple {K : PySem.W.Frag} {H : Hp} {b : Bool} : RC (rIsi K) [.bl b, .ty "tuple"] H (.bl false) := rc_isi (.ty _) (.base (.bl b)) (kit_ty (show kitB "bool" "tuple" = some false by decide +kernel))
theorem rc_bl_dict {K : PySem.W.Frag} {H : Hp} {b : Bool} : RC (rIsi K) [.bl b, .ty "dict"] H (.bl false) := rc_isi (.ty _) (.base (.bl b)) (kit_ty (show kitB "bool" "dict" = some false by decide +kernel))
theorem rc_str_int {K : PySem.W.Frag} {H : Hp} {x : Str} : RC (rIsi K) [.str x, .ty "int"] H (.bl false) := rc_isi (.ty _) (.base (.str x)) (kit_ty (show kitB "str" "int" = some false by decide +kernel))
theorem rc_str_bool {K : PySem.W.Frag} {H : Hp} {x : Str} : RC (rIsi K) [.str x, .ty "bool"] H (.bl false) := rc_isi (.ty _) (.base (.str x)) (kit_ty (show kitB "str" "bool" = some false by decide +kernel))
theorem rc_str_str {K : PySem.W.Frag} {H : Hp} {x : Str} : RC (rIsi K) [.str x, .ty "str"] H (.bl true) := rc_isi (.ty _) (.base (.str x)) (kit_ty (show kitB "str" "str" = some true by decide +kernel))
theorem rc_str_list {K : PySem.W.Frag} {H : Hp} {x : Str} : RC (rIsi K) [.str x, .ty "list"] H (.bl false) := rc_isi (.ty _) (.base (.str x)) (kit_ty (show kitB "str" "list" = some false by decide +kernel))
theorem rc_str_tuple {K : PySem.W.Frag} {H : Hp} {x : Str} : RC (rIsi K) [.str x, .ty "tuple"] H (.bl false) := rc_isi (.ty _) (.base (.str x)) (kit_ty (show kitB "str" "tuple" = some false by decide +kernel))
theorem rc_str_dict {K : PySem.W.Frag} {H : Hp} {x : Str} : RC (rIsi K) [.str x, .ty "dict"] H (.bl false) := rc_isi (.ty _) (.base (.str x)) (kit_ty (show kitB "str" "dict" = some false by decide +kernel))
theorem rc_non_int {K : PySem.W.Frag} {H : Hp}  : RC (rIsi K) [.non, .ty "int"] H (.bl false) := rc_isi (.ty _) (.base .non) (kit_ty (show kitB "NoneType" "int" = some false by decide +kernel))
theorem rc_non_bool {K : PySem.W.Frag} {H : Hp}  : RC (rIsi K) [.non, .ty "bool"] H (.bl false) := rc_isi (.ty _) (.base .non) (kit_ty (show kitB "NoneType" "bool" = some false by decide +kernel))
theorem rc_non_str {K : PySem.W.Frag} {H : Hp}  : RC (rIsi K) [.non, .ty "str"] H (.bl false) := rc_isi (.ty _) (.base .non) (kit_ty (show kitB "NoneType" "str" = some false by decide +kernel))
theorem rc_non_list {K : PySem.W.Frag} {H : Hp}  : RC (rIsi K) [.non, .ty "list"] H (.bl false) := rc_isi (.ty _) (.base .non) (kit_ty (show kitB "NoneType" "list" = some false by decide +kernel))
theorem rc_non_tuple {K : PySem.W.Frag} {H : Hp}  : RC (rIsi K) [.non, .ty "tuple"] H (.bl false) := rc_isi (.ty _) (.base .non) (kit_ty (show kitB "NoneType" "tuple" = some false by decide +kernel))
theorem rc_non_dict {K : PySem.W.Frag} {H : Hp}  : RC (rIsi K) [.non, .ty "dict"] H (.bl false) := rc_isi (.ty _) (.base .non) (kit_ty (show kitB "NoneType" "dict" = some false by decide +kernel))
theorem rc_lst_int {K : PySem.W.Frag} {H : Hp} {a : Addr} {xs : List V} (h : H a = some (.lst xs)) : RC (rIsi K) [.ref a, .ty "int"] H (.bl false) := rc_isi (.ty _) (.base (.lst h)) (kit_ty (show kitB "list" "int" = some false by decide +kernel))
theorem rc_lst_bool {K : PySem.W.Frag} {H : Hp} {a : Addr} {xs : List V} (h : H a = some (.lst xs)) : RC (rIsi K) [.ref a, .ty "bool"] H (.bl false) := rc_isi (.ty _) (.base (.lst h)) (kit_ty (show kitB "list" "bool" = some false by decide +kernel))
theorem rc_lst_str {K : PySem.W.Frag} {H : Hp} {a : Addr} {xs : List V} (h : H a = some (.lst xs)) : RC (rIsi K) [.ref a, .ty "str"] H (.bl false) := rc_isi (.ty _) (.base (.lst h)) (kit_ty (show kitB "list" "str" = some false by decide +kernel))
theorem rc_lst_list {K : PySem.W.Frag} {H : Hp} {a : Addr} {xs : List V} (h : H a = some (.lst xs)) : RC (rIsi K) [.ref a, .ty "list"] H (.bl true) := rc_isi (.ty _) (.base (.lst h)) (kit_ty (show kitB "list" "list" = some true by decide +kernel))
theorem rc_lst_tuple {K : PySem.W.Frag} {H : Hp} {a : Addr} {xs : List V} (h : H a = some (.lst xs)) : RC (rIsi K) [.ref a, .ty "tuple"] H (.bl false) := rc_isi (.ty _) (.base (.lst h)) (kit_ty (show kitB "list" "tuple" = some false by decide +kernel))
theorem rc_lst_dict {K : PySem.W.Frag} {H : Hp} {a : Addr} {xs : List V} (h : H a = some (.lst xs)) : RC (rIsi K) [.ref a, .ty "dict"] H (.bl false) := rc_isi (.ty _) (.base (.lst h)) (kit_ty (show kitB "list" "dict" = some false by decide +kernel))
theorem rc_tup_int {K : PySem.W.Frag} {H : Hp} {a : Addr} {xs : List V} (h : H a = some (.tup xs)) : RC (rIsi K) [.ref a, .ty "int"] H (.bl false) := rc_isi (.ty _) (.base (.tup h)) (kit_ty (show kitB "tuple" "int" = some false by decide +kernel))
theorem rc_tup_bool {K : PySem.W.Frag} {H : Hp} {a : Addr} {xs : List V} (h : H a = some (.tup xs)) : RC (rIsi K) [.ref a, .ty "bool"] H (.bl false) := rc_isi (.ty _) (.base (.tup h)) (kit_ty (show kitB "tuple" "bool" = some false by decide +kernel))
theorem rc_tup_str {K : PySem.W.Frag} {H : Hp} {a : Addr} {xs : List V} (h : H a = some (.tup xs)) : RC (rIsi K) [.ref a, .ty "str"] H (.bl false) := rc_isi (.ty _) (.base (.tup h)) (kit_ty (show kitB "tuple" "str" = some false by decide +kernel))
theorem rc_tup_list {K : PySem.W.Frag} {H : Hp} {a : Addr} {xs : List V} (h : H a = some (.tup xs)) : RC (rIsi K) [.ref a, .ty "list"] H (.bl false) := rc_isi (.ty _) (.base (.tup h)) (kit_ty (show kitB "tuple" "list" = some false by decide +kernel))
theorem rc_tup_tuple {K : PySem.W.Frag} {H : Hp} {a : Addr} {xs : List V} (h : H a = some (.tup xs)) : RC (rIsi K) [.ref a, .ty "tuple"] H (.bl true) := rc_isi (.ty _) (.base (.tup h)) (kit_ty (show kitB "tuple" "tuple" = some true by decide +kernel))
theorem rc_tup_dict {K : PySem.W.Frag} {H : Hp} {a : Addr} {xs : List V} (h : H a = some (.tup xs)) : RC (rIsi K) [.ref a, .ty "dict"] H (.bl false) := rc_isi (.ty _) (.base (.tup h)) (kit_ty (show kitB "tuple" "dict" = some false by decide +kernel))
theorem rc_dK_int {K : PySem.W.Frag} {H : Hp} {a : Addr} {xs : List (Key × V)} (h : H a = some (.dK xs)) : RC (rIsi K) [.ref a, .ty "int"] H (.bl false) := rc_isi (.ty _) (.base (.dK h)) (kit_ty (show kitB "dict" "int" = some false by decide +kernel))
theorem rc_dK_bool {K : PySem.W.Frag} {H : Hp} {a : Addr} {xs : List (Key × V)} (h : H a = some (.dK xs)) : RC (rIsi K) [.ref a, .ty "bool"] H (.bl false) := rc_isi (.ty _) (.base (.dK h)) (kit_ty (show kitB "dict" "bool" = some false by decide +kernel))
theorem rc_dK_str {K : PySem.W.Frag} {H : Hp} {a : Addr} {xs : List (Key × V)} (h : H a = some (.dK xs)) : RC (rIsi K) [.ref a, .ty "str"] H (.bl false) := rc_isi (.ty _) (.base (.dK h)) (kit_ty (show kitB "dict" "str" = some false by decide +kernel))
theorem rc_dK_list {K : PySem.W.Frag} {H : Hp} {a : Addr} {xs : List (Key × V)} (h : H a = some (.dK xs)) : RC (rIsi K) [.ref a, .ty "list"] H (.bl false) := rc_isi (.ty _) (.base (.dK h)) (kit_ty (show kitB "dict" "list" = some false by decide +kernel))
theorem rc_dK_tuple {K : PySem.W.Frag} {H : Hp} {a : Addr} {xs : List (Key × V)} (h : H a = some (.dK xs)) : RC (rIsi K) [.ref a, .ty "tuple"] H (.bl false) := rc_isi (.ty _) (.base (.dK h)) (kit_ty (show kitB "dict" "tuple" = some false by decide +kernel))
theorem rc_dK_dict {K : PySem.W.Frag} {H : Hp} {a : Addr} {xs : List (Key × V)} (h : H a = some (.dK xs)) : RC (rIsi K) [.ref a, .ty "dict"] H (.bl true) := rc_isi (.ty _) (.base (.dK h)) (kit_ty (show kitB "dict" "dict" = some true by decide +kernel))
theorem rc_dT_int {K : PySem.W.Frag} {H : Hp} {a : Addr} {xs : List (List Key × V)} (h : H a = some (.dT xs)) : RC (rIsi K) [.ref a, .ty "int"] H (.bl false) := rc_isi (.ty _) (.base (.dT h)) (kit_ty (show kitB "dict" "int" = some false by decide +kernel))
theorem rc_dT_bool {K : PySem.W.Frag} {H : Hp} {a : Addr} {xs : List (List Key × V)} (h : H a = some (.dT xs)) : RC (rIsi K) [.ref a, .ty "bool"] H (.bl false) := rc_isi (.ty _) (.base (.dT h)) (kit_ty (show kitB "dict" "bool" = some false by decide +kernel))
theorem rc_dT_str {K : PySem.W.Frag} {H : Hp} {a : Addr} {xs : List (List Key × V)} (h : H a = some (.dT xs)) : RC (rIsi K) [.ref a, .ty "str"] H (.bl false) := rc_isi (.ty _) (.base (.dT h)) (kit_ty (show kitB "dict" "str" = some false by decide +kernel))
theorem rc_dT_list {K : PySem.W.Frag} {H : Hp} {a : Addr} {xs : List (List Key × V)} (h : H a = some (.dT xs)) : RC (rIsi K) [.ref a, .ty "list"] H (.bl false) := rc_isi (.ty _) (.base (.dT h)) (kit_ty (show kitB "dict" "list" = some false by decide +kernel))
theorem rc_dT_tuple {K : PySem.W.Frag} {H : Hp} {a : Addr} {xs : List (List Key × V)} (h : H a = some (.dT xs)) : RC (rIsi K) [.ref a, .ty "tuple"] H (.bl false) := rc_isi (.ty _) (.base (.dT h)) (kit_ty (show kitB "dict" "tuple" = some false by decide +kernel))
theorem rc_dT_dict {K : PySem.W.Frag} {H : Hp} {a : Addr} {xs : List (List Key × V)} (h : H a = some (.dT xs)) : RC (rIsi K) [.ref a, .ty "dict"] H (.bl true) := rc_isi (.ty _) (.base (.dT h)) (kit_ty (show kitB "dict" "dict" = some true by decide +kernel))
theorem ty_sl {K : PySem.W.Frag} {H : Hp} {a : Addr} {xs : List V} (h : SqL K H a xs) : TyX K H (.ref a) (.type "list") := by
  rcases h with (h | ⟨o, h⟩) | h
  · exact .base (.lst h)
  · exact .base (.frz h)
  · obtain ⟨o, its, k, h1, h2, _⟩ := h
    exact .kList h1 h2
theorem rc_sl_int {K : PySem.W.Frag} {H : Hp} {a : Addr} {xs : List V} (h : SqL K H a xs) : RC (rIsi K) [.ref a, .ty "int"] H (.bl false) := rc_isi (.ty _) (ty_sl h) (kit_ty (show kitB "list" "int" = some false by decide +kernel))
theorem rc_sl_bool {K : PySem.W.Frag} {H : Hp} {a : Addr} {xs : List V} (h : SqL K H a xs) : RC (rIsi K) [.ref a, .ty "bool"] H (.bl false) := rc_isi (.ty _) (ty_sl h) (kit_ty (show kitB "list" "bool" = some false by decide +kernel))
theorem rc_sl_str {K : PySem.W.Frag} {H : Hp} {a : Addr} {xs : List V} (h : SqL K H a xs) : RC (rIsi K) [.ref a, .ty "str"] H (.bl false) := rc_isi (.ty _) (ty_sl h) (kit_ty (show kitB "list" "str" = some false by decide +kernel))
theorem rc_sl_list {K : PySem.W.Frag} {H : Hp} {a : Addr} {xs : List V} (h : SqL K H a xs) : RC (rIsi K) [.ref a, .ty "list"] H (.bl true) := rc_isi (.ty _) (ty_sl h) (kit_ty (show kitB "list" "list" = some true by decide +kernel))
theorem rc_sl_tuple {K : PySem.W.Frag} {H : Hp} {a : Addr} {xs : List V} (h : SqL K H a xs) : RC (rIsi K) [.ref a, .ty "tuple"] H (.bl false) := rc_isi (.ty _) (ty_sl h) (kit_ty (show kitB "list" "tuple" = some false by decide +kernel))
theorem rc_sl_dict {K : PySem.W.Frag} {H : Hp} {a : Addr} {xs : List V} (h : SqL K H a xs) : RC (rIsi K) [.ref a, .ty "dict"] H (.bl false) := rc_isi (.ty _) (ty_sl h) (kit_ty (show kitB "list" "dict" = some false by decide +kernel))
theorem ty_st {K : PySem.W.Frag} {H : Hp} {a : Addr} {xs : List V} (h : SqT K H a xs) : TyX K H (.ref a) (.type "tuple") := by
  rcases h with (h | ⟨o, h⟩) | h
  · exact .base (.tup h)
  · exact .fTuple h
  · obtain ⟨o, its, k, h1, h2, _⟩ := h
    exact .kTuple h1 h2
theorem rc_st_int {K : PySem.W.Frag} {H : Hp} {a : Addr} {xs : List V} (h : SqT K H a xs) : RC (rIsi K) [.ref a, .ty "int"] H (.bl false) := rc_isi (.ty _) (ty_st h) (kit_ty (show kitB "tuple" "int" = some false by decide +kernel))
theorem rc_st_bool {K : PySem.W.Frag} {H : Hp} {a : Addr} {xs : List V} (h : SqT K H a xs) : RC (rIsi K) [.ref a, .ty "bool"] H (.bl false) := rc_isi (.ty _) (ty_st h) (kit_ty (show kitB "tuple" "bool" = some false by decide +kernel))
theorem rc_st_str {K : PySem.W.Frag} {H : Hp} {a : Addr} {xs : List V} (h : SqT K H a xs) : RC (rIsi K) [.ref a, .ty "str"] H (.bl false) := rc_isi (.ty _) (ty_st h) (kit_ty (show kitB "tuple" "str" = some false by decide +kernel))
theorem rc_st_list {K : PySem.W.Frag} {H : Hp} {a : Addr} {xs : List V} (h : SqT K H a xs) : RC (rIsi K) [.ref a, .ty "list"] H (.bl false) := rc_isi (.ty _) (ty_st h) (kit_ty (show kitB "tuple" "list" = some false by decide +kernel))
theorem rc_st_tuple {K : PySem.W.Frag} {H : Hp} {a : Addr} {xs : List V} (h : SqT K H a xs) : RC (rIsi K) [.ref a, .ty "tuple"] H (.bl true) := rc_isi (.ty _) (ty_st h) (kit_ty (show kitB "tuple" "tuple" = some true by decide +kernel))
theorem rc_st_dict {K : PySem.W.Frag} {H : Hp} {a : Addr} {xs : List V} (h : SqT K H a xs) : RC (rIsi K) [.ref a, .ty "dict"] H (.bl false) := rc_isi (.ty _) (ty_st h) (kit_ty (show kitB "tuple" "dict" = some false by decide +kernel))
/-! ### the head's facts and one more, by any look at the written part -/
abbrev AlB : Type := He.AlD × Bool
def obsB (n : Nat) (fa : List He.Fa) (fn : List He.DefD) (ex : PySem.W.Frag → Bool) (g : Addr → Option Obj) : AlB := (He.obsD fa fn (He.frG g (He.asD g n)), ex (He.frG g (He.asD g n)))
def hookB (n : Nat) (fa : List He.Fa) (fn : List He.DefD) (ex : PySem.W.Frag → Bool) : PySem.W.Hook where
  α := AlB
  obs := fun s => obsB n fa fn ex s.heap.get?
  val := fun _ => (He.valD fn, true)
  says := fun _ h => ∃ K : PySem.W.Frag, K.In h ∧ He.SaysD fa fn K ∧ ex K = true
  of := fun _ _ e => ⟨_, He.frG_in, congrArg (fun z : AlB => z.1) e, congrArg (fun z : AlB => z.2) e⟩
  keeps := fun _ _ _ ⟨K, hK, c⟩ k => ⟨K, PySem.W.Frag.In.keeps hK k, c⟩
theorem obsB_eq {n : Nat} {fa : List He.Fa} {fn : List He.DefD} {ex : PySem.W.Frag → Bool} {g : Addr → Option Obj} {s : Shared} (h : ∀ a, g a = s.heap.get? a) : obsB n fa fn ex g = (hookB n fa fn ex).obs s := by
  have e : g = s.heap.get? := funext h
  rw [e] <;> rfl

/-! ### the end of a law row, with the script's bits -/
theorem walk_ofEB {l : PySem.W.OpenLaw} {n k : Nat} {q : Program} {loose : List Str} {XP : (Str → Option Value) → Heap → Prop} {YP : World → Heap → Prop} {d : DefRec} {CX : CXT} {x : Str}
    (hn : l.most = some n) (hn2 : n ≤ sizeLine) (hdf : d.params.defaults = []) (hr : Room k callerA)
    (F : ∀ (w : World) (mg : Str → Option Value) (fa : Addr) (h : Heap), YP w h → h.Ns mainGlobals mg → mg d.name = some (.ref fa) →
      ∃ (K : PySem.W.Frag) (fd : FuncData) (sp : Sp), K.In h ∧ (∀ (s : Shared) (u : Value), BindsTo s fd ⟨[u], []⟩ [(x, u)]) ∧
        (∀ (H : Hp) (a : Addr) (ns : List Int), ns.length ≤ n → (∀ z ∈ ns, Builtin.Int.intBits z ≤ 1048576) → Only H → SqL K H a (ns.map V.int) → sp [.ref a] H (fun v _ => v = .bl true) fun _ _ _ => False) ∧
        ∀ base : Heap, K.In base → base.Ns mainGlobals mg → FnOk l.prog w K mg base CX k fa fd [x] sp)
    (hCX : ∀ (H : Hp) (s : Shared) (e : Value) (s' : Shared), CX [] H s (fun _ _ _ => False) e s' → False) :
    PySem.W.WalkO q loose XP YP l.row.toRowW d [] (fun f vs => PySem.call f vs) := by
  refine Att.attach_callB hn hdf fun w s₀ s₁ mg mb fa o pm cd doc a vs ns G Y ho hd hcd hmg hobj hints hlen hbits hg => ?_
  obtain ⟨K, fd, sp, KX, hb, hsp, hF⟩ := F w mg fa _ Y G.T.g hmg
  exact law_call KX G.T.g G.T.b G.T.builtins G.T.nolimit hg hobj hints (Nat.le_trans hlen hn2) hr hF hb (fun H hO hS => hsp H a ns hlen hbits hO hS) fun H e s' => hCX H s₁ e s'
end RB

set_option Elab.async false
set_option linter.all false
set_option maxRecDepth 100000
set_option maxHeartbeats 4000000
/-! Our own layer, second part: new lists by what is true of their items, walks, comprehensions, texts. -/
namespace RB
open PySem PySem.Spec PyProof.Rows L2 Evl

/-! ### judgements -/
/-- a new list whose items are so -/
def EvLR (LP : Hp → List V → Prop) (te : TE) (σ : L2.St) (H : Hp) : Prop := ∀ H1, Ex H H1 → ∀ Q : VK, (∀ p xs H2, H1 p = none → Ex H1 H2 → H2 p = some (.lst xs) → LP H2 xs → Q (.ref p) H2) → te σ H1 Q
/-- arguments that are so -/
def EvAR (AP : Hp → List V → Prop) (ta : TA) (σ : L2.St) (H : Hp) : Prop := ∀ H1, Ex H H1 → ∀ Q : List V → Hp → Prop, (∀ vs H2, Ex H1 H2 → AP H2 vs → Q vs H2) → ta σ H1 Q
def MonoL (LP : Hp → List V → Prop) : Prop := ∀ H H' xs, Ex H H' → LP H xs → LP H' xs
/-- what a def promises: a value that is so -/
def RetP (Pr : Hp → V → Prop) (H : Hp) (Q : VK) : Prop := ∀ v H2, Ex H H2 → Pr H2 v → Q v H2
/-- a new list whose items are so -/
def RetLR (LP : Hp → List V → Prop) (H : Hp) (Q : VK) : Prop := ∀ p xs H2, H p = none → Ex H H2 → H2 p = some (.lst xs) → LP H2 xs → Q (.ref p) H2
def SpP (sp : Sp) (vs : List V) (H : Hp) (Pr : Hp → V → Prop) : Prop := ∀ H1, Ex H H1 → ∀ Q : VK, RetP Pr H1 Q → ∀ E : XK, sp vs H1 Q E
def SpLR (sp : Sp) (vs : List V) (H : Hp) (LP : Hp → List V → Prop) : Prop := ∀ H1, Ex H H1 → ∀ Q : VK, RetLR LP H1 Q → ∀ E : XK, sp vs H1 Q E
theorem RetP.go {Pr : Hp → V → Prop} {H H' : Hp} {Q : VK} (k : RetP Pr H Q) (e : Ex H H') : RetP Pr H' Q := fun v H2 e2 p => k v H2 (e.trans e2) p
theorem RetLR.go {LP : Hp → List V → Prop} {H H' : Hp} {Q : VK} (k : RetLR LP H Q) (e : Ex H H') : RetLR LP H' Q := fun p xs H2 hp e2 h l => k p xs H2 (fresh_back e hp) (e.trans e2) h l
section
variable {K : PySem.W.Frag} {σ : L2.St} {H H' H0 : Hp} {ta tb te : TE} {t : TT} {tr : TA} {Pr Pr' : Hp → V → Prop} {LP LP' : Hp → List V → Prop} {AP : Hp → List V → Prop} {n i : Nat} {v : V} {D : Ends} {tz tu tw : TS} {sp : Sp} {dvs vs : List V} {E : XK}
theorem EvP.go (h : EvP Pr te σ H) (e : Ex H H') : EvP Pr te σ H' := fun H1 a Q q => h H1 (e.trans a) Q q
theorem EvP.imp (h : EvP Pr te σ H) (i : ∀ H2 v, Ex H H2 → Pr H2 v → Pr' H2 v) : EvP Pr' te σ H := fun H1 a Q q => h H1 a Q fun v H2 e2 p => q v H2 e2 (i H2 v (a.trans e2) p)
theorem EvLR.go (h : EvLR LP te σ H) (e : Ex H H') : EvLR LP te σ H' := fun H1 a Q q => h H1 (e.trans a) Q q
theorem EvLR.imp (h : EvLR LP te σ H) (i : ∀ H2 xs, Ex H H2 → LP H2 xs → LP' H2 xs) : EvLR LP' te σ H := fun H1 a Q q => h H1 a Q fun p xs H2 hp e2 hx l => q p xs H2 hp e2 hx (i H2 xs (a.trans e2) l)
theorem EvAR.imp {AP' : Hp → List V → Prop} (h : EvAR AP tr σ H) (i : ∀ H2 xs, Ex H H2 → AP H2 xs → AP' H2 xs) : EvAR AP' tr σ H := fun H1 a Q q => h H1 a Q fun xs H2 e2 l => q xs H2 e2 (i H2 xs (a.trans e2) l)
theorem evp_ev (h : Ev te σ H v) : EvP (fun _ x => x = v) te σ H := fun H1 e Q q => h H1 e Q fun H2 e2 => q v H2 e2 rfl
theorem ev_evp (h : EvP (fun _ x => x = v) te σ H) : Ev te σ H v := fun H1 e Q q => h H1 e Q fun x H2 e2 hx => by
  rw [hx]
  exact q H2 e2
theorem elr_el {xs : List V} (h : EvL te σ H xs) : EvLR (fun _ ys => ys = xs) te σ H := fun H1 e Q q => h H1 e Q fun p H2 hp e2 hx => q p xs H2 hp e2 hx rfl
theorem el_elr {xs : List V} (h : EvLR (fun _ ys => ys = xs) te σ H) : EvL te σ H xs := fun H1 e Q q => h H1 e Q fun p ys H2 hp e2 hx hy => q p H2 hp e2 (by rw [← hy]; exact hx)
theorem evp_var (h : σ[i]? = some (some v)) (m : Mono Pr) (p : Pr H v) : EvP Pr (tVar i) σ H := evp_of m (ev_var h) p
theorem ear_nil : EvAR (fun _ vs => vs = []) tNil σ H := fun H1 _ _ q => q [] H1 (Ex.refl H1) rfl
theorem ear_cons (m : Mono Pr) (h : EvP Pr te σ H) (hr : EvAR AP tr σ H) : EvAR (fun H vs => ∃ x xs, vs = x :: xs ∧ Pr H x ∧ AP H xs) (tCons te tr) σ H := fun H1 e Q q => h H1 e _ fun v H2 e2 pv => hr H2 (e.trans e2) _ fun vs H3 e3 ps => q (v :: vs) H3 (e2.trans e3) ⟨v, vs, rfl, m _ _ _ e3 pv, ps⟩
/-- the first argument a new list -/
theorem ear_consL (m : MonoL LP) (h : EvLR LP te σ H) (hr : EvAR AP tr σ H) : EvAR (fun H vs => ∃ p ys xs, vs = .ref p :: xs ∧ H p = some (.lst ys) ∧ LP H ys ∧ AP H xs) (tCons te tr) σ H := fun H1 e Q q => h H1 e _ fun p ys H2 hp e2 hx l => hr H2 (e.trans e2) _ fun vs H3 e3 ps =>
  q (.ref p :: vs) H3 (e2.trans e3) ⟨p, ys, vs, rfl, e3 _ _ hx, m _ _ _ e3 l, ps⟩
theorem ear_of (h : EvA tr σ H vs) : EvAR (fun _ xs => xs = vs) tr σ H := fun H1 e Q q => h H1 e Q fun H2 e2 => q vs H2 e2 rfl
theorem evp_call (h : EvA tr σ H vs) (hs : SpP sp (vs ++ dvs) H Pr) : EvP Pr (tCall sp dvs E tr) σ H := fun H1 e Q q => h H1 e _ fun H2 e2 => hs H2 (e.trans e2) Q (fun v H3 e3 p => q v H3 (e2.trans e3) p) E
theorem elr_call (h : EvA tr σ H vs) (hs : SpLR sp (vs ++ dvs) H LP) : EvLR LP (tCall sp dvs E tr) σ H := fun H1 e Q q => h H1 e _ fun H2 e2 => hs H2 (e.trans e2) Q (fun p xs H3 hp e3 hx l => q p xs H3 (fresh_back e2 hp) (e2.trans e3) hx l) E
theorem evp_callR (h : EvAR AP tr σ H) (hs : ∀ H2 vs, Ex H H2 → AP H2 vs → SpP sp (vs ++ dvs) H2 Pr) : EvP Pr (tCall sp dvs E tr) σ H := fun H1 e Q q => h H1 e _ fun vs H2 e2 a => hs H2 vs (e.trans e2) a H2 (Ex.refl H2) Q (fun v H3 e3 p => q v H3 (e2.trans e3) p) E
theorem elr_callR (h : EvAR AP tr σ H) (hs : ∀ H2 vs, Ex H H2 → AP H2 vs → SpLR sp (vs ++ dvs) H2 LP) : EvLR LP (tCall sp dvs E tr) σ H := fun H1 e Q q => h H1 e _ fun vs H2 e2 a => hs H2 vs (e.trans e2) a H2 (Ex.refl H2) Q (fun p xs H3 hp e3 hx l => q p xs H3 (fresh_back e2 hp) (e2.trans e3) hx l) E
theorem ev_callR {z : V} (h : EvAR AP tr σ H) (hs : ∀ H2 vs, Ex H H2 → AP H2 vs → SpV sp (vs ++ dvs) H2 z) : Ev (tCall sp dvs E tr) σ H z := fun H1 e Q q => h H1 e _ fun vs H2 e2 a => hs H2 vs (e.trans e2) a H2 (Ex.refl H2) Q (fun H3 e3 => q H3 (e2.trans e3)) E
/-- an operation on what is so -/
theorem evp_op {r : R2} {P1 P2 P3 : Hp → V → Prop} (m1 : Mono P1) (ha : EvP P1 ta σ H) (hb : EvP P2 tb σ H) (hr : ∀ H2 x y, Ex H H2 → P1 H2 x → P2 H2 y → ∀ Q : VK, (∀ v H3, Ex H2 H3 → P3 H3 v → Q v H3) → r x y H2 Q) : EvP P3 (tOp r ta tb) σ H := fun H1 e Q q =>
  ha H1 e _ fun x H2 e2 px => hb H2 (e.trans e2) _ fun y H3 e3 py => hr H3 x y ((e.trans e2).trans e3) (m1 _ _ _ e3 px) py Q fun v H4 e4 p => q v H4 ((e2.trans e3).trans e4) p
/-- .. where the first is a new list -/
theorem evp_opL {r : R2} {P2 P3 : Hp → V → Prop} (m1 : MonoL LP) (ha : EvLR LP ta σ H) (hb : EvP P2 tb σ H) (hr : ∀ H2 p xs y, Ex H H2 → H2 p = some (.lst xs) → LP H2 xs → P2 H2 y → ∀ Q : VK, (∀ v H3, Ex H2 H3 → P3 H3 v → Q v H3) → r (.ref p) y H2 Q) : EvP P3 (tOp r ta tb) σ H := fun H1 e Q q =>
  ha H1 e _ fun p xs H2 hp e2 hx l => hb H2 (e.trans e2) _ fun y H3 e3 py => hr H3 p xs y ((e.trans e2).trans e3) (e3 _ _ hx) (m1 _ _ _ e3 l) py Q fun v H4 e4 pv => q v H4 ((e2.trans e3).trans e4) pv
/-- list + list, both new -/
theorem elr_cat {L1 L2' : Hp → List V → Prop} (m1 : MonoL L1) (ha : EvLR L1 ta σ H) (hb : EvLR L2' tb σ H) (hz : ∀ H2 xs ys, L1 H2 xs → L2' H2 ys → xs.length + ys.length ≤ 100000) (hc : ∀ H2 xs ys, Ex H H2 → L1 H2 xs → L2' H2 ys → LP H2 (xs ++ ys)) (mL : MonoL LP) : EvLR LP (tOp rCat ta tb) σ H := fun H1 e Q k =>
  ha H1 e _ fun p xs H2 hp e2 hx l1 => hb H2 (e.trans e2) _ fun q ys H3 hq e3 hy l2 => ⟨p, q, xs, ys, rfl, rfl, e3 p _ hx, hy, sz_of (hz _ _ _ (m1 _ _ _ e3 l1) l2), fun r hr => k r _ _ (fresh_back (e2.trans e3) hr) ((e2.trans e3).trans (Ex.new hr)) upd_same (mL _ _ _ (Ex.new hr) (hc _ _ _ ((e.trans e2).trans e3) (m1 _ _ _ e3 l1) l2))⟩
/-- list + list, the first known -/
theorem elr_cat1 {L2' : Hp → List V → Prop} {p : Addr} {xs : List V} (ha : Ev ta σ H (.ref p)) (hp : H p = some (.lst xs)) (hb : EvLR L2' tb σ H) (hz : ∀ H2 ys, L2' H2 ys → xs.length + ys.length ≤ 100000) (hc : ∀ H2 ys, Ex H H2 → L2' H2 ys → LP H2 (xs ++ ys)) (mL : MonoL LP) : EvLR LP (tOp rCat ta tb) σ H := fun H1 e Q k =>
  ha H1 e _ fun H2 e2 => hb H2 (e.trans e2) _ fun q ys H3 hq e3 hy l2 => ⟨p, q, xs, ys, rfl, rfl, ((e.trans e2).trans e3) p _ hp, hy, sz_of (hz _ _ l2), fun r hr => k r _ _ (fresh_back (e2.trans e3) hr) ((e2.trans e3).trans (Ex.new hr)) upd_same (mL _ _ _ (Ex.new hr) (hc _ _ ((e.trans e2).trans e3) l2))⟩
/-- a display -/
theorem elr_lst (h : EvAR LP tr σ H) (hz : ∀ H2 xs, LP H2 xs → xs.length ≤ 100000) (mL : MonoL LP) : EvLR LP (tLst tr) σ H := fun H1 e Q q => h H1 e _ fun xs H2 e2 l => ⟨sz_of (hz _ _ l), fun p hp => q p xs _ (fresh_back e2 hp) (e2.trans (Ex.new hp)) upd_same (mL _ _ _ (Ex.new hp) l)⟩
theorem evp_tupR {TP : Hp → List V → Prop} (h : EvAR TP tr σ H) (hz : ∀ H2 xs, TP H2 xs → xs.length ≤ 100000) (mL : MonoL TP) (hp : ∀ a xs H2, Ex H H2 → H2 a = some (.tup xs) → TP H2 xs → Pr H2 (.ref a)) : EvP Pr (tTup tr) σ H := fun H1 e Q q => h H1 e _ fun xs H2 e2 l => ⟨sz_of (hz _ _ l), fun p np => q _ _ (e2.trans (Ex.new np)) (hp p xs _ ((e.trans e2).trans (Ex.new np)) upd_same (mL _ _ _ (Ex.new np) l))⟩
/-! statements -/
theorem s_asgP (h : EvP Pr te σ H) (k : ∀ v H1, Ex H H1 → Pr H1 v → D.nx (σ.set i (some v)) H1) : tAsg te (gName i) D σ H := h H (Ex.refl H) _ fun v H1 e p => k v H1 e p
theorem q_asgP (h : EvP Pr te σ H) (k : ∀ v H1, Ex H H1 → Pr H1 v → tz D (σ.set i (some v)) H1) : tSeq (tAsg te (gName i)) tz D σ H := s_asgP (D := { D with nx := tz D }) h k
theorem s_asgLR (h : EvLR LP te σ H) (k : ∀ p xs H1, H p = none → Ex H H1 → H1 p = some (.lst xs) → LP H1 xs → D.nx (σ.set i (some (.ref p))) H1) : tAsg te (gName i) D σ H := h H (Ex.refl H) _ fun p xs H1 hp e hx l => k p xs H1 hp e hx l
theorem q_asgLR (h : EvLR LP te σ H) (k : ∀ p xs H1, H p = none → Ex H H1 → H1 p = some (.lst xs) → LP H1 xs → tz D (σ.set i (some (.ref p))) H1) : tSeq (tAsg te (gName i)) tz D σ H := s_asgLR (D := { D with nx := tz D }) h k
theorem s_retP (h : EvP Pr te σ H) (k : RetP Pr H D.rt) : tRet te D σ H := h H (Ex.refl H) _ fun v H1 e p => k v H1 e p
theorem s_retLR (h : EvLR LP te σ H) (k : RetLR LP H D.rt) : tRet te D σ H := h H (Ex.refl H) _ fun p xs H1 hp e hx l => k p xs H1 hp e hx l
theorem s_dropP (h : EvP Pr te σ H) (k : ∀ H1, Ex H H1 → D.nx σ H1) : tDrop te D σ H := h H (Ex.refl H) _ fun _ H1 e _ => k H1 e
theorem q_dropP (h : EvP Pr te σ H) (k : ∀ H1, Ex H H1 → tz D σ H1) : tSeq (tDrop te) tz D σ H := s_dropP (D := { D with nx := tz D }) h k
/-- an if whose ways lead on or end -/
theorem q_if2 {b : Bool} (h : EvT t σ H b) (h1 : b = true → ∀ H1, Ex H H1 → tu { D with nx := tz D } σ H1) (h2 : b = false → ∀ H1, Ex H H1 → tw { D with nx := tz D } σ H1) : tSeq (tIfS t tu tw) tz D σ H := q_if h h1 h2
end

theorem el_is {σ : L2.St} {H : Hp} {te : TE} {xs ys : List V} (h : EvL te σ H xs) (e : xs = ys) : EvL te σ H ys := by
  rw [← e]
  exact h
section
variable {σ : L2.St} {H : Hp} {ta tb : TE} {t : TT} {D : Ends} {tz tu : TS}
/-- a known list + a new one -/
theorem el_cat1 {p : Addr} {xs ys : List V} (ha : Ev ta σ H (.ref p)) (hp : H p = some (.lst xs)) (hb : EvL tb σ H ys) (hz : xs.length + ys.length ≤ 100000) : EvL (tOp rCat ta tb) σ H (xs ++ ys) := fun H1 e Q k =>
  ha H1 e _ fun H2 e2 => hb H2 (e.trans e2) _ fun q H3 hq e3 hy => ⟨p, q, xs, ys, rfl, rfl, ((e.trans e2).trans e3) p _ hp, hy, sz_of hz, fun r hr => k r _ (fresh_back (e2.trans e3) hr) ((e2.trans e3).trans (Ex.new hr)) upd_same⟩
/-- an if that may go either way -/
theorem q_whenA {b : Bool} (h : EvT t σ H b) (h1 : ∀ H1, Ex H H1 → tu { D with nx := tz D } σ H1) (h2 : ∀ H1, Ex H H1 → tz D σ H1) : tSeq (tIfS t tu tNext) tz D σ H := q_when h (fun _ => h1) fun _ => h2
theorem s_whenA {b : Bool} (h : EvT t σ H b) (h1 : ∀ H1, Ex H H1 → tu D σ H1) (h2 : ∀ H1, Ex H H1 → D.nx σ H1) : tIfS t tu tNext D σ H := s_when h (fun _ => h1) fun _ => h2
end
/-! ### what is walked -/
/-- J gives things that are as, while Hs stands -/
def WalkR {α : Type} (J : It) (Hs : Hp) (as : List α) (R : Hp → V → α → Prop) : Prop := ∃ (G : Hp → Prop) (Y : Nat → Hp → V → Hp → Prop), Walk J as.length G Y ∧ (∀ H3, Ex Hs H3 → G H3) ∧ ∀ i H3 x H4, i < as.length → Ex Hs H3 → Y i H3 x H4 → Ex H3 H4 ∧ ∃ a, as[i]? = some a ∧ R H4 x a
def IW {α : Type} (wi : TI) (σ : L2.St) (H0 : Hp) (as : List α) (R : Hp → V → α → Prop) : Prop := ∀ H1, Ex H0 H1 → ∀ Rk : It → Hp → Prop, (∀ J H2 Hs, Ex H1 H2 → Ex H0 Hs → Ex Hs H2 → (∀ q o, H1 q = some o → H0 q = none → Hs q = none) → WalkR J Hs as R → Rk J H2) → wi σ H1 Rk
def Mono2 {α : Type} (R : Hp → V → α → Prop) : Prop := ∀ H H' v a, Ex H H' → R H v a → R H' v a
/-- what never changes once it stands -/
def Im : HO → Bool
  | .lst _ => false
  | .dK _ => false
  | .dT _ => false
  | .set _ _ => false
  | _ => true
def ExI (H H' : Hp) : Prop := ∀ a o, H a = some o → Im o = true → H' a = some o
theorem ex_im {H H' : Hp} (e : Ex H H') : ExI H H' := fun a o h _ => e a o h
theorem ExI.refl (H : Hp) : ExI H H := fun _ _ h _ => h
theorem ExI.trans {H H1 H2 : Hp} (a : ExI H H1) (b : ExI H1 H2) : ExI H H2 := fun x o h i => b x o (a x o h i) i
theorem ExI.upd {H : Hp} {p : Addr} {o u : HO} (h : H p = some o) (i : Im o = false) : ExI H (L2.upd H p u) := fun a o' ha io => by
  have n : a ≠ p := fun z => by
    rw [z, h] at ha
    rw [← Option.some.inj ha, i] at io
    cases io
  rw [upd_ne n]
  exact ha
def Mono2I {α : Type} (R : Hp → V → α → Prop) : Prop := ∀ H H' v a, ExI H H' → R H v a → R H' v a
theorem Mono2I.ex {α : Type} {R : Hp → V → α → Prop} (m : Mono2I R) : Mono2 R := fun H H' v a e r => m H H' v a (ex_im e) r
theorem mono_v {α : Type} {P : V → α → Prop} : Mono2I (fun _ v a => P v a) := fun _ _ _ _ _ r => r
theorem pr_get {α β : Type} {F : α → β → Prop} : ∀ {xs : List α} {ys : List β} {i : Nat} {x : α}, Paired F xs ys → xs[i]? = some x → ∃ y, ys[i]? = some y ∧ F x y
  | _, _, _, _, .nil, e => by simp at e
  | _, _, 0, _, .cons r _, e => by simp at e; subst e; exact ⟨_, rfl, r⟩
  | _, _, i + 1, x, .cons _ t, e => by
    obtain ⟨u, h1, h2⟩ := pr_get (i := i) (x := x) t (by simpa using e)
    exact ⟨u, by simpa using h1, h2⟩
theorem id_paired {α : Type} : ∀ l : List α, Paired (fun x b => x = b) l l
  | [] => .nil
  | _ :: r => .cons rfl (id_paired r)
theorem paired_map {α β : Type} {F : α → β → Prop} (f : β → α) : ∀ (l : List β), (∀ b ∈ l, F (f b) b) → Paired F (l.map f) l
  | [], _ => .nil
  | b :: r, h => .cons (h b (List.mem_cons_self ..)) (paired_map f r fun x hx => h x (List.mem_cons_of_mem _ hx))
theorem paired_append {α β : Type} {F : α → β → Prop} : ∀ {xs : List α} {ys : List β} {xs' : List α} {ys' : List β}, Paired F xs ys → Paired F xs' ys' → Paired F (xs ++ xs') (ys ++ ys')
  | _, _, _, _, .nil, h => h
  | _, _, _, _, .cons a t, h => .cons a (paired_append t h)
theorem paired_eq {β : Type} {g : β → V} : ∀ {xs : List V} {bs : List β}, Paired (fun x b => x = g b) xs bs → xs = bs.map g
  | _, _, .nil => rfl
  | _, _, .cons a t => by rw [a, paired_eq t]; rfl
section
variable {α : Type} {K : PySem.W.Frag} {σ : L2.St} {H H' H0 : Hp} {te : TE} {ta : TA} {as : List α} {R : Hp → V → α → Prop} {a : Addr} {xs : List V}
theorem walkR_list {Hs : Hp} (h : SqL K Hs a xs) (m : Mono2 R) (r : Paired (R Hs) xs as) : WalkR (Itl K a) Hs as R := by
  have e : xs.length = as.length := Paired.length r
  refine ⟨_, _, e ▸ walk_list (K := K) (a := a) (xs := xs), fun H3 e3 => ex_l e3 h, fun i H3 x H4 _ e3 y => ?_⟩
  obtain ⟨rfl, y⟩ := y
  obtain ⟨b, hb, rb⟩ := pr_get r y
  exact ⟨Ex.refl _, b, hb, m _ _ _ _ e3 rb⟩
theorem walkR_tup {Hs : Hp} (h : SqT K Hs a xs) (m : Mono2 R) (r : Paired (R Hs) xs as) : WalkR (Itt K a) Hs as R := by
  have e : xs.length = as.length := Paired.length r
  refine ⟨_, _, e ▸ walk_tup (K := K) (a := a) (xs := xs), fun H3 e3 => ex_t e3 h, fun i H3 x H4 _ e3 y => ?_⟩
  obtain ⟨rfl, y⟩ := y
  obtain ⟨b, hb, rb⟩ := pr_get r y
  exact ⟨Ex.refl _, b, hb, m _ _ _ _ e3 rb⟩
theorem walkR_str {Hs : Hp} {z : Str} : WalkR (Its z) Hs z.cps.toList (fun _ v c => v = .str ⟨#[c]⟩) := by
  have w := walk_str (z := z)
  rw [← Array.length_toList] at w
  refine ⟨_, _, w, fun _ _ => trivial, fun i H3 x H4 _ _ y => ?_⟩
  obtain ⟨rfl, c, hc, rfl⟩ := y
  exact ⟨Ex.refl _, c, by rw [← hc, Array.getElem?_toList], rfl⟩
theorem walkR_range {Hs : Hp} {n : Nat} : WalkR (Itr 0 n) Hs (List.range n) (fun _ v k => v = .int (k : Nat)) := by
  have w := walk_range (lo := 0) (n := n)
  have e : (List.range n).length = n := List.length_range
  have w2 : Walk (Itr 0 n) (List.range n).length (fun _ => True) (YFn fun i => .int (0 + (i : Nat))) := by
    rw [e]
    exact w
  refine ⟨_, _, w2, fun _ _ => trivial, fun i H3 x H4 hi _ y => ?_⟩
  obtain ⟨rfl, rfl⟩ := y
  rw [e] at hi
  exact ⟨Ex.refl _, i, by rw [List.getElem?_range hi], by simp⟩
/-- a list that stands, a new one, a tuple, a text, a range -/
theorem iw_list (h : Ev te σ H (.ref a)) (hx : SqL K H a xs) (m : Mono2 R) (r : Paired (R H) xs as) : IW (iList K te) σ H as R := fun H1 e Rk q => h H1 e _ fun H2 e2 => ⟨a, rfl, ⟨xs, ex_l (e.trans e2) hx⟩, q _ H2 H e2 (Ex.refl _) (e.trans e2) (fun _ _ _ z => z) (walkR_list hx m r)⟩
theorem iw_tup (h : Ev te σ H (.ref a)) (hx : SqT K H a xs) (m : Mono2 R) (r : Paired (R H) xs as) : IW (iTup K te) σ H as R := fun H1 e Rk q => h H1 e _ fun H2 e2 => ⟨a, rfl, ⟨xs, ex_t (e.trans e2) hx⟩, q _ H2 H e2 (Ex.refl _) (e.trans e2) (fun _ _ _ z => z) (walkR_tup hx m r)⟩
theorem iw_str {z : Str} (h : Ev te σ H (.str z)) : IW (iStr te) σ H z.cps.toList (fun _ v c => v = .str ⟨#[c]⟩) := fun H1 e Rk q => h H1 e _ fun H2 e2 => ⟨z, rfl, q _ H2 H e2 (Ex.refl _) (e.trans e2) (fun _ _ _ z => z) walkR_str⟩
theorem iw_range {n : Int} (h : EvA ta σ H [.int n]) (hn : -100000 ≤ n ∧ n ≤ 100000) : IW (iRng1 ta) σ H (List.range n.toNat) (fun _ v k => v = .int (k : Nat)) := fun H1 e Rk q => h H1 e _ fun H2 e2 => ⟨n, rfl, by omega, by omega, q _ H2 H e2 (Ex.refl _) (e.trans e2) (fun _ _ _ z => z) walkR_range⟩
/-- a new list: what stands is H0 and the list -/
theorem iw_new {LP : Hp → List V → Prop} (h : EvLR LP te σ H) (m : Mono2 R) (hl : ∀ H2 xs, Ex H H2 → LP H2 xs → Paired (R H) xs as) : IW (iList K te) σ H as R := fun H1 e Rk q => h H1 e _ fun p xs H2 hp e2 hx l => by
  have np : H p = none := fresh_back e hp
  have e3 : Ex H (upd H p (.lst xs)) := Ex.new np
  refine ⟨p, rfl, ⟨xs, sq_of hx⟩, q _ H2 (upd H p (.lst xs)) e2 e3 (fun b o hb => ?_) (fun b o h1 h2 => ?_) (walkR_list (xs := xs) (sq_of upd_same) m (Paired.mapP (hl H2 xs (e.trans e2) l) fun x b r => m _ _ _ _ e3 r))⟩
  · by_cases z : b = p
    · subst z
      rw [upd_same] at hb
      rw [← hb]
      exact hx
    · rw [upd_ne z] at hb
      exact (e.trans e2) b o hb
  · rw [upd_ne (ne_of_none h1 hp)]
    exact h2
/-- for: H0 knows what is walked; what is not in it may change -/
theorem s_forW {wi : TI} {g : TG} {tb : TS} {D : Ends} (h : IW wi σ H0 as R) (e : Ex H0 H)
    (k : ∀ Hs, Ex H0 Hs → (∀ q o, H q = some o → H0 q = none → Hs q = none) → ∃ Pv : Nat → L2.St → Hp → Prop, (∀ H2, Ex H H2 → Ex Hs H2 → Pv 0 σ H2) ∧ (∀ i σ' H', Pv i σ' H' → Ex Hs H') ∧
      (∀ i b x σ' H' H'', as[i]? = some b → Pv i σ' H' → Ex H' H'' → R H'' x b → g x σ' H'' fun σ2 H2 => tb { D with nx := Pv (i + 1), ct := Pv (i + 1), bk := D.nx } σ2 H2) ∧ ∀ σ' H', Pv as.length σ' H' → D.nx σ' H') : tFor wi g tb D σ H :=
  h H e _ fun J H2 Hs e2 e3 e4 hn ⟨G, Y, w, hG, hY⟩ => by
    obtain ⟨Pv, p0, pe, ps, pd⟩ := k Hs e3 hn
    refine for_it w Pv (p0 H2 e2 e4) (fun i σ' H' _ p => hG H' (pe i σ' H' p)) (fun i x σ' H' H'' hi p y => ?_) pd
    obtain ⟨e5, b, hb, r⟩ := hY i H' x H'' hi (pe i σ' H' p) y
    exact ps i b x σ' H' H'' hb p e5 r
theorem q_forW {wi : TI} {g : TG} {tb tz : TS} {D : Ends} (h : IW wi σ H0 as R) (e : Ex H0 H)
    (k : ∀ Hs, Ex H0 Hs → (∀ q o, H q = some o → H0 q = none → Hs q = none) → ∃ Pv : Nat → L2.St → Hp → Prop, (∀ H2, Ex H H2 → Ex Hs H2 → Pv 0 σ H2) ∧ (∀ i σ' H', Pv i σ' H' → Ex Hs H') ∧
      (∀ i b x σ' H' H'', as[i]? = some b → Pv i σ' H' → Ex H' H'' → R H'' x b → g x σ' H'' fun σ2 H2 => tb { D with nx := Pv (i + 1), ct := Pv (i + 1), bk := tz D } σ2 H2) ∧ ∀ σ' H', Pv as.length σ' H' → tz D σ' H') : tSeq (tFor wi g tb) tz D σ H :=
  s_forW (D := { D with nx := tz D }) h e k
/-- a comprehension: the items that pass p, by f -/
theorem elr_lc {β : Type} {wi : TI} {tt : TT} {j : Nat} {vs : List Nat} {S : Hp → V → β → Prop} {p : α → Bool} {f : α → β} (h : IW wi σ H as R) (mS : Mono2I S) (hz : as.length ≤ 40000) (hw : ∀ x, wipe ((wipe σ vs).set j (some x)) vs = wipe σ vs)
    (ht : ∀ b ∈ as, ∀ x H1, Ex H H1 → R H1 x b → EvT tt ((wipe σ vs).set j (some x)) H1 (p b)) (he : ∀ b ∈ as, ∀ x H1, Ex H H1 → R H1 x b → p b = true → EvP (fun H v => S H v (f b)) te ((wipe σ vs).set j (some x)) H1) :
    EvLR (fun H xs => Paired (S H) xs ((as.filter p).map f)) (tLc wi (gName j) tt te vs) σ H := fun H0 e0 Q q => h H0 e0 _ fun J H1 Hs e1 e2 e3 _ ⟨G, Y, w, hG, hY⟩ Dl hD => by
  refine lc_it w (fun i H' => Ex H1 H' ∧ ∃ xs, H' Dl = some (.lst xs) ∧ Paired (S H') xs (((as.take i).filter p).map f)) ⟨Ex.new hD, [], upd_same, .nil⟩ (fun i H' _ z => hG H' (e3.trans z.1)) (fun i x H' H'' hi z y => ?_) (fun H' z => ?_)
  · obtain ⟨z1, xs, z2, z3⟩ := z
    obtain ⟨e5, b, hb, r⟩ := hY i H' x H'' hi (e3.trans z1) y
    have hmem : b ∈ as := List.mem_of_getElem? hb
    have eH : Ex H H'' := ((e2.trans e3).trans z1).trans e5
    have tk : as.take (i + 1) = as.take i ++ [b] := by rw [List.take_succ, hb]; rfl
    refine ⟨hw x, ht b hmem x H'' eH r H'' (Ex.refl _) _ fun H3 e6 => ?_⟩
    have len : xs.length < sizeLine := by
      have l1 := Paired.length z3
      rw [List.length_map] at l1
      have l2 := List.length_filter_le p (as.take i)
      rw [List.length_take] at l2
      exact sz_lt (by omega)
    cases hp : p b with
    | true =>
      show te ((wipe σ vs).set j (some x)) H3 fun y H4 => ∃ acc, H4 Dl = some (.lst acc) ∧ acc.length < sizeLine ∧ _
      refine he b hmem x H'' eH r hp H3 e6 _ fun v H4 e7 hS => ⟨xs, e7 _ _ (e6 _ _ (e5 _ _ z2)), len, Ex.mut (((z1.trans e5).trans e6).trans e7) hD, xs ++ [v], upd_same, ?_⟩
      rw [tk, List.filter_append, List.map_append]
      have fb : [b].filter p = [b] := by simp [hp]
      rw [fb]
      have eL : H4 Dl = some (.lst xs) := e7 _ _ (e6 _ _ (e5 _ _ z2))
      have eU : ExI H4 (upd H4 Dl (.lst (xs ++ [v]))) := ExI.upd eL rfl
      exact Paired.snoc (Paired.mapP z3 fun v' b' s => mS _ _ _ _ ((ex_im ((e5.trans e6).trans e7)).trans eU) s) (mS _ _ _ _ eU hS)
    | false =>
      show _ ∧ _
      refine ⟨(z1.trans e5).trans e6, xs, e6 _ _ (e5 _ _ z2), ?_⟩
      rw [tk, List.filter_append, List.map_append]
      have fb : [b].filter p = [] := by simp [hp]
      rw [fb, List.map_nil, List.append_nil]
      exact Paired.mapP z3 fun v b' s => mS _ _ _ _ (ex_im (e5.trans e6)) s
  · obtain ⟨z1, xs, z2, z3⟩ := z
    rw [List.take_length] at z3
    exact q Dl xs H' (fresh_back e1 hD) (e1.trans z1) z2 z3
end

/-! ### texts -/
section
variable {X : Cx}
def rCatS : R2 := fun x y H Q => ∃ i j, x = .str i ∧ y = .str j ∧ i.length + j.length ≤ sizeLine ∧ Q (.str (i ++ j)) H
theorem op_catS : OpR X (binaryOp .Add) rCatS := op_add_str
def rSplit : V → List V → Hp → VK → Prop := fun x xs H Q => ∃ a b, x = .str a ∧ xs = [.str b] ∧ (b.length == 0) = false ∧ a.length + 2 ≤ sizeLine ∧ rNewStrs (Txt.split a b) H Q
def rJoin (K : PySem.W.Frag) : V → List V → Hp → VK → Prop := fun x xs H Q => ∃ a p, ∃ ys : List Str, x = .str a ∧ xs = [.ref p] ∧ (SqL K H p (ys.map V.str) ∨ SqT K H p (ys.map V.str)) ∧
      (ys.map (·.length)).sum + ys.length * a.length ≤ 16777216 ∧ Q (.str (Txt.join a ys)) H
variable {o e : Expr} {to te : TE}
theorem pe_splitR {apos pos : Pos} (ho : PE X o to) (he : PE X e te) (hs : starEach [e] X.env = [(false, eval e X.env)] := by rfl) (hbase : attributeBase o "split" X.env (eval o X.env) = eval o X.env := by rfl) (hline : (apos.endLine == pos.line) = true := by rfl) :
    PE X (.Call (.Attribute o "split" apos) [e] [] pos) (tM1 rSplit to te) := pe_split ho he hs hbase hline
theorem pe_joinR {apos pos : Pos} (ho : PE X o to) (he : PE X e te) (hs : starEach [e] X.env = [(false, eval e X.env)] := by rfl) (hbase : attributeBase o "join" X.env (eval o X.env) = eval o X.env := by rfl) (hline : (apos.endLine == pos.line) = true := by rfl) :
    PE X (.Call (.Attribute o "join" apos) [e] [] pos) (tM1 (rJoin X.K) to te) := pe_join ho he hs hbase hline
end
/-- signs below 128 -/
abbrev Asc (z : Str) : Prop := ∀ c ∈ z.cps.toList, c < 128
theorem codes_app (a b : Str) : (a ++ b).cps.toList = a.cps.toList ++ b.cps.toList := Array.toList_append
theorem Asc.app {a b : Str} (ha : Asc a) (hb : Asc b) : Asc (a ++ b) := fun c hc => by
  rw [codes_app] at hc
  exact (List.mem_append.mp hc).elim (ha c) (hb c)
theorem Asc.cut {z : Str} (h : Asc z) (lo hi : Option Int) : Asc (cutS z lo hi) := fun c hc => by
  have hc : c ∈ (((z.cps.toList.drop (HT.sIx z.length 0 lo)).take (HT.sIx z.length z.length hi - HT.sIx z.length 0 lo)).toArray).toList := hc
  exact h c (List.mem_of_mem_drop (List.mem_of_mem_take (by simpa using hc)))
/-- a text of so many signs at most, all below 128 -/
def StrLe (n : Nat) : Hp → V → Prop := fun _ v => ∃ z : Str, v = .str z ∧ z.length ≤ n ∧ Asc z
theorem StrLe.mo {n : Nat} : Mono (StrLe n) := fun _ _ _ _ h => h
theorem StrLe.up {n m : Nat} (h : n ≤ m) {H : Hp} {v : V} (s : StrLe n H v) : StrLe m H v := let ⟨z, e, l, a⟩ := s; ⟨z, e, Nat.le_trans l h, a⟩
theorem str_app (a b : Str) : (a ++ b).length = a.length + b.length := PySem.strLen_append a b
section
variable {K : PySem.W.Frag} {σ : L2.St} {H : Hp} {ta tb te to : TE} {tl th : TO} {a b z : Str} {n m : Nat} {lo hi : Option Int} {i : Int}
theorem rv_catS (h : a.length + b.length ≤ 100000) : RV rCatS (.str a) (.str b) H (.str (a ++ b)) := fun H1 _ _ q => ⟨a, b, rfl, rfl, sz_of h, q H1 (Ex.refl H1)⟩
theorem rv_inS {c : Nat} : RV rInS (.str ⟨#[c]⟩) (.str z) H (.bl (decide (c ∈ z.cps.toList))) := fun H1 _ _ q => ⟨c, z, rfl, rfl, q H1 (Ex.refl H1)⟩
theorem rv_notInS {c : Nat} : RV rNotInS (.str ⟨#[c]⟩) (.str z) H (.bl (!decide (c ∈ z.cps.toList))) := fun H1 _ _ q => ⟨c, z, rfl, rfl, q H1 (Ex.refl H1)⟩
theorem rc_lenS (h : z.length ≤ 100000) : RC (fun xs H Q => ∃ z, xs = [.str z] ∧ z.length ≤ sizeLine ∧ Q (.int z.length) H) [.str z] H (.int (z.length : Int)) := fun H1 _ _ q => ⟨z, rfl, sz_of h, q H1 (Ex.refl H1)⟩
theorem rc_lenL {p : Addr} {xs : List V} (h : SqL K H p xs) : RC (fun xs H Q => ∃ p ys, xs = [.ref p] ∧ (SqL K H p ys ∨ SqT K H p ys) ∧ Q (.int ys.length) H) [.ref p] H (.int (xs.length : Int)) := fun H1 e _ q => ⟨p, xs, rfl, .inl (ex_l e h), q H1 (Ex.refl H1)⟩
theorem rc_lenT {p : Addr} {xs : List V} (h : SqT K H p xs) : RC (fun xs H Q => ∃ p ys, xs = [.ref p] ∧ (SqL K H p ys ∨ SqT K H p ys) ∧ Q (.int ys.length) H) [.ref p] H (.int (xs.length : Int)) := fun H1 e _ q => ⟨p, xs, rfl, .inr (ex_t e h), q H1 (Ex.refl H1)⟩
theorem el_split (ho : Ev to σ H (.str a)) (he : Ev te σ H (.str b)) (hb : (b.length == 0) = false) (ha : a.length + 2 ≤ 100000) : EvL (tM1 rSplit to te) σ H ((Txt.split a b).map V.str) := fun H1 e Q q =>
  ho H1 e _ fun H2 e2 => ⟨⟨a, rfl⟩, he H2 (e.trans e2) _ fun H3 e3 => ⟨a, b, rfl, rfl, hb, sz_of ha, fun p hp => q p _ (fresh_back (e2.trans e3) hp) ((e2.trans e3).trans (Ex.new hp)) upd_same⟩⟩
theorem ev_all {bs : List Bool} (h : EvL te σ H (bs.map V.bl)) : Ev (tCB (rAll K) (tCons te tNil)) σ H (.bl (bs.all id)) := fun H1 e Q q => h H1 e _ fun p H2 _ e2 hx => ⟨p, bs, rfl, sq_of hx, q H2 e2⟩
theorem inV_strs (ks : List Str) : inV (.str z) (ks.map V.str) = decide (z ∈ ks) := by
  unfold inV
  induction ks with
  | nil => rfl
  | cons k r ih =>
    rw [List.map_cons, List.any_cons, ih]
    show ((k == z) || decide (z ∈ r)) = decide (z ∈ k :: r)
    by_cases e : z = k
    · subst e
      simp
    · have e' : ¬ k = z := fun q => e q.symm
      simp [e, e']
/-- a comprehension of values told exactly -/
theorem el_lcV {α : Type} {as : List α} {R : Hp → V → α → Prop} {wi : TI} {tt : TT} {j : Nat} {vs : List Nat} {p : α → Bool} {g : α → V} (h : IW wi σ H as R) (hz : as.length ≤ 40000) (hw : ∀ x, wipe ((wipe σ vs).set j (some x)) vs = wipe σ vs)
    (ht : ∀ b ∈ as, ∀ x H1, Ex H H1 → R H1 x b → EvT tt ((wipe σ vs).set j (some x)) H1 (p b)) (he : ∀ b ∈ as, ∀ x H1, Ex H H1 → R H1 x b → p b = true → Ev te ((wipe σ vs).set j (some x)) H1 (g b)) :
    EvL (tLc wi (gName j) tt te vs) σ H ((as.filter p).map g) := el_elr (EvLR.imp (elr_lc (S := fun _ v b => v = b) (f := g) h mono_v hz hw ht fun b hb x H1 e r hp => evp_ev (he b hb x H1 e r hp)) fun H2 xs _ r => by
      have := paired_eq (g := fun x => x) r
      rw [this, List.map_id'])
theorem et_yes : EvT tYes σ H true := fun H1 _ _ q => q H1 (Ex.refl H1)
theorem filter_yes {α : Type} (as : List α) : as.filter (fun _ => true) = as := List.filter_eq_self.mpr fun _ _ => rfl
/-! a text whose length alone is told -/
theorem sl_of (h : Ev te σ H (.str z)) (l : z.length ≤ n) (ha : Asc z) : EvP (StrLe n) te σ H := evp_of StrLe.mo h ⟨z, rfl, l, ha⟩
theorem sl_add (ha : EvP (StrLe n) ta σ H) (hb : EvP (StrLe m) tb σ H) (hz : n + m ≤ 100000) : EvP (StrLe (n + m)) (tOp rCatS ta tb) σ H :=
  evp_op StrLe.mo ha hb fun H2 x y _ ⟨i, e1, l1, a1⟩ ⟨j, e2, l2, a2⟩ Q q => ⟨i, j, e1, e2, sz_of (by omega), q _ H2 (Ex.refl _) ⟨_, rfl, by rw [str_app]; omega, a1.app a2⟩⟩
theorem sl_cut (h : EvP (StrLe n) te σ H) (h1 : EvO tl σ H lo) (h2 : EvO th σ H hi) (hz : n ≤ 100000) : EvP (StrLe n) (tSl rSlS te tl th) σ H := fun H1 e Q q =>
  h H1 e _ fun v H2 e2 ⟨z, ez, lz, az⟩ => h1 H2 (e.trans e2) _ fun H3 e3 => h2 H3 ((e.trans e2).trans e3) _ fun H4 e4 => ⟨z, ez, sz_of (by omega), q _ H4 ((e2.trans e3).trans e4) ⟨_, rfl, Nat.le_trans (cutS_length z lo hi) lz, az.cut lo hi⟩⟩
/-- one sign of a text at a place within -/
theorem sl_sign (h : Ev te σ H (.str z)) (hi : Ev ta σ H (.int i)) (h0 : 0 ≤ i) (h1 : i < z.length) (hz : z.length ≤ 100000) (ha : Asc z) : EvP (StrLe 1) (tOp rIxS te ta) σ H := by
  obtain ⟨j, rfl⟩ : ∃ j : Nat, i = (j : Int) := ⟨i.toNat, (Int.toNat_of_nonneg h0).symm⟩
  have hj : j < z.cps.toList.length := by
    rw [Array.length_toList]
    show j < z.length
    omega
  exact evp_of StrLe.mo (ev_op h hi (rv_ixS hz (atI_nat (List.getElem?_eq_getElem hj)))) ⟨_, rfl, Nat.le_refl _, fun c hc => by
    have : c = z.cps.toList[j] := by simpa using hc
    rw [this]
    exact ha _ (List.getElem_mem hj)⟩
/-- one of some texts, at a place within -/
theorem sl_pick {ks : List Str} (h : EvL te σ H (ks.map V.str)) (hi : Ev ta σ H (.int i)) (h0 : 0 ≤ i) (h1 : i < ks.length) (hk : ∀ k ∈ ks, k.length ≤ n ∧ Asc k) : EvP (StrLe n) (tOp (rIxL K) te ta) σ H := fun H1 e Q q =>
  h H1 e _ fun p H2 _ e2 hp => hi H2 (e.trans e2) _ fun H3 e3 => by
    obtain ⟨j, rfl⟩ : ∃ j : Nat, i = (j : Int) := ⟨i.toNat, (Int.toNat_of_nonneg h0).symm⟩
    have hj : j < ks.length := by omega
    obtain ⟨k1, k2⟩ := hk _ (List.getElem_mem hj)
    exact ⟨p, _, _, .str ks[j], rfl, rfl, sq_of (e3 p _ hp), atI_nat (by rw [List.getElem?_map, List.getElem?_eq_getElem hj]; rfl), q _ H3 (e2.trans e3) ⟨_, rfl, k1, k2⟩⟩
/-- one of some numbers -/
theorem ev_pickI {ns : List Int} (h : EvL te σ H (ns.map V.int)) (hi : Ev ta σ H (.int i)) (h0 : 0 ≤ i) (h1 : i < ns.length) : Ev (tOp (rIxL K) te ta) σ H (.int (ns.getD i.toNat 0)) :=
  ev_opL1 h (fun H1 e => hi.mono e) fun p H1 hp _ => rv_ixL (sq_of hp) (at_ints h0 h1)
end
section
variable {K : PySem.W.Frag} {σ : L2.St} {H : Hp} {te : TE}
/-- a list that stands, taken as if it were new -/
def EvLS (K : PySem.W.Frag) (LP : Hp → List V → Prop) (te : TE) (σ : L2.St) (H : Hp) : Prop := ∀ H1, Ex H H1 → ∀ Q : VK, (∀ p xs H2, Ex H1 H2 → SqL K H2 p xs → LP H2 xs → Q (.ref p) H2) → te σ H1 Q
theorem els_var {LP : Hp → List V → Prop} {p : Addr} {xs : List V} (h : Ev te σ H (.ref p)) (hx : SqL K H p xs) (m : MonoL LP) (l : LP H xs) : EvLS K LP te σ H := fun H1 e Q q => h H1 e _ fun H2 e2 => q p xs H2 e2 (ex_l (e.trans e2) hx) (m _ _ _ (e.trans e2) l)
theorem els_new {LP : Hp → List V → Prop} (h : EvLR LP te σ H) : EvLS K LP te σ H := fun H1 e Q q => h H1 e _ fun p xs H2 _ e2 hx l => q p xs H2 e2 (sq_of hx) l
/-- sep.join of texts whose lengths are told -/
theorem sl_join {to : TE} {k n m : Nat} (ho : EvP (StrLe k) to σ H) (h : EvLS K (fun _ xs => xs.length ≤ n ∧ ∀ x ∈ xs, StrLe m H x) te σ H) (hz : n * (m + k) ≤ 100000) : EvP (StrLe (n * (m + k))) (tM1 (rJoin K) to te) σ H := fun H1 e Q q =>
  ho H1 e _ fun v H2 e2 ⟨z, ez, lz, az⟩ => ⟨⟨z, ez⟩, h H2 (e.trans e2) _ fun p xs H3 e3 hx ⟨l1, l2⟩ => by
    have key : ∀ xs : List V, (∀ x ∈ xs, StrLe m H x) → ∃ ys : List Str, xs = ys.map V.str ∧ (ys.map (·.length)).sum ≤ xs.length * m ∧ Asc (Str.join z ys) := by
      intro xs
      induction xs with
      | nil => exact fun _ => ⟨[], rfl, Nat.zero_le _, fun c hc => by cases hc⟩
      | cons x r ih =>
        intro hh
        obtain ⟨y, rfl, ly, ay⟩ := hh x (List.mem_cons_self ..)
        obtain ⟨ys, rfl, ls, as⟩ := ih fun x hx => hh x (List.mem_cons_of_mem _ hx)
        refine ⟨y :: ys, rfl, ?_, ?_⟩
        · rw [List.map_cons, List.sum_cons, List.length_cons, Nat.succ_mul]
          have ly : y.length ≤ m := ly
          omega
        · cases ys with
          | nil => exact ay
          | cons b r => exact (ay.app az).app as
    obtain ⟨ys, rfl, ls, ys2⟩ := key xs l2
    rw [List.length_map] at l1 ls
    have b1 : ys.length * m ≤ n * m := Nat.mul_le_mul_right _ l1
    have b2 : ys.length * z.length ≤ n * k := Nat.mul_le_mul l1 lz
    have b3 : n * (m + k) = n * m + n * k := Nat.mul_add _ _ _
    have ej : Txt.join z ys = Str.join z ys := StrLaws.glued_eq_join z ys
    refine ⟨z, p, ys, ez, rfl, .inl hx, by omega, q _ H3 (e2.trans e3) ⟨_, rfl, ?_, ?_⟩⟩
    · have := StrLaws.join_length_le z ys
      rw [ej]
      omega
    · rw [ej]
      exact ys2⟩
/-- the parts of a text hold its signs alone -/
theorem split_codes (z y : Str) : ∀ w ∈ Txt.split z y, ∀ c ∈ w.cps.toList, c ∈ z.cps.toList := by
  have h := StrLaws.join_split z y
  revert h
  generalize Txt.split z y = ws
  intro h w hw c hc
  rw [← h]
  clear h
  induction ws with
  | nil => cases hw
  | cons a r ih =>
    cases r with
    | nil =>
      rcases List.mem_cons.mp hw with e | e
      · subst e
        exact hc
      · cases e
    | cons b r =>
      show c ∈ (a ++ y ++ Str.join y (b :: r)).cps.toList
      rw [codes_app, codes_app]
      rcases List.mem_cons.mp hw with e | e
      · subst e
        exact List.mem_append_left _ (List.mem_append_left _ hc)
      · exact List.mem_append_right _ (ih e)
theorem split_sum (z y : Str) : ∀ w ∈ Txt.split z y, w.length ≤ z.length := by
  have h := StrLaws.join_split z y
  revert h
  generalize Txt.split z y = ws
  intro h w hw
  rw [← h]
  clear h
  induction ws with
  | nil => cases hw
  | cons a r ih =>
    cases r with
    | nil =>
      rcases List.mem_cons.mp hw with e | e
      · subst e
        exact Nat.le_refl _
      · cases e
    | cons b r =>
      show w.length ≤ (a ++ y ++ Str.join y (b :: r)).length
      rw [str_app, str_app]
      rcases List.mem_cons.mp hw with e | e
      · subst e
        omega
      · have := ih e
        omega
theorem split_count (z y : Str) (hy : 1 ≤ y.length := by decide) : (Txt.split z y).length ≤ z.length + 1 := by
  have h := StrLaws.join_split z y
  revert h
  generalize Txt.split z y = ws
  intro h
  rw [← h]
  clear h
  induction ws with
  | nil => exact Nat.zero_le _
  | cons a r ih =>
    cases r with
    | nil => exact Nat.succ_le_succ (Nat.zero_le _)
    | cons b r =>
      show (b :: r).length + 1 ≤ (a ++ y ++ Str.join y (b :: r)).length + 1
      rw [str_app, str_app]
      omega
/-- data that is shaped: a list of texts of signs below 128 -/
theorem shaped_strs {α : Type} (f : α → Str) : ∀ (l : List α), (∀ a ∈ l, Asc (f a)) → SeqAt.shaped (.list (l.map fun a => .str (f a))) = true := by
  intro l hl
  have h1 : PyData.canLayAll0 (l.map fun a => PyData.str (f a)) = true := by
    induction l with
    | nil => rfl
    | cons a r ih =>
      show (PyData.strOk (f a) && PyData.canLayAll0 (r.map _)) = true
      rw [ih fun b hb => hl b (List.mem_cons_of_mem _ hb), Bool.and_true]
      unfold PyData.strOk
      rw [← Array.all_toList, List.all_eq_true]
      intro c hc
      have := hl a (List.mem_cons_self ..) c hc
      exact decide_eq_true (by omega)
  have h2 : PyData.depthAll (l.map fun a => PyData.str (f a)) = 0 := by
    clear h1
    induction l with
    | nil => rfl
    | cons a r ih =>
      show max 0 (PyData.depthAll (r.map _)) = 0
      rw [ih fun b hb => hl b (List.mem_cons_of_mem _ hb)]
      rfl
  unfold SeqAt.shaped
  rw [Bool.and_eq_true]
  refine ⟨h1, decide_eq_true ?_⟩
  show PyData.depthAll _ + 1 ≤ 64
  rw [h2]
  decide
/-- all([.. for x in ..]) -/
theorem ev_allLc {α : Type} {as : List α} {R : Hp → V → α → Prop} {wi : TI} {j : Nat} {vs : List Nat} {f : α → Bool} (h : IW wi σ H as R) (hz : as.length ≤ 40000) (hw : ∀ x, wipe ((wipe σ vs).set j (some x)) vs = wipe σ vs)
    (he : ∀ b ∈ as, ∀ x H1, Ex H H1 → R H1 x b → Ev te ((wipe σ vs).set j (some x)) H1 (.bl (f b))) : Ev (tCB (rAll K) (tCons (tLc wi (gName j) tYes te vs) tNil)) σ H (.bl (as.all f)) := by
  have q := ev_all (K := K) (bs := as.map f) (el_is (el_lcV (p := fun _ => true) (g := fun b => V.bl (f b)) h hz hw (fun _ _ _ _ _ _ => et_yes) fun b hb x H1 e r _ => he b hb x H1 e r) (by rw [filter_yes, List.map_map] <;> rfl))
  rw [List.all_map] at q
  exact q
/-- [x for x in ..] == [] -/
theorem ev_noneLc {α : Type} {as : List α} {R : Hp → V → α → Prop} {wi : TI} {tt : TT} {j : Nat} {vs : List Nat} {p : α → Bool} {g : α → V} {d : α → PyData} (h : IW wi σ H as R) (hz : as.length ≤ 40000) (hw : ∀ x, wipe ((wipe σ vs).set j (some x)) vs = wipe σ vs)
    (ht : ∀ b ∈ as, ∀ x H1, Ex H H1 → R H1 x b → EvT tt ((wipe σ vs).set j (some x)) H1 (p b)) (he : ∀ b ∈ as, ∀ x H1, Ex H H1 → R H1 x b → p b = true → Ev te ((wipe σ vs).set j (some x)) H1 (g b))
    (hd : ∀ b H1, Dp K H1 (g b) (d b)) (hs : SeqAt.shaped (.list ((as.filter p).map d)) = true) : Ev (tOp (rEqD K) (tLc wi (gName j) tt te vs) (tLst tNil)) σ H (.bl (as.all fun b => !p b)) := by
  have l := el_lcV h hz hw ht he
  refine ev_opLL l (el_lst ea_nil (by decide)) fun a b H1 ha hb e => ?_
  have da : ∀ (bs : List α), DpAll K H1 (bs.map g) (bs.map d) := fun bs => by
    induction bs with
    | nil => exact .nil
    | cons x r ih => exact .cons (hd x H1) ih
  have q := rv_eqD (K := K) (.lst (sq_of ha) (da _)) (.lst (sq_of hb) .nil) hs (by decide +kernel)
  have e1 : PyData.eqv (.list ((as.filter p).map d)) (.list []) = as.all fun b => !p b := by
    cases hf : as.filter p with
    | nil =>
      have : (as.all fun b => !p b) = true := by
        rw [List.all_eq_true]
        intro x hx
        cases hp : p x with
        | false => rfl
        | true =>
          have := List.mem_filter.mpr ⟨hx, hp⟩
          rw [hf] at this
          cases this
      rw [this]
      rfl
    | cons x r =>
      have hx : x ∈ as.filter p := by rw [hf]; exact List.mem_cons_self ..
      have hm := List.mem_filter.mp hx
      have : (as.all fun b => !p b) = false := by
        rw [List.all_eq_false]
        exact ⟨x, hm.1, by simp [hm.2]⟩
      rw [this]
      rfl
  rw [e1] at q
  exact q
end
end RB

set_option Elab.async false
set_option linter.all false
set_option maxRecDepth 100000
set_option maxHeartbeats 4000000
namespace K01
open PySem PySem.Spec PyProof.Rows L2 Evl RB
local macro_rules | `(tactic| walk_at "cond") => `(tactic| first
  | assumption
  | decide
  | (constructor <;> decide)
  | exact mul_l (by decide +kernel)
  | exact mul_r (by decide +kernel)
  | omega
  | (constructor <;> omega)
  | (dsimp only; omega)
  | exact mul_lb (by omega) (by omega)
  | exact mul_rb (by omega) (by omega))
local macro_rules | `(tactic| walk_at "rv") => `(tactic| first
  | exact rv_I0
  | (refine' rv_I ?rc; (case rc => walk_at "cond"))
  | exact rv_eq rfl
  | exact rv_ne rfl
  | exact rv_isB
  | exact rv_inS
  | exact rv_notInS
  | (refine' rv_catS ?rc; (case rc => first | omega | assumption | decide))
  | exact rv_notB
  | exact ru_neg)
local macro_rules | `(tactic| walk_at "ev") => `(tactic| first
  | with_reducible exact ev_c
  | exact ev_var rfl
  | ((with_reducible refine' ev_op ?ea ?eb ?er); (case ea => walk_at "ev"); (case eb => walk_at "ev"); (case er => walk_at "rv"))
  | ((with_reducible refine' ev_un ?ea ?er); (case ea => walk_at "ev"); (case er => walk_at "rv"))
  | ((with_reducible refine' ev_chain ?ea ?eb ?ec); (case ea => walk_at "ev"); (case eb => walk_at "ev"); (case ec => walk_at "ev"))
  | ((with_reducible refine' ev_cb ?ea ?er); (case ea => walk_at "ea"); (case er => walk_at "rc"))
  | ((with_reducible refine' ev_call ?ea ?er); (case ea => walk_at "ea"); (case er => walk_at "sp")))
local macro_rules | `(tactic| walk_at "ev") => `(tactic| first
  | ((with_reducible refine' ev_and0 ?ea); (case ea => walk_at "ev"))
  | ((with_reducible refine' ev_and1 ?ea ?eb); (case ea => walk_at "ev"); (case eb => walk_at "ev"))
  | ((with_reducible refine' ev_andV ?ea ?eb); (case ea => walk_at "ev"); (case eb => intro _; walk_at "ev"))
  | ((with_reducible refine' ev_or1 ?ea); (case ea => walk_at "ev"))
  | ((with_reducible refine' ev_or0 ?ea ?eb); (case ea => walk_at "ev"); (case eb => walk_at "ev"))
  | ((with_reducible refine' ev_orV ?ea ?eb); (case ea => walk_at "ev"); (case eb => intro _; walk_at "ev"))
  | ((with_reducible refine' ev_notT ?ea); (case ea => walk_at "ev"))
  | ((with_reducible refine' ev_notF ?ea); (case ea => walk_at "ev"))
  | ((with_reducible refine' ev_notV ?ea); (case ea => walk_at "ev")))
local macro_rules | `(tactic| walk_at "et") => `(tactic| first
  | ((with_reducible refine' et_and0 ?ea); (case ea => walk_at "et"))
  | ((with_reducible refine' et_and1 ?ea ?eb); (case ea => walk_at "et"); (case eb => walk_at "et"))
  | ((with_reducible refine' et_and ?ea ?eb); (case ea => walk_at "et"); (case eb => intro _; walk_at "et"))
  | ((with_reducible refine' et_or1 ?ea); (case ea => walk_at "et"))
  | ((with_reducible refine' et_or0 ?ea ?eb); (case ea => walk_at "et"); (case eb => walk_at "et"))
  | ((with_reducible refine' et_or ?ea ?eb); (case ea => walk_at "et"); (case eb => intro _; walk_at "et"))
  | ((with_reducible refine' et_notT ?ea); (case ea => walk_at "et"))
  | ((with_reducible refine' et_notF ?ea); (case ea => walk_at "et"))
  | ((with_reducible refine' et_not ?ea); (case ea => walk_at "et"))
  | ((with_reducible refine' et_test ?ea); (case ea => walk_at "ev"))
  | ((with_reducible refine' et_B ?ea); (case ea => walk_at "ev")))
local macro_rules | `(tactic| walk_at "ea") => `(tactic| first
  | with_reducible exact ea_nil
  | ((with_reducible refine' ea_cons ?ea ?eb); (case ea => walk_at "ev"); (case eb => walk_at "ea")))
local macro_rules | `(tactic| walk_at "rc") => `(tactic| first
  | with_reducible exact rc_int_int
  | with_reducible exact rc_int_bool
  | with_reducible exact rc_int_str
  | with_reducible exact rc_int_list
  | with_reducible exact rc_int_tuple
  | with_reducible exact rc_int_dict
  | with_reducible exact rc_bl_int
  | with_reducible exact rc_bl_bool
  | with_reducible exact rc_bl_str
  | with_reducible exact rc_bl_list
  | with_reducible exact rc_bl_tuple
  | with_reducible exact rc_bl_dict
  | with_reducible exact rc_str_int
  | with_reducible exact rc_str_bool
  | with_reducible exact rc_str_str
  | with_reducible exact rc_str_list
  | with_reducible exact rc_str_tuple
  | with_reducible exact rc_str_dict
  | with_reducible exact rc_non_int
  | with_reducible exact rc_non_bool
  | with_reducible exact rc_non_str
  | with_reducible exact rc_non_list
  | with_reducible exact rc_non_tuple
  | with_reducible exact rc_non_dict
  | with_reducible exact rc_lst_int (by assumption)
  | with_reducible exact rc_lst_bool (by assumption)
  | with_reducible exact rc_lst_str (by assumption)
  | with_reducible exact rc_lst_list (by assumption)
  | with_reducible exact rc_lst_tuple (by assumption)
  | with_reducible exact rc_lst_dict (by assumption)
  | with_reducible exact rc_tup_int (by assumption)
  | with_reducible exact rc_tup_bool (by assumption)
  | with_reducible exact rc_tup_str (by assumption)
  | with_reducible exact rc_tup_list (by assumption)
  | with_reducible exact rc_tup_tuple (by assumption)
  | with_reducible exact rc_tup_dict (by assumption)
  | with_reducible exact rc_dK_int (by assumption)
  | with_reducible exact rc_dK_bool (by assumption)
  | with_reducible exact rc_dK_str (by assumption)
  | with_reducible exact rc_dK_list (by assumption)
  | with_reducible exact rc_dK_tuple (by assumption)
  | with_reducible exact rc_dK_dict (by assumption)
  | with_reducible exact rc_dT_int (by assumption)
  | with_reducible exact rc_dT_bool (by assumption)
  | with_reducible exact rc_dT_str (by assumption)
  | with_reducible exact rc_dT_list (by assumption)
  | with_reducible exact rc_dT_tuple (by assumption)
  | with_reducible exact rc_dT_dict (by assumption)
  | exact rc_sl_int (by assumption)
  | exact rc_sl_bool (by assumption)
  | exact rc_sl_str (by assumption)
  | exact rc_sl_list (by assumption)
  | exact rc_sl_tuple (by assumption)
  | exact rc_sl_dict (by assumption)
  | exact rc_st_int (by assumption)
  | exact rc_st_bool (by assumption)
  | exact rc_st_str (by assumption)
  | exact rc_st_list (by assumption)
  | exact rc_st_tuple (by assumption)
  | exact rc_st_dict (by assumption))
local macro_rules | `(tactic| walk_at "rc") => `(tactic| first
  | exact rc_lenL (by assumption)
  | exact rc_lenT (by assumption)
  | (refine' rc_lenS ?rc; (case rc => first | assumption | omega | decide)))
local macro_rules | `(tactic| walk_at "el") => `(tactic| first
  | ((with_reducible refine' el_lst ?ha ?hl); (case ha => walk_at "ea"); (case hl => exact Nat.le_of_ble_eq_true rfl)))
local macro_rules | `(tactic| walk_at "eli") => `(tactic| ((refine' el_is ?ga ?gb); (case ga => walk_at "el"); (case gb => rfl)))
local macro_rules | `(tactic| walk_at "evi") => `(tactic| ((refine' ev_is ?ga ?gb); (case ga => walk_at "ev"); (case gb => rfl)))
local macro_rules | `(tactic| walk_at "eai") => `(tactic| ((refine' ea_is ?ga ?gb); (case ga => walk_at "ea"); (case gb => rfl)))
def top (i : Nat) : Stmt := PySem.Challenge.pw_runrows_k01_words_and_names.main.body.getD i (.Pass ⟨0, 0, 0, 0⟩)
abbrev FunK (K : PySem.W.Frag) (x : Str) (st : Stmt) (f : Addr) (fd : FuncData) : Prop := FunD K x x (defArgs st) (defBody st) (defScope st) [] [] f fd
structure Txt (K : PySem.W.Frag) (mg : Str → Option Value) : Prop where
  b : Bi mg
  g_KEPT : mg "KEPT" = some (.ref (He.ga K "KEPT"))
  t_KEPT : ∀ H, SqT K H (He.ga K "KEPT") ((["module", "in", "out", "row", "use", "end", "number", "truth", "on", "yes", "no", "not", "and", "or", "if", "before", "then", "when", "held"] : List Str).map V.str)
  g_LETTERS : ∃ t, mg "LETTERS" = some (.str "abcdefghijklmnopqrstuvwxyz" t)
  g_LONGEST : ∃ t, mg "LONGEST" = some (.int (8) t)
  g_MOST_WORDS : ∃ t, mg "MOST_WORDS" = some (.int (4) t)
section
variable {P : Program} {w : World} {K : PySem.W.Frag} {mg : Str → Option Value} {base : Heap}
def LET : Str := "abcdefghijklmnopqrstuvwxyz"
def KEP : List Str := ["module", "in", "out", "row", "use", "end", "number", "truth", "on", "yes", "no", "not", "and", "or", "if", "before", "then", "when", "held"]
/-! ### what the program tells -/
theorem let_asc : Asc LET := by decide +kernel
def lettered (z : Str) : Bool := (decide ((1 : Int) ≤ (z.length : Int)) && decide ((z.length : Int) ≤ 8)) && z.cps.toList.all fun c => decide (c ∈ LET.cps.toList)
theorem lettered_len {z : Str} (h : (decide ((1 : Int) ≤ (z.length : Int)) && decide ((z.length : Int) ≤ 8)) = true) : z.cps.toList.length ≤ 40000 := by
  simp only [Bool.and_eq_true, decide_eq_true_eq] at h
  rw [Array.length_toList]
  show z.length ≤ 40000
  omega
def sp_is_lettered (_ : PySem.W.Frag) : Sp := fun vs H Q _ => ∃ z : Str, vs = [.str z] ∧ z.length ≤ 100000 ∧ RetV (.bl (lettered z)) H Q
abbrev s_is_lettered : Stmt := top 5
theorem sc_is_lettered : FnScope ["text", "sign"] ["text"] (defScope s_is_lettered) := ⟨rfl, rfl, rfl, by decide +kernel, rfl, by decide +kernel, by decide +kernel⟩
abbrev H_is_lettered (P : Program) (w : World) (K : PySem.W.Frag) (mg : Str → Option Value) (base : Heap) : Prop := Has P w K mg base CX0 "is_lettered" 1 ["text"] [] (sp_is_lettered K)
theorem ok_is_lettered {f : Addr} {fd : FuncData} (F : FunK K "is_lettered" s_is_lettered f fd) (T : Txt K mg) : FnOk P w K mg base CX0 1 f fd ["text"] (sp_is_lettered K) := by
  refine okN F sc_is_lettered (fun vs H Q E h => by first | (obtain ⟨rfl, _⟩ := h; rfl) | (obtain ⟨_, rfl, _⟩ := h; rfl) | (obtain ⟨_, _, rfl, _⟩ := h; rfl) | (obtain ⟨_, _, _, rfl, _⟩ := h; rfl) | (obtain ⟨_, _, _, _, rfl, _⟩ := h; rfl) | (obtain ⟨_, _, _, _, _, rfl, _⟩ := h; rfl) | (obtain ⟨_, _, _, _, _, _, rfl, _⟩ := h; rfl) | (obtain ⟨_, _, _, _, _, _, _, rfl, _⟩ := h; rfl) | (obtain ⟨_, _, _, _, _, _, _, _, rfl, _⟩ := h; rfl) | (obtain ⟨_, _, _, _, _, _, _, _, _, rfl, _⟩ := h; rfl)) (fun cdv A outer s H vs Q E hr h => ?_)
  have nd := sc_is_lettered.nd
  refine ⟨_, (pss_one (ps_ret (pe_and (pe_chain op_le op_le pe_int (pe_callB call_len_str rfl T.b.len_ PySem.boot_len (pa_cons (pv 0) pa_nil)) (pe_gI T.g_LONGEST)) (pe_one (pe_callB (cr_all rfl) rfl T.b.all_ boot_all (pa_cons (pe_lc (own := [("sign", 1)]) (g := gName 1) (tt := tYes) rfl nd (pi_str (pv 0)) (blkOk_by (own := [("sign", 1)]) (N := ["text", "sign"]) (sc := defScope s_is_lettered) (by decide +kernel)) (fun _ _ _ _ _ => (pg_name (i := 1) nd rfl (Or.inl rfl))) (fun _ _ _ _ _ => pts_nil) (fun _ _ _ _ _ => (pe_cmpR op_inS (pv 1) (pe_gS T.g_LETTERS) (by rfl)))) pa_nil)))))), ?_⟩
  obtain ⟨z, rfl, hz, k⟩ := h
  refine s_ret (v := .bl (lettered z)) ?_ k
  refine ev_andV ?_ fun hl => ?_
  · walk_at "ev"
  · refine ev_allLc (iw_str (ev_var rfl)) (lettered_len hl) (fun _ => rfl) fun c _ x H1 e r => ?_
    subst r
    walk_at "ev"
theorem sv_lettered {H : Hp} {z : Str} (h : z.length ≤ 100000) : SpV (sp_is_lettered K) [.str z] H (.bl (lettered z)) := fun H1 e Q q _ => ⟨z, rfl, h, q⟩
local macro_rules | `(tactic| walk_at "sp") => `(tactic| exact sv_lettered (by first | assumption | omega))
def word (z : Str) : Bool := lettered z && !decide (z ∈ KEP)
def sp_is_word (_ : PySem.W.Frag) : Sp := fun vs H Q _ => ∃ z : Str, vs = [.str z] ∧ z.length ≤ 100000 ∧ RetV (.bl (word z)) H Q
abbrev s_is_word : Stmt := top 6
theorem sc_is_word : FnScope ["text"] ["text"] (defScope s_is_word) := ⟨rfl, rfl, rfl, by decide +kernel, rfl, by decide +kernel, by decide +kernel⟩
abbrev H_is_word (P : Program) (w : World) (K : PySem.W.Frag) (mg : Str → Option Value) (base : Heap) : Prop := Has P w K mg base CX0 "is_word" 2 ["text"] [] (sp_is_word K)
theorem ok_is_word {f : Addr} {fd : FuncData} (F : FunK K "is_word" s_is_word f fd) (T : Txt K mg) (h_is_lettered : H_is_lettered P w K mg base) : FnOk P w K mg base CX0 2 f fd ["text"] (sp_is_word K) := by
  refine okN F sc_is_word (fun vs H Q E h => by first | (obtain ⟨rfl, _⟩ := h; rfl) | (obtain ⟨_, rfl, _⟩ := h; rfl) | (obtain ⟨_, _, rfl, _⟩ := h; rfl) | (obtain ⟨_, _, _, rfl, _⟩ := h; rfl) | (obtain ⟨_, _, _, _, rfl, _⟩ := h; rfl) | (obtain ⟨_, _, _, _, _, rfl, _⟩ := h; rfl) | (obtain ⟨_, _, _, _, _, _, rfl, _⟩ := h; rfl) | (obtain ⟨_, _, _, _, _, _, _, rfl, _⟩ := h; rfl) | (obtain ⟨_, _, _, _, _, _, _, _, rfl, _⟩ := h; rfl) | (obtain ⟨_, _, _, _, _, _, _, _, _, rfl, _⟩ := h; rfl)) (fun cdv A outer s H vs Q E hr h => ?_)
  have nd := sc_is_word.nd
  refine ⟨_, (pss_one (ps_ret (pe_and (pe_callH h_is_lettered (hr.mono (by decide)) rfl pass0 (pa_cons (pv 0) pa_nil)) (pe_one (pe_cmpR op_notIn_seq (pv 0) (pe_gR T.g_KEPT) (by rfl)))))), ?_⟩
  obtain ⟨z, rfl, hz, k⟩ := h
  refine s_ret (v := .bl (word z)) ?_ k
  refine ev_andV (by walk_at "ev") fun _ => ?_
  have q := rv_niT (K := K) (x := .str z) (T.t_KEPT H) rfl (flat_strs _)
  rw [inV_strs] at q
  exact ev_op (ev_var rfl) ev_c q
theorem sv_word {H : Hp} {z : Str} (h : z.length ≤ 100000) : SpV (sp_is_word K) [.str z] H (.bl (word z)) := fun H1 e Q q _ => ⟨z, rfl, h, q⟩
local macro_rules | `(tactic| walk_at "sp") => `(tactic| exact sv_word (by first | assumption | omega))
def name (z : Str) : Bool := let ws := Txt.split z "."; if (ws.length : Int) = 1 then word z else decide ((ws.length : Int) ≤ 4) && ws.all lettered
def sp_is_name (_ : PySem.W.Frag) : Sp := fun vs H Q _ => ∃ z : Str, vs = [.str z] ∧ z.length ≤ 1000 ∧ RetV (.bl (name z)) H Q
abbrev s_is_name : Stmt := top 7
theorem sc_is_name : FnScope ["text", "words", "word"] ["text"] (defScope s_is_name) := ⟨rfl, rfl, rfl, by decide +kernel, rfl, by decide +kernel, by decide +kernel⟩
abbrev H_is_name (P : Program) (w : World) (K : PySem.W.Frag) (mg : Str → Option Value) (base : Heap) : Prop := Has P w K mg base CX0 "is_name" 3 ["text"] [] (sp_is_name K)
theorem ok_is_name {f : Addr} {fd : FuncData} (F : FunK K "is_name" s_is_name f fd) (T : Txt K mg) (h_is_lettered : H_is_lettered P w K mg base) (h_is_word : H_is_word P w K mg base) : FnOk P w K mg base CX0 3 f fd ["text"] (sp_is_name K) := by
  refine okN F sc_is_name (fun vs H Q E h => by first | (obtain ⟨rfl, _⟩ := h; rfl) | (obtain ⟨_, rfl, _⟩ := h; rfl) | (obtain ⟨_, _, rfl, _⟩ := h; rfl) | (obtain ⟨_, _, _, rfl, _⟩ := h; rfl) | (obtain ⟨_, _, _, _, rfl, _⟩ := h; rfl) | (obtain ⟨_, _, _, _, _, rfl, _⟩ := h; rfl) | (obtain ⟨_, _, _, _, _, _, rfl, _⟩ := h; rfl) | (obtain ⟨_, _, _, _, _, _, _, rfl, _⟩ := h; rfl) | (obtain ⟨_, _, _, _, _, _, _, _, rfl, _⟩ := h; rfl) | (obtain ⟨_, _, _, _, _, _, _, _, _, rfl, _⟩ := h; rfl)) (fun cdv A outer s H vs Q E hr h => ?_)
  have nd := sc_is_name.nd
  refine ⟨_, (pss_cons (ps_set (i := 1) nd rfl (Or.inl rfl) (pe_splitR (pv 0) pe_str))
      (pss_cons (ps_if (pt_cmpR op_eq (pe_callB call_len_seq rfl T.b.len_ PySem.boot_len (pa_cons (pv 1) pa_nil)) pe_int (nomark _))
      (pss_one (ps_ret (pe_callH h_is_word (hr.mono (by decide)) rfl pass0 (pa_cons (pv 0) pa_nil))))
      pss_nil)
      (pss_one (ps_ret (pe_and (pe_cmpR op_le (pe_callB call_len_seq rfl T.b.len_ PySem.boot_len (pa_cons (pv 1) pa_nil)) (pe_gI T.g_MOST_WORDS) (nomark _)) (pe_one (pe_callB (cr_all rfl) rfl T.b.all_ boot_all (pa_cons (pe_lc (own := [("word", 2)]) (g := gName 2) (tt := tYes) rfl nd (pi_list (pv 1)) (blkOk_by (own := [("word", 2)]) (N := ["text", "words", "word"]) (sc := defScope s_is_name) (by decide +kernel)) (fun _ _ _ _ _ => (pg_name (i := 2) nd rfl (Or.inl rfl))) (fun _ _ _ _ _ => pts_nil) (fun _ _ _ _ _ => (pe_callH h_is_lettered (hr.mono (by decide)) rfl pass0 (pa_cons (pv 2) pa_nil)))) pa_nil)))))))), ?_⟩
  obtain ⟨z, rfl, hz, k⟩ := h
  have hz2 : z.length ≤ 100000 := by omega
  refine q_asgL (el_split (ev_var rfl) ev_c (by decide) (by omega)) fun p H1 hp e1 h1 => ?_
  have hs := split_sum z "."
  have hl1 := split_count z "."
  revert k hs hl1 h1
  unfold name
  generalize Txt.split z "." = ws
  intro k h1 hs hl1
  have hq : SqL K H1 p (ws.map V.str) := sq_of h1
  have hlen : (ws.map V.str).length = ws.length := List.length_map ..
  refine' q_when (b := decide ((ws.length : Int) = 1)) ?hb ?hc ?hd
  case hb =>
    refine' et_is ?g1 ?g2
    case g1 => walk_at "et"
    case g2 => rw [hlen]; simp
  case hc =>
    intro hb H2 e2
    have hb := of_decide_eq_true hb
    refine s_ret (v := .bl (word z)) (by walk_at "ev") fun H3 e3 => ?_
    have k3 := k H3 ((e1.trans e2).trans e3)
    simp only [hb, if_true] at k3
    exact k3
  case hd =>
    intro hb H2 e2
    have hb := of_decide_eq_false hb
    have hq2 := ex_l e2 hq
    refine s_ret (v := .bl (decide ((ws.length : Int) ≤ 4) && ws.all lettered)) (ev_andV ?_ fun _ => ?_) fun H3 e3 => ?_
    · refine' ev_is ?g1 ?g2
      case g1 => walk_at "ev"
      case g2 => rw [hlen]
    · refine ev_allLc (R := fun _ v b => v = .str b) (iw_list (ev_var rfl) hq2 (fun _ _ _ _ _ h => h) (paired_map V.str ws fun _ _ => rfl)) (by omega) (fun _ => rfl) fun b hb x H3 e3 r => ?_
      have := hs b hb
      subst r
      walk_at "ev"
    · have k3 := k H3 ((e1.trans e2).trans e3)
      simp only [hb, if_false] at k3
      exact k3
theorem sv_name {H : Hp} {z : Str} (h : z.length ≤ 1000) : SpV (sp_is_name K) [.str z] H (.bl (name z)) := fun H1 e Q q _ => ⟨z, rfl, h, q⟩
local macro_rules | `(tactic| walk_at "sp") => `(tactic| exact sv_name (by first | assumption | omega))
/-! ### what the law draws -/
def mixed (c k : Int) : Int := let m := (c + 7919 * k + 11) * 48271 % 2147483647; (m * m + 40692 * m) % 2147483399
theorem mixed_le (c k : Int) : 0 ≤ mixed c k ∧ mixed c k < 2147483399 := by
  unfold mixed
  constructor
  · exact Int.emod_nonneg _ (by decide)
  · exact Int.emod_lt_of_pos _ (by decide)
theorem mixed_nn (c k : Int) : 0 ≤ mixed c k := (mixed_le c k).1
def sp_law_mixed (_ : PySem.W.Frag) : Sp := fun vs H Q _ => ∃ c k : Int, vs = [.int c, .int k] ∧ RetV (.int (mixed c k)) H Q
abbrev s_law_mixed : Stmt := top 10
theorem sc_law_mixed : FnScope ["_law_cell", "_law_k", "_law_mix"] ["_law_cell", "_law_k"] (defScope s_law_mixed) := ⟨rfl, rfl, rfl, by decide +kernel, rfl, by decide +kernel, by decide +kernel⟩
abbrev H_law_mixed (P : Program) (w : World) (K : PySem.W.Frag) (mg : Str → Option Value) (base : Heap) : Prop := Has P w K mg base CX0 "_law_mixed" 1 ["_law_cell", "_law_k"] [] (sp_law_mixed K)
theorem ok_law_mixed {f : Addr} {fd : FuncData} (F : FunK K "_law_mixed" s_law_mixed f fd) (T : Txt K mg) : FnOk P w K mg base CX0 1 f fd ["_law_cell", "_law_k"] (sp_law_mixed K) := by
  refine okN F sc_law_mixed (fun vs H Q E h => by first | (obtain ⟨rfl, _⟩ := h; rfl) | (obtain ⟨_, rfl, _⟩ := h; rfl) | (obtain ⟨_, _, rfl, _⟩ := h; rfl) | (obtain ⟨_, _, _, rfl, _⟩ := h; rfl) | (obtain ⟨_, _, _, _, rfl, _⟩ := h; rfl) | (obtain ⟨_, _, _, _, _, rfl, _⟩ := h; rfl) | (obtain ⟨_, _, _, _, _, _, rfl, _⟩ := h; rfl) | (obtain ⟨_, _, _, _, _, _, _, rfl, _⟩ := h; rfl) | (obtain ⟨_, _, _, _, _, _, _, _, rfl, _⟩ := h; rfl) | (obtain ⟨_, _, _, _, _, _, _, _, _, rfl, _⟩ := h; rfl)) (fun cdv A outer s H vs Q E hr h => ?_)
  have nd := sc_law_mixed.nd
  refine ⟨_, (pss_cons (ps_set (i := 2) nd rfl (Or.inl rfl) (pe_op op_mod (pe_op op_mulI (pe_op op_add (pe_op op_add (pv 0) (pe_op op_mulI pe_int (pv 1))) pe_int) pe_int) pe_int))
      (pss_one (ps_ret (pe_op op_mod (pe_op op_add (pe_op op_mulI (pv 2) (pv 2)) (pe_op op_mulI pe_int (pv 2))) pe_int)))), ?_⟩
  obtain ⟨c, j, rfl, k⟩ := h
  refine' q_asg ?h1 ?h2
  case h1 => walk_at "ev"
  case h2 =>
    intro H1 e1
    refine s_ret (v := .int (mixed c j)) ?_ fun H2 e2 => k H2 (e1.trans e2)
    (refine' ev_is ?h1 ?h2; (case h1 => walk_at "ev"); (case h2 => rfl))
theorem sv_mx {H : Hp} {c k : Int} : SpV (sp_law_mixed K) [.int c, .int k] H (.int (mixed c k)) := fun H1 e Q q _ => ⟨c, k, rfl, q⟩
local macro_rules | `(tactic| walk_at "sp") => `(tactic| exact sv_mx)
def sp_law_kept (_ : PySem.W.Frag) : Sp := fun vs H Q _ => vs = [] ∧ RetL (KEP.map V.str) H Q
abbrev s_law_kept : Stmt := top 11
theorem sc_law_kept : FnScope ["_law_words"] [] (defScope s_law_kept) := ⟨rfl, rfl, rfl, by decide +kernel, rfl, by decide +kernel, by decide +kernel⟩
abbrev H_law_kept (P : Program) (w : World) (K : PySem.W.Frag) (mg : Str → Option Value) (base : Heap) : Prop := Has P w K mg base CX0 "_law_kept" 1 [] [] (sp_law_kept K)
theorem ok_law_kept {f : Addr} {fd : FuncData} (F : FunK K "_law_kept" s_law_kept f fd) (T : Txt K mg) : FnOk P w K mg base CX0 1 f fd [] (sp_law_kept K) := by
  refine okN F sc_law_kept (fun vs H Q E h => by first | (obtain ⟨rfl, _⟩ := h; rfl) | (obtain ⟨_, rfl, _⟩ := h; rfl) | (obtain ⟨_, _, rfl, _⟩ := h; rfl) | (obtain ⟨_, _, _, rfl, _⟩ := h; rfl) | (obtain ⟨_, _, _, _, rfl, _⟩ := h; rfl) | (obtain ⟨_, _, _, _, _, rfl, _⟩ := h; rfl) | (obtain ⟨_, _, _, _, _, _, rfl, _⟩ := h; rfl) | (obtain ⟨_, _, _, _, _, _, _, rfl, _⟩ := h; rfl) | (obtain ⟨_, _, _, _, _, _, _, _, rfl, _⟩ := h; rfl) | (obtain ⟨_, _, _, _, _, _, _, _, _, rfl, _⟩ := h; rfl)) (fun cdv A outer s H vs Q E hr h => ?_)
  have nd := sc_law_kept.nd
  refine ⟨_, (pss_cons (ps_set (i := 0) nd rfl (Or.inl rfl) (pe_lst (pa_cons pe_str (pa_cons pe_str (pa_cons pe_str (pa_cons pe_str (pa_cons pe_str (pa_cons pe_str (pa_cons pe_str (pa_cons pe_str (pa_cons pe_str (pa_cons pe_str (pa_cons pe_str (pa_cons pe_str (pa_cons pe_str (pa_cons pe_str (pa_cons pe_str pa_nil)))))))))))))))))
      (pss_one (ps_ret (pe_op op_cat (pv 0) (pe_lst (pa_cons pe_str (pa_cons pe_str (pa_cons pe_str (pa_cons pe_str pa_nil))))))))), ?_⟩
  obtain ⟨rfl, k⟩ := h
  refine' q_asgL ?ha ?hk
  case ha => walk_at "el"
  case hk =>
    intro p H1 hp e1 h1
    refine' s_retL (xs := KEP.map V.str) (el_is (el_cat1 (ev_var rfl) h1 ?hb ?hc) ?he) fun q H2 hq e2 h2 => k q H2 (fresh_back e1 hq) (e1.trans e2) h2
    case hb => walk_at "el"
    case hc => exact Nat.le_of_ble_eq_true rfl
    case he => rfl
theorem sl_kept {H : Hp} : SpL (sp_law_kept K) ([] ++ []) H (KEP.map V.str) := fun H1 e Q q _ => ⟨rfl, q⟩
def sp_law_letters (_ : PySem.W.Frag) : Sp := fun vs H Q _ => ∃ c n : Int, vs = [.int c, .int n] ∧ 0 ≤ n ∧ n ≤ 9 ∧ RetP (StrLe 9) H Q
abbrev s_law_letters : Stmt := top 12
theorem sc_law_letters : FnScope ["_law_cell", "_law_size", "_law_letters_here", "_law_word", "_law_k"] ["_law_cell", "_law_size"] (defScope s_law_letters) := ⟨rfl, rfl, rfl, by decide +kernel, rfl, by decide +kernel, by decide +kernel⟩
abbrev H_law_letters (P : Program) (w : World) (K : PySem.W.Frag) (mg : Str → Option Value) (base : Heap) : Prop := Has P w K mg base CX0 "_law_letters" 2 ["_law_cell", "_law_size"] [] (sp_law_letters K)
theorem ok_law_letters {f : Addr} {fd : FuncData} (F : FunK K "_law_letters" s_law_letters f fd) (T : Txt K mg) (h__law_mixed : H_law_mixed P w K mg base) : FnOk P w K mg base CX0 2 f fd ["_law_cell", "_law_size"] (sp_law_letters K) := by
  refine okN F sc_law_letters (fun vs H Q E h => by first | (obtain ⟨rfl, _⟩ := h; rfl) | (obtain ⟨_, rfl, _⟩ := h; rfl) | (obtain ⟨_, _, rfl, _⟩ := h; rfl) | (obtain ⟨_, _, _, rfl, _⟩ := h; rfl) | (obtain ⟨_, _, _, _, rfl, _⟩ := h; rfl) | (obtain ⟨_, _, _, _, _, rfl, _⟩ := h; rfl) | (obtain ⟨_, _, _, _, _, _, rfl, _⟩ := h; rfl) | (obtain ⟨_, _, _, _, _, _, _, rfl, _⟩ := h; rfl) | (obtain ⟨_, _, _, _, _, _, _, _, rfl, _⟩ := h; rfl) | (obtain ⟨_, _, _, _, _, _, _, _, _, rfl, _⟩ := h; rfl)) (fun cdv A outer s H vs Q E hr h => ?_)
  have nd := sc_law_letters.nd
  refine ⟨_, (pss_cons (ps_set (i := 2) nd rfl (Or.inl rfl) pe_str)
      (pss_cons (ps_set (i := 3) nd rfl (Or.inl rfl) pe_str)
      (pss_cons (ps_for PassesOwn.never rfl (pi_range1 rfl T.b.range_ (pa_cons (pv 1) pa_nil)) (pg_name (i := 4) nd rfl (Or.inl rfl))
      (pss_one (ps_set (i := 3) nd rfl (Or.inl rfl) (pe_op op_catS (pv 3) (pe_ix ix_str (pv 2) (pe_op op_mod (pe_op op_fdiv (pe_callH h__law_mixed (hr.mono (by decide)) rfl pass0 (pa_cons (pv 0) (pa_cons (pe_op op_add pe_int (pv 4)) pa_nil))) pe_int) pe_int) (fun _ _ => rfl))))))
      (pss_one (ps_ret (pv 3)))))), ?_⟩
  obtain ⟨c, n, rfl, h0, h9, k⟩ := h
  refine q_asg ev_c fun H1 e1 => q_asg ev_c fun H2 e2 => ?_
  refine q_forW (H0 := H2) (iw_range (n := n) (by walk_at "ea") (by omega)) (Ex.refl _) fun Hs es hn => ⟨fun i σ' H' => ∃ (z : Str) (u : Option V), σ' = [some (.int c), some (.int n), some (.str LET), some (.str z), u] ∧ (z.length ≤ i ∧ Asc z) ∧ Ex Hs H', ?_, ?_, ?_, ?_⟩
  · exact fun H3 e3 e4 => ⟨Str.empty, none, rfl, ⟨Nat.le_refl _, fun c hc => by cases hc⟩, e4⟩
  · rintro i σ' H' ⟨_, _, _, _, e⟩
    exact e
  · rintro i b x σ' H' H'' hb ⟨z, u, rfl, ⟨hz, az⟩, e3⟩ e4 rfl
    have hi : i < n.toNat := by
      have := (List.getElem?_eq_some_iff.mp hb).1
      rw [List.length_range] at this
      exact this
    refine s_asgP (sl_add (sl_of (ev_var rfl) hz az) (sl_sign (z := LET) (ev_var rfl) (by walk_at "ev") (by have := mixed_nn c (40 + (b : Int)); omega) (by show _ < (26 : Int); omega) (by decide +kernel) let_asc) (by omega)) fun v H3 e5 ⟨z2, ez, lz⟩ => ?_
    subst ez
    exact ⟨z2, _, rfl, lz, (e3.trans e4).trans e5⟩
  · rintro σ' H' ⟨z, u, rfl, ⟨hz, az⟩, e3⟩
    rw [List.length_range] at hz
    refine s_retP (evp_of StrLe.mo (ev_var rfl) ⟨z, rfl, by omega, az⟩) (RetP.go k ((e1.trans e2).trans (es.trans e3)))
theorem sp_let {H : Hp} {c n : Int} (h0 : 0 ≤ n) (h9 : n ≤ 9) : SpP (sp_law_letters K) ([.int c, .int n] ++ []) H (StrLe 9) := fun H1 e Q q _ => ⟨c, n, rfl, h0, h9, q⟩
def sp_law_some_word (_ : PySem.W.Frag) : Sp := fun vs H Q _ => ∃ c : Int, vs = [.int c] ∧ RetP (StrLe 25) H Q
abbrev s_law_some_word : Stmt := top 13
theorem sc_law_some_word : FnScope ["_law_cell", "_law_way", "_law_word_kept", "_law_at"] ["_law_cell"] (defScope s_law_some_word) := ⟨rfl, rfl, rfl, by decide +kernel, rfl, by decide +kernel, by decide +kernel⟩
abbrev H_law_some_word (P : Program) (w : World) (K : PySem.W.Frag) (mg : Str → Option Value) (base : Heap) : Prop := Has P w K mg base CX0 "_law_some_word" 3 ["_law_cell"] [] (sp_law_some_word K)
theorem ok_law_some_word {f : Addr} {fd : FuncData} (F : FunK K "_law_some_word" s_law_some_word f fd) (T : Txt K mg) (h__law_kept : H_law_kept P w K mg base) (h__law_letters : H_law_letters P w K mg base) (h__law_mixed : H_law_mixed P w K mg base) : FnOk P w K mg base CX0 3 f fd ["_law_cell"] (sp_law_some_word K) := by
  refine okN F sc_law_some_word (fun vs H Q E h => by first | (obtain ⟨rfl, _⟩ := h; rfl) | (obtain ⟨_, rfl, _⟩ := h; rfl) | (obtain ⟨_, _, rfl, _⟩ := h; rfl) | (obtain ⟨_, _, _, rfl, _⟩ := h; rfl) | (obtain ⟨_, _, _, _, rfl, _⟩ := h; rfl) | (obtain ⟨_, _, _, _, _, rfl, _⟩ := h; rfl) | (obtain ⟨_, _, _, _, _, _, rfl, _⟩ := h; rfl) | (obtain ⟨_, _, _, _, _, _, _, rfl, _⟩ := h; rfl) | (obtain ⟨_, _, _, _, _, _, _, _, rfl, _⟩ := h; rfl) | (obtain ⟨_, _, _, _, _, _, _, _, _, rfl, _⟩ := h; rfl)) (fun cdv A outer s H vs Q E hr h => ?_)
  have nd := sc_law_some_word.nd
  refine ⟨_, (pss_cons (ps_set (i := 1) nd rfl (Or.inl rfl) (pe_op op_mod (pe_op op_fdiv (pe_callH h__law_mixed (hr.mono (by decide)) rfl pass0 (pa_cons (pv 0) (pa_cons pe_int pa_nil))) pe_int) pe_int))
      (pss_cons (ps_set (i := 2) nd rfl (Or.inl rfl) (pe_ix ix_list (pe_callH0 h__law_kept (hr.mono (by decide)) rfl pass0) (pe_op op_mod (pe_op op_fdiv (pe_callH h__law_mixed (hr.mono (by decide)) rfl pass0 (pa_cons (pv 0) (pa_cons pe_int pa_nil))) pe_int) pe_int) (fun _ _ => rfl)))
      (pss_cons (ps_set (i := 3) nd rfl (Or.inl rfl) (pe_op op_mod (pe_op op_fdiv (pe_callH h__law_mixed (hr.mono (by decide)) rfl pass0 (pa_cons (pv 0) (pa_cons pe_int pa_nil))) pe_int) (pe_op op_add (pe_callB call_len_str rfl T.b.len_ PySem.boot_len (pa_cons (pv 2) pa_nil)) pe_int)))
      (pss_cons (ps_if (pt_cmpR op_eq (pv 1) pe_int (nomark _))
      (pss_one (ps_ret (pv 2)))
      pss_nil)
      (pss_cons (ps_if (pt_cmpR op_eq (pv 1) pe_int (nomark _))
      (pss_one (ps_ret (pe_op op_catS (pe_op op_catS (pe_slice sl_str (pv 2) po_none (po_some (pv 3))) (pe_callH h__law_letters (hr.mono (by decide)) rfl pass0 (pa_cons (pv 0) (pa_cons pe_int pa_nil)))) (pe_slice sl_str (pv 2) (po_some (pv 3)) po_none))))
      pss_nil)
      (pss_cons (ps_if (pt_cmpR op_eq (pv 1) pe_int (nomark _))
      (pss_one (ps_ret (pe_op op_catS (pe_slice sl_str (pv 2) po_none (po_some (pv 3))) (pe_slice sl_str (pv 2) (po_some (pe_op op_add (pv 3) pe_int)) po_none))))
      pss_nil)
      (pss_cons (ps_if (pt_cmpR op_eq (pv 1) pe_int (nomark _))
      (pss_one (ps_ret (pe_op op_catS (pe_op op_catS (pe_slice sl_str (pv 2) po_none (po_some (pv 3))) (pe_callH h__law_letters (hr.mono (by decide)) rfl pass0 (pa_cons (pv 0) (pa_cons pe_int pa_nil)))) (pe_slice sl_str (pv 2) (po_some (pe_op op_add (pv 3) pe_int)) po_none))))
      pss_nil)
      (pss_one (ps_ret (pe_callH h__law_letters (hr.mono (by decide)) rfl pass0 (pa_cons (pv 0) (pa_cons (pe_ix ix_list (pe_lst (pa_cons pe_int (pa_cons pe_int (pa_cons pe_int (pa_cons (pe_op op_mod (pe_op op_fdiv (pe_callH h__law_mixed (hr.mono (by decide)) rfl pass0 (pa_cons (pv 0) (pa_cons pe_int pa_nil))) pe_int) pe_int) pa_nil))))) (pe_op op_mod (pe_op op_fdiv (pe_callH h__law_mixed (hr.mono (by decide)) rfl pass0 (pa_cons (pv 0) (pa_cons pe_int pa_nil))) pe_int) pe_int) (fun _ _ => rfl)) pa_nil)))))))))))), ?_⟩
  obtain ⟨c, rfl, k⟩ := h
  have m1 := mixed_nn c 1
  have m2 := mixed_nn c 2
  have m3 := mixed_nn c 3
  have m4 := mixed_nn c 4
  have m5 := mixed_nn c 5
  refine q_asg (v := .int (mixed c 1 / 7 % 8)) (by walk_at "ev") fun H1 e1 => ?_
  refine q_asgP (sl_pick (n := 8) (el_call ea_nil sl_kept) (by walk_at "ev") (i := mixed c 2 / 7 % 19) (by omega) (by show _ < (19 : Int); omega) (by decide +kernel)) fun v H2 e2 ⟨z, ez, lz, az⟩ => ?_
  subst ez
  refine q_asg (v := .int (mixed c 3 / 7 % ((z.length : Int) + 1))) (by walk_at "ev") fun H3 e3 => ?_
  have cut1 : ∀ {H : Hp} {x y u : Option V} {tl th : TO} {lo hi : Option Int}, EvO tl [x, y, some (.str z), u] H lo → EvO th [x, y, some (.str z), u] H hi → EvP (StrLe 8) (tSl rSlS (tVar 2) tl th) [x, y, some (.str z), u] H := fun h1 h2 => sl_cut (sl_of (ev_var rfl) lz az) h1 h2 (by decide)
  have kk := RetP.go k ((e1.trans e2).trans e3)
  refine q_whenA (by walk_at "et") (fun H4 e4 => s_retP (evp_of StrLe.mo (ev_var rfl) ⟨z, rfl, by omega, az⟩) (RetP.go kk e4)) fun H4 e4 => ?_
  have kk := RetP.go kk e4
  refine q_whenA (by walk_at "et") (fun H5 e5 => s_retP (sl_add (sl_add (cut1 eo_none (eo_some (ev_var rfl))) (evp_call (by walk_at "ea") (sp_let (by decide) (by decide))) (by decide)) (cut1 (eo_some (ev_var rfl)) eo_none) (by decide)) (RetP.go kk e5)) fun H5 e5 => ?_
  have kk := RetP.go kk e5
  refine q_whenA (by walk_at "et") (fun H6 e6 => s_retP (EvP.imp (sl_add (cut1 eo_none (eo_some (ev_var rfl))) (cut1 (eo_some (by walk_at "ev")) eo_none) (by decide)) fun _ _ _ h => h.up (by decide)) (RetP.go kk e6)) fun H6 e6 => ?_
  have kk := RetP.go kk e6
  refine q_whenA (by walk_at "et") (fun H7 e7 => s_retP (sl_add (sl_add (cut1 eo_none (eo_some (ev_var rfl))) (evp_call (by walk_at "ea") (sp_let (by decide) (by decide))) (by decide)) (cut1 (eo_some (by walk_at "ev")) eo_none) (by decide)) (RetP.go kk e7)) fun H7 e7 => ?_
  have kk := RetP.go kk e7
  refine s_retP (EvP.imp (evp_call (ea_cons (ev_var rfl) (ea_cons (ev_pickI (ns := [1, 8, 9, mixed c 4 / 7 % 10]) (i := mixed c 5 / 7 % 4) (by walk_at "eli") (by walk_at "ev") (by omega) (by show _ < (4 : Int); omega)) ea_nil)) (sp_let ?_ ?_)) fun _ _ _ h => h.up (by decide)) kk
  · generalize (mixed c 5 / 7 % 4).toNat = j
    rcases j with _ | _ | _ | _ | j
    · exact (by decide : (0 : Int) ≤ 1)
    · exact (by decide : (0 : Int) ≤ 8)
    · exact (by decide : (0 : Int) ≤ 9)
    · show (0 : Int) ≤ mixed c 4 / 7 % 10
      omega
    · exact Int.le_refl _
  · generalize (mixed c 5 / 7 % 4).toNat = j
    rcases j with _ | _ | _ | _ | j
    · exact (by decide : (1 : Int) ≤ 9)
    · exact (by decide : (8 : Int) ≤ 9)
    · exact (by decide : (9 : Int) ≤ 9)
    · show mixed c 4 / 7 % 10 ≤ 9
      omega
    · exact (by decide : (0 : Int) ≤ 9)
theorem sp_sw {H : Hp} {c : Int} : SpP (sp_law_some_word K) ([.int c] ++ []) H (StrLe 25) := fun H1 e Q q _ => ⟨c, rfl, q⟩
def sp_law_some_text (_ : PySem.W.Frag) : Sp := fun vs H Q _ => ∃ c : Int, vs = [.int c] ∧ RetP (StrLe 400) H Q
abbrev s_law_some_text : Stmt := top 14
theorem sc_law_some_text : FnScope ["_law_cell", "_law_words", "_law_k", "_law_text", "_law_at"] ["_law_cell"] (defScope s_law_some_text) := ⟨rfl, rfl, rfl, by decide +kernel, rfl, by decide +kernel, by decide +kernel⟩
abbrev H_law_some_text (P : Program) (w : World) (K : PySem.W.Frag) (mg : Str → Option Value) (base : Heap) : Prop := Has P w K mg base CX0 "_law_some_text" 4 ["_law_cell"] [] (sp_law_some_text K)
theorem ok_law_some_text {f : Addr} {fd : FuncData} (F : FunK K "_law_some_text" s_law_some_text f fd) (T : Txt K mg) (h__law_mixed : H_law_mixed P w K mg base) (h__law_some_word : H_law_some_word P w K mg base) : FnOk P w K mg base CX0 4 f fd ["_law_cell"] (sp_law_some_text K) := by
  refine okN F sc_law_some_text (fun vs H Q E h => by first | (obtain ⟨rfl, _⟩ := h; rfl) | (obtain ⟨_, rfl, _⟩ := h; rfl) | (obtain ⟨_, _, rfl, _⟩ := h; rfl) | (obtain ⟨_, _, _, rfl, _⟩ := h; rfl) | (obtain ⟨_, _, _, _, rfl, _⟩ := h; rfl) | (obtain ⟨_, _, _, _, _, rfl, _⟩ := h; rfl) | (obtain ⟨_, _, _, _, _, _, rfl, _⟩ := h; rfl) | (obtain ⟨_, _, _, _, _, _, _, rfl, _⟩ := h; rfl) | (obtain ⟨_, _, _, _, _, _, _, _, rfl, _⟩ := h; rfl) | (obtain ⟨_, _, _, _, _, _, _, _, _, rfl, _⟩ := h; rfl)) (fun cdv A outer s H vs Q E hr h => ?_)
  have nd := sc_law_some_text.nd
  refine ⟨_, (pss_cons (ps_setLc (i := 1) (own := [("_law_k", 2)]) (g := gName 2) (tt := tYes) rfl nd rfl rfl (sw_true rfl rfl rfl (by decide +kernel)) (pi_range1 rfl T.b.range_ (pa_cons (pe_ix ix_list (pe_lst (pa_cons pe_int (pa_cons pe_int (pa_cons pe_int (pa_cons pe_int (pa_cons pe_int (pa_cons pe_int pa_nil))))))) (pe_op op_mod (pe_op op_fdiv (pe_callH h__law_mixed (hr.mono (by decide)) rfl pass0 (pa_cons (pv 0) (pa_cons pe_int pa_nil))) pe_int) pe_int) (fun _ _ => rfl)) pa_nil)) (blkOk_by (own := [("_law_k", 2)]) (N := ["_law_cell", "_law_words", "_law_k", "_law_text", "_law_at"]) (sc := defScope s_law_some_text) (by decide +kernel)) (fun _ _ _ _ _ => (pg_name (i := 2) nd rfl (Or.inl rfl))) (fun _ _ _ _ _ => pts_nil) (fun _ _ _ _ _ => (pe_callH h__law_some_word (hr.mono (by decide)) rfl pass0 (pa_cons (pe_callH h__law_mixed (hr.mono (by decide)) rfl pass0 (pa_cons (pv 0) (pa_cons (pe_op op_add pe_int (pv 2)) pa_nil))) pa_nil))))
      (pss_cons (ps_set (i := 3) nd rfl (Or.inl rfl) (pe_joinR (pe_ix ix_list (pe_lst (pa_cons pe_str (pa_cons pe_str (pa_cons pe_str (pa_cons pe_str (pa_cons pe_str pa_nil)))))) (pe_op op_mod (pe_op op_fdiv (pe_callH h__law_mixed (hr.mono (by decide)) rfl pass0 (pa_cons (pv 0) (pa_cons pe_int pa_nil))) pe_int) pe_int) (fun _ _ => rfl)) (pv 1)))
      (pss_cons (ps_set (i := 4) nd rfl (Or.inl rfl) (pe_op op_mod (pe_op op_fdiv (pe_callH h__law_mixed (hr.mono (by decide)) rfl pass0 (pa_cons (pv 0) (pa_cons pe_int pa_nil))) pe_int) (pe_op op_add (pe_callB call_len_str rfl T.b.len_ PySem.boot_len (pa_cons (pv 3) pa_nil)) pe_int)))
      (pss_cons (ps_if (pt_cmpR op_eq (pe_op op_mod (pe_op op_fdiv (pe_callH h__law_mixed (hr.mono (by decide)) rfl pass0 (pa_cons (pv 0) (pa_cons pe_int pa_nil))) pe_int) pe_int) pe_int (nomark _))
      (pss_one (ps_set (i := 3) nd rfl (Or.inl rfl) (pe_op op_catS (pe_op op_catS (pe_slice sl_str (pv 3) po_none (po_some (pv 4))) (pe_ix ix_str pe_str (pe_op op_mod (pe_op op_fdiv (pe_callH h__law_mixed (hr.mono (by decide)) rfl pass0 (pa_cons (pv 0) (pa_cons pe_int pa_nil))) pe_int) pe_int) (fun _ _ => rfl))) (pe_slice sl_str (pv 3) (po_some (pv 4)) po_none))))
      pss_nil)
      (pss_one (ps_ret (pv 3))))))), ?_⟩
  obtain ⟨c, rfl, k⟩ := h
  have m6 := mixed_nn c 6
  have m7 := mixed_nn c 7
  have m8 := mixed_nn c 8
  have m9 := mixed_nn c 9
  have m10 := mixed_nn c 10
  have hn : ∀ j : Nat, 0 ≤ ([1, 1, 2, 3, 4, 5] : List Int).getD j 0 ∧ ([1, 1, 2, 3, 4, 5] : List Int).getD j 0 ≤ 5 := fun j => by
    rcases j with _ | _ | _ | _ | _ | _ | j <;> first | decide | exact ⟨Int.le_refl _, (by decide : (0 : Int) ≤ 5)⟩
  obtain ⟨n0, n5⟩ := hn (mixed c 6 / 7 % 6).toNat
  refine q_asgLR (LP := fun _ xs => xs.length ≤ 5 ∧ ∀ x ∈ xs, StrLe 25 H x) (EvLR.imp (elr_lc (S := fun H v (_ : Nat) => StrLe 25 H v) (p := fun _ => true) (f := fun k => k) (iw_range (n := ([1, 1, 2, 3, 4, 5] : List Int).getD (mixed c 6 / 7 % 6).toNat 0) (ea_cons (ev_pickI (by walk_at "eli") (by walk_at "ev") (by omega) (by show _ < (6 : Int); omega)) ea_nil) (by omega)) mono_v (by rw [List.length_range]; omega) (fun _ => rfl) (fun _ _ _ _ _ _ => et_yes) fun b _ x H1 e1 r _ => ?_) fun H2 xs _ r => ?_) fun p xs H1 hp e1 h1 ⟨l1, l2⟩ => ?_
  · subst r
    exact evp_call (ea_cons (by walk_at "ev") ea_nil) sp_sw
  · have hl := Paired.length r
    rw [filter_yes, List.length_map, List.length_range] at hl
    refine ⟨by omega, fun x hx => ?_⟩
    obtain ⟨i, hi⟩ := List.getElem?_of_mem hx
    obtain ⟨_, _, z⟩ := pr_get r hi
    exact z
  · refine' q_asgP (sl_join (k := 2) (n := 5) (m := 25) (sl_pick (n := 2) (ks := ["..", ".", ".", ".", "."]) ?s1 ?s2 (i := mixed c 7 / 7 % 5) (by omega) (by show _ < (5 : Int); omega) (by decide +kernel)) (els_var (ev_var rfl) (sq_of h1) (fun _ _ _ _ h => h) ⟨l1, l2⟩) (by decide)) ?s3
    case s1 => walk_at "eli"
    case s2 => walk_at "ev"
    case s3 =>
      rintro v H2 e2 ⟨z, ez, lz, az⟩
      subst ez
      have lz2 : z.length ≤ 135 := lz
      have kk := RetP.go k (e1.trans e2)
      refine q_asg (v := .int (mixed c 8 / 7 % ((z.length : Int) + 1))) (by walk_at "ev") fun H3 e3 => ?_
      have kk := RetP.go kk e3
      refine q_whenA (by walk_at "et") (fun H4 e4 => ?_) fun H4 e4 => s_retP (evp_of StrLe.mo (ev_var rfl) ⟨z, rfl, by omega, az⟩) (RetP.go kk e4)
      have kk := RetP.go kk e4
      refine' s_asgP (sl_add (sl_add (sl_cut (sl_of (ev_var rfl) lz2 az) eo_none (eo_some (ev_var rfl)) (by decide)) (sl_sign (z := " A1_.-'z\n") ev_c ?s4 (i := mixed c 10 / 7 % 9) (by omega) (by show _ < (9 : Int); omega) (by decide +kernel) (by decide +kernel)) (by decide)) (sl_cut (sl_of (ev_var rfl) lz2 az) (eo_some (ev_var rfl)) eo_none (by decide)) (by decide)) ?s5
      case s4 => walk_at "ev"
      case s5 =>
        rintro v H5 e5 ⟨y, ey, ly, ay⟩
        subst ey
        exact s_retP (evp_of StrLe.mo (ev_var rfl) ⟨y, rfl, by omega, ay⟩) (RetP.go kk e5)
theorem sp_st {H : Hp} {c : Int} : SpP (sp_law_some_text K) ([.int c] ++ []) H (StrLe 400) := fun H1 e Q q _ => ⟨c, rfl, q⟩
def lettered2 (z : Str) : Bool := (decide ((1 : Int) ≤ (z.length : Int)) && decide ((z.length : Int) ≤ 8)) && z.cps.toList.all fun c => !!decide (c ∈ LET.cps.toList)
theorem lettered2_eq (z : Str) : lettered2 z = lettered z := by
  unfold lettered2 lettered
  simp only [Bool.not_not]
def sp_law_is_lettered (_ : PySem.W.Frag) : Sp := fun vs H Q _ => ∃ z : Str, vs = [.str z] ∧ z.length ≤ 100000 ∧ Asc z ∧ RetV (.bl (lettered z)) H Q
abbrev s_law_is_lettered : Stmt := top 15
theorem sc_law_is_lettered : FnScope ["_law_word", "_law_sign"] ["_law_word"] (defScope s_law_is_lettered) := ⟨rfl, rfl, rfl, by decide +kernel, rfl, by decide +kernel, by decide +kernel⟩
abbrev H_law_is_lettered (P : Program) (w : World) (K : PySem.W.Frag) (mg : Str → Option Value) (base : Heap) : Prop := Has P w K mg base CX0 "_law_is_lettered" 1 ["_law_word"] [] (sp_law_is_lettered K)
theorem ok_law_is_lettered {f : Addr} {fd : FuncData} (F : FunK K "_law_is_lettered" s_law_is_lettered f fd) (T : Txt K mg) : FnOk P w K mg base CX0 1 f fd ["_law_word"] (sp_law_is_lettered K) := by
  refine okN F sc_law_is_lettered (fun vs H Q E h => by first | (obtain ⟨rfl, _⟩ := h; rfl) | (obtain ⟨_, rfl, _⟩ := h; rfl) | (obtain ⟨_, _, rfl, _⟩ := h; rfl) | (obtain ⟨_, _, _, rfl, _⟩ := h; rfl) | (obtain ⟨_, _, _, _, rfl, _⟩ := h; rfl) | (obtain ⟨_, _, _, _, _, rfl, _⟩ := h; rfl) | (obtain ⟨_, _, _, _, _, _, rfl, _⟩ := h; rfl) | (obtain ⟨_, _, _, _, _, _, _, rfl, _⟩ := h; rfl) | (obtain ⟨_, _, _, _, _, _, _, _, rfl, _⟩ := h; rfl) | (obtain ⟨_, _, _, _, _, _, _, _, _, rfl, _⟩ := h; rfl)) (fun cdv A outer s H vs Q E hr h => ?_)
  have nd := sc_law_is_lettered.nd
  refine ⟨_, (pss_one (ps_ret (pe_and (pe_chain op_le op_le pe_int (pe_callB call_len_str rfl T.b.len_ PySem.boot_len (pa_cons (pv 0) pa_nil)) pe_int) (pe_one (pe_cmpR (op_eqD hr.units) (pe_lc (own := [("_law_sign", 1)]) (g := gName 1)  rfl nd (pi_str (pv 0)) (blkOk_by (own := [("_law_sign", 1)]) (N := ["_law_word", "_law_sign"]) (sc := defScope s_law_is_lettered) (by decide +kernel)) (fun _ _ _ _ _ => (pg_name (i := 1) nd rfl (Or.inl rfl))) (fun _ _ _ _ _ => (pts_one (pt_cmpR op_notInS (pv 1) pe_str (by rfl)))) (fun _ _ _ _ _ => (pv 1))) (pe_lst pa_nil) (nomark _)))))), ?_⟩
  obtain ⟨z, rfl, hz, az, k⟩ := h
  rw [← lettered2_eq] at k
  refine s_ret (v := .bl (lettered2 z)) ?_ k
  refine ev_andV ?_ fun hl => ?_
  · walk_at "ev"
  · refine ev_noneLc (g := fun c => .str ⟨#[c]⟩) (d := fun c => .str ⟨#[c]⟩) (p := fun c => !decide (c ∈ LET.cps.toList)) (iw_str (ev_var rfl)) (lettered_len hl) (fun _ => rfl) (fun c _ x H1 e r => ?_) (fun c _ x H1 e r _ => ?_) (fun c H1 => .str _) ?_
    · subst r
      walk_at "et"
    · subst r
      walk_at "ev"
    · refine shaped_strs (fun c => ⟨#[c]⟩) _ fun c hc => ?_
      have hc := az c (List.mem_filter.mp hc).1
      intro c' hc'
      have : c' = c := by simpa using hc'
      rw [this]
      exact hc
theorem sv_lettered2 {H : Hp} {z : Str} (h : z.length ≤ 100000) (a : Asc z) : SpV (sp_law_is_lettered K) [.str z] H (.bl (lettered z)) := fun H1 e Q q _ => ⟨z, rfl, h, a, q⟩
local macro_rules | `(tactic| walk_at "sp") => `(tactic| exact sv_lettered2 (by first | assumption | omega) (by assumption))
/-- what the law reckons of a text -/
def good (z : Str) : Bool := (Txt.split z ".").all fun w => !!lettered w
def alone (z : Str) : Bool := good z && (decide (((Txt.split z ".").length : Int) = 1) && !decide (z ∈ KEP))
theorem let_dot : (46 : Nat) ∉ LET.cps.toList := by decide +kernel
theorem all_lettered {z : Str} (h : lettered z = true) : ∀ c ∈ z.cps.toList, c ∈ LET.cps.toList := by
  unfold lettered at h
  rw [Bool.and_eq_true, List.all_eq_true] at h
  exact fun c hc => of_decide_eq_true (h.2 c hc)
theorem word_alone (z : Str) : word z = alone z := by
  unfold word alone good
  have hj := StrLaws.join_split z "."
  have hp := split_pos z "."
  revert hj hp
  generalize Txt.split z "." = ws
  intro hj hp
  match ws, hj, hp with
  | [], _, hp => exact absurd hp (by decide)
  | [a], hj, _ =>
    have : a = z := hj
    subst this
    simp
  | a :: b :: r, hj, _ =>
    have e1 : decide (((a :: b :: r).length : Int) = 1) = false := decide_eq_false (by
      simp only [List.length_cons]
      omega)
    rw [e1]
    have e2 : lettered z = false := by
      cases hl : lettered z with
      | false => rfl
      | true =>
        refine absurd (all_lettered hl 46 ?_) let_dot
        rw [← hj]
        show 46 ∈ (a ++ ("." : Str) ++ Str.join "." (b :: r)).cps.toList
        rw [codes_app, codes_app]
        exact List.mem_append_left _ (List.mem_append_right _ (by decide +kernel))
    rw [e2]
    simp
theorem name_said (z : Str) : name z = (alone z || (good z && (decide ((2 : Int) ≤ ((Txt.split z ".").length : Int)) && decide (((Txt.split z ".").length : Int) ≤ 4)))) := by
  have hw := word_alone z
  have hp := split_pos z "."
  unfold name
  revert hw hp
  unfold alone good
  generalize Txt.split z "." = ws
  intro hw hp
  by_cases h1 : (ws.length : Int) = 1
  · simp only [h1, if_true]
    rw [hw]
    simp [h1]
  · simp only [h1, if_false]
    have e2 : decide ((2 : Int) ≤ (ws.length : Int)) = true := decide_eq_true (by omega)
    simp only [decide_false, Bool.false_and, Bool.and_false, Bool.false_or, e2, Bool.true_and, Bool.not_not]
    exact Bool.and_comm _ _
def sp_law (K : PySem.W.Frag) : Sp := fun vs H Q _ => ∃ (a : Addr) (ns : List Int), vs = [.ref a] ∧ SqL K H a (ns.map V.int) ∧ ns.length ≤ 63 ∧ (∀ z ∈ ns, Builtin.Int.intBits z ≤ 1048576) ∧ ∀ H', Q (.bl true) H'
abbrev s_law : Stmt := top 16
theorem sc_law : FnScope ["_law_script", "_law_texts", "_law_cell", "_law_text", "_law_words", "_law_good", "_law_word", "_law_alone", "_law_found"] ["_law_script"] (defScope s_law) := ⟨rfl, rfl, rfl, by decide +kernel, rfl, by decide +kernel, by decide +kernel⟩
abbrev H_law (P : Program) (w : World) (K : PySem.W.Frag) (mg : Str → Option Value) (base : Heap) : Prop := Has P w K mg base CX0 "law" 5 ["_law_script"] [] (sp_law K)
theorem ok_law {f : Addr} {fd : FuncData} (F : FunK K "law" s_law f fd) (T : Txt K mg) (h__law_is_lettered : H_law_is_lettered P w K mg base) (h__law_kept : H_law_kept P w K mg base) (h__law_mixed : H_law_mixed P w K mg base) (h__law_some_text : H_law_some_text P w K mg base) (h_is_name : H_is_name P w K mg base) (h_is_word : H_is_word P w K mg base) : FnOk P w K mg base CX0 5 f fd ["_law_script"] (sp_law K) := by
  refine okN F sc_law (fun vs H Q E h => by first | (obtain ⟨rfl, _⟩ := h; rfl) | (obtain ⟨_, rfl, _⟩ := h; rfl) | (obtain ⟨_, _, rfl, _⟩ := h; rfl) | (obtain ⟨_, _, _, rfl, _⟩ := h; rfl) | (obtain ⟨_, _, _, _, rfl, _⟩ := h; rfl) | (obtain ⟨_, _, _, _, _, rfl, _⟩ := h; rfl) | (obtain ⟨_, _, _, _, _, _, rfl, _⟩ := h; rfl) | (obtain ⟨_, _, _, _, _, _, _, rfl, _⟩ := h; rfl) | (obtain ⟨_, _, _, _, _, _, _, _, rfl, _⟩ := h; rfl) | (obtain ⟨_, _, _, _, _, _, _, _, _, rfl, _⟩ := h; rfl)) (fun cdv A outer s H vs Q E hr h => ?_)
  have nd := sc_law.nd
  refine ⟨_, (pss_cons (ps_setLc (i := 1) (own := [("_law_cell", 2)]) (g := gName 2) (tt := tYes) rfl nd rfl rfl (sw_true rfl rfl rfl (by decide +kernel)) (pi_list (pe_slice sl_list (pv 0) po_none (po_some pe_int))) (blkOk_by (own := [("_law_cell", 2)]) (N := ["_law_script", "_law_texts", "_law_cell", "_law_text", "_law_words", "_law_good", "_law_word", "_law_alone", "_law_found"]) (sc := defScope s_law) (by decide +kernel)) (fun _ _ _ _ _ => (pg_name (i := 2) nd rfl (Or.inl rfl))) (fun _ _ _ _ _ => pts_nil) (fun _ _ _ _ _ => (pe_callH h__law_some_text (hr.mono (by decide)) rfl pass0 (pa_cons (pe_callH h__law_mixed (hr.mono (by decide)) rfl pass0 (pa_cons (pv 2) (pa_cons pe_int pa_nil))) pa_nil))))
      (pss_cons (ps_for PassesOwn.never rfl (pi_list (pe_op op_cat (pv 1) (pe_lst (pa_cons pe_str (pa_cons pe_str (pa_cons pe_str (pa_cons pe_str (pa_cons pe_str (pa_cons pe_str (pa_cons pe_str (pa_cons pe_str (pa_cons pe_str (pa_cons pe_str (pa_cons pe_str (pa_cons pe_str (pa_cons pe_str pa_nil)))))))))))))))) (pg_name (i := 3) nd rfl (Or.inl rfl))
      (pss_cons (ps_set (i := 4) nd rfl (Or.inl rfl) (pe_splitR (pv 3) pe_str))
      (pss_cons (ps_set (i := 5) nd rfl (Or.inl rfl) (pe_cmpR (op_eqD hr.units) (pe_lc (own := [("_law_word", 6)]) (g := gName 6)  rfl nd (pi_list (pv 4)) (blkOk_by (own := [("_law_word", 6)]) (N := ["_law_script", "_law_texts", "_law_cell", "_law_text", "_law_words", "_law_good", "_law_word", "_law_alone", "_law_found"]) (sc := defScope s_law) (by decide +kernel)) (fun _ _ _ _ _ => (pg_name (i := 6) nd rfl (Or.inl rfl))) (fun _ _ _ _ _ => (pts_one (pt_not (pt_val (pe_callH h__law_is_lettered (hr.mono (by decide)) rfl pass0 (pa_cons (pv 6) pa_nil)))))) (fun _ _ _ _ _ => (pv 6))) (pe_lst pa_nil) (nomark _)))
      (pss_cons (ps_set (i := 7) nd rfl (Or.inl rfl) (pe_and (pv 5) (pe_and (pe_cmpR op_eq (pe_callB call_len_seq rfl T.b.len_ PySem.boot_len (pa_cons (pv 4) pa_nil)) pe_int (nomark _)) (pe_one (pe_cmpR op_notIn_seq (pv 3) (pe_callH0 h__law_kept (hr.mono (by decide)) rfl pass0) (by rfl))))))
      (pss_cons (ps_set (i := 8) nd rfl (Or.inl rfl) (pe_tup (pa_cons (pe_callH h_is_word (hr.mono (by decide)) rfl pass0 (pa_cons (pv 3) pa_nil)) (pa_cons (pe_callH h_is_name (hr.mono (by decide)) rfl pass0 (pa_cons (pv 3) pa_nil)) pa_nil))))
      (pss_cons (ps_if (PW.pt (pw_or (pt_not (pt_val (pe_callB call_isi rfl T.b.isinstance_ boot_isinstance (pa_cons (pe_ix ix_tup (pv 8) pe_int (fun _ _ => rfl)) (pa_cons (pe_ty T.b.bool_ boot_bool) pa_nil))))) (pw_or1 (pt_not (pt_val (pe_callB call_isi rfl T.b.isinstance_ boot_isinstance (pa_cons (pe_ix ix_tup (pv 8) pe_int (fun _ _ => rfl)) (pa_cons (pe_ty T.b.bool_ boot_bool) pa_nil))))))))
      (pss_one (ps_ret pe_bl))
      pss_nil)
      (pss_one (ps_if (pt_cmpR (op_neD hr.units) (pv 8) (pe_tup (pa_cons (pv 7) (pa_cons (pe_or (pv 7) (pe_one (pe_and (pv 5) (pe_one (pe_chain op_le op_le pe_int (pe_callB call_len_seq rfl T.b.len_ PySem.boot_len (pa_cons (pv 4) pa_nil)) pe_int))))) pa_nil))) (nomark _))
      (pss_one (ps_ret pe_bl))
      pss_nil))))))))
      (pss_one (ps_ret pe_bl)))), ?_⟩
  obtain ⟨a, ns, rfl, hS, hlen, hb, k⟩ := h
  have hc : (cutV (ns.map V.int) none (some 12)).length ≤ 63 := by
    have := cutV_length (ns.map V.int) none (some 12)
    rw [List.length_map] at this
    omega
  have hci : ∀ x ∈ cutV (ns.map V.int) none (some 12), ∃ n : Int, x = .int n := fun x hx => by
    obtain ⟨n, _, rfl⟩ := List.mem_map.mp (cutV_mem hx)
    exact ⟨n, rfl⟩
  refine' q_asgLR (LP := fun _ xs => xs.length ≤ 63 ∧ ∀ x ∈ xs, StrLe 400 H x) (EvLR.imp (elr_lc (S := fun H v (_ : V) => StrLe 400 H v) (p := fun _ => true) (f := fun k => k) (iw_new (R := fun _ v b => v = b) (elr_el (el_sl (ev_var rfl) eo_none (eo_some ev_c) hS)) (fun _ _ _ _ _ h => h) (as := cutV (ns.map V.int) none (some 12)) fun H2 xs _ e => ?g1) mono_v (by omega) (fun _ => rfl) (fun _ _ _ _ _ _ => et_yes) fun b hb x H1 e1 r _ => ?g2) fun H2 xs _ r => ?g3) ?g4
  case g1 =>
    subst e
    exact id_paired _
  case g2 =>
    subst r
    obtain ⟨n, rfl⟩ := hci _ hb
    exact evp_call (ea_cons (by walk_at "ev") ea_nil) sp_st
  case g3 =>
    have hl := Paired.length r
    rw [filter_yes, List.length_map] at hl
    refine ⟨by omega, fun x hx => ?_⟩
    obtain ⟨i, hi⟩ := List.getElem?_of_mem hx
    obtain ⟨_, _, z⟩ := pr_get r hi
    exact z
  case g4 =>
    rintro p xs H1 hp e1 h1 ⟨l1, l2⟩
    have hall : ∀ x ∈ xs ++ ((["", ".", "a", "a.", ".a", "on", "on.", "on.on", "a.b.c.d", "a.b.c.d.e", "A", "held", "helds"] : List Str).map V.str), StrLe 400 H x := fun x hx => by
      rcases List.mem_append.mp hx with z | z
      · exact l2 x z
      · obtain ⟨y, hy, rfl⟩ := List.mem_map.mp z
        have q : ∀ y ∈ (["", ".", "a", "a.", ".a", "on", "on.", "on.on", "a.b.c.d", "a.b.c.d.e", "A", "held", "helds"] : List Str), y.length ≤ 400 ∧ Asc y := by decide +kernel
        exact ⟨y, rfl, (q y hy).1, (q y hy).2⟩
    refine' q_forW (H0 := H1) (R := fun _ v b => v = b) (as := xs ++ ((["", ".", "a", "a.", ".a", "on", "on.", "on.on", "a.b.c.d", "a.b.c.d.e", "A", "held", "helds"] : List Str).map V.str)) (iw_new (elr_el (el_cat1 (ev_var rfl) h1 ?e1 ?e2)) (fun _ _ _ _ _ h => h) fun H2 ys _ e => ?e3) (Ex.refl _) fun Hs es hn => ⟨fun i σ' H' => ∃ u3 u4 u5 u6 u7 u8, σ' = [some (.ref a), some (.ref p), none, u3, u4, u5, u6, u7, u8] ∧ Ex Hs H', ?g1, ?g2, ?g3, ?g4⟩
    case e1 => walk_at "eli"
    case e2 => show xs.length + 13 ≤ 100000; omega
    case e3 =>
      subst e
      exact id_paired _
    case g1 => exact fun H2 _ e2 => ⟨_, _, _, _, _, _, rfl, e2⟩
    case g2 =>
      rintro i σ' H' ⟨_, _, _, _, _, _, _, e⟩
      exact e
    case g4 =>
      intro σ' H' _
      exact k H'
    case g3 =>
      rintro i b x σ' H2 H3 hb ⟨u3, u4, u5, u6, u7, u8, rfl, e2⟩ e3 rfl
      obtain ⟨z, rfl, lz, az⟩ := hall x (List.mem_of_getElem? hb)
      show tSeq _ _ _ ([some (.ref a), some (.ref p), none, some (.str z), u4, u5, u6, u7, u8] : L2.St) H3
      have hs := split_sum z "."
      have hco := split_codes z "."
      have hl1 := split_count z "."
      refine q_asgL (el_split (ev_var rfl) ev_c (by decide) (by omega)) fun pw H4 _ e4 h4 => ?_
      have hlen : ((Txt.split z ".").map V.str).length = (Txt.split z ".").length := List.length_map ..
      have hq4 : SqL K H4 pw ((Txt.split z ".").map V.str) := sq_of h4
      refine' q_asg (v := .bl (good z)) (ev_noneLc (R := fun _ v b => v = .str b) (g := V.str) (d := PyData.str) (p := fun w => !lettered w) (iw_list (ev_var rfl) hq4 (fun _ _ _ _ _ h => h) (paired_map V.str _ fun _ _ => rfl)) (by omega) (fun _ => rfl) (fun w hw x H5 e5 r => ?g1) (fun w hw x H5 e5 r _ => ?g2) (fun w H5 => .str w) ?g3) fun H5 e5 => ?g4
      case g1 =>
        subst r
        have h1 := hs w hw
        have h2 : Asc w := fun c hc => az c (hco w hw c hc)
        walk_at "et"
      case g2 =>
        subst r
        exact ev_var rfl
      case g3 => exact shaped_strs (fun w => w) _ fun w hw c hc => az c (hco w (List.mem_filter.mp hw).1 c hc)
      case g4 =>
        have hq5 := ex_l e5 hq4
        refine' q_asg (v := .bl (alone z)) (ev_andV (ev_var rfl) fun _ => ev_andV ?g1 fun _ => ?g2) fun H6 e6 => ?g3
        case g1 =>
          refine' ev_is ?h1 ?h2
          case h1 => walk_at "ev"
          case h2 => rw [hlen]; simp
        case g2 =>
          refine ev_opL (ev_var rfl) (el_call (sp := sp_law_kept K) ea_nil sl_kept) fun q H7 hq _ => ?_
          have r := rv_niL (K := K) (x := .str z) (sq_of hq) rfl (flat_strs _)
          rw [inV_strs] at r
          exact r
        case g3 =>
          have lz5 : z.length ≤ 100000 := by omega
          have lz3 : z.length ≤ 1000 := by omega
          refine' q_asgU (xs := [.bl (word z), .bl (name z)]) (eu_tup ?g1 (Nat.le_of_ble_eq_true rfl)) fun pt H7 _ e7 h7 => ?g2
          case g1 => walk_at "ea"
          case g2 =>
            have i0 : ∀ {H8 : Hp}, Ex H7 H8 → Ev (tOp (rIxT K) (tVar 8) (tC (.int 0))) [some (.ref a), some (.ref p), none, some (.str z), some (.ref pw), some (.bl (good z)), u6, some (.bl (alone z)), some (.ref pt)] H8 (.bl (word z)) := fun e8 => ev_op (ev_var rfl) ev_c (rv_ixT (st_of (e8 _ _ h7)) rfl)
            have i1 : ∀ {H8 : Hp}, Ex H7 H8 → Ev (tOp (rIxT K) (tVar 8) (tC (.int 1))) [some (.ref a), some (.ref p), none, some (.str z), some (.ref pw), some (.bl (good z)), u6, some (.bl (alone z)), some (.ref pt)] H8 (.bl (name z)) := fun e8 => ev_op (ev_var rfl) ev_c (rv_ixT (st_of (e8 _ _ h7)) rfl)
            refine q_when (b := false) (et_or0 (et_notT (et_B (ev_cb (ea_cons (i0 (Ex.refl _)) (ea_cons ev_c ea_nil)) rc_bl_bool))) (et_notT (et_B (ev_cb (ea_cons (i1 (Ex.refl _)) (ea_cons ev_c ea_nil)) rc_bl_bool)))) (fun z => by cases z) fun _ H8 e8 => ?_
            have hq8 := ex_l ((e6.trans e7).trans e8) hq5
            refine' s_when (b := false) (et_test (ev_opU (ev_var rfl) (eu_tup (vs := [.bl (word z), .bl (name z)]) (ea_cons (ev_is (ev_var rfl) ?h1) (ea_cons (ev_is (ev_orV (a := alone z) (b := good z && (decide ((2 : Int) ≤ ((Txt.split z ".").length : Int)) && decide (((Txt.split z ".").length : Int) ≤ 4))) (ev_var rfl) fun _ => ev_andV (ev_var rfl) fun _ => ev_is ?h2 ?h3) ?h4) ea_nil)) (Nat.le_of_ble_eq_true rfl)) fun q H9 hq e9 => rv_neDs (d := .tuple [.bool (word z), .bool (name z)]) (.tup (st_of (e9 _ _ (e8 _ _ h7))) (.cons (.bl _) (.cons (.bl _) .nil))) (.tup (st_of hq) (.cons (.bl _) (.cons (.bl _) .nil))) ?h5)) (fun z => by cases z) fun _ H9 e9 => ?h6
            case h1 => rw [word_alone]
            case h2 => walk_at "ev"
            case h3 => rw [hlen]
            case h4 => rw [name_said]
            case h5 => cases word z <;> cases name z <;> decide +kernel
            case h6 => exact ⟨_, _, _, _, _, _, rfl, ((((((e2.trans e3).trans e4).trans e5).trans e6).trans e7).trans e8).trans e9⟩
end
/-! ### the head -/
def dd (x : Str) (st : Stmt) : He.DefD := ⟨(x, none), x, x, defArgs st, defBody st, defScope st, [], []⟩
def fn : List He.DefD := [dd "_law_is_lettered" s_law_is_lettered, dd "_law_kept" s_law_kept, dd "_law_mixed" s_law_mixed, dd "_law_letters" s_law_letters, dd "_law_some_word" s_law_some_word, dd "_law_some_text" s_law_some_text, dd "is_lettered" s_is_lettered, dd "is_word" s_is_word, dd "is_name" s_is_name, dd "law" s_law]
def fa : List He.Fa := biFa ++ [.glo "KEPT", .str "LETTERS" "abcdefghijklmnopqrstuvwxyz", .int "LONGEST" (8), .int "MOST_WORDS" (4), .glo "_law_is_lettered", .glo "_law_kept", .glo "_law_mixed", .glo "_law_letters", .glo "_law_some_word", .glo "_law_some_text", .glo "is_lettered", .glo "is_word", .glo "is_name", .glo "law"]
def ex (K : PySem.W.Frag) : Bool := He.tupB K "KEPT" ((["module", "in", "out", "row", "use", "end", "number", "truth", "on", "yes", "no", "not", "and", "or", "if", "before", "then", "when", "held"] : List Str).map He.Dv.str) && true
abbrev R : PySem.W.OpenRow := PySem.W.OpenLaw.row PySem.Challenge.rw_runrows_k01_words_and_names
abbrev hk : PySem.W.Hook := hookB 4 fa fn ex
def ob (s : PySem.W.SharedT) : AlB := obsB 4 fa fn ex (HandSHeadRun.getT s)
theorem ob_eq (s : PySem.W.SharedT) : ob s = hk.obs s.abs := obsB_eq (HandSHeadRun.getT_eq s)
def loose : List Str := ["__name__", "KEPT", "LETTERS", "LONGEST", "MOST_WORDS", "is_lettered", "is_word", "is_name", "_law_cell_at", "_law_mixed", "_law_kept", "_law_letters", "_law_some_word", "_law_some_text", "_law_is_lettered"]
theorem run (w : World) : HandSHeadRun.RunEq R (PySem.W.view R.prog [16]) hk ob 20000 loose w := by
  intro os
  kernel_rfl
theorem facts {P : Program} {w : World} {K : PySem.W.Frag} {h : Heap} {mg : Str → Option Value} {f : Addr} (X : K.In h) (G : h.Ns mainGlobals mg) (hfa : mg ("law" : Str) = some (.ref f)) (c : He.SaysD fa fn K) (x : ex K = true) :
    ∃ fd : FuncData, (∀ (s : Shared) (v : Value), BindsTo s fd ⟨[v], []⟩ [("_law_script", v)]) ∧ ∀ base : Heap, K.In base → base.Ns mainGlobals mg → FnOk P w K mg base CX0 5 f fd ["_law_script"] (sp_law K) := by
  have x2 := x
  simp only [ex, Bool.and_eq_true] at x2
  have T : Txt K mg := ⟨bi_of X G c, He.glo_ok X G (c.fact 19), (fun H => He.tupB_ok x2.1 H), He.str_ok X G (c.fact 20), He.int_ok X G (c.fact 21), He.int_ok X G (c.fact 22)⟩
  obtain ⟨fd0, F0⟩ := c.def_ 0 (d := dd "_law_is_lettered" s_law_is_lettered) rfl
  obtain ⟨fd1, F1⟩ := c.def_ 1 (d := dd "_law_kept" s_law_kept) rfl
  obtain ⟨fd2, F2⟩ := c.def_ 2 (d := dd "_law_mixed" s_law_mixed) rfl
  obtain ⟨fd3, F3⟩ := c.def_ 3 (d := dd "_law_letters" s_law_letters) rfl
  obtain ⟨fd4, F4⟩ := c.def_ 4 (d := dd "_law_some_word" s_law_some_word) rfl
  obtain ⟨fd5, F5⟩ := c.def_ 5 (d := dd "_law_some_text" s_law_some_text) rfl
  obtain ⟨fd6, F6⟩ := c.def_ 6 (d := dd "is_lettered" s_is_lettered) rfl
  obtain ⟨fd7, F7⟩ := c.def_ 7 (d := dd "is_word" s_is_word) rfl
  obtain ⟨fd8, F8⟩ := c.def_ 8 (d := dd "is_name" s_is_name) rfl
  obtain ⟨fd9, F9⟩ := c.def_ 9 (d := dd "law" s_law) rfl
  have e := hfa.symm.trans (He.glo_ok X G (c.fact 32 (f := .glo "law") rfl))
  cases e
  have b := FunD.bindsA (ps := ["_law_script"]) F9 fun _ _ _ _ _ _ us hl => match us, hl with | [_], _ => rfl
  refine ⟨fd9, fun s v => b s [v] rfl, fun base _ _ => ?_⟩
  have H0 : H_law_is_lettered P w K mg base := has_of (He.glo_ok X G (c.fact 23)) F0 (ok_law_is_lettered F0 T) fun _ _ _ _ _ _ us hl => match us, hl with | [_], _ => rfl
  have H1 : H_law_kept P w K mg base := has_of (He.glo_ok X G (c.fact 24)) F1 (ok_law_kept F1 T) fun _ _ _ _ _ _ us hl => match us, hl with | [], _ => rfl
  have H2 : H_law_mixed P w K mg base := has_of (He.glo_ok X G (c.fact 25)) F2 (ok_law_mixed F2 T) fun _ _ _ _ _ _ us hl => match us, hl with | [_, _], _ => rfl
  have H3 : H_law_letters P w K mg base := has_of (He.glo_ok X G (c.fact 26)) F3 (ok_law_letters F3 T H2) fun _ _ _ _ _ _ us hl => match us, hl with | [_, _], _ => rfl
  have H4 : H_law_some_word P w K mg base := has_of (He.glo_ok X G (c.fact 27)) F4 (ok_law_some_word F4 T H1 H3 H2) fun _ _ _ _ _ _ us hl => match us, hl with | [_], _ => rfl
  have H5 : H_law_some_text P w K mg base := has_of (He.glo_ok X G (c.fact 28)) F5 (ok_law_some_text F5 T H2 H4) fun _ _ _ _ _ _ us hl => match us, hl with | [_], _ => rfl
  have H6 : H_is_lettered P w K mg base := has_of (He.glo_ok X G (c.fact 29)) F6 (ok_is_lettered F6 T) fun _ _ _ _ _ _ us hl => match us, hl with | [_], _ => rfl
  have H7 : H_is_word P w K mg base := has_of (He.glo_ok X G (c.fact 30)) F7 (ok_is_word F7 T H6) fun _ _ _ _ _ _ us hl => match us, hl with | [_], _ => rfl
  have H8 : H_is_name P w K mg base := has_of (He.glo_ok X G (c.fact 31)) F8 (ok_is_name F8 T H6 H7) fun _ _ _ _ _ _ us hl => match us, hl with | [_], _ => rfl
  exact ok_law F9 T H0 H1 H2 H5 H8 H7
end K01
open PySem PySem.W PySem.Calls PyProof.Rows
theorem PySem.Challenge.cw_runrows_k01_words_and_names_holds : PySem.Challenge.rw_runrows_k01_words_and_names.Holds := by
  w_on; o_law
  refine HandSHeadRun.head_any (r := OpenLaw.row PySem.Challenge.rw_runrows_k01_words_and_names) (q := view (OpenLaw.row PySem.Challenge.rw_runrows_k01_words_and_names).prog [16]) (H := K01.hk) (ob := K01.ob) (M := 20000) (loose := K01.loose) (d := HandSHeadRun.topDef (OpenLaw.row PySem.Challenge.rw_runrows_k01_words_and_names).prog 16) (kwd := []) K01.ob_eq
    (by kernel_rfl) (fun s => by kernel_rfl) K01.run (by kernel_rfl) (by kernel_rfl) (by kernel_rfl) (by rfl) (by first | assumption | decide +kernel) (by decide +kernel) ⟨rfl, rfl, rfl, rfl, rfl, by decide +kernel⟩ ?hw ?hc
  case hw => w_witness2
  case hc =>
    refine RB.walk_ofEB (l := PySem.Challenge.rw_runrows_k01_words_and_names) (n := 63) (k := 5) (x := "_law_script") (CX := L2.CX0) rfl (by decide) (by kernel_rfl) ⟨rfl, by decide, by decide⟩ ?F (fun _ _ _ _ z => z)
    intro w mg fa h Y G hmg0
    obtain ⟨K, KX, c, x⟩ := Y
    have hmg : mg ("law" : PySem.Str) = some (.ref fa) := by
      have e : (HandSHeadRun.topDef (OpenLaw.row PySem.Challenge.rw_runrows_k01_words_and_names).prog 16).name = ("law" : PySem.Str) := by kernel_rfl
      rw [← e]
      exact hmg0
    obtain ⟨fd, hb, hF⟩ := K01.facts (P := (PySem.Challenge.rw_runrows_k01_words_and_names).prog) (w := w) KX G hmg c x
    exact ⟨K, fd, K01.sp_law K, KX, hb, fun H a ns hl hbits _ hS => ⟨a, ns, rfl, hS, hl, hbits, fun _ => rfl⟩, hF⟩
