import PyProof.Rows.All
import Wide.All
import OpenK.AllK
import Wide.FinOn
import HandS.ForMost
import HandS.Steps
import HandS.IsInst
import HandS.Defaults
import HandS.Star
import HandS.Flow
import HandS.Wide
import HandS.Conv
import HandS.HeadHook4
import KE.KUnpackStar
import KE.GoesEnum
import KE.GoesMore
import HandS.Codes
import HandS.TupAny
import HandS.TupMul
import HandS.TupLe
import HandS.HeadEnd
import HandS.Style
import HandS.Head0
import HandS.Head1
import HandS.Head2
import KE.KStateDown
import Lean
import PySem.Challenge.RW_ownbranch_k02_loops_known
set_option Elab.async false
set_option linter.all false
set_option maxRecDepth 100000
set_option maxHeartbeats 4000000
/-! Ob: own layer over HandS: the context of a law's text, steps through readings, data -/
namespace Ob
open PySem PySem.Spec PyProof.Rows L2 StX

/-! ### the context -/
structure Tp (fa : List He.Fa) (fn : List He.DefD) (ts : List He.Tab) (ex : PySem.W.Frag → Bool) (w : World) (K : PySem.W.Frag) (mg : Str → Option Value) : Prop where
  s : ∃ h : Heap, K.In h ∧ h.Ns mainGlobals mg ∧ He.SaysX fa fn ts [] ex w h K
section
variable {fa : List He.Fa} {fn : List He.DefD} {ts : List He.Tab} {ex : PySem.W.Frag → Bool} {w : World} {K : PySem.W.Frag} {mg : Str → Option Value}
theorem Tp.g (T : Tp fa fn ts ex w K mg) : ∃ h : Heap, K.In h ∧ h.Ns mainGlobals mg := let ⟨h, a, b, _⟩ := T.s; ⟨h, a, b⟩
theorem Tp.c (T : Tp fa fn ts ex w K mg) : He.SaysD fa fn K := let ⟨_, _, _, c⟩ := T.s; c.t.d
theorem Tp.tab (T : Tp fa fn ts ex w K mg) (i : Nat) {t : He.Tab} (h : ts[i]? = some t := by rfl) : ∃ es n, KDict K w (t.1 K) es n := let ⟨_, _, _, c⟩ := T.s; c.t.tab i h
theorem Tp.more (T : Tp fa fn ts ex w K mg) : ex K = true := let ⟨_, _, _, c⟩ := T.s; c.more
theorem Tp.glo (T : Tp fa fn ts ex w K mg) (i : Nat) {x : Str} (h : fa[i]? = some (.glo x) := by rfl) : mg x = some (.ref (He.ga K x)) := by
  obtain ⟨_, X, G⟩ := T.g
  exact He.glo_ok X G (T.c.fact i h)
theorem Tp.free (T : Tp fa fn ts ex w K mg) (i : Nat) {x : Str} (h : fa[i]? = some (.free x) := by rfl) : mg x = none := by
  obtain ⟨_, X, G⟩ := T.g
  exact He.free_ok X G (T.c.fact i h)
theorem Tp.int (T : Tp fa fn ts ex w K mg) (i : Nat) {x : Str} {n : Int} (h : fa[i]? = some (.int x n) := by rfl) : ∃ t, mg x = some (.int n t) := by
  obtain ⟨_, X, G⟩ := T.g
  exact He.int_ok X G (T.c.fact i h)
theorem Tp.str (T : Tp fa fn ts ex w K mg) (i : Nat) {x z : Str} (h : fa[i]? = some (.str x z) := by rfl) : ∃ t, mg x = some (.str z t) := by
  obtain ⟨_, X, G⟩ := T.g
  exact He.str_ok X G (T.c.fact i h)
theorem Tp.kp (T : Tp fa fn ts ex w K mg) (i : Nat) {d : He.DefD} (h : fn[i]? = some d := by rfl) : PySem.W.keepIn K (.ref (He.fAd K d.at_)) = true := by
  obtain ⟨_, F⟩ := T.c.def_ i h
  exact F.kp
/-- a def of the text, without defaults, keeps its promise -/
theorem Tp.ok {P : Program} {base : Heap} {CX : CXT} {k : Nat} {sp : Sp} (T : Tp fa fn ts ex w K mg) (i : Nat) {d : He.DefD} (h : fn[i]? = some d) (hd : d.dfl = []) (hk : d.kwd = []) {N ps : List Str} (S : FnScope N ps d.scope)
    (hb : ∀ (kV doc pm : Value) (an : Option Addr) (cdv ct : Value) (us : List Value), us.length = ps.length → bindArgs (PySem.W.fnOf d.name d.qual d.params d.body d.scope .none kV doc pm an cdv ct) ⟨us, []⟩ = pure (ps.zip us))
    (len : ∀ vs H Q E, sp vs H Q E → vs.length = ps.length)
    (hbody : ∀ (cdv : Value) (A : Around) (outer : List Env) (s : Shared) (H : Hp) (vs : List V) (Q : VK) (E : XK), Room k (A.deeper (envOfC d.qual d.scope s.heap.objs.size (He.fAd K d.at_) cdv)) → sp vs H Q E →
      ∃ t, PSs (cxOf CX P w K mg base N d.qual d.scope (He.fAd K d.at_) cdv A outer s H E) d.body t ∧ t { nx := fun _ H' => Q .non H', rt := Q } (start N vs) H) :
    FnR P w K mg base CX (k + 1) (He.fAd K d.at_) sp := by
  obtain ⟨fd, F⟩ := T.c.def_ i h
  have e1 : d.dvs K = [] := by unfold He.DefD.dvs; rw [hd]; rfl
  have e2 : d.kws K = [] := by unfold He.DefD.kws; rw [hk]; rfl
  rw [e1, e2] at F
  have G := (F.ok (CX := CX) (P := P) (w := w) (mg := mg) (base := base) S len hbody).raw (F.bindsN hb) .nil
  exact G.imp fun vs H Q E z => by rw [List.append_nil]; exact z
/-- .. that lets no error out -/
theorem Tp.ok0 {P : Program} {base : Heap} {k : Nat} {sp : Sp} (T : Tp fa fn ts ex w K mg) (i : Nat) {d : He.DefD} (h : fn[i]? = some d) (hd : d.dfl = []) (hk : d.kwd = []) {N ps : List Str} (S : FnScope N ps d.scope)
    (hb : ∀ (kV doc pm : Value) (an : Option Addr) (cdv ct : Value) (us : List Value), us.length = ps.length → bindArgs (PySem.W.fnOf d.name d.qual d.params d.body d.scope .none kV doc pm an cdv ct) ⟨us, []⟩ = pure (ps.zip us))
    (len : ∀ vs H Q E, sp vs H Q E → vs.length = ps.length)
    (hbody : ∀ (cdv : Value) (A : Around) (outer : List Env) (s : Shared) (H : Hp) (vs : List V) (Q : VK) (E : XK), Room k (A.deeper (envOfC d.qual d.scope s.heap.objs.size (He.fAd K d.at_) cdv)) → sp vs H Q E →
      ∃ t, PSs (cxOf CX0 P w K mg base N d.qual d.scope (He.fAd K d.at_) cdv A outer s H E).nox d.body t ∧ t { nx := fun _ H' => Q .non H', rt := Q } (start N vs) H) :
    FnR P w K mg base CX0 (k + 1) (He.fAd K d.at_) sp :=
  T.ok i h hd hk S hb len fun cdv A outer s H vs Q E hr hsp => let ⟨t, a, b⟩ := hbody cdv A outer s H vs Q E hr hsp; ⟨t, a.nox, b⟩
end
/-- a call by the global's name -/
def tCl (sp : Sp) (E : XK) (t : TA) : TE := fun σ H Q => t σ H fun vs H1 => sp vs H1 Q E
theorem pc {X : Cx} {CX : CXT} {k : Nat} {x : Str} {sp : Sp} {E : XK} {e : Expr} {es : List Expr} {t : TA} {p pos : Pos} (F : FnR X.prog X.w X.K X.mg X.base CX k (He.ga X.K x) sp) (hr : Room k X.A) (hm : X.mg x = some (.ref (He.ga X.K x)))
    (hk : PySem.W.keepIn X.K (.ref (He.ga X.K x)) = true) (hx : Passes CX X E) (ha : PA X (e :: es) t) (hg : Gl X x := by rfl) (hd : (x == ("__debug__" : Str)) = false := by decide)
    (he : starEach (e :: es) X.env = (false, eval e X.env) :: starEach es X.env := by rfl) (hpl : (backTo pos (starEach es X.env)).any (·.1) = false := by rfl) :
    PE X (.Call (.Name x p) (e :: es) [] pos) (tCl sp E t) := by
  refine ⟨fun pins s σ H Q I h => ?_⟩
  refine wpAny_Call_Name_kw (ld_glob I hg hm ?_ hd)
  refine PySem.W.callWith_K (h₀ := X.base) I.ok.mod.kin hk (thn (ha.run pos pins s σ H _ I h) fun us s1 ⟨vs, H1, I1, r, q⟩ => ⟨I1.kIn, ?_⟩) he hpl
  exact wpAny_call (run_fnR F hr hx I1 r q)
/-- a constant of the module -/
theorem pgi {X : Cx} {x : Str} {n : Int} {pos : Pos} (hm : ∃ t, X.mg x = some (.int n t)) (hg : Gl X x := by rfl) (hd : (x == ("__debug__" : Str)) = false := by decide) : PE X (.Name x pos) (tC (.int n)) := by
  obtain ⟨t, e⟩ := hm
  exact pe_glob hg e ⟨t, rfl⟩ hd
theorem pgs {X : Cx} {x z : Str} {pos : Pos} (hm : ∃ t, X.mg x = some (.str z t)) (hg : Gl X x := by rfl) (hd : (x == ("__debug__" : Str)) = false := by decide) : PE X (.Name x pos) (tC (.str z)) := by
  obtain ⟨t, e⟩ := hm
  exact pe_glob hg e ⟨t, rfl⟩ hd
/-- a built-in type as a value -/
theorem pty {X : Cx} {x : Str} {n : String} {pos : Pos} (hm : X.mg x = none) (hv : bootBuiltins x = some (.type n)) (hg : Gl X x := by rfl) (hn : x ≠ "__name__" := by decide) (hd : (x == ("__debug__" : Str)) = false := by decide) : PE X (.Name x pos) (tC (.ty n)) :=
  pe_bltn (v := .ty n) hg hm hv rfl hn hd

/-! ### a dict of the top with text keys, whole -/
def dicL : List DictEntry → List (Str × V) → Bool
  | [], [] => true
  | e :: es, (k, v) :: kvs => (match e.key with
    | .str y _ => decide (y = k)
    | _ => false) && (!e.refKey && (He.relB v e.val && dicL es kvs))
  | _, _ => false
def dicB (K : PySem.W.Frag) (x : Str) (kvs : List (Str × V)) : Bool := match K.lookup (He.ga K x) with
  | some ⟨_, _, .dict es _, _⟩ => dicL es.toList kvs
  | _ => false
theorem dicL_find {z : Str} : ∀ {es : List DictEntry} {kvs : List (Str × V)}, dicL es kvs = true →
    (es.any (·.refKey) = false) ∧ ((kvs.lookup z = none ∧ es.find? (·.key.isStr z) = none) ∨ ∃ v e, kvs.lookup z = some v ∧ es.find? (·.key.isStr z) = some e ∧ RelV v e.val)
  | [], [], _ => ⟨rfl, .inl ⟨rfl, rfl⟩⟩
  | [], _ :: _, h => by cases h
  | _ :: _, [], h => by cases h
  | e :: es, (k, v) :: kvs, h => by
    obtain ⟨h1, h2⟩ := He.ba h
    obtain ⟨h3, h4⟩ := He.ba h2
    obtain ⟨h5, h6⟩ := He.ba h4
    obtain ⟨ih1, ih2⟩ := dicL_find (z := z) h6
    have hr : e.refKey = false := by
      cases q : e.refKey with
      | false => rfl
      | true => rw [q] at h3; cases h3
    refine ⟨by rw [List.any_cons, hr, ih1]; rfl, ?_⟩
    cases q : e.key with
    | str y t =>
      rw [q] at h1
      have ey : y = k := of_decide_eq_true h1
      subst ey
      have hs : e.key.isStr z = (z == y) := by
        rw [q, PySem.W.isStr_of]
        simp only [Value.isStrOf]
        first | rfl | (rw [Bool.beq_comm]) | (by_cases w : y = z <;> simp [w, eq_comm])
      by_cases hz : z = y
      · subst hz
        refine .inr ⟨v, e, by simp [List.lookup], ?_, He.relB_ok h5⟩
        rw [List.find?_cons, hs]
        simp
      · have hb : (z == y) = false := by simpa using hz
        rw [hb] at hs
        rw [List.find?_cons, hs]
        have hl : List.lookup z ((y, v) :: kvs) = kvs.lookup z := by simp [List.lookup, hb]
        rw [hl]
        exact ih2
    | _ => rw [q] at h1; cases h1
theorem dicB_ns {K : PySem.W.Frag} {x z : Str} {kvs : List (Str × V)} (h : dicB K x kvs = true) :
    (kvs.lookup z = none ∧ PySem.W.nsIn K (He.ga K x) z = some none) ∨ ∃ v u, kvs.lookup z = some v ∧ PySem.W.nsIn K (He.ga K x) z = some (some u) ∧ RelV v u := by
  unfold dicB at h
  unfold PySem.W.nsIn
  cases q : K.lookup (He.ga K x) with
  | none => rw [q] at h; cases h
  | some o =>
    obtain ⟨oc, od, dt, osl⟩ := o
    rw [q] at h
    cases dt with
    | dict es n =>
      have h2 : dicL es.toList kvs = true := h
      obtain ⟨h3, h4⟩ := dicL_find (z := z) h2
      rcases h4 with ⟨a, b⟩ | ⟨v, e, a, b, c⟩
      · refine .inl ⟨a, ?_⟩
        show (match es.toList.find? (·.key.isStr z) with | some e => some (some e.val) | none => if es.toList.any (·.refKey) then none else some none) = some none
        rw [b]
        show (if es.toList.any (·.refKey) then none else some none) = some none
        rw [h3]
        rfl
      · refine .inr ⟨v, e.val, a, ?_, c⟩
        show (match es.toList.find? (·.key.isStr z) with | some e => some (some e.val) | none => if es.toList.any (·.refKey) then none else some none) = some (some e.val)
        rw [b]
    | _ => cases h

/-! ### named readings of operations -/
def rLenN (K : PySem.W.Frag) : List V → Hp → VK → Prop := fun xs H Q => ∃ x n, xs = [x] ∧ LenV K x H n ∧ Q (.int n) H
theorem cr_len {X : Cx} : CallR X (.builtin "len") (rLenN X.K) := call_len

/-! ### steps -/
section
variable {X : Cx} {K : PySem.W.Frag} {D : Ends} {σ : L2.St} {H : Hp} {ta tb tc te : TE} {tt tu : TT} {t u : TS} {tA tB : TA} {Q : VK} {v x y : V} {i : Nat} {g : TG} {n x1 : L2.St → Hp → Prop} {r1 : VK}
theorem x_start {N : List Str} {vs : List V} {σ' : L2.St} (e : start N vs = σ') (h : t D σ' H) : t D (start N vs) H := by rw [e]; exact h
theorem x_seq {n : L2.St → Hp → Prop} {r : VK} {b c : L2.St → Hp → Prop} (h : t (Ends.mk (u (Ends.mk n r b c)) r b c) σ H) : tSeq t u (Ends.mk n r b c) σ H := h
theorem x_asg {n : L2.St → Hp → Prop} {r : VK} {b c : L2.St → Hp → Prop} (h : te σ H fun x H1 => g x σ H1 n) : tAsg te g (Ends.mk n r b c) σ H := h
theorem x_name {Q : L2.St → Hp → Prop} (h : Q (σ.set i (some v)) H) : gName i v σ H Q := h
theorem x_ret {n : L2.St → Hp → Prop} {r : VK} {b c : L2.St → Hp → Prop} (h : te σ H r) : tRet te (Ends.mk n r b c) σ H := h
theorem x_retN {n : L2.St → Hp → Prop} {r : VK} {b c : L2.St → Hp → Prop} (h : r .non H) : tRetN (Ends.mk n r b c) σ H := h
theorem x_ifS {n : L2.St → Hp → Prop} {r : VK} {b c : L2.St → Hp → Prop} (h : tt σ H fun z H1 => if z = true then t (Ends.mk n r b c) σ H1 else u (Ends.mk n r b c) σ H1) : tIfS tt t u (Ends.mk n r b c) σ H := h
theorem x_drop {n : L2.St → Hp → Prop} {r : VK} {b c : L2.St → Hp → Prop} (h : te σ H fun _ H1 => n σ H1) : tDrop te (Ends.mk n r b c) σ H := h
theorem x_next {n : L2.St → Hp → Prop} {r : VK} {b c : L2.St → Hp → Prop} (h : n σ H) : tNext (Ends.mk n r b c) σ H := h
theorem x_brk {n : L2.St → Hp → Prop} {r : VK} {b c : L2.St → Hp → Prop} (h : b σ H) : tBreak (Ends.mk n r b c) σ H := h
theorem x_cont {n : L2.St → Hp → Prop} {r : VK} {b c : L2.St → Hp → Prop} (h : c σ H) : tCont (Ends.mk n r b c) σ H := h
theorem x_var (e : σ[i]? = some (some v)) (h : Q v H) : tVar i σ H Q := ⟨v, e, h⟩
theorem x_c (h : Q v H) : tC v σ H Q := h
theorem x_op {r : R2} (h : ta σ H fun x H1 => tb σ H1 fun y H2 => r x y H2 Q) : tOp r ta tb σ H Q := h
theorem x_un {r : V → Hp → VK → Prop} (h : ta σ H fun x H1 => r x H1 Q) : tUn r ta σ H Q := h
theorem x_cb {r : List V → Hp → VK → Prop} (h : tA σ H fun vs H1 => r vs H1 Q) : tCB r tA σ H Q := h
theorem x_cl {sp : Sp} {E : XK} (h : tA σ H fun vs H1 => sp vs H1 Q E) : tCl sp E tA σ H Q := h
theorem x_nil {Q : List V → Hp → Prop} (h : Q [] H) : tNil σ H Q := h
theorem x_cons {Q : List V → Hp → Prop} (h : ta σ H fun x H1 => tA σ H1 fun xs H2 => Q (x :: xs) H2) : tCons ta tA σ H Q := h
theorem x_tup (h : tA σ H fun xs H1 => xs.length ≤ sizeLine ∧ ∀ p, H1 p = none → Q (.ref p) (upd H1 p (.tup xs))) : tTup tA σ H Q := h
theorem x_lst (h : tA σ H fun xs H1 => xs.length ≤ sizeLine ∧ ∀ p, H1 p = none → Q (.ref p) (upd H1 p (.lst xs))) : tLst tA σ H Q := h
theorem x_test {R : Bool → Hp → Prop} (h : te σ H fun x H' => ∃ k, x = .bl k ∧ R k H') : tTest te σ H R := h
theorem x_B {R : Bool → Hp → Prop} (h : te σ H fun x H' => ∃ k, x = .bl k ∧ R k H') : L2.tB te σ H R := h
theorem x_bl {b : Bool} {R : Bool → Prop} (h : R b) : ∃ k, V.bl b = .bl k ∧ R k := ⟨b, rfl, h⟩
theorem x_and {R : Bool → Hp → Prop} (h : tt σ H fun c H1 => if c = true then tu σ H1 R else R false H1) : tAnd tt tu σ H R := h
theorem x_or {R : Bool → Hp → Prop} (h : tt σ H fun c H1 => if c = true then R true H1 else tu σ H1 R) : tOr tt tu σ H R := h
theorem x_not {R : Bool → Hp → Prop} (h : tt σ H fun c H1 => R (!c) H1) : tNot tt σ H R := h
theorem x_andV (h : ta σ H fun x H1 => ∃ c, x = .bl c ∧ if c = true then tb σ H1 Q else Q (.bl false) H1) : tAndV ta tb σ H Q := h
theorem x_orV (h : ta σ H fun x H1 => ∃ c, x = .bl c ∧ if c = true then Q (.bl true) H1 else tb σ H1 Q) : tOrV ta tb σ H Q := h
theorem x_notV (h : ta σ H fun x H1 => ∃ c, x = .bl c ∧ Q (.bl (!c)) H1) : tNotV ta σ H Q := h
theorem x_if (h : tt σ H fun c H1 => if c = true then ta σ H1 Q else tb σ H1 Q) : tIf tt ta tb σ H Q := h
theorem x_chain {r r' : R2} (h : ta σ H fun x H1 => tb σ H1 fun y H2 => r x y H2 fun z H3 => ∃ k, z = .bl k ∧ (if k = true then tc σ H3 fun w' H4 => r' y w' H4 Q else Q (.bl false) H3)) : tChain r r' ta tb tc σ H Q := h
theorem x_I0 {f : Int → Int → V} {a b : Int} (h : Q (f a b) H) : rI0 f (.int a) (.int b) H Q := ⟨a, b, rfl, rfl, h⟩
theorem x_I {C : Int → Int → Prop} {f : Int → Int → V} {a b : Int} (c : C a b) (h : Q (f a b) H) : rI C f (.int a) (.int b) H Q := ⟨a, b, rfl, rfl, c, h⟩
theorem x_eq (e : scal x y = true) (h : Q (.bl (decide (x = y))) H) : rEq x y H Q := ⟨e, h⟩
theorem x_ne (e : scal x y = true) (h : Q (.bl (!decide (x = y))) H) : rNe x y H Q := ⟨e, h⟩
theorem x_isN (h : Q (.bl (decide (x = .non))) H) : rIsN x .non H Q := ⟨rfl, h⟩
theorem x_notN (h : Q (.bl (!decide (x = .non))) H) : rNotN x .non H Q := ⟨rfl, h⟩
theorem x_isi {m n : String} {b : Bool} (ty : TyX K H x (.type m)) (e : kitB m n = some b) (h : Q (.bl b) H) : rIsi K [x, .ty n] H Q := ⟨x, .ty n, _, _, b, rfl, .ty n, ty, kit_ty e, h⟩
theorem x_isiT {m n : String} (ty : TyX K H x (.type m)) (e : kitB m n = some true) (h : Q (.bl true) H) : rIsi K [x, .ty n] H Q := x_isi ty e h
theorem x_isiF {m n : String} (ty : TyX K H x (.type m)) (e : kitB m n = some false) (h : Q (.bl false) H) : rIsi K [x, .ty n] H Q := x_isi ty e h
theorem tyx_list {p : Addr} {xs : List V} (a : SqL K H p xs) : TyX K H (.ref p) (.type "list") := by
  rcases a with (a | ⟨o, a⟩) | ⟨o, its, n, a, b, _⟩
  · exact .base (.lst a)
  · exact .base (.frz a)
  · exact .kList a b
theorem tyx_tup {p : Addr} {xs : List V} (a : SqT K H p xs) : TyX K H (.ref p) (.type "tuple") := by
  rcases a with (a | ⟨o, a⟩) | ⟨o, its, n, a, b, _⟩
  · exact .base (.tup a)
  · exact .fTuple a
  · exact .kTuple a b
theorem x_len {m : Nat} (e : LenV K x H m) (h : Q (.int m) H) : rLenN K [x] H Q := ⟨x, m, rfl, e, h⟩
theorem x_ixL {p : Addr} {xs : List V} {j : Int} (a : SqL K H p xs) (e : atI xs j = some v) (h : Q v H) : rIxL K (.ref p) (.int j) H Q := ⟨p, xs, j, v, rfl, rfl, a, e, h⟩
theorem x_ixT {p : Addr} {xs : List V} {j : Int} (a : SqT K H p xs) (e : atI xs j = some v) (h : Q v H) : rIxT K (.ref p) (.int j) H Q := ⟨p, xs, j, v, rfl, rfl, a, e, h⟩
theorem x_inS {c : Nat} {z : Str} (h : Q (.bl (decide (c ∈ z.cps.toList))) H) : rInS (.str ⟨#[c]⟩) (.str z) H Q := ⟨c, z, rfl, rfl, h⟩
theorem x_T {A B : Prop} (h : A) : if true = true then A else B := by rw [if_pos rfl]; exact h
theorem x_F {A B : Prop} (h : B) : if false = true then A else B := by rw [if_neg Bool.false_ne_true]; exact h
theorem x_bT {A B : Prop} {b : Bool} (e : b = true) (h : A) : if b = true then A else B := by rw [if_pos e]; exact h
theorem x_bF {A B : Prop} {b : Bool} (e : b = false) (h : B) : if b = true then A else B := by rw [e, if_neg Bool.false_ne_true]; exact h
theorem x_2 {A B : Prop} {b : Bool} (h1 : b = true → A) (h2 : b = false → B) : if b = true then A else B := by
  cases b with
  | true => exact x_T (h1 rfl)
  | false => exact x_F (h2 rfl)
theorem x_d {A B P : Prop} [Decidable P] (h1 : P → A) (h2 : ¬ P → B) : if decide P = true then A else B := by
  by_cases h : P
  · rw [decide_eq_true h]; exact x_T (h1 h)
  · rw [decide_eq_false h]; exact x_F (h2 h)
theorem x_nd {A B P : Prop} [Decidable P] (h1 : ¬ P → A) (h2 : P → B) : if (!decide P) = true then A else B := by
  by_cases h : P
  · rw [decide_eq_true h]; exact x_F (h2 h)
  · rw [decide_eq_false h]; exact x_T (h1 h)
theorem x_dT {A B P : Prop} [Decidable P] (h : P) (h1 : A) : if decide P = true then A else B := x_d (fun _ => h1) fun n => absurd h n
theorem x_dF {A B P : Prop} [Decidable P] (h : ¬ P) (h1 : B) : if decide P = true then A else B := x_d (fun q => absurd q h) fun _ => h1
theorem x_ndT {A B P : Prop} [Decidable P] (h : ¬ P) (h1 : A) : if (!decide P) = true then A else B := x_nd (fun _ => h1) fun q => absurd q h
theorem x_ndF {A B P : Prop} [Decidable P] (h : P) (h1 : B) : if (!decide P) = true then A else B := x_nd (fun n => absurd h n) fun _ => h1
theorem x_nT {A B : Prop} (h : B) : if (!true) = true then A else B := x_F h
theorem x_nF {A B : Prop} (h : A) : if (!false) = true then A else B := x_T h
end
end Ob
/-! Ob: further rules: a, *rest = tuple; enumerate(tuple) -/
namespace Ob
open PySem PySem.Spec PyProof.Rows L2 StX PySem.Calls

/-! ### a, *rest = t -/
section
variable {prog : Program} {w : World} {A : Around} {E : Value → Shared → Prop} {s : Shared} {env : Env} {elts : List Expr} {k : Nat} {pos : Pos}
theorem starT {l : Addr} {items : Array Value} {n i : Nat} {Q : List Value → Shared → Prop} (hl : IsTup s.heap l items) (hh : A.handled = none) (hi : i < n) (hn : n ≤ items.size + 1) (hz : items.size ≤ 16384)
    (h : ∀ (h' : Heap) (tk : Nat), (∀ b o, s.heap.get? b = some o → h'.get? b = some o) →
      Q (items.toList.take i ++ [.ref h'.objs.size] ++ (items.toList.drop i).drop (items.size + 1 - n)) { s with heap := h'.push { cls := .type "list", data := .seq ((items.toList.drop i).take (items.size + 1 - n)).toArray }, toks := tk }) : wpAny (model prog w) A (unpackItems (.ref l) n (some i)) Q E s := by
  have hlt : l ≠ s.heap.objs.size := by obtain ⟨o, ho, _⟩ := hl; exact Nat.ne_of_lt (Heap.lt_size ho)
  unfold unpackItems
  refine wpAny_bind ?_
  unfold notIterableAtAll
  refine wpAny_bind (wpAny_specialOf hl.typeIs slot_tuple_iter.lookup ?_)
  refine wpAny_pure ?_
  simp only [Bool.false_eq_true, if_false]
  refine wpAny_bind (wpAny_holding (iter_tuple hl ?_))
  refine wpAny_bind (wpAny_holding (draw_tuple hlt i 0 _ _ ⟨_, Heap.get?_push_size _ rfl, rfl, rfl⟩ (hl.push _) (by omega) fun h₁ hit₁ hs₁ => ?_))
  have hl₁ : IsTup h₁ l items := (hl.push _).extBut hs₁.extBut hlt
  rw [Nat.zero_add] at hit₁
  have hit₁' := hit₁
  obtain ⟨oi, hoi, _⟩ := hit₁'
  have hl₁' := hl₁
  obtain ⟨ol, hol, _⟩ := hl₁'
  rw [List.drop_zero]
  have hfl : (items.toList.take i).length = i := by rw [List.length_take, Array.length_toList]; omega
  rw [if_neg (show ¬ ((items.toList.take i).length < i) by rw [hfl]; omega)]
  refine wpAny_bind (wpAny_holding (PySem.W.kun_collect (s := { s with heap := h₁ }) (T := "tuple_iterator") (.inr (.inr (.inr rfl))) (Walks.tuple (A := A.in1) hh s.heap.objs.size l hlt items) (fun j u st => st.1.typeIs) (k := i) (by omega) ⟨hit₁, hl₁⟩ (Heap.lt_size hoi) (Heap.lt_size hol) (fun h₂ tk hk => ?_) (by rw [sizeLine_eq]; omega)))
  have hrl : (items.toList.drop i).length = items.size - i := by rw [List.length_drop, Array.length_toList]
  have hmid : (items.toList.drop i).length - (n - 1 - i) = items.size + 1 - n := by rw [hrl]; omega
  show wpAny _ _ (if (items.toList.drop i).length < n - 1 - i then _ else _) _ _ _
  rw [if_neg (by rw [hrl]; omega)]
  show wpAny _ _ (newList ((items.toList.drop i).take ((items.toList.drop i).length - (n - 1 - i))) >>= fun d => pure (items.toList.take i ++ [d] ++ (items.toList.drop i).drop ((items.toList.drop i).length - (n - 1 - i)))) _ _ _
  rw [hmid]
  have he : Heap.ExtBut s.heap.objs.size s.heap h₂ := fun b o hb e => hk b o hb (hs₁.extBut b o hb (Heap.get?_push_of_some _ e))
  refine wpAny_bind ?_
  simp only [newList]
  have hl3 : ((items.toList.drop i).take (items.size + 1 - n)).length ≤ sizeLine := by rw [List.length_take, hrl, sizeLine_eq]; omega
  refine wpAny_newObj_type ?_ (show ((items.toList.drop i).take (items.size + 1 - n)).toArray.size ≤ sizeLine by rw [List.size_toArray]; exact hl3)
  exact wpAny_pure (h h₂ tk fun b o e => he b o (Nat.ne_of_lt (Heap.lt_size e)) e)
end
/-- x, *r = a tuple: x its first item, r a new list of the others -/
def gStar (K : PySem.W.Frag) (g1 g2 : TG) : TG := fun v σ H Q => ∃ a x xs, v = .ref a ∧ SqT K H a (x :: xs) ∧ xs.length ≤ 16000 ∧ ∀ D, H D = none → g1 x σ (upd H D (.lst xs)) fun σ1 H1 => g2 (.ref D) σ1 H1 Q
theorem pg_star {X : Cx} {e1 e2 : Expr} {k : Nat} {pos p2 : Pos} {g1 g2 : TG} (hc : X.calm = true) (h1 : PG X e1 g1) (h2 : PG X e2 g2)
    (hn : (assignEach [e1, .Starred e2 p2] X.env).length = 2 := by rfl) (hst : (assignEach [e1, .Starred e2 p2] X.env).findIdx? (·.1) = some 1 := by rfl)
    (hm : (assignEach [e1, .Starred e2 p2] X.env).map (·.2) = [assign e1 X.env, assign e2 X.env] := by rfl) : PG X (.Tuple [e1, .Starred e2 p2] k pos) (gStar X.K g1 g2) := by
  refine ⟨fun pins s σ H v u Q I r hw => ?_⟩
  obtain ⟨a, x, xs, e, hq, hl, hw⟩ := hw
  subst e
  cases r
  obtain ⟨its, rv, ht, hz⟩ := I.tuple hq
  rw [assign_Tuple]
  refine wpAny_bind (wpAny_standAt ?_)
  unfold unpack
  rw [hn, hst, hm]
  cases rv with
  | @cons _ u0 _ us r0 rs =>
    have hlen : us.length = xs.length := rs.length.symm
    refine wpAny_bind (wpAny_holding (starT (i := 1) (n := 2) ht (I.ok.hd hc) (by omega) (by simp) (by simp; omega) fun h' tk hk => ?_))
    have e1 : (List.take 1 (u0 :: us).toArray.toList ++ [Value.ref h'.objs.size] ++ List.drop ((u0 :: us).toArray.size + 1 - 2) (List.drop 1 (u0 :: us).toArray.toList)) = [u0, .ref h'.objs.size] := by simp
    have e2 : List.take ((u0 :: us).toArray.size + 1 - 2) (List.drop 1 (u0 :: us).toArray.toList) = us := by simp
    rw [e1, e2]
    have I1 : Inv X pins σ H { s with heap := h', toks := tk } := I.kept hk
    have hf : H h'.objs.size = none := I1.hok.fresh (Nat.le_refl _)
    have I2 : Inv X pins σ (upd H h'.objs.size (.lst xs)) { s with heap := h'.push { cls := .type "list", data := .seq us.toArray }, toks := tk } := by
      refine I1.laid (t' := tk) (fun b o e => Heap.get?_push_of_some _ e) (Nat.le_refl _) ⟨by simp at hz; omega, us, 0, rs, Heap.get?_push_size _ rfl⟩
    refine assignInOrder_cons (thn (h1.run pins _ σ _ x u0 _ I2 r0 (hw _ hf)) fun _ s1 ⟨σ1, H1, I3, q1⟩ => ?_)
    refine assignInOrder_cons (thn (h2.run pins s1 σ1 H1 (.ref h'.objs.size) _ Q I3 rfl q1) fun _ s2 q2 => ?_)
    exact assignInOrder_nil q2

/-! ### enumerate(t) -/
theorem meets_enumerate_newT (l : Addr) (items : Array Value) :
    Meets (Builtin.«enumerate.__new__» ⟨[.type "enumerate", .ref l], []⟩) (fun _ R s => s.heap.IsTuple l items ∧
      R (.ok (.ret (.ref (s.heap.push { cls := .type "tuple_iterator", data := .fields #[.ref l, .int 0 0] }).objs.size)))
        { s with heap := (s.heap.push { cls := .type "tuple_iterator", data := .fields #[.ref l, .int 0 0] }).push { cls := .type "enumerate", data := .fields #[.none, .bool false, .ref s.heap.objs.size, rawInt 0, .none, .none] } }) :=
  .of_wp fun prog w A R s h => by
    obtain ⟨hp, g, d, tk, os⟩ := s; obtain ⟨h1, h⟩ := h
    have hsub := sub_enumerate
    have q1 : ∀ {A' : Around} {E : Value → Shared → Prop} {Q : Value → Shared → Prop}, Q (.ref hp.objs.size) ⟨hp.push { cls := .type "tuple_iterator", data := .fields #[.ref l, .int 0 0] }, g, d, tk, os⟩ → wpAny (model prog w) A' (pyIter (.ref l)) Q E ⟨hp, g, d, tk, os⟩ :=
      fun q => (begins_tuple l items).iter prog w _ _ ⟨hp, g, d, tk, os⟩ _ h1 q
    wp_walk using q1
    refine wpAny_stack_any fun st => wpAny_pure ?_
    split
    · rename_i c _ _ _ _ _
      cases (c == Value.type "enumerate")
      · wp_walk using q1
        exact ⟨_, rfl, h⟩
      · wp_walk using q1
        exact ⟨_, rfl, h⟩
    · wp_walk using q1
      exact ⟨_, rfl, h⟩
section
variable {prog : Program} {w : World} {A : Around} {E : Value → Shared → Prop} {s : Shared}
theorem call_enumerate_tup {l : Addr} {items : Array Value} {Q : Value → Shared → Prop} (hL : s.heap.IsTuple l items)
    (h : ∀ h', IsEnum h' (s.heap.objs.size + 1) s.heap.objs.size 0 .none → h'.IsTupleIter s.heap.objs.size l 0 →
      (∀ b o, s.heap.get? b = some o → h'.get? b = some o) → Q (.ref (s.heap.objs.size + 1)) { s with heap := h' }) :
    wpAny (model prog w) A (call (.type "enumerate") [.ref l]) Q E s := by
  refine callType_new F.called_enumerate (by decide) (F.typeCall_enumerate_1 _) (F.newCall_enumerate_1 _) (fun obj => F.args_object_init_2 obj _) F.entry_enumerate_new
    (meets_enumerate_newT l items) ⟨hL, ?_⟩
  have hz : (s.heap.push { cls := .type "tuple_iterator", data := .fields #[.ref l, .int 0 0] }).objs.size = s.heap.objs.size + 1 := Heap.size_push ..
  show _ ∧ _
  rw [hz]
  have he : IsEnum ((s.heap.push { cls := .type "tuple_iterator", data := .fields #[.ref l, .int 0 0] }).push
      { cls := .type "enumerate", data := .fields #[.none, .bool false, .ref s.heap.objs.size, rawInt 0, .none, .none] }) (s.heap.objs.size + 1) s.heap.objs.size 0 .none := by
    have := Heap.get?_push_size (s.heap.push { cls := .type "tuple_iterator", data := .fields #[.ref l, .int 0 0] })
      (o := { cls := .type "enumerate", data := .fields #[.none, .bool false, .ref s.heap.objs.size, rawInt 0, .none, .none] }) rfl
    rw [hz] at this; exact this
  exact ⟨⟨_, he, rfl⟩, h _ he ⟨_, Heap.get?_push_of_some _ (Heap.get?_push_size _ rfl), rfl, rfl⟩ fun b o x => Heap.get?_push_of_some _ (Heap.get?_push_of_some _ x)⟩
end
def ItT (K : PySem.W.Frag) (a : Addr) : It :=
  ⟨fun i H => ∃ (xs : List V) (x : V), SqT K H a xs ∧ xs[i]? = some x, fun i H v H' => ∃ T x, v = .ref T ∧ H T = none ∧ H' = upd H T (.tup [.int (i : Nat), x]) ∧ ∀ xs, SqT K H a xs → xs[i]? = some x, fun i H => ∃ xs : List V, SqT K H a xs ∧ xs.length ≤ i⟩
theorem turn_enumT {P : Program} {w : World} {K : PySem.W.Frag} {elts : List Expr} {kk : Nat} {tpos : Pos} (a e it : Addr) :
    Turn P w K (.Tuple elts kk tpos) (ItT K a) [e, it] e (fun i h => (∃ old, IsEnum h e it ((i : Nat) : Int) old) ∧ h.IsTupleIter it a i ∧ e ≠ it) where
  mem := by simp
  obj := fun i h st b hb => by
    obtain ⟨⟨old, he⟩, ⟨o, ho, hc, hd⟩, _⟩ := st
    have e' : b = e ∨ b = it := by simpa using hb
    rcases e' with z | z
    · rw [z]; exact ⟨_, he, fun v q => nomatch q⟩
    · rw [z]; exact ⟨o, ho, fun v q => by rw [hd] at q; cases q⟩
  keep := fun i h h' st k => let ⟨⟨old, he⟩, hi, hne⟩ := st; ⟨⟨old, k e (by simp) _ he⟩, hi.at fun o q => k it (by simp) o q, hne⟩
  item := by
    intro X hP hw hK hc i pins s σ H E I hf st hg
    subst hP hw hK
    obtain ⟨⟨old, he⟩, hit, hne⟩ := st
    obtain ⟨xs, x, hq, hx⟩ := hg
    obtain ⟨its, rv, p, hz⟩ := I.tuple hq
    obtain ⟨u, hu, ru⟩ := rv.get hx
    have hel : e < s.heap.objs.size := Heap.lt_size he
    have hil : it < s.heap.objs.size := by obtain ⟨_, q, _⟩ := hit; exact Heap.lt_size q
    have hae : a ≠ e := fun z => by
      obtain ⟨o, ho, hoc, _⟩ := p
      rw [z, he] at ho
      have e1 := Option.some.inj ho
      rw [← e1] at hoc
      exact absurd (Value.type.inj hoc) (by decide)
    have hai : a ≠ it := fun z => by
      obtain ⟨o, ho, hoc, _⟩ := p
      obtain ⟨o2, ho2, hoc2, _⟩ := hit
      rw [z, ho2] at ho
      have e1 := Option.some.inj ho
      rw [← e1, hoc2] at hoc
      exact absurd (Value.type.inj hoc) (by decide)
    have hlt : i < its.toArray.size := by
      have := (List.getElem?_eq_some_iff.mp hu).1
      simpa using this
    refine wpAny_pyNext_enum_itemD (Draws.tuple (A := X.A.in1) (I.ok.hd hc) it a hai its.toArray) he ⟨hit, p⟩ hlt hne (by simp; exact ⟨hne, Ne.symm hae⟩) fun y h' tk hP ho hst hT hsz hk => ?_
    have hy : y = u := by
      have q : its.toArray[i]? = some u := by simpa using hu
      rw [q] at hP
      exact (Option.some.inj hP).symm
    subst hy
    obtain ⟨hit', _⟩ := hst
    refine ⟨_, rfl, wpAny_letOwnedTupleGo_enum (s := { s with heap := h', toks := tk + 1 }) ho fun h'' he' sb => ?_⟩
    have hT2 : h''.get? s.heap.objs.size = some { cls := .type "tuple", data := .seq #[.int i tk, y] } := (sb.2 _ (Nat.ne_of_gt hel)).trans hT
    have new : ObjOk X.prog X.w (upd H s.heap.objs.size (.tup [.int (i : Nat), x])) h'' s.heap.objs.size (.tup [.int (i : Nat), x]) :=
      ⟨by show 2 ≤ sizeLine; decide, [.int i tk, y], .cons ⟨_, rfl⟩ (.cons ru .nil), ⟨_, hT2, rfl, _, rfl⟩⟩
    have I1 : Inv X pins σ (upd H s.heap.objs.size (.tup [.int (i : Nat), x])) { s with heap := h'', toks := tk + 1 } :=
      I.turnedNew (ch := [e, it]) (fun b ob hb q => (sb.2 b (fun z => hb (by simp [z]))).trans (hk b ob (fun z => hb (by simp [z])) (fun z => hb (by simp [z])) q)) hf (Nat.le_refl _) new
    refine ⟨.ref s.heap.objs.size, _, I1, rfl, ⟨_, x, rfl, I.hok.fresh (Nat.le_refl _), rfl, fun ys hy => by rw [I.tuple_inj hy hq]; exact hx⟩, ⟨⟨y, ?_⟩, hit'.at fun o q => (sb.2 it (Ne.symm hne)).trans q, hne⟩, fun b hb => ?_⟩
    · have e1 : ((i + 1 : Nat) : Int) = (i : Int) + 1 := by omega
      rw [e1]; exact he'
    · have hb' : b < s.heap.objs.size := by
        have e' : b = e ∨ b = it := by simpa using hb
        rcases e' with z | z
        · rw [z]; exact hel
        · rw [z]; exact hil
      rw [upd_ne (Nat.ne_of_lt hb')]
      exact (hf b hb).1
  done := by
    intro X hP hw hK hc i pins s σ H E I hf st hg
    subst hP hw hK
    obtain ⟨⟨old, he⟩, hit, hne⟩ := st
    obtain ⟨xs, hq, hx⟩ := hg
    obtain ⟨its, rv, p, hz⟩ := I.tuple hq
    obtain ⟨f0, f1, f2, f3, f4, f5⟩ := hf it (by simp)
    have hl := rv.length
    have hai : a ≠ it := fun z => by
      obtain ⟨o, ho, hoc, _⟩ := p
      obtain ⟨o2, ho2, hoc2, _⟩ := hit
      rw [z, ho2] at ho
      have e1 := Option.some.inj ho
      rw [← e1, hoc2] at hoc
      exact absurd (Value.type.inj hoc) (by decide)
    have hnone : its.toArray[i]? = none := by simp; omega
    have hT : s.TypeIs (.ref e) "enumerate" := ⟨_, he, rfl⟩
    unfold pyNext
    refine wpAny_bind (wpAny_attempt (wpAny_callSpecial?_slot (name := Str.ofString "__next__") hT F.slot_enumerate_next
      (wpAny_call_entry F.slot_enumerate_next hT F.entry_enumerate_next ?_ (F.args_enumerate_next_1 _))))
    show wpAny _ _ (field (.ref e) 2 >>= _) _ _ _
    refine wpAny_bind (wpAny_field he rfl (x := .ref it) rfl ?_)
    refine wpAny_bind (wpAny_nextOf_tuple_end (show X.A.in1.handled = none from I.ok.hd hc) hit p hnone fun h' x he' hx' => ?_)
    obtain ⟨o, ho, hoc⟩ := hx'
    refine wpAny_bind (wpAny_isInstance (T := "StopIteration") (b := true) ⟨o, ho, hoc⟩ isSubtype_stop ?_)
    exact wpAny_pure ⟨rfl, I.turned (t' := s.toks) (fun b o hb q => he' b o hb q) f0 f1 f3 f4 f5⟩
  self := fun A i s Q E st h => let ⟨⟨_, he⟩, _⟩ := st; wpAny_pyIter_enum he h
def iEnumT (K : PySem.W.Frag) (ta : TA) : TI := fun σ H R => ta σ H fun vs H1 => ∃ a xs, vs = [.ref a] ∧ SqT K H1 a xs ∧ R (ItT K a) H1
theorem pi_enumT {X : Cx} {e : Expr} {ta : TA} {p pos tpos : Pos} {elts : List Expr} {kk : Nat} (hg : Gl X "enumerate") (hm : X.mg "enumerate" = none) (ha : PA X [e] ta) (hs : starEach [e] X.env = [(false, eval e X.env)] := by rfl) :
    PI X (.Tuple elts kk tpos) (.Call (.Name "enumerate" p) [e] [] pos) (iEnumT X.K ta) := by
  refine ⟨fun pins s σ H R I h => ?_⟩
  refine Call_ (ld_blt I hg hm boot_enumerate (PyProof.Rows.callWith_type1 (thn (ha.run pos pins s σ H _ I h) fun us s1 ⟨vs, H1, I1, r1, q1⟩ => ?_) hs rfl))
  obtain ⟨a, xs, ex, hq, q⟩ := q1
  subst ex
  cases r1 with
  | cons r rr =>
    cases rr
    cases r
    obtain ⟨its, rv, p', hz⟩ := I1.tuple hq
    refine call_enumerate_tup p' fun h' he hit hk => wpAny_pyIter_enum he ?_
    have I2 : Inv X pins σ H1 { s1 with heap := h' } := I1.kept (t' := s1.toks) hk
    refine ⟨s1.heap.objs.size + 1, [s1.heap.objs.size + 1, s1.heap.objs.size], _, _, H1, rfl, I2, turn_enumT a (s1.heap.objs.size + 1) s1.heap.objs.size, ⟨⟨.none, he⟩, hit, Nat.succ_ne_self _⟩, fun b hb => ?_, q⟩
    have e' : b = s1.heap.objs.size + 1 ∨ b = s1.heap.objs.size := by simpa using hb
    have hle : s1.heap.objs.size ≤ b := by
      rcases e' with z | z
      · rw [z]; exact Nat.le_add_right _ _
      · rw [z]; exact Nat.le_refl _
    exact I1.fpOk hle (I1.hok.fresh hle)
/-- for i, x in enumerate(a tuple): the pair is a new tuple -/
theorem for_enumT {K : PySem.W.Frag} {a : Addr} {xs : List V} {g : TG} {tb : TS} {D : Ends} {σ : L2.St} {H : Hp} (Pv : Nat → L2.St → Hp → Prop) (h0 : Pv 0 σ H) (hl : ∀ i σ H, i ≤ xs.length → Pv i σ H → SqT K H a xs)
    (hs : ∀ i x T σ H, xs[i]? = some x → Pv i σ H → H T = none → g (.ref T) σ (upd H T (.tup [.int (i : Nat), x])) fun σ2 H2 => tb { D with nx := Pv (i + 1), ct := Pv (i + 1), bk := D.nx } σ2 H2) (hd : ∀ σ H, Pv xs.length σ H → D.nx σ H) :
    ∃ W : Nat → Nat → L2.St → Hp → Prop, (∃ m, W 0 m σ H) ∧ ∀ i m σ H, W i m σ H →
      ((ItT K a).stop i H ∧ D.nx σ H) ∨ ((ItT K a).go i H ∧ ∃ N : L2.St → Hp → Prop, (∀ σ' H', N σ' H' → ∃ m', m' < m ∧ W (i + 1) m' σ' H') ∧ ∀ x H', (ItT K a).yld i H x H' → g x σ H' fun σ2 H2 => tb { D with nx := N, ct := N, bk := D.nx } σ2 H2) := by
  refine ⟨fun i m σ H => m = xs.length - i ∧ i ≤ xs.length ∧ Pv i σ H, ⟨xs.length, by simp, Nat.zero_le _, h0⟩, ?_⟩
  rintro i m σ H ⟨rfl, hi, p⟩
  have q := hl i σ H hi p
  by_cases hlt : i < xs.length
  · refine .inr ⟨⟨xs, xs[i], q, by simp [hlt]⟩, Pv (i + 1), fun σ' H' p' => ⟨xs.length - (i + 1), by omega, rfl, hlt, p'⟩, fun x H' y => ?_⟩
    obtain ⟨T, z, e1, e2, e3, e4⟩ := y
    subst e1 e3
    exact hs i z T σ H (e4 xs q) p e2
  · have e : i = xs.length := by omega
    subst e
    exact .inl ⟨⟨xs, q, Nat.le_refl _⟩, hd σ H p⟩
end Ob
/-! Ob: data in the heap: what persists; mirrors of loops.py on data -/
namespace Ob
open PySem PySem.Spec PyProof.Rows L2 StX

/-! ### what stays -/
theorem sqT_same {K : PySem.W.Frag} {H H' : Hp} {a : Addr} {xs : List V} (e : Same H H') (h : SqT K H a xs) : SqT K H' a xs := by
  rcases h with (h | ⟨o, h⟩) | h
  · exact .inl (.inl (e _ _ h))
  · exact .inl (.inr ⟨o, e _ _ h⟩)
  · exact .inr h
mutual
theorem Dp.same {K : PySem.W.Frag} {H H' : Hp} (e : Same H H') : ∀ (d : PyData) (v : V), Dp K H v d → Dp K H' v d
  | .none, _, h => by cases h; exact .non
  | .bool b, _, h => by cases h; exact .bl b
  | .int i, _, h => by cases h; exact .int i
  | .str x, _, h => by cases h; exact .str x
  | .list ds, _, h => by cases h with | lst a b => exact .lst (e.seq a) (DpAll.same e ds _ b)
  | .tuple ds, _, h => by cases h with | tup a b => exact .tup (sqT_same e a) (DpAll.same e ds _ b)
  | .dict _, _, h => by cases h
theorem DpAll.same {K : PySem.W.Frag} {H H' : Hp} (e : Same H H') : ∀ (ds : List PyData) (vs : List V), DpAll K H vs ds → DpAll K H' vs ds
  | [], _, h => by cases h; exact .nil
  | d :: ds, _, h => by cases h with | cons a b => exact .cons (Dp.same e d _ a) (DpAll.same e ds _ b)
end
/-- tuples stay -/
def Tx (H H' : Hp) : Prop := ∀ a xs, Rd H a (.tup xs) → Rd H' a (.tup xs)
theorem Tx.refl (H : Hp) : Tx H H := fun _ _ h => h
theorem Tx.trans {H H1 H2 : Hp} (a : Tx H H1) (b : Tx H1 H2) : Tx H H2 := fun c o h => b c o (a c o h)
theorem Tx.of_same {H H' : Hp} (e : Same H H') : Tx H H' := fun a xs h => by
  rcases h with h | ⟨o, h⟩
  · exact .inl (e _ _ h)
  · exact .inr ⟨o, e _ _ h⟩
theorem Tx.new {H : Hp} {p : Addr} {o : HO} (h : H p = none) : Tx H (upd H p o) := fun a xs q => by
  rcases q with q | ⟨u, q⟩
  · exact .inl (by rw [upd_ne (ne_of_none q h)]; exact q)
  · exact .inr ⟨u, by rw [upd_ne (ne_of_none q h)]; exact q⟩
theorem Tx.put {H : Hp} {p : Addr} {o u : HO} (h : H p = some u) (h1 : ∀ xs, u ≠ .tup xs) (h2 : ∀ ob xs, u ≠ .frz ob (.tup xs)) : Tx H (upd H p o) := fun a xs q => by
  have ne : a ≠ p := fun z => by
    rcases q with q | ⟨w, q⟩
    · rw [z, h] at q; exact h1 _ (Option.some.inj q)
    · rw [z, h] at q; exact h2 _ _ (Option.some.inj q)
  rcases q with q | ⟨w, q⟩
  · exact .inl (by rw [upd_ne ne]; exact q)
  · exact .inr ⟨w, by rw [upd_ne ne]; exact q⟩
theorem Tx.lst {H : Hp} {p : Addr} {o : HO} {xs : List V} (h : H p = some (.lst xs)) : Tx H (upd H p o) := Tx.put h (fun _ z => by cases z) fun _ _ z => by cases z
theorem Tx.ins {H : Hp} {p : Addr} {o : HO} {C dx : Addr} {fs : List (Str × V)} (h : H p = some (.ins C dx fs)) : Tx H (upd H p o) := Tx.put h (fun _ z => by cases z) fun _ _ z => by cases z
theorem sqT_tx {K : PySem.W.Frag} {H H' : Hp} {a : Addr} {xs : List V} (e : Tx H H') (h : SqT K H a xs) : SqT K H' a xs := by
  rcases h with h | h
  · exact .inl (e _ _ h)
  · exact .inr h
/-! data without lists and dicts -/
mutual
def tupOnly : PyData → Bool
  | .none => true
  | .bool _ => true
  | .int _ => true
  | .str _ => true
  | .list _ => false
  | .tuple ds => tupOnlyAll ds
  | .dict _ => false
def tupOnlyAll : List PyData → Bool
  | [] => true
  | d :: ds => tupOnly d && tupOnlyAll ds
end
mutual
theorem Dp.tx {K : PySem.W.Frag} {H H' : Hp} (e : Tx H H') : ∀ (d : PyData) (v : V), tupOnly d = true → Dp K H v d → Dp K H' v d
  | .none, _, _, h => by cases h; exact .non
  | .bool b, _, _, h => by cases h; exact .bl b
  | .int i, _, _, h => by cases h; exact .int i
  | .str x, _, _, h => by cases h; exact .str x
  | .list ds, _, t, h => by cases t
  | .tuple ds, _, t, h => by cases h with | tup a b => exact .tup (sqT_tx e a) (DpAll.tx e ds _ t b)
  | .dict _, _, _, h => by cases h
theorem DpAll.tx {K : PySem.W.Frag} {H H' : Hp} (e : Tx H H') : ∀ (ds : List PyData) (vs : List V), tupOnlyAll ds = true → DpAll K H vs ds → DpAll K H' vs ds
  | [], _, _, h => by cases h; exact .nil
  | d :: ds, _, t, h => by
    cases h with
    | cons a b =>
      have t2 : (tupOnly d && tupOnlyAll ds) = true := t
      rw [Bool.and_eq_true] at t2
      exact .cons (Dp.tx e d _ t2.1 a) (DpAll.tx e ds _ t2.2 b)
end
theorem DpAll.length {K : PySem.W.Frag} {H : Hp} : ∀ {vs : List V} {ds : List PyData}, DpAll K H vs ds → vs.length = ds.length
  | [], [], _ => rfl
  | _ :: _, [], h => by cases h
  | [], _ :: _, h => by cases h
  | v :: vs, d :: ds, h => by
    cases h with
    | cons _ b => simp [DpAll.length b]
theorem DpAll.get {K : PySem.W.Frag} {H : Hp} : ∀ {vs : List V} {ds : List PyData} {i : Nat} {v : V}, DpAll K H vs ds → vs[i]? = some v → ∃ d, ds[i]? = some d ∧ Dp K H v d
  | [], _, _, _, h, e => by simp at e
  | _ :: _, [], _, _, h, _ => by cases h
  | v :: vs, d :: ds, 0, _, h, e => by
    cases h with
    | cons a b =>
      simp at e
      subst e
      exact ⟨d, rfl, a⟩
  | v :: vs, d :: ds, i + 1, _, h, e => by
    cases h with
    | cons a b =>
      obtain ⟨d', e1, e2⟩ := DpAll.get (i := i) b (by simpa using e)
      exact ⟨d', by simpa using e1, e2⟩
theorem DpAll.take {K : PySem.W.Frag} {H : Hp} : ∀ {vs : List V} {ds : List PyData} (n : Nat), DpAll K H vs ds → DpAll K H (vs.take n) (ds.take n)
  | _, _, 0, _ => by simp; exact .nil
  | [], [], n + 1, _ => by simp; exact .nil
  | _ :: _, [], _, h => by cases h
  | [], _ :: _, _, h => by cases h
  | v :: vs, d :: ds, n + 1, h => by
    cases h with
    | cons a b => simp; exact .cons a (DpAll.take n b)
theorem DpAll.app {K : PySem.W.Frag} {H : Hp} : ∀ {vs ws : List V} {ds es : List PyData}, DpAll K H vs ds → DpAll K H ws es → DpAll K H (vs ++ ws) (ds ++ es)
  | _, _, _, _, .nil, h => h
  | _, _, _, _, .cons a b, h => .cons a (DpAll.app b h)
/-- a tuple of data -/
theorem dp_tup {K : PySem.W.Frag} {H : Hp} {v : V} {ds : List PyData} (h : Dp K H v (.tuple ds)) : ∃ a vs, v = .ref a ∧ SqT K H a vs ∧ DpAll K H vs ds := by
  cases h with
  | tup a b => exact ⟨_, _, rfl, a, b⟩

/-! ### small data -/
mutual
def small : PyData → Bool
  | .str s => decide (s.length ≤ 100000)
  | .list ds => decide (ds.length ≤ 90000) && smallAll ds
  | .tuple ds => decide (ds.length ≤ 90000) && smallAll ds
  | _ => true
def smallAll : List PyData → Bool
  | [] => true
  | d :: ds => small d && smallAll ds
end
theorem smallAll_mem : ∀ {ds : List PyData} {d : PyData}, smallAll ds = true → d ∈ ds → small d = true
  | x :: ds, d, h, m => by
    have h2 : (small x && smallAll ds) = true := h
    rw [Bool.and_eq_true] at h2
    rcases List.mem_cons.mp m with e | m
    · rw [e]; exact h2.1
    · exact smallAll_mem h2.2 m
theorem small_str {s : Str} (h : small (.str s) = true) : s.length ≤ 100000 := of_decide_eq_true h
theorem small_tup {ds : List PyData} (h : small (.tuple ds) = true) : smallAll ds = true := by
  have h2 : (decide (ds.length ≤ 90000) && smallAll ds) = true := h
  rw [Bool.and_eq_true] at h2
  exact h2.2
theorem small_len {ds : List PyData} (h : small (.tuple ds) = true) : ds.length ≤ 90000 := by
  have h2 : (decide (ds.length ≤ 90000) && smallAll ds) = true := h
  rw [Bool.and_eq_true] at h2
  exact of_decide_eq_true h2.1

/-! ### mirrors of loops.py on data -/
def abcd : Str := "abcd"
def abcdE : Str := "abcd$"
def isIntegerD (lo hi : Int) : PyData → Bool
  | .int i => if lo ≤ i then decide (i ≤ hi) else false
  | _ => false
def isItemD : PyData → Bool
  | .str s => match s.cps.toList with
    | [c] => decide (c ∈ abcd.cps.toList)
    | _ => false
  | _ => false
def isTextD : PyData → Bool
  | .str s => s.cps.toList.all fun c => decide (c ∈ abcd.cps.toList)
  | _ => false
def pick (allowed s : Str) : Str := ⟨(allowed.cps.toList.filter fun c => decide (c ∈ s.cps.toList)).toArray⟩
def isSelD (allowed : Str) : PyData → Bool
  | .str s => if s = "" then false else decide (s = pick allowed s)
  | _ => false
/-- the kind of an edit's second element: none: not a word; some none: no second element -/
inductive Kd | item | mark | bare
  deriving DecidableEq
def kdOf (w : Str) : Option Kd :=
  if w = "put" then some .item else if w = "drop" then some .bare else if w = "drop_next" then some .bare else if w = "before" then some .item
  else if w = "after" then some .item else if w = "mark" then some .mark else if w = "break" then some .bare else none
def editRest : Kd → List PyData → Bool
  | .bare, ds => ds.length == 0
  | .item, ds => match ds with
    | [x] => isItemD x
    | _ => false
  | .mark, ds => match ds with
    | [x] => isIntegerD 0 3 x
    | _ => false
def editOf : Option Kd → List PyData → Bool
  | none, _ => false
  | some k, ds => editRest k ds
def isEditD : PyData → Bool
  | .tuple (.str w :: r) => editOf (kdOf w) r
  | _ => false
def wordOf : PyData → Str
  | .tuple (.str w :: _) => w
  | _ => ""
/-- as an edit begins -/
def shE : PyData → Bool
  | .tuple (.str _ :: _) => true
  | _ => false
def countW (ds : List PyData) (ws : List Str) : Nat := (ds.filter fun d => decide (wordOf d ∈ ws)).length
def mayFollowD (ds : List PyData) (d : PyData) : Bool :=
  if ds.length + 1 > 4 then false else if countW ds ["break"] > 0 then false
  else if countW (ds ++ [d]) ["before", "after"] > 1 then false else decide (countW (ds ++ [d]) ["drop", "drop_next"] ≤ 2)
def areEditsFrom : List PyData → List PyData → Bool
  | _, [] => true
  | pre, d :: r => if isEditD d then (if mayFollowD pre d then areEditsFrom (pre ++ [d]) r else false) else false
def areEditsD : PyData → Bool
  | .tuple ds => areEditsFrom [] ds
  | _ => false
def isMarkD : PyData → Bool
  | .none => true
  | d => isIntegerD 0 3 d
def isRuleD : PyData → Bool
  | .tuple [m, it, fo, ed] => if isMarkD m then (if isSelD abcd it then (if isSelD abcdE fo then areEditsD ed else false) else false) else false
  | _ => false
def endOk (d : PyData) : Bool := isTextD d && (match d with
  | .str s => decide (s.length ≤ 4)
  | _ => false)
def endsOk : PyData → Bool
  | .tuple es => if es.length = 4 then es.all endOk else false
  | _ => false
def rulesOk : PyData → PyData → Bool
  | .tuple rs, en => if rs.length ≤ 12 then (if rs.all isRuleD then endsOk en else false) else false
  | _, _ => false
def isLoopD : PyData → Bool
  | .tuple [ru, en] => rulesOk ru en
  | _ => false
def isProgramD : PyData → Bool
  | .tuple ls => if ls.length ≤ 5 then ls.all isLoopD else false
  | _ => false
end Ob
/-! Ob: loops and comprehensions over any source -/
namespace Ob
open PySem PySem.Spec PyProof.Rows L2 StX

/-- J yields xs while Hs holds -/
structure Src (J : It) (xs : List V) (Hs : Hp → Prop) : Prop where
  go : ∀ i H, i < xs.length → Hs H → J.go i H
  yld : ∀ i H x H', Hs H → i < xs.length → J.yld i H x H' → H' = H ∧ xs[i]? = some x
  stop : ∀ H, Hs H → J.stop xs.length H
theorem Src.list {K : PySem.W.Frag} {a : Addr} {xs : List V} : Src (Itl K a) xs (fun H => SqL K H a xs) where
  go := fun i H hi h => ⟨xs, xs[i], h, by simp [hi]⟩
  yld := fun i H x H' h _ y => ⟨y.1, y.2 xs h⟩
  stop := fun H h => ⟨xs, h, Nat.le_refl _⟩
theorem Src.tup {K : PySem.W.Frag} {a : Addr} {xs : List V} : Src (Itt K a) xs (fun H => SqT K H a xs) where
  go := fun i H hi h => ⟨xs, xs[i], h, by simp [hi]⟩
  yld := fun i H x H' h _ y => ⟨y.1, y.2 xs h⟩
  stop := fun H h => ⟨xs, h, Nat.le_refl _⟩
def sgV (z : Str) : List V := z.cps.toList.map fun c => .str ⟨#[c]⟩
theorem Src.str {z : Str} : Src (Its z) (sgV z) (fun _ => True) where
  go := fun i H hi _ => by
    have : i < z.cps.size := by simpa [sgV] using hi
    exact this
  yld := fun i H x H' _ hi y => by
    obtain ⟨e, c, h1, h2⟩ := y
    refine ⟨e, ?_⟩
    subst h2
    have h3 : z.cps.toList[i]? = some c := by simpa using h1
    simp [sgV, h3]
  stop := fun H _ => by
    show z.cps.size ≤ (sgV z).length
    simp [sgV]
def rngV (lo : Int) (n : Nat) : List V := (List.range n).map fun i : Nat => .int (lo + (i : Int))
theorem Src.rng {lo : Int} {n : Nat} : Src (Itr lo n) (rngV lo n) (fun _ => True) where
  go := fun i H hi _ => by
    have : i < n := by simpa [rngV] using hi
    exact this
  yld := fun i H x H' _ hi y => by
    obtain ⟨e, h2⟩ := y
    have : i < n := by simpa [rngV] using hi
    exact ⟨e, by rw [h2]; simp [rngV, this]⟩
  stop := fun H _ => by
    show n ≤ (rngV lo n).length
    simp [rngV]

/-- the reading of a comprehension over a source, by an invariant -/
theorem lcg {J : It} {xs : List V} {Hs : Hp → Prop} (S : Src J xs Hs) {g : TG} {tt : TT} {te : TE} {vs : List Nat} {σ : L2.St} {H1 : Hp} {D : Addr} {Qd : Hp → Prop} (Pv : Nat → Hp → Prop) (h0 : Pv 0 (upd H1 D (.lst []))) (hl : ∀ i H, i ≤ xs.length → Pv i H → Hs H)
    (hs : ∀ i x H, xs[i]? = some x → Pv i H → g x (wipe σ vs) H fun σ2 H2 => wipe σ2 vs = wipe σ vs ∧ tt σ2 H2 fun b H3 =>
      if b = true then te σ2 H3 fun y H4 => ∃ acc, H4 D = some (.lst acc) ∧ acc.length < sizeLine ∧ Pv (i + 1) (upd H4 D (.lst (acc ++ [y]))) else Pv (i + 1) H3) (hd : ∀ H, Pv xs.length H → Qd H) :
    ∃ W : Nat → Nat → Hp → Prop, (∃ m, W 0 m (upd H1 D (.lst []))) ∧ ∀ i m H, W i m H →
      (J.stop i H ∧ Qd H) ∨ (J.go i H ∧ ∃ Nx : Hp → Prop, (∀ H', Nx H' → ∃ m', m' < m ∧ W (i + 1) m' H') ∧ ∀ x H', J.yld i H x H' → g x (wipe σ vs) H' fun σ2 H2 => wipe σ2 vs = wipe σ vs ∧ tt σ2 H2 fun b H3 =>
        if b = true then te σ2 H3 fun y H4 => ∃ acc, H4 D = some (.lst acc) ∧ acc.length < sizeLine ∧ Nx (upd H4 D (.lst (acc ++ [y]))) else Nx H3) := by
  refine ⟨fun i m H => m = xs.length - i ∧ i ≤ xs.length ∧ Pv i H, ⟨xs.length, by simp, Nat.zero_le _, h0⟩, ?_⟩
  rintro i m H ⟨rfl, hi, p⟩
  have q := hl i H hi p
  by_cases hlt : i < xs.length
  · refine .inr ⟨S.go i H hlt q, Pv (i + 1), fun H' p' => ⟨xs.length - (i + 1), by omega, rfl, hlt, p'⟩, fun x H' y => ?_⟩
    obtain ⟨e, y2⟩ := S.yld i H x H' q hlt y
    subst e
    exact hs i x _ y2 p
  · have e : i = xs.length := by omega
    subst e
    exact .inl ⟨S.stop H q, hd H p⟩
/-- a block that only adds objects -/
theorem lcP {J : It} {xs : List V} {Hs : Hp → Prop} (S : Src J xs Hs) {g : TG} {tt : TT} {te : TE} {vs : List Nat} {σ : L2.St} {H1 : Hp} {D : Addr} {Qd : Hp → Prop} (hHs : ∀ H', Same H1 H' → Hs H') (hD : H1 D = none) (hz : xs.length ≤ 100000) (f : V → Option V)
    (hb : ∀ x, x ∈ xs → ∀ H', Same H1 H' → ∀ (Y : V → Hp → Prop) (N : Hp → Prop), (∀ y H'', f x = some y → Same H' H'' → Y y H'') → (∀ H'', f x = none → Same H' H'' → N H'') →
      g x (wipe σ vs) H' fun σ2 H2 => wipe σ2 vs = wipe σ vs ∧ tt σ2 H2 fun b H3 => if b = true then te σ2 H3 Y else N H3)
    (hd : ∀ H', Same H1 H' → H' D = some (.lst (xs.filterMap f)) → Qd H') :
    ∃ W : Nat → Nat → Hp → Prop, (∃ m, W 0 m (upd H1 D (.lst []))) ∧ ∀ i m H, W i m H →
      (J.stop i H ∧ Qd H) ∨ (J.go i H ∧ ∃ Nx : Hp → Prop, (∀ H', Nx H' → ∃ m', m' < m ∧ W (i + 1) m' H') ∧ ∀ x H', J.yld i H x H' → g x (wipe σ vs) H' fun σ2 H2 => wipe σ2 vs = wipe σ vs ∧ tt σ2 H2 fun b H3 =>
        if b = true then te σ2 H3 fun y H4 => ∃ acc, H4 D = some (.lst acc) ∧ acc.length < sizeLine ∧ Nx (upd H4 D (.lst (acc ++ [y]))) else Nx H3) := by
  have up : ∀ {H H'' : Hp} {o : HO}, Same H1 H → Same H H'' → Same H1 (upd H'' D o) := fun {H H'' o} a b c u e => by
    rw [upd_ne (ne_of_none e hD)]
    exact b _ _ (a _ _ e)
  refine lcg S (fun i H => Same H1 H ∧ H D = some (.lst ((xs.take i).filterMap f))) ⟨up (Same.refl _) (Same.refl _), by rw [upd_same]; simp⟩ (fun i H _ p => hHs H p.1) (fun i x H hx p => ?_) (fun H p => ?_)
  · have hm : x ∈ xs := List.mem_of_getElem? hx
    have ht : xs.take (i + 1) = xs.take i ++ [x] := by
      rw [List.take_succ, hx]
      rfl
    refine hb x hm H p.1 _ _ (fun y H'' e z => ⟨_, z _ _ p.2, ?_, ?_, ?_⟩) (fun H'' e z => ⟨p.1.trans z, ?_⟩)
    · have h1 := List.length_filterMap_le f (xs.take i)
      have h2 := List.length_take_le i xs
      rw [sizeLine_eq]
      have h3 : (xs.take i).length ≤ 100000 := by rw [List.length_take]; omega
      omega
    · exact up p.1 z
    · rw [upd_same, ht, List.filterMap_append]
      simp [e]
    · rw [z _ _ p.2, ht, List.filterMap_append]
      simp [e]
  · have := p.2
    rw [List.take_length] at this
    exact hd H p.1 this
theorem x_lc {wi : TI} {g : TG} {tt : TT} {te : TE} {vs : List Nat} {σ : L2.St} {H : Hp} {Q : VK} (h : wi σ H fun J H1 => ∀ D, H1 D = none → ∃ W : Nat → Nat → Hp → Prop, (∃ m, W 0 m (upd H1 D (.lst []))) ∧ ∀ i m H, W i m H →
    (J.stop i H ∧ Q (.ref D) H) ∨ (J.go i H ∧ ∃ Nx : Hp → Prop, (∀ H', Nx H' → ∃ m', m' < m ∧ W (i + 1) m' H') ∧ ∀ x H', J.yld i H x H' → g x (wipe σ vs) H' fun σ2 H2 => wipe σ2 vs = wipe σ vs ∧ tt σ2 H2 fun b H3 =>
      if b = true then te σ2 H3 fun y H4 => ∃ acc, H4 D = some (.lst acc) ∧ acc.length < sizeLine ∧ Nx (upd H4 D (.lst (acc ++ [y]))) else Nx H3)) : tLc wi g tt te vs σ H Q := h
section
variable {K : PySem.W.Frag} {σ : L2.St} {H : Hp} {te : TE} {ta : TA} {R : It → Hp → Prop} {Q : VK} {x : V}
theorem x_iStr (h : te σ H fun v H1 => ∃ z, v = .str z ∧ R (Its z) H1) : iStr te σ H R := h
theorem x_iTup (h : te σ H fun x H1 => ∃ a, x = .ref a ∧ (∃ xs, SqT K H1 a xs) ∧ R (Itt K a) H1) : iTup K te σ H R := h
theorem x_iList (h : te σ H fun x H1 => ∃ a, x = .ref a ∧ (∃ xs, SqL K H1 a xs) ∧ R (Itl K a) H1) : iList K te σ H R := h
theorem x_iRng1 (h : ta σ H fun vs H1 => ∃ j : Int, vs = [.int j] ∧ -(2 ^ 62) ≤ j ∧ j < 2 ^ 62 ∧ R (Itr 0 j.toNat) H1) : iRng1 ta σ H R := h
theorem x_yes {R : Bool → Hp → Prop} (h : R true H) : tYes σ H R := h
theorem x_bm {T : String} {r : V → List V → Hp → VK → Prop} (h : te σ H fun x H1 => tyV K T x H1 ∧ ta σ H1 fun xs H2 => r x xs H2 Q) : tBM K T r te ta σ H Q := h
theorem x_for {wi : TI} {g : TG} {tb : TS} {D : Ends} (h : wi σ H fun J H1 => ∃ W : Nat → Nat → L2.St → Hp → Prop, (∃ m, W 0 m σ H1) ∧ ∀ i m σ H, W i m σ H →
    (J.stop i H ∧ D.nx σ H) ∨ (J.go i H ∧ ∃ N : L2.St → Hp → Prop, (∀ σ' H', N σ' H' → ∃ m', m' < m ∧ W (i + 1) m' σ' H') ∧ ∀ x H', J.yld i H x H' → g x σ H' fun σ2 H2 => tb { D with nx := N, ct := N, bk := D.nx } σ2 H2)) : tFor wi g tb D σ H := h
theorem x_all {p : Addr} {bs : List Bool} {ys : List V} (a : SqL K H p ys) (e : ys = bs.map V.bl) (h : Q (.bl (bs.all id)) H) : rAll K [.ref p] H Q := ⟨p, bs, rfl, e ▸ a, h⟩
end
/-- a for over any source, by an invariant -/
theorem forg {J : It} {xs : List V} {Hs : Hp → Prop} (S : Src J xs Hs) {g : TG} {tb : TS} {D : Ends} {σ : L2.St} {H : Hp} (Pv : Nat → L2.St → Hp → Prop) (h0 : Pv 0 σ H) (hl : ∀ i σ H, i ≤ xs.length → Pv i σ H → Hs H)
    (hs : ∀ i x σ H, xs[i]? = some x → Pv i σ H → g x σ H fun σ2 H2 => tb { D with nx := Pv (i + 1), ct := Pv (i + 1), bk := D.nx } σ2 H2) (hd : ∀ σ H, Pv xs.length σ H → D.nx σ H) :
    ∃ W : Nat → Nat → L2.St → Hp → Prop, (∃ m, W 0 m σ H) ∧ ∀ i m σ H, W i m σ H →
      (J.stop i H ∧ D.nx σ H) ∨ (J.go i H ∧ ∃ N : L2.St → Hp → Prop, (∀ σ' H', N σ' H' → ∃ m', m' < m ∧ W (i + 1) m' σ' H') ∧ ∀ x H', J.yld i H x H' → g x σ H' fun σ2 H2 => tb { D with nx := N, ct := N, bk := D.nx } σ2 H2) := by
  refine ⟨fun i m σ H => m = xs.length - i ∧ i ≤ xs.length ∧ Pv i σ H, ⟨xs.length, by simp, Nat.zero_le _, h0⟩, ?_⟩
  rintro i m σ H ⟨rfl, hi, p⟩
  have q := hl i σ H hi p
  by_cases hlt : i < xs.length
  · refine .inr ⟨S.go i H hlt q, Pv (i + 1), fun σ' H' p' => ⟨xs.length - (i + 1), by omega, rfl, hlt, p'⟩, fun x H' y => ?_⟩
    obtain ⟨e, y2⟩ := S.yld i H x H' q hlt y
    subst e
    exact hs i x σ _ y2 p
  · have e : i = xs.length := by omega
    subst e
    exact .inl ⟨S.stop H q, hd σ H p⟩
/-! ### join of a list of sgV -/
theorem joinL_one (cs : List Nat) : TL.joinL [] (cs.map fun c => [c]) = cs := by
  induction cs with
  | nil => rfl
  | cons c r ih =>
    cases r with
    | nil => rfl
    | cons d r =>
      show [c] ++ ([] ++ TL.joinL [] ((d :: r).map fun c => [c])) = c :: d :: r
      rw [ih]
      rfl
theorem join_sgV (cs : List Nat) : Txt.join "" (cs.map fun c => (⟨#[c]⟩ : Str)) = ⟨cs.toArray⟩ := by
  have h := SX.join_S [] (cs.map fun c => [c])
  rw [joinL_one, List.map_map] at h
  exact h
def rJoin (K : PySem.W.Frag) : V → List V → Hp → VK → Prop := fun x xs H Q => ∃ a p, ∃ ys : List Str, x = .str a ∧ xs = [.ref p] ∧ (SqL K H p (ys.map V.str) ∨ SqT K H p (ys.map V.str)) ∧
  (ys.map (·.length)).sum + ys.length * a.length ≤ 16777216 ∧ Q (.str (Txt.join a ys)) H
theorem pe_joinN {X : Cx} {o e : Expr} {to te : TE} {apos pos : Pos} (ho : PE X o to) (he : PE X e te) (hs : starEach [e] X.env = [(false, eval e X.env)] := by rfl) (hbase : attributeBase o "join" X.env (eval o X.env) = eval o X.env := by rfl) (hline : (apos.endLine == pos.line) = true := by rfl) :
    PE X (.Call (.Attribute o "join" apos) [e] [] pos) (tM1 (rJoin X.K) to te) := pe_join ho he hs hbase hline
theorem x_tM1 {r : V → List V → Hp → VK → Prop} {H : Hp} {Q : VK} {to te : TE} {σ : L2.St} (h : to σ H fun x H1 => (∃ a, x = .str a) ∧ te σ H1 fun y H2 => r x [y] H2 Q) : tM1 r to te σ H Q := h
theorem x_isStr {a : Str} {A : Prop} (h : A) : (∃ b, V.str a = .str b) ∧ A := ⟨⟨a, rfl⟩, h⟩
/-- "".join of a list of sgV that stands in H -/
theorem x_joinS {K : PySem.W.Frag} {H : Hp} {Q : VK} {p : Addr} {cs : List Nat} {xs : List V} (a : SqL K H p xs) (e : xs = cs.map fun c => .str ⟨#[c]⟩) (hz : cs.length ≤ 1000000) (h : Q (.str ⟨cs.toArray⟩) H) :
    rJoin K (.str "") [.ref p] H Q := by
  have hl : ∀ l : List Nat, ((l.map fun c => (⟨#[c]⟩ : Str)).map (·.length)).sum = l.length := by
    intro l
    induction l with
    | nil => rfl
    | cons c r ih =>
      simp only [List.map_cons, List.sum_cons, List.length_cons, ih]
      show 1 + r.length = r.length + 1
      omega
  refine ⟨"", p, cs.map fun c => (⟨#[c]⟩ : Str), rfl, rfl, .inl ?_, ?_, ?_⟩
  · rw [List.map_map]
    rw [e] at a
    exact a
  · rw [hl]
    have : ("" : Str).length = 0 := by decide +kernel
    rw [this]
    omega
  · rw [join_sgV]
    exact h

/-- a block that only adds objects, by places -/
theorem lcI {J : It} {xs : List V} {Hs : Hp → Prop} (S : Src J xs Hs) {g : TG} {tt : TT} {te : TE} {vs : List Nat} {σ : L2.St} {H1 : Hp} {D : Addr} {Qd : Hp → Prop} (hHs : ∀ H', Same H1 H' → Hs H') (hD : H1 D = none) (hz : xs.length ≤ 100000) (f : Nat → Option V)
    (hb : ∀ i x, xs[i]? = some x → ∀ H', Same H1 H' → ∀ (Y : V → Hp → Prop) (N : Hp → Prop), (∀ y H'', f i = some y → Same H' H'' → Y y H'') → (∀ H'', f i = none → Same H' H'' → N H'') →
      g x (wipe σ vs) H' fun σ2 H2 => wipe σ2 vs = wipe σ vs ∧ tt σ2 H2 fun b H3 => if b = true then te σ2 H3 Y else N H3)
    (hd : ∀ H', Same H1 H' → H' D = some (.lst ((List.range xs.length).filterMap f)) → Qd H') :
    ∃ W : Nat → Nat → Hp → Prop, (∃ m, W 0 m (upd H1 D (.lst []))) ∧ ∀ i m H, W i m H →
      (J.stop i H ∧ Qd H) ∨ (J.go i H ∧ ∃ Nx : Hp → Prop, (∀ H', Nx H' → ∃ m', m' < m ∧ W (i + 1) m' H') ∧ ∀ x H', J.yld i H x H' → g x (wipe σ vs) H' fun σ2 H2 => wipe σ2 vs = wipe σ vs ∧ tt σ2 H2 fun b H3 =>
        if b = true then te σ2 H3 fun y H4 => ∃ acc, H4 D = some (.lst acc) ∧ acc.length < sizeLine ∧ Nx (upd H4 D (.lst (acc ++ [y]))) else Nx H3) := by
  have up : ∀ {H H'' : Hp} {o : HO}, Same H1 H → Same H H'' → Same H1 (upd H'' D o) := fun {H H'' o} a b c u e => by
    rw [upd_ne (ne_of_none e hD)]
    exact b _ _ (a _ _ e)
  refine lcg S (fun i H => Same H1 H ∧ H D = some (.lst ((List.range i).filterMap f))) ⟨up (Same.refl _) (Same.refl _), by rw [upd_same]; simp⟩ (fun i H _ p => hHs H p.1) (fun i x H hx p => ?_) (fun H p => hd H p.1 p.2)
  have hi : i < xs.length := (List.getElem?_eq_some_iff.mp hx).1
  refine hb i x hx H p.1 _ _ (fun y H'' e z => ⟨_, z _ _ p.2, ?_, ?_, ?_⟩) (fun H'' e z => ⟨p.1.trans z, ?_⟩)
  · have h1 := List.length_filterMap_le f (List.range i)
    rw [List.length_range] at h1
    rw [sizeLine_eq]
    omega
  · exact up p.1 z
  · rw [upd_same, List.range_succ, List.filterMap_append]
    simp [e]
  · rw [z _ _ p.2, List.range_succ, List.filterMap_append]
    simp [e]
theorem mapI {α : Type} (g : α → V) : ∀ (ds : List α) (f : Nat → Option V), (∀ i d, ds[i]? = some d → f i = some (g d)) → (List.range ds.length).filterMap f = ds.map g := by
  intro ds f h
  have key : ∀ n, n ≤ ds.length → (List.range n).filterMap f = (ds.take n).map g := by
    intro n
    induction n with
    | zero => intro _; rfl
    | succ n ih =>
      intro hn
      have hn' : n < ds.length := by omega
      rw [List.range_succ, List.filterMap_append, ih (by omega), List.take_succ, List.map_append]
      have e : ds[n]? = some ds[n] := List.getElem?_eq_getElem hn'
      rw [e]
      simp [h n _ e]
  rw [key _ (Nat.le_refl _), List.take_length]
theorem lenI {α : Type} (p : α → Bool) : ∀ (ds : List α) (f : Nat → Option V), (∀ i d, ds[i]? = some d → (f i).isSome = p d) → ((List.range ds.length).filterMap f).length = (ds.filter p).length := by
  intro ds f h
  have key : ∀ n, n ≤ ds.length → ((List.range n).filterMap f).length = ((ds.take n).filter p).length := by
    intro n
    induction n with
    | zero => intro _; rfl
    | succ n ih =>
      intro hn
      have hn' : n < ds.length := by omega
      rw [List.range_succ, List.filterMap_append, List.length_append, ih (by omega), List.take_succ, List.filter_append, List.length_append]
      have e : ds[n]? = some ds[n] := List.getElem?_eq_getElem hn'
      rw [e]
      have q := h n _ e
      cases hf : f n with
      | none => rw [hf] at q; simp [hf, ← q]
      | some y => rw [hf] at q; simp [hf, ← q]
  rw [key _ (Nat.le_refl _), List.take_length]
/-- a def with one parameter and a star -/
theorem Tp.okS1 {fa : List He.Fa} {fn : List He.DefD} {ts : List He.Tab} {ex : PySem.W.Frag → Bool} {w : World} {K : PySem.W.Frag} {mg : Str → Option Value} {P : Program} {base : Heap} {k : Nat} {sp : Sp} (T : Tp fa fn ts ex w K mg) (i : Nat) {d : He.DefD} (h : fn[i]? = some d) (hd : d.dfl = []) (hk : d.kwd = []) {N : List Str} {p1 pv : Str} (S : FnScope N [p1, pv] d.scope)
    (h0 : ∀ (kV doc pm : Value) (an : Option Addr) (cdv ct : Value) (a : Value), bindArgs (PySem.W.fnOf d.name d.qual d.params d.body d.scope .none kV doc pm an cdv ct) ⟨[a], []⟩ = (newTuple [] >>= fun t => pure [(p1, a), (pv, t)]))
    (h1 : ∀ (kV doc pm : Value) (an : Option Addr) (cdv ct : Value) (a r : Value) (rs : List Value), bindArgs (PySem.W.fnOf d.name d.qual d.params d.body d.scope .none kV doc pm an cdv ct) ⟨a :: r :: rs, []⟩ = (newTuple (r :: rs) >>= fun t => pure [(p1, a), (pv, t)]))
    (hbody : ∀ (cdv : Value) (A : Around) (outer : List Env) (s : Shared) (H : Hp) (vs : List V) (Q : VK) (E : XK), Room k (A.deeper (envOfC d.qual d.scope s.heap.objs.size (He.fAd K d.at_) cdv)) → sp vs H Q E →
      ∃ t, PSs (cxOf CX0 P w K mg base N d.qual d.scope (He.fAd K d.at_) cdv A outer s H E).nox d.body t ∧ t { nx := fun _ H' => Q .non H', rt := Q } (start N vs) H) :
    FnR P w K mg base CX0 (k + 1) (He.fAd K d.at_) (fun vs H Q E => ∃ v0 rest, vs = v0 :: rest ∧ rest.length ≤ sizeLine ∧ ∀ p, H p = none → sp [v0, .ref p] (upd H p (.tup rest)) Q E) := by
  obtain ⟨fd, F⟩ := T.c.def_ i h
  have e1 : d.dvs K = [] := by unfold He.DefD.dvs; rw [hd]; rfl
  have e2 : d.kws K = [] := by unfold He.DefD.kws; rw [hk]; rfl
  rw [e1, e2] at F
  obtain ⟨oc, od, dV, kV, doc, pm, an, cdv, ct, osl, rfl, lk, hcd, hD, hK⟩ := F.ex
  rcases hD with ⟨_, rfl⟩ | ⟨e, _⟩
  · refine FnR.imp (fn_star (ps := [p1]) lk hcd S cxUp_none (bind_star1 (B := fun us => bindArgs (PySem.W.fnOf d.name d.qual d.params d.body d.scope .none kV doc pm an cdv ct) ⟨us, []⟩) (h0 kV doc pm an cdv ct) (h1 kV doc pm an cdv ct)) fun A outer s H vs Q E hr hsp => let ⟨t, a, b⟩ := hbody cdv A outer s H vs Q E hr hsp; ⟨t, a.nox, b⟩) fun vs H Q E ⟨v0, rest, ev, hz, hq⟩ => ⟨[v0], rest, ev, rfl, hz, hq⟩
  · exact absurd rfl e
section
variable {K : PySem.W.Frag} {σ : L2.St} {H : Hp} {te : TE} {t : TA} {Q : VK} {x : V}
theorem x_star {Q : List V → Hp → Prop} (h : te σ H fun x H1 => ∃ p xs, x = V.ref p ∧ (SqT K H1 p xs ∨ SqL K H1 p xs) ∧ t σ H1 fun ys H2 => Q (xs ++ ys) H2) : tStar K te t σ H Q := h
theorem x_in {neg : Bool} {p : Addr} {xs : List V} (a : SqL K H p xs ∨ SqT K H p xs) (e : flatV x = true) (f : xs.all flatV = true) (h : Q (.bl (if neg then !inV x xs else inV x xs)) H) : rIn K neg x (.ref p) H Q := ⟨p, xs, rfl, a, e, f, h⟩
theorem x_inY {p : Addr} {xs : List V} (a : SqL K H p xs ∨ SqT K H p xs) (e : flatV x = true) (f : xs.all flatV = true) (h : Q (.bl (inV x xs)) H) : rIn K false x (.ref p) H Q := ⟨p, xs, rfl, a, e, f, h⟩
theorem x_inN {p : Addr} {xs : List V} (a : SqL K H p xs ∨ SqT K H p xs) (e : flatV x = true) (f : xs.all flatV = true) (h : Q (.bl (!inV x xs)) H) : rIn K true x (.ref p) H Q := ⟨p, xs, rfl, a, e, f, h⟩
theorem x_iEnumT {ta : TA} {R : It → Hp → Prop} (h : ta σ H fun vs H1 => ∃ a xs, vs = [.ref a] ∧ SqT K H1 a xs ∧ R (ItT K a) H1) : iEnumT K ta σ H R := h
theorem x_gTup {n : Nat} {tg : TGs} {a : Addr} {xs : List V} {Q : L2.St → Hp → Prop} (h : SqT K H a xs) (hl : xs.length = n) (k : tg xs σ H Q) : gTup K n tg (.ref a) σ H Q := ⟨a, xs, rfl, h, hl, k⟩
theorem x_gCons {g : TG} {u : TGs} {v : V} {vs : List V} {Q : L2.St → Hp → Prop} (h : g v σ H fun σ' H' => u vs σ' H' Q) : gCons g u (v :: vs) σ H Q := ⟨v, vs, rfl, h⟩
theorem x_gNil {Q : L2.St → Hp → Prop} (h : Q σ H) : gNil [] σ H Q := ⟨rfl, h⟩
end
section
variable {K : PySem.W.Frag} {σ : L2.St} {H : Hp} {te : TE} {Q : VK} {x : V}
theorem x_sl {r : V → Option Int → Option Int → Hp → VK → Prop} {tl th : TO} (h : te σ H fun x H1 => tl σ H1 fun l H2 => th σ H2 fun u H3 => r x l u H3 Q) : tSl r te tl th σ H Q := h
theorem x_part {R : Option Int → Hp → Prop} (h : te σ H fun x H1 => ∃ i, x = .int i ∧ R (some i) H1) : tPart te σ H R := h
theorem x_noPart {R : Option Int → Hp → Prop} (h : R none H) : tNoPart σ H R := h
theorem x_exI {n : Int} {R : Int → Prop} (h : R n) : ∃ i, V.int n = .int i ∧ R i := ⟨n, rfl, h⟩
theorem x_slTake {a : Addr} {xs : List V} {n : Nat} (h : SqT K H a xs) (hn : n ≤ xs.length) (k : ∀ p H', Same H H' → SqT K H' p (xs.take n) → Q (.ref p) H') : rSlA K (.ref a) none (some (n : Int)) H Q := by
  have e1 : HT.sIx xs.length 0 none = 0 := rfl
  have e2 : HT.sIx xs.length xs.length (some (n : Int)) = n := by
    show (if (n : Int) < 0 then ((n : Int) + xs.length).toNat else min (n : Int).toNat xs.length) = n
    rw [if_neg (by omega)]
    omega
  refine ⟨a, xs, rfl, h, fun ⟨_, z⟩ => ?_, fun _ p hp => ?_⟩
  · rw [e2] at z
    have : xs.take n = xs := by rw [z]; exact List.take_length
    exact k a H (Same.refl _) (by rw [this]; exact h)
  · have e3 : cutV xs none (some (n : Int)) = xs.take n := by
      unfold cutV
      rw [e1, e2]
      simp
    rw [e3]
    refine k p _ (fun b o e => by rw [upd_ne (ne_of_none e hp)]; exact e) (SqT.of upd_same)
end
theorem inV_str (w : Str) (ws : List Str) : inV (.str w) (ws.map V.str) = decide (w ∈ ws) := by
  unfold inV
  induction ws with
  | nil => simp
  | cons a r ih =>
    rw [List.map_cons, List.any_cons, ih]
    have e : eqV (.str a) (.str w) = decide (a = w) := by first | rfl | (simp [eqV])
    rw [e]
    by_cases h : a = w
    · subst h; simp
    · have h2 : ¬ w = a := fun z => h z.symm
      simp [h, h2]
end Ob
namespace Ob
open PySem PySem.Spec PyProof.Rows L2 StX
/-! ### the rules with the written part told by its name -/
section
variable {X : Cx} {K : PySem.W.Frag}
theorem kix_tup (e : X.K = K) : IxR X (rIxT K) := by subst e; exact ix_tup
theorem kix_list (e : X.K = K) : IxR X (rIxL K) := by subst e; exact ix_list
theorem kop_in (e : X.K = K) : OpR X (compareOp .In) (rIn K false) := by subst e; exact op_in_seq
theorem kop_notIn (e : X.K = K) : OpR X (compareOp .NotIn) (rIn K true) := by subst e; exact op_notIn_seq
theorem kcr_len (e : X.K = K) : CallR X (.builtin "len") (rLenN K) := by subst e; exact cr_len
theorem kcall_isi (e : X.K = K) : CallR X (.builtin "isinstance") (rIsi K) := by subst e; exact call_isi
theorem kcall_isiT (e : X.K = K) : CallR X (.builtin "isinstance") (rIsiT K) := by subst e; exact call_isiT
theorem kop_eqD (e : X.K = K) (hu : X.A.units + 64 < cLine) : OpR X (compareOp .Eq) (rEqD K) := by subst e; exact op_eqD hu
theorem kop_neD (e : X.K = K) (hu : X.A.units + 64 < cLine) : OpR X (compareOp .NotEq) (rNeD K) := by subst e; exact op_neD hu
theorem ksl_list (e : X.K = K) : SlR X (rSlL K) := by subst e; exact sl_list
theorem kpe_fld {e : Expr} {f : Str} {pos : Pos} {ta : TE} (ek : X.K = K) (he : PE X e ta) (hb : attributeBase e f X.env (eval e X.env) = eval e X.env) : PE X (.Attribute e f pos) (tFld K ta f) := by subst ek; exact pe_fld he hb
theorem kpa_star {e : Expr} {es : List Expr} {p : Pos} {te : TE} {t : TA} (ek : X.K = K) (he : PE X e te) (hr : PA X es t) (hs : starEach (.Starred e p :: es) X.env = (true, eval e X.env) :: starEach es X.env := by rfl) : PA X (.Starred e p :: es) (tStar K te t) := by subst ek; exact pa_star he hr hs
theorem kpg_tup {es : List Expr} {k : Nat} {t : TGs} {n : Nat} {pos : Pos} (ek : X.K = K) (hc : X.calm = true) (h : PGs X es t) (hn : (assignEach es X.env).length = n := by rfl) (hst : (assignEach es X.env).findIdx? (·.1) = none := by rfl) : PG X (.Tuple es k pos) (gTup K n t) := by subst ek; exact pg_tup hc h hn hst
theorem kpi_list {tg l : Expr} {tl : TE} (ek : X.K = K) (hl : PE X l tl) : PI X tg l (iList K tl) := by subst ek; exact pi_list hl
theorem kpi_tup {tg l : Expr} {tl : TE} (ek : X.K = K) (hl : PE X l tl) : PI X tg l (iTup K tl) := by subst ek; exact pi_tup hl
theorem kpi_enumT {e : Expr} {ta : TA} {p pos tpos : Pos} {elts : List Expr} {kk : Nat} (ek : X.K = K) (hg : Gl X "enumerate") (hm : X.mg "enumerate" = none) (ha : PA X [e] ta) (hs : starEach [e] X.env = [(false, eval e X.env)] := by rfl) :
    PI X (.Tuple elts kk tpos) (.Call (.Name "enumerate" p) [e] [] pos) (iEnumT K ta) := by subst ek; exact pi_enumT hg hm ha hs
theorem kpe_join {o e : Expr} {to te : TE} {apos pos : Pos} (ek : X.K = K) (ho : PE X o to) (he : PE X e te) (hs : starEach [e] X.env = [(false, eval e X.env)] := by rfl) (hbase : attributeBase o "join" X.env (eval o X.env) = eval o X.env := by rfl) (hline : (apos.endLine == pos.line) = true := by rfl) :
    PE X (.Call (.Attribute o "join" apos) [e] [] pos) (tM1 (rJoin K) to te) := by subst ek; exact pe_joinN ho he hs hbase hline
def rTupOf (K : PySem.W.Frag) : List V → Hp → VK → Prop := fun xs H Q => ∃ p ys, xs = [.ref p] ∧ ((SqL K H p ys ∧ ∀ l, H l = none → Q (.ref l) (upd H l (.tup ys))) ∨ (SqT K H p ys ∧ Q (.ref p) H))
def rLstOf (K : PySem.W.Frag) : List V → Hp → VK → Prop := fun xs H Q => ∃ p ys, xs = [.ref p] ∧ (SqL K H p ys ∨ SqT K H p ys) ∧ ∀ l, H l = none → Q (.ref l) (upd H l (.lst ys))
theorem kcall_tuple (e : X.K = K) : CallR X (.type "tuple") (rTupOf K) := by subst e; exact call_tuple_of
theorem kcall_list (e : X.K = K) : CallR X (.type "list") (rLstOf K) := by subst e; exact call_list_of
theorem kcr_all (e : X.K = K) (hc : X.calm = true) : CallR X (.builtin "all") (rAll K) := by subst e; exact cr_all hc
theorem kcr_any (e : X.K = K) (hc : X.calm = true) : CallR X (.builtin "any") (rAny K) := by subst e; exact cr_any hc
theorem kcr_sum (e : X.K = K) (hc : X.calm = true) : CallR X (.builtin "sum") (rSum K) := by subst e; exact cr_sum hc
theorem kop_catA (e : X.K = K) : OpR X (binaryOp .Add) (rCatA K) := by subst e; exact op_catA
theorem kop_repT (e : X.K = K) : OpR X (binaryOp .Mult) (rRepT K) := by subst e; exact op_repT
theorem ksl_tupA (e : X.K = K) : SlR X (rSlA K) := by subst e; exact sl_tupA
theorem kix_kdict {w : World} (e : X.K = K) (ew : X.w = w) : IxR X (rIxD K w) := by subst e; subst ew; exact ix_kdict
theorem kpg_star {e1 e2 : Expr} {k : Nat} {pos p2 : Pos} {g1 g2 : TG} (ek : X.K = K) (hc : X.calm = true) (h1 : PG X e1 g1) (h2 : PG X e2 g2)
    (hn : (assignEach [e1, .Starred e2 p2] X.env).length = 2 := by rfl) (hst : (assignEach [e1, .Starred e2 p2] X.env).findIdx? (·.1) = some 1 := by rfl)
    (hm : (assignEach [e1, .Starred e2 p2] X.env).map (·.2) = [assign e1 X.env, assign e2 X.env] := by rfl) : PG X (.Tuple [e1, .Starred e2 p2] k pos) (gStar K g1 g2) := by subst ek; exact pg_star hc h1 h2 hn hst hm
end
end Ob
/-! Ob: a promise where no list is being shown above (for repr); the law's end for such a promise -/
namespace Ob
open PySem PySem.Spec PyProof.Rows L2 StX

/-- room, and nothing is being shown by repr above -/
structure RoomG (k : Nat) (A : Around) : Prop where
  r : Room k A
  g : A.guards = some []
theorem RoomG.mono {j k : Nat} {A : Around} (h : RoomG k A) (e : j ≤ k) : RoomG j A := ⟨h.r.mono e, h.g⟩
theorem RoomG.deeper {k : Nat} {A : Around} (h : RoomG (k + 1) A) (env : Env) : RoomG k (A.deeper env) := ⟨h.r.deeper env, h.g⟩
/-- a def's promise there -/
def FnG (P : Program) (w : World) (K : PySem.W.Frag) (mg : Str → Option Value) (base : Heap) (CX : CXT) (k : Nat) (f : Addr) (sp : Sp) : Prop :=
  ∀ (A : Around) (outer : List Env) (s : Shared) (H : Hp) (us : List Value) (vs : List V) (Q : VK) (E : XK), RoomG k A → Env0 P w K mg base A outer s H → Vals vs us → sp vs H Q E →
    codeAny (model P w) A (.call (.ref f) ⟨us, []⟩) (CR CX outer P w H s Q E) s
section
variable {P : Program} {w : World} {K : PySem.W.Frag} {mg : Str → Option Value} {base : Heap} {CX : CXT} {j k : Nat} {f : Addr} {sp sp' : Sp}
theorem FnG.of {k : Nat} (F : FnR P w K mg base CX k f sp) : FnG P w K mg base CX k f sp := fun A outer s H us vs Q E hr => F A outer s H us vs Q E hr.r
theorem FnG.mono (F : FnG P w K mg base CX j f sp) (h : j ≤ k) : FnG P w K mg base CX k f sp := fun A outer s H us vs Q E hr => F A outer s H us vs Q E (hr.mono h)
theorem fnG_of {name qual : Str} {params : Arguments} {body : List Stmt} {scope : Scope} {dV kV doc pm cdv ct oc : Value} {an od : Option Addr} {osl : Array (Option Value)} {N ps : List Str}
    (lk : K.lookup f = some ⟨oc, od, .func (PySem.W.fnOf name qual params body scope dV kV doc pm an cdv ct), osl⟩) (hcd : PySem.W.codeIn K cdv qual = true) (S : FnScope N ps scope)
    (hb : ∀ us : List Value, us.length = ps.length → bindArgs (PySem.W.fnOf name qual params body scope dV kV doc pm an cdv ct) ⟨us, []⟩ = pure (ps.zip us))
    (len : ∀ vs H Q E, sp vs H Q E → vs.length = ps.length)
    (hbody : ∀ (A : Around) (outer : List Env) (s : Shared) (H : Hp) (vs : List V) (Q : VK) (E : XK), RoomG k (A.deeper (envOfC qual scope s.heap.objs.size f cdv)) → sp vs H Q E →
      ∃ t, PSs (cxOf CX P w K mg base N qual scope f cdv A outer s H E) body t ∧ t { nx := fun _ H' => Q .non H', rt := Q } (start N vs) H) :
    FnG P w K mg base CX (k + 1) f sp := by
  intro A outer s H us vs Q E hr e0 r hsp
  have hl : us.length = ps.length := by rw [← r.length]; exact len _ _ _ _ hsp
  have kp : ∀ b o, base.get? b = some o → s.heap.get? b = some o := fun b o e => (e0.bs b o e).1
  have KX : K.In s.heap := e0.mod.kin.keeps kp
  have places : ∀ y ∈ ps.zip us, scope.names.lookup y.1 = some .local ∨ (scope.names.lookup y.1 = some .cell ∧ ((cellsFrom (s.heap.objs.size + 1) scope.names []).lookup y.1).isSome = true) := by
    rintro ⟨n, v⟩ hy
    exact (S.par n (List.of_mem_zip hy).1).imp id fun q => ⟨q, PySem.W.cellsFrom_some _ _ _ (.inl q)⟩
  refine codeAny_call_function hr.r.depth (KX _ _ lk) rfl S.co S.gen rfl (PySem.W.codeRec_of KX hcd) (BindsTo.of_eq (hb us hl) _ _ _ _ ?_)
  refine wpAny_newFunctionEnv_cells S.kind places fun env he s1 x => ?_
  subst he
  refine ⟨(e0.mod.nolimit.keeps kp).keeps x.toInCall.keep, codeAny_func ?_⟩
  obtain ⟨t, ht, hq⟩ := hbody A outer s H vs Q E (hr.deeper _) hsp
  have I : Inv (cxOf CX P w K mg base N qual scope f cdv A outer s H E) [] (start N vs) H s1 := inv_start S hr.r.hd e0 (len _ _ _ _ hsp) r x
  refine wpAny_mono (ht.run [] s1 (start N vs) H _ I hq) (fun fl s' hs => ?_) fun e s' hs => hs
  cases fl with
  | ret u =>
    obtain ⟨v, σ', H', J, rv, q⟩ := hs
    exact ⟨v, H', J.os, J.bare, J.base, J.hok, rv, q⟩
  | next =>
    obtain ⟨σ', H', J, q⟩ := hs
    exact ⟨.non, H', J.os, J.bare, J.base, J.hok, rfl, q⟩
  | brk =>
    obtain ⟨_, _, _, q⟩ := hs
    exact False.elim q
  | cont =>
    obtain ⟨_, _, _, q⟩ := hs
    exact False.elim q
end
section
variable {fa : List He.Fa} {fn : List He.DefD} {ts : List He.Tab} {ex : PySem.W.Frag → Bool} {w : World} {K : PySem.W.Frag} {mg : Str → Option Value}
/-- a def of the text, without defaults; nothing raised -/
theorem Tp.okG {P : Program} {base : Heap} {k : Nat} {sp : Sp} (T : Tp fa fn ts ex w K mg) (i : Nat) {d : He.DefD} (h : fn[i]? = some d) (hd : d.dfl = []) (hk : d.kwd = []) {N ps : List Str} (S : FnScope N ps d.scope)
    (hb : ∀ (kV doc pm : Value) (an : Option Addr) (cdv ct : Value) (us : List Value), us.length = ps.length → bindArgs (PySem.W.fnOf d.name d.qual d.params d.body d.scope .none kV doc pm an cdv ct) ⟨us, []⟩ = pure (ps.zip us))
    (len : ∀ vs H Q E, sp vs H Q E → vs.length = ps.length)
    (hbody : ∀ (cdv : Value) (A : Around) (outer : List Env) (s : Shared) (H : Hp) (vs : List V) (Q : VK) (E : XK), RoomG k (A.deeper (envOfC d.qual d.scope s.heap.objs.size (He.fAd K d.at_) cdv)) → sp vs H Q E →
      ∃ t, PSs (cxOf CX0 P w K mg base N d.qual d.scope (He.fAd K d.at_) cdv A outer s H E).nox d.body t ∧ t { nx := fun _ H' => Q .non H', rt := Q } (start N vs) H) :
    FnG P w K mg base CX0 (k + 1) (He.fAd K d.at_) sp := by
  obtain ⟨fd, F⟩ := T.c.def_ i h
  have e1 : d.dvs K = [] := by unfold He.DefD.dvs; rw [hd]; rfl
  have e2 : d.kws K = [] := by unfold He.DefD.kws; rw [hk]; rfl
  rw [e1, e2] at F
  obtain ⟨oc, od, dV, kV, doc, pm, an, cdv, ct, osl, rfl, lk, hcd, hD, hK⟩ := F.ex
  rcases hD with ⟨_, rfl⟩ | ⟨e, _⟩
  · refine fnG_of lk hcd S (fun us hl => hb kV doc pm an cdv ct us hl) len fun A outer s H vs Q E hr hsp => ?_
    obtain ⟨t, a, b⟩ := hbody cdv A outer s H vs Q E hr hsp
    exact ⟨t, a.nox, b⟩
  · exact absurd rfl e
end
/-- a call by the global's name, there -/
theorem pcG {X : Cx} {CX : CXT} {k : Nat} {x : Str} {sp : Sp} {E : XK} {e : Expr} {es : List Expr} {t : TA} {p pos : Pos} (F : FnG X.prog X.w X.K X.mg X.base CX k (He.ga X.K x) sp) (hr : RoomG k X.A) (hm : X.mg x = some (.ref (He.ga X.K x)))
    (hk : PySem.W.keepIn X.K (.ref (He.ga X.K x)) = true) (hx : Passes CX X E) (ha : PA X (e :: es) t) (hg : Gl X x := by rfl) (hd : (x == ("__debug__" : Str)) = false := by decide)
    (he : starEach (e :: es) X.env = (false, eval e X.env) :: starEach es X.env := by rfl) (hpl : (backTo pos (starEach es X.env)).any (·.1) = false := by rfl) :
    PE X (.Call (.Name x p) (e :: es) [] pos) (tCl sp E t) := by
  refine ⟨fun pins s σ H Q I h => ?_⟩
  refine wpAny_Call_Name_kw (ld_glob I hg hm ?_ hd)
  refine PySem.W.callWith_K (h₀ := X.base) I.ok.mod.kin hk (thn (ha.run pos pins s σ H _ I h) fun us s1 ⟨vs, H1, I1, r, q⟩ => ⟨I1.kIn, wpAny_call ?_⟩) he hpl
  refine codeAny_mono (F X.A X.stack s1 H1 us vs Q E hr I1.env0 r q) fun r s' hq => ?_
  cases r with
  | error e => exact hx pins σ H1 s1 e s' I1 hq
  | ok fl =>
    cases fl with
    | ret u => exact I1.after hq
    | next => exact False.elim hq
    | brk => exact False.elim hq
    | cont => exact False.elim hq
/-! ### repr -/
def Shows (d : PyData) : Prop := d.showable = true ∧ d.hasDict = false ∧ d.depth ≤ 60 ∧ d.shown.length ≤ sizeLine
def rRepr (K : PySem.W.Frag) : List V → Hp → VK → Prop := fun xs H Q => ∃ a d, xs = [.ref a] ∧ Dp K H (.ref a) d ∧ Shows d ∧ Q (.str d.shown) H
theorem call_reprG {X : Cx} {k : Nat} (hr : RoomG k X.A) : CallR X (.builtin "repr") (rRepr X.K) := by
  intro pins s σ H xs us Q I r h
  obtain ⟨a, d, rfl, hd, ⟨h1, h2, h3, h4⟩, q⟩ := h
  obtain ⟨u, rfl, rx⟩ := vals1 r
  obtain ⟨as, rd⟩ := Dp.reads I d _ _ hd rx
  have e : u = .ref a := rx
  subst e
  refine repr_of_reads' rd h1 (fun z => by rw [h2] at z; cases z) hr.g (by have := hr.r.units; omega) (fun _ _ e => e) (fun h' u tk hk => ?_) h4
  exact ⟨.str d.shown, H, I.kept (t' := tk) hk, ⟨u, rfl⟩, q⟩
end Ob
namespace Ob
open PySem PySem.Spec PyProof.Rows L2
/-! ### the law's end -/
theorem law_callG {P : Program} {w : World} {K : PySem.W.Frag} {mg mb : Str → Option Value} {k : Nat} {fa a : Addr} {sp : Sp} {s₁ : Shared} {vs : List Value} {ns : List Int}
    (KX : K.In s₁.heap) (hns : s₁.heap.Ns mainGlobals mg) (hb : s₁.heap.Ns builtinsNs mb) (hbb : ∀ x : Str, x ≠ "__name__" → mb x = bootBuiltins x) (hlim : s₁.heap.NoLimit) (hg : s₁.gens = #[])
    (ha : s₁.heap.get? a = some { cls := .type "list", data := .seq vs.toArray }) (hi : IntsAre vs ns) (hl : ns.length ≤ sizeLine) (hr : RoomG k callerA)
    (F : ∀ base : Heap, K.In base → base.Ns mainGlobals mg → FnG P w K mg base CX0 k fa sp)
    (hsp : ∀ H : Hp, Only H → SqL K H a (ns.map V.int) → sp [.ref a] H (fun v _ => v = .bl true) fun _ _ _ => False) :
    codeAny (model P w) callerA (.call (.ref fa) ⟨[.ref a], []⟩) (fun r s' => r = .ok (.ret (.bool true)) ∧ OldK s₁.heap s'.heap ∧ s'.os = s₁.os ∧ AllBare s'.gens) s₁ := by
  have rv := vals_ints hi
  have main : ∀ H : Hp, Only H → SqL K H a (ns.map V.int) → HOk P w H s₁.heap → (∀ b, H b ≠ none → b = a) → (H a ≠ none → K.lookup a = none) →
      codeAny (model P w) callerA (.call (.ref fa) ⟨[.ref a], []⟩) (fun r s' => r = .ok (.ret (.bool true)) ∧ OldK s₁.heap s'.heap ∧ s'.os = s₁.os ∧ AllBare s'.gens) s₁ := by
    intro H hO hS hok hA hK
    have other : ∀ {b : Addr}, (b = a → False) → H b = none := fun {b} n => by
      cases q : H b with
      | none => rfl
      | some u => exact (n (hA b (by rw [q]; simp))).elim
    have noDict : ∀ {b : Addr} {o : Obj} {es : Array DictEntry} {ep : Nat}, s₁.heap.get? b = some o → o.data = .dict es ep → H b = none := fun {b o es ep} e d => other fun z => by
      subst z
      rw [ha] at e
      cases e
      cases (show Data.seq vs.toArray _ = Data.dict es ep from d)
    have nsK : ∀ {b : Addr} {m : Str → Option Value}, s₁.heap.Ns b m → (hidT s₁.heap H).Ns b m := fun {b m} ⟨o, es, ep, e, d, r⟩ => ⟨o, es, ep, hidT_get e (noDict e d), d, r⟩
    have inK : K.In (hidT s₁.heap H) := fun b o e => hidT_get (KX b o e) (by
      by_cases n : H b = none
      · exact n
      · have z := hA b n
        subst z
        rw [hK n] at e
        cases e)
    have hM : Mod K mg (hidT s₁.heap H) := ⟨inK, nsK hns, ⟨mb, nsK hb, hbb⟩, let ⟨mc, h1, h2⟩ := hlim; ⟨mc, nsK h1, h2⟩⟩
    have e0 : Env0 P w K mg (hidT s₁.heap H) callerA [] s₁ H := ⟨rfl, hM, fun b o e => of_hidT e, Nat.le_of_eq (hidT_size _ _), trivial, fun b hb => absurd (show b ∈ ([] : List Addr) from hb) (by simp), hok, .of_eq hg⟩
    refine codeAny_mono (F _ inK (nsK hns) callerA [] s₁ H [.ref a] [.ref a] _ _ hr e0 (.cons rfl .nil) (hsp H hO hS)) fun r s' h => ?_
    cases r with
    | error e => exact (show False from h).elim
    | ok fl =>
      cases fl with
      | next => exact False.elim h
      | brk => exact False.elim h
      | cont => exact False.elim h
      | ret u =>
        obtain ⟨v, H', os, bare, un, hok', r', q⟩ := h
        obtain rfl : v = .bl true := q
        obtain rfl : u = Value.bool true := r'
        refine ⟨rfl, OldK.of_keep fun b o e => ?_, os, bare⟩
        rcases hO b with q | ⟨ob, xs, q⟩
        · exact un.keep b o e q (by intro z; exact absurd (show b ∈ ([] : List Addr) from z) (by simp)) (by simp)
        · obtain ⟨e1, _⟩ := hok b _ q
          obtain ⟨e2, _⟩ := hok' b _ (un.frzs b ob _ q)
          rw [e] at e1
          cases e1
          exact e2
  cases hk : K.lookup a with
  | some o =>
    have e := KX a o hk
    rw [ha] at e
    cases e
    exact main (fun _ => none) (fun _ => .inl rfl) (.inr ⟨_, vs.toArray, _, hk, rfl, rfl, rfl, by rw [List.size_toArray, hi.length]; exact hl, by simpa using rv⟩) (fun b u z => by cases (show (none : Option HO) = some u from z)) (fun b z => absurd rfl z) fun z => absurd rfl z
  | none =>
    refine main (fun b => if b = a then some (.frz { cls := .type "list", data := .seq vs.toArray } (.lst (ns.map V.int))) else none) (fun b => ?_) (.inl (.inr ⟨{ cls := .type "list", data := .seq vs.toArray }, if_pos rfl⟩)) (fun b u z => ?_) (fun b z => ?_) fun _ => hk
    · by_cases hb : b = a
      · exact .inr ⟨_, _, if_pos hb⟩
      · exact .inl (if_neg hb)
    · by_cases hb : b = a
      · cases (if_pos hb).symm.trans z
        subst hb
        exact ⟨ha, by rw [List.length_map]; exact hl, vs, _, rv, ha⟩
      · cases (if_neg hb).symm.trans z
    · by_cases hb : b = a
      · exact hb
      · exact absurd (if_neg hb) z
theorem roomG_caller {k : Nat} (h : Room k callerA) : RoomG k callerA := ⟨h, rfl⟩
theorem walkG {l : PySem.W.OpenLaw} {n k : Nat} {q : Program} {loose : List Str} {XP : (Str → Option Value) → Heap → Prop} {YP : World → Heap → Prop} {d : DefRec}
    (hn : l.most = some n) (hn2 : n ≤ sizeLine) (hdf : d.params.defaults = []) (hr : Room k callerA)
    (F : ∀ (w : World) (mg : Str → Option Value) (fa : Addr) (h : Heap), YP w h → h.Ns mainGlobals mg → mg d.name = some (.ref fa) →
      ∃ (K : PySem.W.Frag) (sp : Sp), K.In h ∧ (∀ (H : Hp) (a : Addr) (ns : List Int), ns.length ≤ n → Only H → SqL K H a (ns.map V.int) → sp [.ref a] H (fun v _ => v = .bl true) fun _ _ _ => False) ∧
        ∀ base : Heap, K.In base → base.Ns mainGlobals mg → FnG l.prog w K mg base CX0 k fa sp) :
    PySem.W.WalkO q loose XP YP l.row.toRowW d [] (fun f vs => PySem.call f vs) := by
  refine Att.attach_call hn hdf fun w s₀ s₁ mg mb fa o pm cd doc a vs ns G Y ho hd hcd hmg hobj hints hlen hg => ?_
  obtain ⟨K, sp, KX, hsp, hF⟩ := F w mg fa _ Y G.T.g hmg
  exact law_callG KX G.T.g G.T.b G.T.builtins G.T.nolimit hg hobj hints (Nat.le_trans hlen hn2) (roomG_caller hr) hF fun H hO hS => hsp H a ns hlen hO hS
end Ob
/-! Ob: displays of data; what the drawn parts keep while the bag is drawn from -/
namespace Ob
open PySem PySem.Spec PyProof.Rows L2 StX

/-! ### what is left out -/
theorem same_new {H : Hp} {p : Addr} {o : HO} (h : H p = none) : Same H (upd H p o) := fun b u e => by rw [upd_ne (ne_of_none e h)]; exact e
/-- the heap without some objects -/
def wo (S : List Addr) (H : Hp) : Hp := fun a => if a ∈ S then none else H a
theorem wo_in {S : List Addr} {H : Hp} {a : Addr} (h : a ∈ S) : wo S H a = none := if_pos h
theorem wo_out {S : List Addr} {H : Hp} {a : Addr} (h : a ∉ S) : wo S H a = H a := if_neg h
theorem wo_some {S : List Addr} {H : Hp} {a : Addr} {o : HO} (h : wo S H a = some o) : a ∉ S ∧ H a = some o := by
  by_cases q : a ∈ S
  · rw [wo_in q] at h; cases h
  · rw [wo_out q] at h; exact ⟨q, h⟩
theorem wo_le {S : List Addr} {H : Hp} : Same (wo S H) H := fun a o h => (wo_some h).2
theorem wo_sub {S T : List Addr} {H : Hp} (h : ∀ a ∈ T, a ∈ S) : Same (wo S H) (wo T H) := fun a o q => by
  obtain ⟨n, e⟩ := wo_some q
  rw [wo_out fun z => n (h a z)]; exact e
theorem wo_same {S : List Addr} {H H' : Hp} (s : Same H H') : Same (wo S H) (wo S H') := fun a o q => by
  obtain ⟨n, e⟩ := wo_some q
  rw [wo_out n]; exact s _ _ e
theorem wo_put {S : List Addr} {H : Hp} {b : Addr} {o : HO} (h : b ∈ S) : wo S (upd H b o) = wo S H := by
  funext a
  by_cases q : a ∈ S
  · rw [wo_in q, wo_in q]
  · rw [wo_out q, wo_out q, upd_ne fun z => q (by rw [z]; exact h)]
theorem wo_new {S : List Addr} {H : Hp} {p : Addr} {o : HO} (h : H p = none) : Same (wo S H) (wo S (upd H p o)) := wo_same (same_new h)
/-- a new object is left out as well -/
theorem wo_cons {S : List Addr} {H : Hp} {p : Addr} (h : H p = none) : Same (wo S H) (wo (p :: S) H) := fun a o q => by
  obtain ⟨n, e⟩ := wo_some q
  rw [wo_out fun z => ?_]
  · exact e
  · rcases List.mem_cons.mp z with z | z
    · rw [z, h] at e; cases e
    · exact n z
theorem same_tx {S : List Addr} {H H' : Hp} (s : Same (wo S H) (wo S H')) : Same (wo S H) H' := s.trans wo_le
theorem wo_upd {S : List Addr} {H : Hp} {p : Addr} {o : HO} (h : p ∉ S) : wo S (upd H p o) = upd (wo S H) p o := by
  funext a
  by_cases q : a = p
  · subst q
    rw [wo_out h, upd_same, upd_same]
  · rw [upd_ne q]
    by_cases z : a ∈ S
    · rw [wo_in z, wo_in z]
    · rw [wo_out z, wo_out z, upd_ne q]
theorem wo_none {S : List Addr} {H : Hp} {p : Addr} (h : H p = none) : wo S H p = none := by
  by_cases q : p ∈ S
  · exact wo_in q
  · rw [wo_out q]; exact h
/-! ### displays of data -/
theorem pe_weak {X : Cx} {e : Expr} {t t' : TE} (h : PE X e t) (i : ∀ σ H Q, t' σ H Q → t σ H Q) : PE X e t' := ⟨fun pins s σ H Q I q => h.run pins s σ H Q I (i σ H Q q)⟩
theorem pa_weak {X : Cx} {e : List Expr} {t t' : TA} (h : PA X e t) (i : ∀ σ H Q, t' σ H Q → t σ H Q) : PA X e t' := ⟨fun pos pins s σ H Q I q => h.run pos pins s σ H Q I (i σ H Q q)⟩
/-- names that hold data -/
abbrev Rho := Nat → PyData
def EnvD (K : PySem.W.Frag) (is : List Nat) (ρ : Rho) (σ : L2.St) (H : Hp) : Prop := ∀ i ∈ is, ∃ v, σ[i]? = some (some v) ∧ Dp K H v (ρ i)
theorem envD_nil {K : PySem.W.Frag} {ρ : Rho} {σ : L2.St} {H : Hp} : EnvD K [] ρ σ H := fun _ h => by cases h
theorem envD_cons {K : PySem.W.Frag} {σ : L2.St} {H : Hp} {i : Nat} {v : V} {is : List Nat} {ρ : Rho} (e : σ[i]? = some (some v)) (h : Dp K H v (ρ i)) (r : EnvD K is ρ σ H) : EnvD K (i :: is) ρ σ H := fun p hp => by
  rcases List.mem_cons.mp hp with q | q
  · rw [q]; exact ⟨v, e, h⟩
  · exact r p q
theorem EnvD.same {K : PySem.W.Frag} {σ : L2.St} {H H' : Hp} {is : List Nat} {ρ : Rho} (s : Same H H') (h : EnvD K is ρ σ H) : EnvD K is ρ σ H' := fun p hp => let ⟨v, a, b⟩ := h p hp; ⟨v, a, Dp.same s _ _ b⟩
/-- S: objects that the data do not hold -/
def tDat (K : PySem.W.Frag) (is : List Nat) (f : Rho → PyData) : TE := fun σ H Q => ∃ S ρ, (∀ a ∈ S, H a ≠ none) ∧ EnvD K is ρ σ (wo S H) ∧ ∀ v H', Same H H' → Dp K (wo S H') v (f ρ) → Q v H'
def aDat (K : PySem.W.Frag) (is : List Nat) (F : Rho → List PyData) : TA := fun σ H Q => ∃ S ρ, (∀ a ∈ S, H a ≠ none) ∧ EnvD K is ρ σ (wo S H) ∧ ∀ vs H', Same H H' → DpAll K (wo S H') vs (F ρ) → Q vs H'
theorem all_same {S : List Addr} {H H' : Hp} (s : Same H H') (h : ∀ a ∈ S, H a ≠ none) : ∀ a ∈ S, H' a ≠ none := fun a ha z => h a ha (s.free z)
theorem not_mem_new {S : List Addr} {H : Hp} {p : Addr} (h : ∀ a ∈ S, H a ≠ none) (hp : H p = none) : p ∉ S := fun z => h p z hp
theorem dw_newTup {K : PySem.W.Frag} {S : List Addr} {H : Hp} {p : Addr} {vs : List V} {ds : List PyData} (hS : ∀ a ∈ S, H a ≠ none) (h : H p = none) (a : DpAll K (wo S H) vs ds) : Dp K (wo S (upd H p (.tup vs))) (.ref p) (.tuple ds) := by
  rw [wo_upd (not_mem_new hS h)]
  exact .tup (SqT.of upd_same) (DpAll.same (same_new (wo_none h)) _ _ a)
theorem dw_newLst {K : PySem.W.Frag} {S : List Addr} {H : Hp} {p : Addr} {vs : List V} {ds : List PyData} (hS : ∀ a ∈ S, H a ≠ none) (h : H p = none) (a : DpAll K (wo S H) vs ds) : Dp K (wo S (upd H p (.lst vs))) (.ref p) (.list ds) := by
  rw [wo_upd (not_mem_new hS h)]
  exact .lst (SqL.of upd_same) (DpAll.same (same_new (wo_none h)) _ _ a)
section
variable {X : Cx} {K : PySem.W.Frag} {is : List Nat} {e : Expr} {es : List Expr} {pos : Pos} {k : Nat}
theorem pdt_non (h : PE X e (tC .non)) : PE X e (tDat K is fun _ => .none) := pe_weak h fun σ H Q ⟨_, _, _, _, q⟩ => q _ _ (Same.refl _) .non
theorem pdt_bl {b : Bool} (h : PE X e (tC (.bl b))) : PE X e (tDat K is fun _ => .bool b) := pe_weak h fun σ H Q ⟨_, _, _, _, q⟩ => q _ _ (Same.refl _) (.bl b)
theorem pdt_int {i : Int} (h : PE X e (tC (.int i))) : PE X e (tDat K is fun _ => .int i) := pe_weak h fun σ H Q ⟨_, _, _, _, q⟩ => q _ _ (Same.refl _) (.int i)
theorem pdt_neg {i : Int} {r : V → Hp → VK → Prop} (hu : PE X e (tUn r (tC (.int i)))) (hr : ∀ H Q, Q (.int (-i)) H → r (.int i) H Q) : PE X e (tDat K is fun _ => .int (-i)) := pe_weak hu fun σ H Q ⟨_, _, _, _, q⟩ => hr _ _ (q _ _ (Same.refl _) (.int (-i)))
theorem pdt_str {x : Str} (h : PE X e (tC (.str x))) : PE X e (tDat K is fun _ => .str x) := pe_weak h fun σ H Q ⟨_, _, _, _, q⟩ => q _ _ (Same.refl _) (.str x)
theorem pdt_var {i : Nat} (h : PE X e (tVar i)) (m : i ∈ is) : PE X e (tDat K is fun ρ => ρ i) := pe_weak h fun σ H Q ⟨_, _, _, n, q⟩ => let ⟨v, a, b⟩ := n _ m; ⟨v, a, q _ _ (Same.refl _) b⟩
theorem pat_nil (h : PA X [] tNil) : PA X [] (aDat K is fun _ => []) := pa_weak h fun σ H Q ⟨_, _, _, _, q⟩ => q _ _ (Same.refl _) .nil
theorem pat_cons {d : Rho → PyData} {ds : Rho → List PyData} (h : PE X e (tDat K is d)) (r : PA X es (aDat K is ds)) (hs : starEach (e :: es) X.env = (false, eval e X.env) :: starEach es X.env := by rfl) : PA X (e :: es) (aDat K is fun ρ => d ρ :: ds ρ) :=
  pa_weak (pa_cons h r hs) fun σ H Q ⟨S, ρ, hS, n, q⟩ => ⟨S, ρ, hS, n, fun v H1 s1 a => ⟨S, ρ, all_same s1 hS, n.same (wo_same s1), fun vs H2 s2 b => q _ _ (s1.trans s2) (.cons (Dp.same (wo_same s2) _ _ a) b)⟩⟩
theorem pdt_tup {ds : Rho → List PyData} (h : PA X es (aDat K is ds)) (hz : ∀ ρ, (ds ρ).length ≤ 1000 := by intro _; simp) : PE X (.Tuple es k pos) (tDat K is fun ρ => .tuple (ds ρ)) :=
  pe_weak (pe_tup h) fun σ H Q ⟨S, ρ, hS, n, q⟩ => ⟨S, ρ, hS, n, fun vs H1 s1 a => ⟨by rw [DpAll.length a, sizeLine_eq]; have := hz ρ; omega, fun p hp => q _ _ (s1.trans (same_new hp)) (dw_newTup (all_same s1 hS) hp a)⟩⟩
theorem pdt_lst {ds : Rho → List PyData} (h : PA X es (aDat K is ds)) (hz : ∀ ρ, (ds ρ).length ≤ 1000 := by intro _; simp) : PE X (.List es pos) (tDat K is fun ρ => .list (ds ρ)) :=
  pe_weak (pe_lst h) fun σ H Q ⟨S, ρ, hS, n, q⟩ => ⟨S, ρ, hS, n, fun vs H1 s1 a => ⟨by rw [DpAll.length a, sizeLine_eq]; have := hz ρ; omega, fun p hp => q _ _ (s1.trans (same_new hp)) (dw_newLst (all_same s1 hS) hp a)⟩⟩
end
theorem dp_lst {K : PySem.W.Frag} {H : Hp} {v : V} {ds : List PyData} (h : Dp K H v (.list ds)) : ∃ a vs, v = .ref a ∧ SqL K H a vs ∧ DpAll K H vs ds := by
  cases h with
  | lst a b => exact ⟨_, _, rfl, a, b⟩

/-! ### the bag -/
def Bag (H : Hp) (b : Addr) : Prop := ∃ g r c : Int, 0 ≤ g ∧ 0 ≤ r ∧ r < 2147483647 ∧ H b = some (.lst [.int g, .int r, .int c])
theorem Bag.same {H H' : Hp} {b : Addr} (s : Same H H') (h : Bag H b) : Bag H' b := let ⟨g, r, c, h1, h2, h3, h4⟩ := h; ⟨g, r, c, h1, h2, h3, s _ _ h4⟩
theorem Bag.some {H : Hp} {b : Addr} (h : Bag H b) : H b ≠ none := fun z => by
  obtain ⟨g, r, c, _, _, _, h4⟩ := h
  rw [z] at h4; cases h4
theorem Bag.ne {H : Hp} {b p : Addr} (h : Bag H b) (hp : H p = none) : p ≠ b := fun z => h.some (by rw [← z]; exact hp)
theorem Bag.new {H : Hp} {b p : Addr} {o : HO} (h : Bag H b) (hp : H p = none) : Bag (upd H p o) b := h.same (same_new hp)
/-- from H on: the bag is drawn from, all else stays -/
structure Go (b : Addr) (H H' : Hp) : Prop where
  bag : Bag H' b
  same : Same (wo [b] H) (wo [b] H')
theorem Go.refl {b : Addr} {H : Hp} (h : Bag H b) : Go b H H := ⟨h, Same.refl _⟩
theorem Go.trans {b : Addr} {H H1 H2 : Hp} (g : Go b H H1) (h : Go b H1 H2) : Go b H H2 := ⟨h.bag, g.same.trans h.same⟩
theorem Go.step {b : Addr} {H H1 H2 : Hp} (g : Go b H H1) (s : Same H1 H2) : Go b H H2 := ⟨g.bag.same s, g.same.trans (wo_same s)⟩
theorem Go.new {b p : Addr} {H H1 : Hp} {o : HO} (g : Go b H H1) (h : H1 p = none) : Go b H (upd H1 p o) := g.step (same_new h)
theorem Go.of {b : Addr} {H H1 : Hp} (h : Bag H b) (s : Same H H1) : Go b H H1 := (Go.refl h).step s
/-- an object that is not the bag stays -/
theorem Go.keep {b a : Addr} {H H' : Hp} {o : HO} (g : Go b H H') (h : H a = some o) (n : a ≠ b) : H' a = some o := (wo_some (g.same a o (by rw [wo_out (by simpa using n)]; exact h))).2
/-- data that does not hold the bag -/
abbrev Db (K : PySem.W.Frag) (b : Addr) (H : Hp) (v : V) (d : PyData) : Prop := Dp K (wo [b] H) v d
abbrev DbAll (K : PySem.W.Frag) (b : Addr) (H : Hp) (vs : List V) (ds : List PyData) : Prop := DpAll K (wo [b] H) vs ds
theorem Go.db {K : PySem.W.Frag} {b : Addr} {H H' : Hp} {v : V} {d : PyData} (g : Go b H H') (h : Db K b H v d) : Db K b H' v d := Dp.same g.same _ _ h
theorem Go.dbAll {K : PySem.W.Frag} {b : Addr} {H H' : Hp} {vs : List V} {ds : List PyData} (g : Go b H H') (h : DbAll K b H vs ds) : DbAll K b H' vs ds := DpAll.same g.same _ _ h
theorem Db.dp {K : PySem.W.Frag} {b : Addr} {H : Hp} {v : V} {d : PyData} (h : Db K b H v d) : Dp K H v d := Dp.same wo_le _ _ h
theorem DbAll.dp {K : PySem.W.Frag} {b : Addr} {H : Hp} {vs : List V} {ds : List PyData} (h : DbAll K b H vs ds) : DpAll K H vs ds := DpAll.same wo_le _ _ h
theorem Bag.all {H : Hp} {b : Addr} (h : Bag H b) : ∀ a ∈ [b], H a ≠ none := fun a ha => by
  rw [List.mem_singleton.mp ha]; exact h.some
theorem Db.newTup {K : PySem.W.Frag} {b p : Addr} {H : Hp} {vs : List V} {ds : List PyData} (hb : Bag H b) (h : H p = none) (a : DbAll K b H vs ds) : Db K b (upd H p (.tup vs)) (.ref p) (.tuple ds) := dw_newTup hb.all h a
theorem Db.newLst {K : PySem.W.Frag} {b p : Addr} {H : Hp} {vs : List V} {ds : List PyData} (hb : Bag H b) (h : H p = none) (a : DbAll K b H vs ds) : Db K b (upd H p (.lst vs)) (.ref p) (.list ds) := dw_newLst hb.all h a
theorem x_gSub {to ti : TE} {r : V → V → V → Hp → (Hp → Prop) → Prop} {v : V} {σ : L2.St} {H : Hp} {Q : L2.St → Hp → Prop} (h : to σ H fun o H1 => ti σ H1 fun i H2 => r o i v H2 fun H3 => Q σ H3) : gSub to ti r v σ H Q := h
theorem x_setL {p : Addr} {xs : List V} {k : Int} {v : V} {H : Hp} {Q : Hp → Prop} {j : Nat} (h : H p = some (.lst xs)) (e : ixN xs.length k = some j) (q : Q (upd H p (.lst (xs.set j v)))) : rSetL (.ref p) (.int k) v H Q := ⟨p, xs, k, j, rfl, rfl, h, e, q⟩
/-- what drawing gives -/
def Drawn (K : PySem.W.Frag) (b : Addr) (Vd : PyData → Prop) (H : Hp) (Q : VK) : Prop := ∀ v H' d, Go b H H' → Db K b H' v d → Vd d → Q v H'
end Ob
/-! Ob: drawing, comprehensions that draw -/
namespace Ob
open PySem PySem.Spec PyProof.Rows L2 StX
/-- the bag is among S, all of S stand -/
structure Al (S : List Addr) (b : Addr) (H : Hp) : Prop where
  bag : Bag H b
  mem : b ∈ S
  all : ∀ a ∈ S, H a ≠ none
theorem Go.wo {S : List Addr} {b : Addr} {H H' : Hp} (g : Go b H H') (h : b ∈ S) : Same (wo S H) (wo S H') := fun a o q => by
  obtain ⟨n, e⟩ := wo_some q
  have ne : a ≠ b := fun z => n (by rw [z]; exact h)
  rw [wo_out n]
  exact g.keep e ne
theorem Al.go {S : List Addr} {b : Addr} {H H' : Hp} (al : Al S b H) (g : Go b H H') : Al S b H' := ⟨g.bag, al.mem, fun a ha z => by
  by_cases e : a = b
  · exact g.bag.some (by rw [← e]; exact z)
  · cases q : H a with
    | none => exact al.all a ha q
    | some o => rw [g.keep q e] at z; cases z⟩
theorem Al.same {S : List Addr} {b : Addr} {H H' : Hp} (al : Al S b H) (s : Same H H') : Al S b H' := al.go (Go.of al.bag s)
theorem Al.one {b : Addr} {H : Hp} (h : Bag H b) : Al [b] b H := ⟨h, by simp, h.all⟩
theorem Al.cons {S : List Addr} {b p : Addr} {H : Hp} (al : Al S b H) (h : H p ≠ none) : Al (p :: S) b H := ⟨al.bag, List.mem_cons_of_mem _ al.mem, fun a ha => by
  rcases List.mem_cons.mp ha with e | e
  · rw [e]; exact h
  · exact al.all a e⟩
theorem Go.dw {K : PySem.W.Frag} {S : List Addr} {b : Addr} {H H' : Hp} {v : V} {d : PyData} (g : Go b H H') (h : b ∈ S) (a : Dp K (Ob.wo S H) v d) : Dp K (Ob.wo S H') v d := Dp.same (g.wo h) _ _ a
theorem Go.dwAll {K : PySem.W.Frag} {S : List Addr} {b : Addr} {H H' : Hp} {v : List V} {d : List PyData} (g : Go b H H') (h : b ∈ S) (a : DpAll K (Ob.wo S H) v d) : DpAll K (Ob.wo S H') v d := DpAll.same (g.wo h) _ _ a
/-- an object that is not of H is written -/
theorem Go.put {b p : Addr} {H H1 : Hp} {o : HO} (g : Go b H H1) (h : H p = none) (n : p ≠ b) : Go b H (upd H1 p o) := by
  obtain ⟨gg, r, c, h1, h2, h3, h4⟩ := g.bag
  refine ⟨⟨gg, r, c, h1, h2, h3, by rw [upd_ne (Ne.symm n)]; exact h4⟩, fun a u q => ?_⟩
  obtain ⟨m, e⟩ := wo_some q
  have ne : a ≠ p := ne_of_none e h
  rw [wo_out m, upd_ne ne]
  exact g.keep e (by simpa using m)
/-! ### more displays of data -/
theorem rep_all {K : PySem.W.Frag} {H : Hp} {vs : List V} {ds : List PyData} (h : DpAll K H vs ds) : ∀ n : Nat, DpAll K H (List.replicate n vs).flatten (List.replicate n ds).flatten
  | 0 => by simp; exact .nil
  | n + 1 => by
    rw [List.replicate_succ, List.replicate_succ, List.flatten_cons, List.flatten_cons]
    exact DpAll.app h (rep_all h n)
theorem pdt_rep {X : Cx} {K : PySem.W.Frag} {is : List Nat} {e : Expr} {ds : Rho → List PyData} {n : Nat} (h : PE X e (tOp (rRepT K) (tDat K is fun ρ => .tuple (ds ρ)) (tC (.int n)))) (h1 : ∀ ρ, 1 ≤ (ds ρ).length := by intro _; simp) (h2 : 2 ≤ n := by decide) (h3 : n ≤ 1000 := by decide) (h4 : ∀ ρ, (ds ρ).length ≤ 1000 := by intro _; simp) :
    PE X e (tDat K is fun ρ => .tuple (List.replicate n (ds ρ)).flatten) := by
  refine pe_weak h fun σ H Q ⟨S, ρ, hS, en, q⟩ => ⟨S, ρ, hS, en, fun v H1 s1 a => ?_⟩
  obtain ⟨l, vs, rfl, b1, b2⟩ := dp_tup a
  have hl := DpAll.length b2
  have g1 := h1 ρ
  have g4 := h4 ρ
  refine ⟨l, n, vs, rfl, rfl, sqT_same wo_le b1, ?_, by omega, by omega, by omega, fun p hp => ?_⟩
  · intro z
    rw [z, List.length_nil] at hl
    omega
  · rw [Int.toNat_natCast]
    exact q _ _ (s1.trans (same_new hp)) (dw_newTup (all_same s1 hS) hp (rep_all b2 n))
/-- a list, new -/
def tLsD (K : PySem.W.Frag) (is : List Nat) (ds : Rho → List PyData) : TE := fun σ H Q => ∃ S ρ, (∀ a ∈ S, H a ≠ none) ∧ EnvD K is ρ σ (wo S H) ∧ ∀ l xs H', Same H H' → H l = none → H' l = some (.lst xs) → DpAll K (wo (l :: S) H') xs (ds ρ) → Q (.ref l) H'
theorem pdl_lst {X : Cx} {K : PySem.W.Frag} {is : List Nat} {es : List Expr} {pos : Pos} {ds : Rho → List PyData} (h : PA X es (aDat K is ds)) (hz : ∀ ρ, (ds ρ).length ≤ 1000 := by intro _; simp) : PE X (.List es pos) (tLsD K is ds) :=
  pe_weak (pe_lst h) fun σ H Q ⟨S, ρ, hS, n, q⟩ => ⟨S, ρ, hS, n, fun vs H1 s1 a => ⟨by rw [DpAll.length a, sizeLine_eq]; have := hz ρ; omega, fun p hp => q _ _ _ (s1.trans (same_new hp)) (s1.free hp) upd_same (DpAll.same ((wo_cons hp).trans (wo_same (same_new hp))) _ _ a)⟩⟩
theorem x_lsB {K : PySem.W.Frag} {b : Addr} {S : List Addr} {σ : L2.St} {H : Hp} {Q : VK} {is : List Nat} {ds : Rho → List PyData} (ρ : Rho) (al : Al S b H) (e : EnvD K is ρ σ (wo S H)) (h : ∀ l xs H', Go b H H' → Same H H' → H l = none → H' l = some (.lst xs) → DpAll K (wo S H') xs (ds ρ) → Q (.ref l) H') : tLsD K is ds σ H Q :=
  ⟨S, ρ, al.all, e, fun l xs H' s a b c => h l xs H' (Go.of al.bag s) s a b (DpAll.same (wo_sub fun a ha => List.mem_cons_of_mem _ ha) _ _ c)⟩
theorem x_lsS {K : PySem.W.Frag} {b : Addr} {S : List Addr} {σ : L2.St} {H : Hp} {Q : VK} {is : List Nat} {ds : Rho → List PyData} (ρ : Rho) (al : Al S b H) (e : EnvD K is ρ σ (wo S H)) (h : ∀ l xs H', Go b H H' → Same H H' → H l = none → H' l = some (.lst xs) → DpAll K (wo (l :: S) H') xs (ds ρ) → Q (.ref l) H') : tLsD K is ds σ H Q :=
  ⟨S, ρ, al.all, e, fun l xs H' s a b c => h l xs H' (Go.of al.bag s) s a b c⟩
theorem DpAll.set {K : PySem.W.Frag} {H : Hp} {v : V} {d : PyData} (h : Dp K H v d) : ∀ {vs : List V} {ds : List PyData} (i : Nat), DpAll K H vs ds → DpAll K H (vs.set i v) (ds.set i d)
  | _, _, _, .nil => .nil
  | _, _, 0, .cons _ b => .cons h b
  | _, _, i + 1, .cons a b => .cons a (DpAll.set h i b)
theorem x_datS {K : PySem.W.Frag} {b : Addr} {S : List Addr} {σ : L2.St} {H : Hp} {Q : VK} {is : List Nat} {d : Rho → PyData} (ρ : Rho) (al : Al S b H) (e : EnvD K is ρ σ (wo S H)) (h : ∀ v H', Go b H H' → Same H H' → Dp K (wo S H') v (d ρ) → Q v H') : tDat K is d σ H Q :=
  ⟨S, ρ, al.all, e, fun v H' s a => h v H' (Go.of al.bag s) s a⟩
theorem x_cat {l b : Addr} {xs zs : List V} {H : Hp} {Q : VK} (h1 : H l = some (.lst xs)) (h2 : H b = some (.lst zs)) (hl : xs.length + zs.length ≤ 100000) (q : ∀ p, H p = none → Q (.ref p) (upd H p (.lst (xs ++ zs)))) : rCat (.ref l) (.ref b) H Q :=
  ⟨l, b, xs, zs, rfl, rfl, h1, h2, by rw [sizeLine_eq]; omega, q⟩
/-- what drawing gives: data that hold nothing of S -/
def DrawnS (K : PySem.W.Frag) (b : Addr) (Vd : PyData → Prop) (H : Hp) (Q : VK) : Prop := ∃ S, Al S b H ∧ ∀ v H' d, Go b H H' → Dp K (wo S H') v d → Vd d → Q v H'
inductive Rel2 (R : V → PyData → Prop) : List V → List PyData → Prop
  | nil : Rel2 R [] []
  | cons {x : V} {xs : List V} {d : PyData} {ds : List PyData} : R x d → Rel2 R xs ds → Rel2 R (x :: xs) (d :: ds)
theorem Rel2.app {R : V → PyData → Prop} : ∀ {xs ys : List V} {ds es : List PyData}, Rel2 R xs ds → Rel2 R ys es → Rel2 R (xs ++ ys) (ds ++ es)
  | _, _, _, _, .nil, h => h
  | _, _, _, _, .cons a b, h => .cons a (Rel2.app b h)
theorem Rel2.one {R : V → PyData → Prop} {x : V} {d : PyData} (h : R x d) : Rel2 R [x] [d] := .cons h .nil
theorem Rel2.length {R : V → PyData → Prop} : ∀ {xs : List V} {ds : List PyData}, Rel2 R xs ds → xs.length = ds.length
  | _, _, .nil => rfl
  | _, _, .cons _ b => by simp [Rel2.length b]
theorem Rel2.mem {R : V → PyData → Prop} {d : PyData} : ∀ {xs : List V} {ds : List PyData}, Rel2 R xs ds → d ∈ ds → ∃ x ∈ xs, R x d
  | _, _, .nil, h => by cases h
  | _, _, .cons (x := x) a b, h => by
    rcases List.mem_cons.mp h with e | e
    · rw [e]; exact ⟨x, List.mem_cons_self .., a⟩
    · obtain ⟨y, hy, r⟩ := Rel2.mem b e
      exact ⟨y, List.mem_cons_of_mem _ hy, r⟩
/-- a block that draws -/
theorem lcB {K : PySem.W.Frag} {J : It} {xs : List V} {Hs : Hp → Prop} (S : Src J xs Hs) {g : TG} {tt : TT} {te : TE} {vs : List Nat} {σ : L2.St} {H1 : Hp} {D : Addr} {Qd : Hp → Prop} {b : Addr} {Z : List Addr} (al : Al Z b H1) (hHs : ∀ H', Go b H1 H' → Hs H') (hD : H1 D = none) (hz : xs.length ≤ 100000)
    (every : Bool) (R : V → PyData → Prop)
    (hb : ∀ x, x ∈ xs → ∀ H', Go b H1 H' → Al (D :: Z) b H' → ∀ (Y : V → Hp → Prop) (N : Hp → Prop), (∀ y d H'', Go b H' H'' → Dp K (wo (D :: Z) H'') y d → R x d → Y y H'') → (every = false → ∀ H'', Go b H' H'' → N H'') →
      g x (wipe σ vs) H' fun σ2 H2 => wipe σ2 vs = wipe σ vs ∧ tt σ2 H2 fun b H3 => if b = true then te σ2 H3 Y else N H3)
    (hd : ∀ H' ys ds zs, Go b H1 H' → Al (D :: Z) b H' → H' D = some (.lst ys) → DpAll K (wo (D :: Z) H') ys ds → zs.Sublist xs → Rel2 R zs ds → (every = true → zs = xs) → Qd H') :
    ∃ W : Nat → Nat → Hp → Prop, (∃ m, W 0 m (upd H1 D (.lst []))) ∧ ∀ i m H, W i m H →
      (J.stop i H ∧ Qd H) ∨ (J.go i H ∧ ∃ Nx : Hp → Prop, (∀ H', Nx H' → ∃ m', m' < m ∧ W (i + 1) m' H') ∧ ∀ x H', J.yld i H x H' → g x (wipe σ vs) H' fun σ2 H2 => wipe σ2 vs = wipe σ vs ∧ tt σ2 H2 fun b H3 =>
        if b = true then te σ2 H3 fun y H4 => ∃ acc, H4 D = some (.lst acc) ∧ acc.length < sizeLine ∧ Nx (upd H4 D (.lst (acc ++ [y]))) else Nx H3) := by
  have nDb : D ≠ b := al.bag.ne hD
  refine lcg S (fun i H => Go b H1 H ∧ ∃ ys ds zs, H D = some (.lst ys) ∧ DpAll K (wo (D :: Z) H) ys ds ∧ zs.Sublist (xs.take i) ∧ Rel2 R zs ds ∧ (every = true → zs = xs.take i)) ?_ (fun i H _ p => hHs H p.1) (fun i x H hx p => ?_) (fun H p => ?_)
  · exact ⟨(Go.refl al.bag).put hD nDb, [], [], [], upd_same, .nil, by simp, .nil, fun _ => rfl⟩
  · obtain ⟨gg, ys, ds, zs, e1, a, sb, r, ev⟩ := p
    have alD : Al (D :: Z) b H := (al.go gg).cons (by rw [e1]; simp)
    have ht : xs.take (i + 1) = xs.take i ++ [x] := by
      rw [List.take_succ, hx]
      rfl
    have len : ys.length < sizeLine := by
      have h1 := DpAll.length a
      have h2 := r.length
      have h3 := sb.length_le
      have h4 : (xs.take i).length ≤ 100000 := by rw [List.length_take]; omega
      rw [sizeLine_eq]
      omega
    refine hb x (List.mem_of_getElem? hx) H gg alD _ _ (fun y d H'' g2 hy hr => ?_) (fun hn H'' g2 => ?_)
    · have e2 : H'' D = some (.lst ys) := g2.keep e1 nDb
      refine ⟨ys, e2, len, (gg.trans g2).put hD nDb, ys ++ [y], ds ++ [d], zs ++ [x], upd_same, ?_, ?_, r.app (.one hr), fun q => ?_⟩
      · rw [wo_put (List.mem_cons_self ..)]
        exact DpAll.app (g2.dwAll alD.mem a) (.cons hy .nil)
      · rw [ht]; exact sb.append (List.Sublist.refl _)
      · rw [ht, ev q]
    · refine ⟨gg.trans g2, ys, ds, zs, g2.keep e1 nDb, g2.dwAll alD.mem a, ?_, r, fun q => ?_⟩
      · rw [ht]; exact sb.trans (List.sublist_append_left _ _)
      · rw [hn] at q; cases q
  · obtain ⟨gg, ys, ds, zs, e1, a, sb, r, ev⟩ := p
    rw [List.take_length] at sb ev
    exact hd H ys ds zs gg ((al.go gg).cons (by rw [e1]; simp)) e1 a sb r ev
section
variable {σ : L2.St} {H : Hp} {ta : TA} {te td ty tv : TE} {Q : VK} {n : L2.St → Hp → Prop} {r : VK} {bk c : L2.St → Hp → Prop} {i j l : Nat}
theorem x_par (h : ta σ H fun vs H1 => ∃ v w, vs = [v, w] ∧ n ((σ.set i (some v)).set j (some w)) H1) : tPar i j ta (Ends.mk n r bk c) σ H := h
theorem x_par3 (h : ta σ H fun vs H1 => ∃ u v w, vs = [u, v, w] ∧ n (((σ.set i (some u)).set j (some v)).set l (some w)) H1) : tPar3 i j l ta (Ends.mk n r bk c) σ H := h
theorem x_two {a b : V} {R : V → V → Prop} (h : R a b) : ∃ v w, [a, b] = [v, w] ∧ R v w := ⟨a, b, rfl, h⟩
theorem x_three {a b d : V} {R : V → V → V → Prop} (h : R a b d) : ∃ u v w, [a, b, d] = [u, v, w] ∧ R u v w := ⟨a, b, d, rfl, h⟩
theorem x_dget (h : td σ H fun x H1 => ty σ H1 fun y H2 => ∃ a v, x = .ref a ∧ DGet H2 a y (some v) ∧ Q v H2) : tDGet td ty σ H Q := h
theorem x_dgetK {a : Addr} {kvs : List (Key × V)} {k : Key} {v : V} (h : H a = some (.dK kvs)) (e : valV kvs k = some v) (q : Q v H) : ∃ a' v', V.ref a = .ref a' ∧ DGet H a' (kV k) (some v') ∧ Q v' H := ⟨a, v, rfl, e ▸ DGet.k h, q⟩
theorem x_dput (h : tv σ H fun v H1 => td σ H1 fun x H2 => ty σ H2 fun y H3 => ∃ a H4, x = .ref a ∧ DPut H3 a y v H4 ∧ n σ H4) : sDPut td ty tv (Ends.mk n r bk c) σ H := h
theorem x_dputK {a : Addr} {kvs kvs' : List (Key × V)} {k : Key} {v : V} {R : Hp → Prop} (h : H a = some (.dK kvs)) (hl : kvs.length < 1000) (e : putK kvs k v = kvs') (q : R (upd H a (.dK kvs'))) : ∃ a' H4, V.ref a = .ref a' ∧ DPut H a' (kV k) v H4 ∧ R H4 :=
  ⟨a, _, rfl, DPut.k h (by rw [sizeLine_eq]; omega), by rw [e]; exact q⟩
theorem x_app {p : Addr} {xs : List V} {y : V} (h : H p = some (.lst xs)) (hz : xs.length < 1000000) (q : Q .non (upd H p (.lst (xs ++ [y])))) : rAppend (.ref p) [y] H Q := ⟨p, xs, y, rfl, rfl, h, by rw [sizeLine_eq]; omega, q⟩
theorem x_tyL {K : PySem.W.Frag} {p : Addr} {xs : List V} {B : Prop} (h : SqL K H p xs) (b : B) : tyV K "list" (.ref p) H ∧ B := ⟨.inl ⟨rfl, xs, h⟩, b⟩
theorem x_disp2 {k1 k2 : Key} {v1 v2 : V} (ne : k1 ≠ k2) (h : ∀ p, H p = none → Q (.ref p) (upd H p (.dK [(k1, v1), (k2, v2)]))) : tDisp [(tC (kV k1), tC v1), (tC (kV k2), tC v2)] σ H Q := fun p hp => by
  refine ⟨upd_same, [(k1, v1), (k2, v2)], rfl, by simp, ?_⟩
  rw [upd_upd]
  have e : mergeK [] [(k1, v1), (k2, v2)] = [(k1, v1), (k2, v2)] := by simp [mergeK, putK, ne]
  rw [e]
  exact h p hp
end
def rMulS : R2 := fun x y H Q => ∃ z n, x = .str z ∧ y = .int n ∧ -(2 ^ 63 : Int) ≤ n ∧ n ≤ 1000 ∧ z.length ≤ 10000 ∧ Q (.str (Txt.mul z n)) H
theorem op_mulStr {X : Cx} : OpR X (binaryOp .Mult) rMulS := by
  intro pins s σ H x y v u Q I rx ry h
  obtain ⟨z, n, rfl, rfl, h1, h2, h3, q⟩ := h
  obtain ⟨t, rfl⟩ := rx
  obtain ⟨t', rfl⟩ := ry
  exact SB.mul (mulOk_of 10000 1000 h3 h2 h1 (by decide) (by decide)) fun t' k => ⟨.str (Txt.mul z n), H, I.tok _, ⟨_, rfl⟩, q⟩
theorem x_mulS0 {z : Str} {H : Hp} {Q : VK} (h : z.length ≤ 10000) (q : Q (.str "") H) : rMulS (.str z) (.int 0) H Q := ⟨z, 0, rfl, rfl, by decide, by decide, h, q⟩
theorem x_mulS1 {z : Str} {H : Hp} {Q : VK} (h : z.length ≤ 10000) (q : Q (.str z) H) : rMulS (.str z) (.int 1) H Q := ⟨z, 1, rfl, rfl, by decide, by decide, h, by
  have e : Txt.mul z 1 = z := by unfold Txt.mul; rw [if_neg (by decide)]; simp
  rw [e]; exact q⟩
theorem x_ixS {z : Str} {i : Int} {c : Nat} {H : Hp} {Q : VK} (h1 : z.length ≤ sizeLine) (h2 : atI z.cps.toList i = some c) (q : Q (.str ⟨#[c]⟩) H) : rIxS (.str z) (.int i) H Q := ⟨z, i, c, rfl, rfl, h1, h2, q⟩
end Ob
namespace Lw
open PySem PySem.Spec PyProof.Rows L2 Ob StX
def top (i : Nat) : Stmt := PySem.Challenge.pw_ownbranch_k02_loops_known.main.body.getD i (.Pass ⟨0, 0, 0, 0⟩)
abbrev N_is_integer : List Str := ["thing", "least", "most"]
theorem sc_is_integer : FnScope N_is_integer ["thing", "least", "most"] (defScope (top 10)) := ⟨rfl, rfl, rfl, by decide +kernel, rfl, by decide +kernel, by decide +kernel⟩
def d_is_integer : He.DefD := ⟨("is_integer", none), "is_integer", "is_integer", defArgs (top 10), defBody (top 10), defScope (top 10), [], []⟩
abbrev N_is_item : List Str := ["thing"]
theorem sc_is_item : FnScope N_is_item ["thing"] (defScope (top 11)) := ⟨rfl, rfl, rfl, by decide +kernel, rfl, by decide +kernel, by decide +kernel⟩
def d_is_item : He.DefD := ⟨("is_item", none), "is_item", "is_item", defArgs (top 11), defBody (top 11), defScope (top 11), [], []⟩
abbrev N_is_text : List Str := ["thing", "letter"]
theorem sc_is_text : FnScope N_is_text ["thing"] (defScope (top 12)) := ⟨rfl, rfl, rfl, by decide +kernel, rfl, by decide +kernel, by decide +kernel⟩
def d_is_text : He.DefD := ⟨("is_text", none), "is_text", "is_text", defArgs (top 12), defBody (top 12), defScope (top 12), [], []⟩
abbrev N_is_selection : List Str := ["thing", "allowed", "one"]
theorem sc_is_selection : FnScope N_is_selection ["thing", "allowed"] (defScope (top 13)) := ⟨rfl, rfl, rfl, by decide +kernel, rfl, by decide +kernel, by decide +kernel⟩
def d_is_selection : He.DefD := ⟨("is_selection", none), "is_selection", "is_selection", defArgs (top 13), defBody (top 13), defScope (top 13), [], []⟩
abbrev N_is_edit : List Str := ["thing", "kind"]
theorem sc_is_edit : FnScope N_is_edit ["thing"] (defScope (top 14)) := ⟨rfl, rfl, rfl, by decide +kernel, rfl, by decide +kernel, by decide +kernel⟩
def d_is_edit : He.DefD := ⟨("is_edit", none), "is_edit", "is_edit", defArgs (top 14), defBody (top 14), defScope (top 14), [], []⟩
abbrev N_count_words : List Str := ["edits", "words", "edit"]
theorem sc_count_words : FnScope N_count_words ["edits", "words"] (defScope (top 15)) := ⟨rfl, rfl, rfl, by decide +kernel, rfl, by decide +kernel, by decide +kernel⟩
def d_count_words : He.DefD := ⟨("count_words", none), "count_words", "count_words", defArgs (top 15), defBody (top 15), defScope (top 15), [], []⟩
abbrev N_may_follow : List Str := ["edits", "edit", "together"]
theorem sc_may_follow : FnScope N_may_follow ["edits", "edit"] (defScope (top 16)) := ⟨rfl, rfl, rfl, by decide +kernel, rfl, by decide +kernel, by decide +kernel⟩
def d_may_follow : He.DefD := ⟨("may_follow", none), "may_follow", "may_follow", defArgs (top 16), defBody (top 16), defScope (top 16), [], []⟩
abbrev N_are_edits : List Str := ["thing", "place", "edit"]
theorem sc_are_edits : FnScope N_are_edits ["thing"] (defScope (top 17)) := ⟨rfl, rfl, rfl, by decide +kernel, rfl, by decide +kernel, by decide +kernel⟩
def d_are_edits : He.DefD := ⟨("are_edits", none), "are_edits", "are_edits", defArgs (top 17), defBody (top 17), defScope (top 17), [], []⟩
abbrev N_is_rule : List Str := ["thing", "mark", "items", "following", "edits"]
theorem sc_is_rule : FnScope N_is_rule ["thing"] (defScope (top 18)) := ⟨rfl, rfl, rfl, by decide +kernel, rfl, by decide +kernel, by decide +kernel⟩
def d_is_rule : He.DefD := ⟨("is_rule", none), "is_rule", "is_rule", defArgs (top 18), defBody (top 18), defScope (top 18), [], []⟩
abbrev N_is_loop : List Str := ["thing", "rules", "ends", "rule", "end"]
theorem sc_is_loop : FnScope N_is_loop ["thing"] (defScope (top 19)) := ⟨rfl, rfl, rfl, by decide +kernel, rfl, by decide +kernel, by decide +kernel⟩
def d_is_loop : He.DefD := ⟨("is_loop", none), "is_loop", "is_loop", defArgs (top 19), defBody (top 19), defScope (top 19), [], []⟩
abbrev N_is_program : List Str := ["thing", "loop"]
theorem sc_is_program : FnScope N_is_program ["thing"] (defScope (top 20)) := ⟨rfl, rfl, rfl, by decide +kernel, rfl, by decide +kernel, by decide +kernel⟩
def d_is_program : He.DefD := ⟨("is_program", none), "is_program", "is_program", defArgs (top 20), defBody (top 20), defScope (top 20), [], []⟩
abbrev N__law_bag : List Str := ["_law_script", "_law_at", "_law_cell", "_law_great", "_law_primes"]
theorem sc__law_bag : FnScope N__law_bag ["_law_script", "_law_at"] (defScope (top 22)) := ⟨rfl, rfl, rfl, by decide +kernel, rfl, by decide +kernel, by decide +kernel⟩
def d__law_bag : He.DefD := ⟨("_law_bag", none), "_law_bag", "_law_bag", defArgs (top 22), defBody (top 22), defScope (top 22), [], []⟩
abbrev N__law_take : List Str := ["_law_bag_here", "_law_many", "_law_digit"]
theorem sc__law_take : FnScope N__law_take ["_law_bag_here", "_law_many"] (defScope (top 23)) := ⟨rfl, rfl, rfl, by decide +kernel, rfl, by decide +kernel, by decide +kernel⟩
def d__law_take : He.DefD := ⟨("_law_take", none), "_law_take", "_law_take", defArgs (top 23), defBody (top 23), defScope (top 23), [], []⟩
abbrev N__law_text : List Str := ["_law_bag_here", "_law_most", "_law_k"]
theorem sc__law_text : FnScope N__law_text ["_law_bag_here", "_law_most"] (defScope (top 24)) := ⟨rfl, rfl, rfl, by decide +kernel, rfl, by decide +kernel, by decide +kernel⟩
def d__law_text : He.DefD := ⟨("_law_text", none), "_law_text", "_law_text", defArgs (top 24), defBody (top 24), defScope (top 24), [], []⟩
abbrev N__law_letters : List Str := ["_law_bag_here", "_law_allowed", "_law_road", "_law_some", "_law_one"]
theorem sc__law_letters : FnScope N__law_letters ["_law_bag_here", "_law_allowed"] (defScope (top 25)) := ⟨rfl, rfl, rfl, by decide +kernel, rfl, by decide +kernel, by decide +kernel⟩
def d__law_letters : He.DefD := ⟨("_law_letters", none), "_law_letters", "_law_letters", defArgs (top 25), defBody (top 25), defScope (top 25), [], []⟩
abbrev N__law_edits : List Str := ["_law_bag_here", "_law_most", "_law_found", "_law_bounds", "_law_turn", "_law_road", "_law_item"]
theorem sc__law_edits : FnScope N__law_edits ["_law_bag_here", "_law_most"] (defScope (top 26)) := ⟨rfl, rfl, rfl, by decide +kernel, rfl, by decide +kernel, by decide +kernel⟩
def d__law_edits : He.DefD := ⟨("_law_edits", none), "_law_edits", "_law_edits", defArgs (top 26), defBody (top 26), defScope (top 26), [], []⟩
abbrev N__law_loop : List Str := ["_law_bag_here", "_law_most", "_law_rules", "_law_turn", "_law_mark", "_law_items", "_law_following", "_law_ends", "_law_k"]
theorem sc__law_loop : FnScope N__law_loop ["_law_bag_here", "_law_most"] (defScope (top 27)) := ⟨rfl, rfl, rfl, by decide +kernel, rfl, by decide +kernel, by decide +kernel⟩
def d__law_loop : He.DefD := ⟨("_law_loop", none), "_law_loop", "_law_loop", defArgs (top 27), defBody (top 27), defScope (top 27), [], []⟩
abbrev N__law_program : List Str := ["_law_bag_here", "_law_most", "_law_rules", "_law_k"]
theorem sc__law_program : FnScope N__law_program ["_law_bag_here", "_law_most", "_law_rules"] (defScope (top 28)) := ⟨rfl, rfl, rfl, by decide +kernel, rfl, by decide +kernel, by decide +kernel⟩
def d__law_program : He.DefD := ⟨("_law_program", none), "_law_program", "_law_program", defArgs (top 28), defBody (top 28), defScope (top 28), [], []⟩
abbrev N__law_spoilt_edits : List Str := ["_law_bag_here", "_law_drop", "_law_after", "_law_put", "_law_some"]
theorem sc__law_spoilt_edits : FnScope N__law_spoilt_edits ["_law_bag_here"] (defScope (top 29)) := ⟨rfl, rfl, rfl, by decide +kernel, rfl, by decide +kernel, by decide +kernel⟩
def d__law_spoilt_edits : He.DefD := ⟨("_law_spoilt_edits", none), "_law_spoilt_edits", "_law_spoilt_edits", defArgs (top 29), defBody (top 29), defScope (top 29), [], []⟩
abbrev N__law_spoilt_rule : List Str := ["_law_bag_here", "_law_good", "_law_spot"]
theorem sc__law_spoilt_rule : FnScope N__law_spoilt_rule ["_law_bag_here"] (defScope (top 30)) := ⟨rfl, rfl, rfl, by decide +kernel, rfl, by decide +kernel, by decide +kernel⟩
def d__law_spoilt_rule : He.DefD := ⟨("_law_spoilt_rule", none), "_law_spoilt_rule", "_law_spoilt_rule", defArgs (top 30), defBody (top 30), defScope (top 30), [], []⟩
abbrev N__law_spoilt_loop : List Str := ["_law_bag_here", "_law_loop_here", "_law_rules", "_law_ends", "_law_place", "_law_wrong", "_law_road"]
theorem sc__law_spoilt_loop : FnScope N__law_spoilt_loop ["_law_bag_here", "_law_loop_here"] (defScope (top 31)) := ⟨rfl, rfl, rfl, by decide +kernel, rfl, by decide +kernel, by decide +kernel⟩
def d__law_spoilt_loop : He.DefD := ⟨("_law_spoilt_loop", none), "_law_spoilt_loop", "_law_spoilt_loop", defArgs (top 31), defBody (top 31), defScope (top 31), [], []⟩
abbrev N_law : List Str := ["_law_script", "_law_at", "_law_bag_here", "_law_program_here", "_law_loop_here", "_law_wrong", "_law_spoilt", "_law_shown", "_law_thing", "_law_full"]
theorem sc_law : FnScope N_law ["_law_script"] (defScope (top 32)) := ⟨rfl, rfl, rfl, by decide +kernel, rfl, by decide +kernel, by decide +kernel⟩
def d_law : He.DefD := ⟨("law", none), "law", "law", defArgs (top 32), defBody (top 32), defScope (top 32), [], []⟩
def fn : List He.DefD := [d_is_integer, d_is_item, d_is_text, d_is_selection, d_is_edit, d_count_words, d_may_follow, d_are_edits, d_is_rule, d_is_loop, d_is_program, d__law_bag, d__law_take, d__law_text, d__law_letters, d__law_edits, d__law_loop, d__law_program, d__law_spoilt_edits, d__law_spoilt_rule, d__law_spoilt_loop, d_law]
def fa : List He.Fa := [.glo "is_integer", .glo "is_item", .glo "is_text", .glo "is_selection", .glo "is_edit", .glo "count_words", .glo "may_follow", .glo "are_edits", .glo "is_rule", .glo "is_loop", .glo "is_program", .glo "_law_bag", .glo "_law_take", .glo "_law_text", .glo "_law_letters", .glo "_law_edits", .glo "_law_loop", .glo "_law_program", .glo "_law_spoilt_edits", .glo "_law_spoilt_rule", .glo "_law_spoilt_loop", .glo "law", .str "ITEMS" "abcd", .str "END" "$", .int "MOST_RULES" 12, .int "MOST_LOOPS" 5, .int "MOST_EDITS" 4, .int "MOST_DELETIONS" 2, .int "MARKS" 4, .int "LONGEST_END" 4, .glo "EDIT_KINDS", .free "abs", .free "all", .free "bool", .free "enumerate", .free "int", .free "isinstance", .free "len", .free "list", .free "max", .free "min", .free "range", .free "repr", .free "str", .free "tuple"]
def ts : List He.Tab := [(fun K => He.ga K "EDIT_KINDS", ["put", "drop", "drop_next", "before", "after", "mark", "break"])]
def ex (K : PySem.W.Frag) : Bool := dicB K "EDIT_KINDS" [("put", (.str "item")), ("drop", .non), ("drop_next", .non), ("before", (.str "item")), ("after", (.str "item")), ("mark", (.str "mark")), ("break", .non)]
abbrev TT (w : World) := Tp fa fn ts ex w
local macro_rules | `(tactic| walk_at "ty") => `(tactic| first
  | exact TyX.base .non | exact TyX.base (.bl _) | exact TyX.base (.int _) | exact TyX.base (.str _) | exact tyx_tup (by assumption) | exact tyx_list (by assumption) | exact TyX.base (.dK (by assumption)))
local macro_rules | `(tactic| walk_at "s1") => `(tactic| first
  | with_reducible refine x_seq ?_
  | with_reducible refine x_asg ?_
  | with_reducible refine x_name ?_
  | with_reducible refine x_ret ?_
  | with_reducible refine x_ifS ?_
  | ((with_reducible apply x_var); (exact rfl))
  | with_reducible refine x_c ?_
  | with_reducible refine x_cb ?_
  | with_reducible refine x_cl ?_
  | with_reducible refine x_cons ?_
  | with_reducible refine x_nil ?_
  | with_reducible refine x_op ?_
  | with_reducible refine x_test ?_
  | with_reducible refine x_B ?_
  | with_reducible refine x_bl ?_
  | with_reducible refine x_and ?_
  | with_reducible refine x_or ?_
  | with_reducible refine x_not ?_
  | with_reducible refine x_andV ?_
  | with_reducible refine x_orV ?_
  | with_reducible refine x_notV ?_
  | with_reducible refine x_if ?_
  | with_reducible refine x_chain ?_
  | with_reducible refine x_T ?_
  | with_reducible refine x_F ?_
  | with_reducible refine x_nT ?_
  | with_reducible refine x_nF ?_
  | with_reducible refine x_I0 ?_
  | ((with_reducible refine x_eq ?_ ?_); exact rfl)
  | ((with_reducible refine x_ne ?_ ?_); exact rfl)
  | with_reducible refine x_isN ?_
  | with_reducible refine x_notN ?_
  | ((with_reducible apply x_isiT); (walk_at "ty"); (decide +kernel))
  | ((with_reducible apply x_isiF); (walk_at "ty"); (decide +kernel))
  | with_reducible refine x_star ?_
  | with_reducible refine x_iEnumT ?_
  | with_reducible refine x_gCons ?_
  | with_reducible refine x_gNil ?_
  | with_reducible refine x_sl ?_
  | with_reducible refine x_part ?_
  | with_reducible refine x_noPart ?_
  | with_reducible refine x_exI ?_
  | with_reducible refine x_lc ?_
  | with_reducible refine x_iStr ?_
  | with_reducible refine x_iTup ?_
  | with_reducible refine x_iList ?_
  | with_reducible refine x_iRng1 ?_
  | with_reducible refine x_yes ?_
  | with_reducible refine x_bm ?_
  | with_reducible refine x_inS ?_
  | with_reducible refine x_tM1 ?_
  | with_reducible refine x_isStr ?_
  | with_reducible refine x_for ?_
  | with_reducible refine x_drop ?_
  | with_reducible refine x_par ?_
  | with_reducible refine x_par3 ?_
  | with_reducible refine x_two ?_
  | with_reducible refine x_three ?_
  | with_reducible refine x_dget ?_
  | with_reducible refine x_dput ?_
  | with_reducible refine x_gSub ?_
  | with_reducible refine x_next ?_
  | with_reducible refine x_retN ?_
  | with_reducible refine x_tup ?_
  | with_reducible refine x_lst ?_
  | with_reducible refine x_un ?_
  | with_reducible refine x_brk ?_
  | with_reducible refine x_cont ?_)
local macro_rules | `(tactic| walk_at "s") => `(tactic| repeat walk_at "s1")
section
variable {P : Program} {w : World} {K : PySem.W.Frag} {mg : Str → Option Value} {base : Heap}
--@ is_integer: least=int; most=int; return=bool
--@ is_item: thing=str; return=bool
--@ is_text: thing=str; letter=str; return=bool
--@ is_selection: thing=str; allowed=str; one=str; return=bool
/-! loops.py: what things are -/
def sp_is_integer (K : PySem.W.Frag) : Sp := fun vs H Q _ => ∃ (v : V) (d : PyData) (lo hi : Int), vs = [v, .int lo, .int hi] ∧ Dp K H v d ∧ Q (.bl (isIntegerD lo hi d)) H
theorem ok_is_integer (T : TT w K mg) : FnR P w K mg base CX0 1 (He.ga K "is_integer") (sp_is_integer K) := by
  refine T.ok0 0 rfl rfl rfl sc_is_integer (fun _ _ _ _ _ _ us hl => match us, hl with | [_, _, _], _ => rfl) ?len (fun cdv A outer s H vs Q E hr h => ⟨_, (pss_one (ps_ret (pe_and (pe_callB (kcall_isi (K := K) rfl) (by rfl) (T.free 36 rfl) (by decide +kernel) (pa_cons (pv 0) (pa_cons (pty (n := "int") (T.free 35 rfl) (by decide +kernel)) pa_nil))) (pe_and (pe_not (pe_callB (kcall_isi (K := K) rfl) (by rfl) (T.free 36 rfl) (by decide +kernel) (pa_cons (pv 0) (pa_cons (pty (n := "bool") (T.free 33 rfl) (by decide +kernel)) pa_nil)))) (pe_one (pe_chain op_le op_le (pv 1) (pv 0) (pv 2))))))), ?read⟩)
  case len => intro vs H Q E h; obtain ⟨_, _, _, _, rfl, _⟩ := h; rfl
  case read =>
    obtain ⟨v, d, lo, hi, rfl, hd, k⟩ := h
    refine x_start (σ' := [some v, some (.int lo), some (.int hi)]) rfl ?_
    cases hd <;> (walk_at "s") <;> try exact k
    refine x_d (fun h1 => ?_) (fun h1 => ?_) <;> (walk_at "s")
    · simpa [isIntegerD, h1] using k
    · simpa [isIntegerD, h1] using k
theorem str_one {z : Str} (h : z.length = 1) : ∃ c, z = ⟨#[c]⟩ := by
  obtain ⟨⟨l⟩⟩ := z
  match l, h with
  | [c], _ => exact ⟨c, rfl⟩
theorem item_not {z : Str} (h : z.length ≠ 1) : isItemD (.str z) = false := by
  obtain ⟨⟨l⟩⟩ := z
  match l, h with
  | [], _ => rfl
  | [c], h => exact absurd rfl h
  | _ :: _ :: _, _ => rfl
theorem vint {a b : Int} : V.int a = V.int b ↔ a = b := ⟨fun h => by injection h, fun h => by rw [h]⟩
theorem vstr {a b : Str} : V.str a = V.str b ↔ a = b := ⟨fun h => by injection h, fun h => by rw [h]⟩
theorem len_str {K : PySem.W.Frag} {H : Hp} {z : Str} (h : small (.str z) = true) : LenV K (.str z) H z.length := ⟨Nat.le_trans (small_str h) (by decide), rfl⟩
theorem len_tup {K : PySem.W.Frag} {H : Hp} {a : Addr} {xs : List V} (h : SqT K H a xs) : LenV K (.ref a) H xs.length := .inr ⟨xs, h, rfl⟩
theorem len_lst {K : PySem.W.Frag} {H : Hp} {a : Addr} {xs : List V} (h : SqL K H a xs) : LenV K (.ref a) H xs.length := .inl ⟨xs, h, rfl⟩
def sp_is_item (K : PySem.W.Frag) : Sp := fun vs H Q _ => ∃ (v : V) (d : PyData), vs = [v] ∧ Dp K H v d ∧ small d = true ∧ Q (.bl (isItemD d)) H
theorem ok_is_item (T : TT w K mg) : FnR P w K mg base CX0 1 (He.ga K "is_item") (sp_is_item K) := by
  refine T.ok0 1 rfl rfl rfl sc_is_item (fun _ _ _ _ _ _ us hl => match us, hl with | [_], _ => rfl) ?len (fun cdv A outer s H vs Q E hr h => ⟨_, (pss_one (ps_ret (pe_and (pe_callB (kcall_isi (K := K) rfl) (by rfl) (T.free 36 rfl) (by decide +kernel) (pa_cons (pv 0) (pa_cons (pty (n := "str") (T.free 43 rfl) (by decide +kernel)) pa_nil))) (pe_and (pe_cmpR op_eq (pe_callB (kcr_len (K := K) rfl) (by rfl) (T.free 37 rfl) (by decide +kernel) (pa_cons (pv 0) pa_nil)) pe_int (nomark _)) (pe_one (pe_cmpR op_inS (pv 0) (pgs (T.str 22 rfl)) (by rfl))))))), ?read⟩)
  case len => intro vs H Q E h; obtain ⟨_, _, rfl, _⟩ := h; rfl
  case read =>
    obtain ⟨v, d, rfl, hd, hs, k⟩ := h
    refine x_start (σ' := [some v]) rfl ?_
    cases hd <;> (walk_at "s") <;> try exact k
    rename_i z
    refine x_len (len_str hs) ?_
    (walk_at "s")
    refine x_d (fun h1 => ?_) (fun h1 => ?_)
    · obtain ⟨c, rfl⟩ := str_one (z := z) (by rw [vint] at h1; exact_mod_cast h1)
      (walk_at "s")
      exact k
    · rw [item_not (fun z => h1 (by rw [z]; rfl))] at k
      exact k
/-- is a sign in a text -/
def signIn (a : Str) : V → Bool
  | .str z => match z.cps.toList with
    | [c] => decide (c ∈ a.cps.toList)
    | _ => false
  | _ => false
theorem sgV_mem {z : Str} {x : V} (h : x ∈ sgV z) : ∃ c, c ∈ z.cps.toList ∧ x = .str ⟨#[c]⟩ := by
  obtain ⟨c, h1, h2⟩ := List.mem_map.mp h
  exact ⟨c, h1, h2.symm⟩
theorem sgV_len {z : Str} : (sgV z).length = z.length := by simp [sgV, Str.length]
def sp_is_text (K : PySem.W.Frag) : Sp := fun vs H Q _ => ∃ (v : V) (d : PyData), vs = [v] ∧ Dp K H v d ∧ small d = true ∧ ∀ H', Same H H' → Q (.bl (isTextD d)) H'
theorem ok_is_text (T : TT w K mg) : FnR P w K mg base CX0 1 (He.ga K "is_text") (sp_is_text K) := by
  refine T.ok0 2 rfl rfl rfl sc_is_text (fun _ _ _ _ _ _ us hl => match us, hl with | [_], _ => rfl) ?len (fun cdv A outer s H vs Q E hr h => ⟨_, (pss_one (ps_ret (pe_and (pe_callB (kcall_isi (K := K) rfl) (by rfl) (T.free 36 rfl) (by decide +kernel) (pa_cons (pv 0) (pa_cons (pty (n := "str") (T.free 43 rfl) (by decide +kernel)) pa_nil))) (pe_one (pe_callB (kcr_all (K := K) rfl rfl) (by rfl) (T.free 32 rfl) (by decide +kernel) (pa_cons (pe_lc (own := [("letter", 1)]) (g := gName 1) (tt := tYes) (by rfl) sc_is_text.nd (pi_str (pv 0)) (blkOk_by (own := [("letter", 1)]) (N := N_is_text) (sc := defScope (top 12)) (by decide +kernel)) (fun _ _ _ _ _ => (pg_name (i := 1) sc_is_text.nd rfl (Or.inl rfl))) (fun _ _ _ _ _ => pts_nil) (fun _ _ _ _ _ => (pe_cmpR op_inS (pv 1) (pgs (T.str 22 rfl)) (by rfl)))) pa_nil)))))), ?read⟩)
  case len => intro vs H Q E h; obtain ⟨_, _, rfl, _⟩ := h; rfl
  case read =>
    obtain ⟨v, d, rfl, hd, hs, k⟩ := h
    refine x_start (σ' := [some v, none]) rfl ?_
    cases hd <;> (walk_at "s") <;> try exact k _ (Same.refl _)
    rename_i z
    refine ⟨_, rfl, fun D hD => lcP Src.str (fun _ _ => trivial) hD (by rw [sgV_len]; exact small_str hs) (fun x => some (.bl (signIn abcd x))) (fun x hx H' s1 Y N hY hN => ?_) (fun H' s1 hl => ?_)⟩
    · obtain ⟨c, _, rfl⟩ := sgV_mem hx
      (walk_at "s")
      refine ⟨rfl, ?_⟩
      (walk_at "s")
      exact hY _ _ rfl (Same.refl _)
    · (walk_at "s")
      refine x_all (SqL.of hl) (bs := z.cps.toList.map fun c => decide (c ∈ abcd.cps.toList)) ?_ ?_
      · show List.filterMap (some ∘ fun x => V.bl (signIn abcd x)) (sgV z) = _
        rw [List.filterMap_eq_map, sgV, List.map_map, List.map_map]
        rfl
      · have e : isTextD (.str z) = (z.cps.toList.map fun c => decide (c ∈ abcd.cps.toList)).all id := by
          rw [List.all_map]
          rfl
        rw [← e]
        exact k _ s1
def sp_is_selection (K : PySem.W.Frag) : Sp := fun vs H Q _ => ∃ (v : V) (d : PyData) (al : Str), vs = [v, .str al] ∧ Dp K H v d ∧ small d = true ∧ al.length ≤ 100 ∧ ∀ H', Same H H' → Q (.bl (isSelD al d)) H'
theorem ok_is_selection (T : TT w K mg) : FnR P w K mg base CX0 1 (He.ga K "is_selection") (sp_is_selection K) := by
  refine T.ok0 3 rfl rfl rfl sc_is_selection (fun _ _ _ _ _ _ us hl => match us, hl with | [_, _], _ => rfl) ?len (fun cdv A outer s H vs Q E hr h => ⟨_, (pss_one (ps_ret (pe_and (pe_callB (kcall_isi (K := K) rfl) (by rfl) (T.free 36 rfl) (by decide +kernel) (pa_cons (pv 0) (pa_cons (pty (n := "str") (T.free 43 rfl) (by decide +kernel)) pa_nil))) (pe_and (pe_cmpR op_ne (pv 0) pe_str (nomark _)) (pe_one (pe_cmpR op_eq (pv 0) (kpe_join (K := K) rfl pe_str (pe_lc (own := [("one", 2)]) (g := gName 2) (by rfl) sc_is_selection.nd (pi_str (pv 1)) (blkOk_by (own := [("one", 2)]) (N := N_is_selection) (sc := defScope (top 13)) (by decide +kernel)) (fun _ _ _ _ _ => (pg_name (i := 2) sc_is_selection.nd rfl (Or.inl rfl))) (fun _ _ _ _ _ => (pts_one (pt_cmpR op_inS (pv 2) (pv 0) (by rfl)))) (fun _ _ _ _ _ => (pv 2)))) (nomark _))))))), ?read⟩)
  case len => intro vs H Q E h; obtain ⟨_, _, _, rfl, _⟩ := h; rfl
  case read =>
    obtain ⟨v, d, al, rfl, hd, hs, hal, k⟩ := h
    refine x_start (σ' := [some v, some (.str al), none]) rfl ?_
    cases hd <;> (walk_at "s") <;> try exact k _ (Same.refl _)
    rename_i z
    refine x_nd (fun h1 => ?_) (fun h1 => ?_)
    · rw [vstr] at h1
      (walk_at "s")
      refine ⟨_, rfl, fun D hD => lcP Src.str (fun _ _ => trivial) hD (by rw [sgV_len]; omega) (fun x => if signIn z x = true then some x else none) (fun x hx H' s1 Y N hY hN => ?_) (fun H' s1 hl => ?_)⟩
      · obtain ⟨c, _, rfl⟩ := sgV_mem hx
        (walk_at "s")
        refine ⟨rfl, ?_⟩
        (walk_at "s")
        refine x_2 (fun h2 => ?_) (fun h2 => ?_) <;> (walk_at "s")
        · exact hY _ _ (if_pos h2) (Same.refl _)
        · exact hN _ (if_neg (by rw [show signIn z (.str ⟨#[c]⟩) = decide (c ∈ z.cps.toList) from rfl, h2]; decide)) (Same.refl _)
      · refine x_joinS (SqL.of hl) (cs := al.cps.toList.filter fun c => decide (c ∈ z.cps.toList)) ?_ ?_ ?_
        · rw [sgV, List.filterMap_map]
          generalize al.cps.toList = cs
          induction cs with
          | nil => rfl
          | cons c r ih =>
            have e : signIn z (.str ⟨#[c]⟩) = decide (c ∈ z.cps.toList) := rfl
            by_cases hc : c ∈ z.cps.toList
            · simp only [List.filterMap_cons, Function.comp, e, decide_eq_true hc, if_true, List.filter_cons, List.map_cons]
              exact congrArg _ ih
            · simp only [List.filterMap_cons, Function.comp, e, decide_eq_false hc, Bool.false_eq_true, if_false, List.filter_cons]
              exact ih
        · exact Nat.le_trans (List.length_filter_le _ _) (Nat.le_trans (show al.cps.toList.length ≤ 100 by simpa [Str.length] using hal) (by decide))
        · (walk_at "s")
          have e : decide (V.str z = V.str ⟨(al.cps.toList.filter fun c => decide (c ∈ z.cps.toList)).toArray⟩) = isSelD al (.str z) := by
            show _ = (if z = "" then false else decide (z = pick al z))
            rw [if_neg h1, decide_eq_decide, vstr]
            rfl
          rw [e]
          exact k _ s1
    · rw [vstr] at h1
      subst h1
      exact k _ (Same.refl _)

--@ is_edit: thing=tup; cmp thing[0] not in EDIT_KINDS=(op_notIn_kd D); ix EDIT_KINDS[thing[0]]=(kix_kdict (K := K) rfl rfl); kind=str; return=bool
--@ count_words: edits=tup; words=tup; edit=tup; edit[0]=str; return=int
--@ may_follow: edits=tup; edit=tup; together=tup; return=bool
def kinds : List (Str × V) := [("put", .str "item"), ("drop", .non), ("drop_next", .non), ("before", .str "item"), ("after", .str "item"), ("mark", .str "mark"), ("break", .non)]
theorem kinds_ok (T : TT w K mg) : dicB K "EDIT_KINDS" kinds = true := T.more
def kdV : Kd → V
  | .item => .str "item"
  | .mark => .str "mark"
  | .bare => .non
theorem kinds_kind (z : Str) : kinds.lookup z = (kdOf z).map kdV := by
  unfold kinds kdOf
  have e : ∀ (k : Str) (v : V) (r : List (Str × V)), List.lookup z ((k, v) :: r) = if z = k then some v else r.lookup z := by
    intro k v r
    by_cases h : z = k
    · subst h; simp [List.lookup]
    · have hb : (z == k) = false := by simpa using h
      simp [List.lookup, hb, h]
  rw [e, e, e, e, e, e, e]
  by_cases h1 : z = "put"
  · rw [if_pos h1, if_pos h1]; rfl
  rw [if_neg h1, if_neg h1]
  by_cases h2 : z = "drop"
  · rw [if_pos h2, if_pos h2]; rfl
  rw [if_neg h2, if_neg h2]
  by_cases h3 : z = "drop_next"
  · rw [if_pos h3, if_pos h3]; rfl
  rw [if_neg h3, if_neg h3]
  by_cases h4 : z = "before"
  · rw [if_pos h4, if_pos h4]; rfl
  rw [if_neg h4, if_neg h4]
  by_cases h5 : z = "after"
  · rw [if_pos h5, if_pos h5]; rfl
  rw [if_neg h5, if_neg h5]
  by_cases h6 : z = "mark"
  · rw [if_pos h6, if_pos h6]; rfl
  rw [if_neg h6, if_neg h6]
  by_cases h7 : z = "break"
  · rw [if_pos h7, if_pos h7]; rfl
  rw [if_neg h7, if_neg h7]
  rfl
theorem x_notKd {K : PySem.W.Frag} {d : Addr} {H : Hp} {Q : VK} {z : Str} {r : Option Value} (e : PySem.W.nsIn K d z = some r) (h : Q (.bl (!r.isSome)) H) :
    (fun x y H Q => ∃ (z : Str) (r : Option Value), x = .str z ∧ y = .ref d ∧ PySem.W.nsIn K d z = some r ∧ Q (.bl (!r.isSome)) H) (V.str z) (V.ref d) H Q := ⟨z, r, rfl, rfl, e, h⟩
theorem x_ixKd {K : PySem.W.Frag} {w : World} {p : Addr} {H : Hp} {Q : VK} {z : Str} {v : V} {u : Value} {es : Array DictEntry} {n : Nat} (D : KDict K w p es n) (e : PySem.W.nsIn K p z = some (some u)) (r : RelV v u) (h : Q v H) : rIxD K w (.ref p) (.str z) H Q :=
  ⟨p, z, v, rfl, rfl, ⟨es, n, u, D.at_, D.lit, e, r⟩, h⟩
theorem isEdit_kd {z : Str} {ds : List PyData} {kd : Kd} (q : kdOf z = some kd) : isEditD (.tuple (.str z :: ds)) = editRest kd ds := by
  show editOf (kdOf z) ds = _
  rw [q]
  rfl
theorem isEdit_no {z : Str} {ds : List PyData} (q : kdOf z = none) : isEditD (.tuple (.str z :: ds)) = false := by
  show editOf (kdOf z) ds = _
  rw [q]
  rfl
def sp_is_edit (K : PySem.W.Frag) : Sp := fun vs H Q _ => ∃ (v : V) (d : PyData), vs = [v] ∧ Dp K H v d ∧ small d = true ∧ Q (.bl (isEditD d)) H
theorem ok_is_edit (T : TT w K mg) : FnR P w K mg base CX0 2 (He.ga K "is_edit") (sp_is_edit K) := by
  obtain ⟨es, n, D⟩ := T.tab 0 rfl
  have kb := kinds_ok T
  refine T.ok0 4 rfl rfl rfl sc_is_edit (fun _ _ _ _ _ _ us hl => match us, hl with | [_], _ => rfl) ?len (fun cdv A outer s H vs Q E hr h => ⟨_, (pss_cons (ps_if (PW.pt (pw_or (pt_not (pt_val (pe_callB (kcall_isi (K := K) rfl) (by rfl) (T.free 36 rfl) (by decide +kernel) (pa_cons (pv 0) (pa_cons (pty (n := "tuple") (T.free 44 rfl) (by decide +kernel)) pa_nil))))) (pw_or (pt_cmpR op_eq (pe_callB (kcr_len (K := K) rfl) (by rfl) (T.free 37 rfl) (by decide +kernel) (pa_cons (pv 0) pa_nil)) pe_int (nomark _)) (pw_or (pt_not (pt_val (pe_callB (kcall_isi (K := K) rfl) (by rfl) (T.free 36 rfl) (by decide +kernel) (pa_cons (pe_ix (kix_tup (K := K) rfl) (pv 0) pe_int (fun _ _ => rfl)) (pa_cons (pty (n := "str") (T.free 43 rfl) (by decide +kernel)) pa_nil))))) (pw_or1 (pt_cmpR (op_notIn_kd D) (pe_ix (kix_tup (K := K) rfl) (pv 0) pe_int (fun _ _ => rfl)) (pe_glob (v := .ref _) rfl (T.glo 30 rfl) rfl) (by rfl)))))))
      (pss_one (ps_ret pe_bl))
      pss_nil)
      (pss_cons (ps_set (i := 1) sc_is_edit.nd rfl (Or.inl rfl) (pe_ix (kix_kdict (K := K) rfl rfl) (pe_glob (v := .ref _) rfl (T.glo 30 rfl) rfl) (pe_ix (kix_tup (K := K) rfl) (pv 0) pe_int (fun _ _ => rfl)) (fun _ _ => rfl)))
      (pss_cons (ps_if (pt_cmpR op_isN1 (pv 1) pe_non (nomark _))
      (pss_one (ps_ret (pe_cmpR op_eq (pe_callB (kcr_len (K := K) rfl) (by rfl) (T.free 37 rfl) (by decide +kernel) (pa_cons (pv 0) pa_nil)) pe_int (nomark _))))
      pss_nil)
      (pss_cons (ps_if (pt_cmpR op_ne (pe_callB (kcr_len (K := K) rfl) (by rfl) (T.free 37 rfl) (by decide +kernel) (pa_cons (pv 0) pa_nil)) pe_int (nomark _))
      (pss_one (ps_ret pe_bl))
      pss_nil)
      (pss_one (ps_ret (pe_ifExp (pt_cmpR op_eq (pv 1) pe_str (nomark _)) (pc (ok_is_item T) (hr.mono (by decide)) (T.glo 1 rfl) (T.kp 1 rfl) pass0 (pa_cons (pe_ix (kix_tup (K := K) rfl) (pv 0) pe_int (fun _ _ => rfl)) pa_nil)) (pc (ok_is_integer T) (hr.mono (by decide)) (T.glo 0 rfl) (T.kp 0 rfl) pass0 (pa_cons (pe_ix (kix_tup (K := K) rfl) (pv 0) pe_int (fun _ _ => rfl)) (pa_cons pe_int (pa_cons (pe_op op_sub (pgi (T.int 28 rfl)) pe_int) pa_nil))))))))))), ?read⟩)
  case len => intro vs H Q E h; obtain ⟨_, _, rfl, _⟩ := h; rfl
  case read =>
    obtain ⟨v, d, rfl, hd, hs, k⟩ := h
    refine x_start (σ' := [some v, none]) rfl ?_
    cases hd with
    | @tup a xs ds hq ha =>
      (walk_at "s")
      refine x_len (len_tup hq) ?_
      (walk_at "s")
      refine x_d (fun h1 => ?_) (fun h1 => ?_) <;> (walk_at "s")
      · rw [vint] at h1
        have : xs = [] := List.length_eq_zero_iff.mp (by exact_mod_cast h1)
        subst this
        cases ha
        exact k
      cases ha with
      | nil => exact absurd rfl h1
      | @cons v0 vs d0 ds h0 hr =>
        refine x_ixT hq (atI_nat (j := 0) rfl) ?_
        (walk_at "s")
        cases h0 <;> (walk_at "s") <;> try exact k
        rename_i z
        refine x_ixT hq (atI_nat (j := 0) rfl) ?_
        (walk_at "s")
        rcases dicB_ns (z := z) kb with ⟨e1, e2⟩ | ⟨vk, u, e1, e2, e3⟩
        · refine ⟨z, _, rfl, rfl, e2, ?_⟩
          (walk_at "s")
          refine x_bT rfl ?_
          (walk_at "s")
          rw [kinds_kind] at e1
          have e4 : kdOf z = none := by
            cases q : kdOf z with
            | none => rfl
            | some kd => rw [q] at e1; cases e1
          have e5 := isEdit_no (ds := ds) e4
          rw [e5] at k
          exact k
        · refine ⟨z, _, rfl, rfl, e2, ?_⟩
          (walk_at "s")
          refine x_bF rfl ?_
          (walk_at "s")
          refine x_ixT hq (atI_nat (j := 0) rfl) ?_
          (walk_at "s")
          refine x_ixKd D e2 e3 ?_
          (walk_at "s")
          rw [kinds_kind] at e1
          cases q : kdOf z with
          | none => rw [q] at e1; cases e1
          | some kd =>
            rw [q] at e1
            have e4 : kdV kd = vk := Option.some.inj e1
            subst e4
            have e5 := isEdit_kd (ds := ds) q
            rw [e5] at k
            have hl := DpAll.length hr
            have two : ∀ {A B : Prop}, (ds.length = 1 → B) → (ds.length ≠ 1 → A) → if (!decide (V.int (((V.str z :: vs).length : Nat) : Int) = V.int 2)) = true then A else B := by
              intro A B h2 h3
              refine x_nd (fun h => h3 fun z => h ?_) (fun h => h2 ?_)
              · rw [vint, List.length_cons, hl, z]; rfl
              · rw [vint, List.length_cons, hl] at h; omega
            cases kd with
            | bare =>
              refine x_dT rfl ?_
              (walk_at "s")
              refine x_len (len_tup hq) ?_
              (walk_at "s")
              have e6 : decide (V.int (((V.str z :: vs).length : Nat) : Int) = V.int 1) = (ds.length == 0) := by
                rw [Bool.eq_iff_iff, decide_eq_true_iff, vint, List.length_cons, hl, beq_iff_eq]
                omega
              rw [e6]
              exact k
            | item =>
              refine x_dF (by intro h; cases h) ?_
              (walk_at "s")
              refine x_len (len_tup hq) ?_
              (walk_at "s")
              refine two (fun h2 => ?_) (fun h2 => ?_) <;> (walk_at "s")
              · refine x_dT rfl ?_
                (walk_at "s")
                cases hr with
                | nil => cases h2
                | @cons v1 vs1 d1 ds1 h3 hr1 =>
                  cases hr1 with
                  | cons _ _ => simp at h2
                  | nil =>
                    refine x_ixT hq (atI_nat (j := 1) rfl) ?_
                    (walk_at "s")
                    exact ⟨_, _, rfl, h3, smallAll_mem (small_tup hs) (by simp), k⟩
              · match ds, h2, k with
                | [], _, k => exact k
                | [x], h2, _ => exact absurd rfl h2
                | _ :: _ :: _, _, k => exact k
            | mark =>
              refine x_dF (by intro h; cases h) ?_
              (walk_at "s")
              refine x_len (len_tup hq) ?_
              (walk_at "s")
              refine two (fun h2 => ?_) (fun h2 => ?_) <;> (walk_at "s")
              · refine x_dF (by intro h; rw [show kdV Kd.mark = V.str "mark" from rfl, vstr] at h; exact absurd h (by decide +kernel)) ?_
                (walk_at "s")
                cases hr with
                | nil => cases h2
                | @cons v1 vs1 d1 ds1 h3 hr1 =>
                  cases hr1 with
                  | cons _ _ => simp at h2
                  | nil =>
                    refine x_ixT hq (atI_nat (j := 1) rfl) ?_
                    (walk_at "s")
                    exact ⟨_, _, _, _, rfl, h3, k⟩
              · match ds, h2, k with
                | [], _, k => exact k
                | [x], h2, _ => exact absurd rfl h2
                | _ :: _ :: _, _, k => exact k
    | _ => (walk_at "s"); exact k

--@ are_edits: thing=tup; edit=tup; place=int; return=bool
--@ is_rule: thing=tup; items=str; following=str; mark=int; edits=tup; return=bool
--@ is_loop: thing=tup; rules=tup; ends=tup; rule=tup; end=str; return=bool
--@ is_program: thing=tup; loop=tup; return=bool
theorem shE_of {d : PyData} (h : shE d = true) : ∃ w r, d = .tuple (.str w :: r) := by
  match d, h with
  | .tuple (.str w :: r), _ => exact ⟨w, r, rfl⟩
theorem shE_edit {d : PyData} (h : isEditD d = true) : shE d = true := by
  match d, h with
  | .tuple (.str w :: r), _ => rfl
/-- the tuple of words stands at pw -/
def spI_count_words (K : PySem.W.Frag) : Sp := fun vs H Q _ => ∃ (ve : V) (ds : List PyData) (ws : List Str) (pw : Addr), vs = [ve, .ref pw] ∧ H pw = some (.tup (ws.map V.str)) ∧ Dp K H ve (.tuple ds) ∧ ds.all shE = true ∧ ds.length ≤ 100000 ∧ ∀ H', Same H H' → Q (.int (countW ds ws)) H'
def sp_count_words (K : PySem.W.Frag) : Sp := fun vs H Q _ => ∃ (ve : V) (ds : List PyData) (ws : List Str), vs = ve :: ws.map V.str ∧ ws.length ≤ 100 ∧ Dp K H ve (.tuple ds) ∧ ds.all shE = true ∧ ds.length ≤ 100000 ∧ ∀ H', Same H H' → Q (.int (countW ds ws)) H'
theorem same_new {H : Hp} {p : Addr} {o : HO} (h : H p = none) : Same H (upd H p o) := fun a u e => by rw [upd_ne (ne_of_none e h)]; exact e
theorem okI_count_words (T : TT w K mg) : FnR P w K mg base CX0 1 (He.ga K "count_words") (fun vs H Q E => ∃ v0 rest, vs = v0 :: rest ∧ rest.length ≤ sizeLine ∧ ∀ p, H p = none → spI_count_words K [v0, .ref p] (upd H p (.tup rest)) Q E) := by
  refine T.okS1 5 rfl rfl rfl sc_count_words (fun _ _ _ _ _ _ _ => rfl) (fun _ _ _ _ _ _ _ _ _ => rfl) (fun cdv A outer s H vs Q E hr h => ⟨_, (pss_one (ps_ret (pe_callB (kcr_len (K := K) rfl) (by rfl) (T.free 37 rfl) (by decide +kernel) (pa_cons (pe_lc (own := [("edit", 2)]) (g := gName 2) (by rfl) sc_count_words.nd (kpi_tup (K := K) rfl (pv 0)) (blkOk_by (own := [("edit", 2)]) (N := N_count_words) (sc := defScope (top 15)) (by decide +kernel)) (fun _ _ _ _ _ => (pg_name (i := 2) sc_count_words.nd rfl (Or.inl rfl))) (fun _ _ _ _ _ => (pts_one (pt_cmpR (kop_in (K := K) rfl) (pe_ix (kix_tup (K := K) rfl) (pv 2) pe_int (fun _ _ => rfl)) (pv 1) (by rfl)))) (fun _ _ _ _ _ => (pv 2))) pa_nil)))), ?read⟩)
  case read =>
    obtain ⟨ve, ds, ws, pw, rfl, hw, hd, hsh, hz, k⟩ := h
    refine x_start (σ' := [some ve, some (.ref pw), none]) rfl ?_
    obtain ⟨a, xs, rfl, hq, ha⟩ := dp_tup hd
    have hl := DpAll.length ha
    (walk_at "s")
    refine ⟨_, rfl, ⟨_, hq⟩, fun D hD => lcI Src.tup (fun H' s => sqT_same s hq) hD (by omega) (fun i => if decide (wordOf (ds.getD i .none) ∈ ws) = true then xs[i]? else none) (fun i x hx H' s1 Y N hY hN => ?_) (fun H' s1 hl1 => ?_)⟩
    · obtain ⟨d, e1, e2⟩ := DpAll.get ha hx
      have hm : d ∈ ds := List.mem_of_getElem? e1
      obtain ⟨wd, r, rfl⟩ := shE_of (List.all_eq_true.mp hsh d hm)
      have e3 : ds.getD i .none = .tuple (.str wd :: r) := by simp [List.getD, e1]
      have e4 : wordOf (ds.getD i .none) = wd := by rw [e3]; rfl
      obtain ⟨b, ys, rfl, hb, hbs⟩ := dp_tup e2
      cases hbs with
      | @cons v0 vs d0 ds0 h0 hr =>
        cases h0
        (walk_at "s")
        refine ⟨rfl, ?_⟩
        (walk_at "s")
        refine x_ixT (sqT_same s1 hb) (atI_nat (j := 0) rfl) ?_
        (walk_at "s")
        refine x_inY (xs := ws.map V.str) (.inr (SqT.of (s1 _ _ hw))) rfl (by rw [List.all_map]; exact List.all_eq_true.mpr fun _ _ => rfl) ?_
        (walk_at "s")
        rw [inV_str]
        refine x_2 (fun h => ?_) (fun h => ?_) <;> (walk_at "s")
        · exact hY _ _ (by rw [e4, h, if_pos rfl]; exact hx) (Same.refl _)
        · exact hN _ (by rw [e4, h]; rfl) (Same.refl _)
    · (walk_at "s")
      refine x_len (len_lst (SqL.of hl1)) ?_
      rw [hl]
      have e : ((List.range ds.length).filterMap fun i => if decide (wordOf (ds.getD i .none) ∈ ws) = true then xs[i]? else none).length = countW ds ws := by
        refine lenI (fun d => decide (wordOf d ∈ ws)) ds _ fun i d hd => ?_
        have e3 : ds.getD i .none = d := by simp [List.getD, hd]
        have hi : i < xs.length := by rw [hl]; exact (List.getElem?_eq_some_iff.mp hd).1
        show (if decide (wordOf (ds.getD i .none) ∈ ws) = true then xs[i]? else none).isSome = decide (wordOf d ∈ ws)
        rw [e3]
        by_cases h : wordOf d ∈ ws
        · simp [h, hi]
        · simp [h]
      rw [e]
      exact k _ s1
theorem ok_count_words (T : TT w K mg) : FnR P w K mg base CX0 1 (He.ga K "count_words") (sp_count_words K) :=
  (okI_count_words T).imp fun vs H Q E ⟨ve, ds, ws, ev, hw, hd, hs, hz, k⟩ => ⟨ve, ws.map V.str, ev, by rw [List.length_map, sizeLine_eq]; omega, fun p hp =>
    ⟨ve, ds, ws, p, rfl, upd_same, Dp.same (same_new hp) _ _ hd, hs, hz, fun H' s => k H' ((same_new hp).trans s)⟩⟩
def sp_may_follow (K : PySem.W.Frag) : Sp := fun vs H Q _ => ∃ (ve vd : V) (ds : List PyData) (d : PyData), vs = [ve, vd] ∧ Dp K H ve (.tuple ds) ∧ Dp K H vd d ∧ (ds ++ [d]).all shE = true ∧ ds.length ≤ 90000 ∧ ∀ H', Same H H' → Q (.bl (mayFollowD ds d)) H'
theorem ok_may_follow (T : TT w K mg) : FnR P w K mg base CX0 2 (He.ga K "may_follow") (sp_may_follow K) := by
  refine T.ok0 6 rfl rfl rfl sc_may_follow (fun _ _ _ _ _ _ us hl => match us, hl with | [_, _], _ => rfl) ?len (fun cdv A outer s H vs Q E hr h => ⟨_, (pss_cons (ps_set (i := 2) sc_may_follow.nd rfl (Or.inl rfl) (pe_tup (kpa_star (K := K) rfl (pv 0) (pa_cons (pv 1) pa_nil))))
      (pss_cons (ps_if (PW.pt (pw_or (pt_cmpR op_gt (pe_callB (kcr_len (K := K) rfl) (by rfl) (T.free 37 rfl) (by decide +kernel) (pa_cons (pv 2) pa_nil)) (pgi (T.int 26 rfl)) (nomark _)) (pw_or1 (pt_cmpR op_gt (pc (ok_count_words T) (hr.mono (by decide)) (T.glo 5 rfl) (T.kp 5 rfl) pass0 (pa_cons (pv 0) (pa_cons pe_str pa_nil))) pe_int (nomark _)))))
      (pss_one (ps_ret pe_bl))
      pss_nil)
      (pss_cons (ps_if (pt_cmpR op_gt (pc (ok_count_words T) (hr.mono (by decide)) (T.glo 5 rfl) (T.kp 5 rfl) pass0 (pa_cons (pv 2) (pa_cons pe_str (pa_cons pe_str pa_nil)))) pe_int (nomark _))
      (pss_one (ps_ret pe_bl))
      pss_nil)
      (pss_one (ps_ret (pe_cmpR op_le (pc (ok_count_words T) (hr.mono (by decide)) (T.glo 5 rfl) (T.kp 5 rfl) pass0 (pa_cons (pv 2) (pa_cons pe_str (pa_cons pe_str pa_nil)))) (pgi (T.int 27 rfl)) (nomark _))))))), ?read⟩)
  case len => intro vs H Q E h; obtain ⟨_, _, _, _, rfl, _⟩ := h; rfl
  case read =>
    obtain ⟨ve, vd, ds, d, rfl, he, hd, hsh, hz, k⟩ := h
    refine x_start (σ' := [some ve, some vd, none]) rfl ?_
    obtain ⟨a, xs, rfl, hq, ha⟩ := dp_tup he
    have hl := DpAll.length ha
    have hsh1 : ds.all shE = true := by rw [List.all_append, Bool.and_eq_true] at hsh; exact hsh.1
    (walk_at "s")
    refine ⟨_, _, rfl, .inl hq, ?_⟩
    (walk_at "s")
    refine ⟨by rw [List.length_append, sizeLine_eq]; simp; omega, fun p hp => ?_⟩
    have s1 := same_new (o := .tup (xs ++ [vd])) hp
    have hp1 : SqT K (upd H p (.tup (xs ++ [vd]))) p (xs ++ [vd]) := SqT.of upd_same
    have ht : Dp K (upd H p (.tup (xs ++ [vd]))) (.ref p) (.tuple (ds ++ [d])) := .tup hp1 (DpAll.app (DpAll.same s1 _ _ ha) (.cons (Dp.same s1 _ _ hd) .nil))
    have lz : (ds ++ [d]).length ≤ 100000 := by rw [List.length_append]; simp; omega
    (walk_at "s")
    refine x_len (len_tup hp1) ?_
    (walk_at "s")
    refine x_d (fun h1 => ?_) (fun h1 => ?_) <;> (walk_at "s")
    · have e : mayFollowD ds d = false := by
        unfold mayFollowD
        rw [if_pos]
        simp at h1
        omega
      rw [← e]
      exact k _ s1
    have h1' : ¬ ds.length + 1 > 4 := by
      simp at h1
      omega
    refine ⟨_, ds, ["break"], rfl, by decide, Dp.same s1 _ _ he, hsh1, by omega, fun H2 s2 => ?_⟩
    (walk_at "s")
    refine x_d (fun h2 => ?_) (fun h2 => ?_) <;> (walk_at "s")
    · have e : mayFollowD ds d = false := by
        unfold mayFollowD
        rw [if_neg h1', if_pos (by omega)]
      rw [← e]
      exact k _ (s1.trans s2)
    refine ⟨_, ds ++ [d], ["before", "after"], rfl, by decide, Dp.same s2 _ _ ht, hsh, lz, fun H3 s3 => ?_⟩
    (walk_at "s")
    refine x_d (fun h3 => ?_) (fun h3 => ?_) <;> (walk_at "s")
    · have e : mayFollowD ds d = false := by
        unfold mayFollowD
        rw [if_neg h1', if_neg (by omega), if_pos (by omega)]
      rw [← e]
      exact k _ ((s1.trans s2).trans s3)
    refine ⟨_, ds ++ [d], ["drop", "drop_next"], rfl, by decide, Dp.same (s2.trans s3) _ _ ht, hsh, lz, fun H4 s4 => ?_⟩
    (walk_at "s")
    have e : mayFollowD ds d = decide ((countW (ds ++ [d]) ["drop", "drop_next"] : Int) ≤ 2) := by
      unfold mayFollowD
      rw [if_neg h1', if_neg (by omega), if_neg (by omega), decide_eq_decide]
      omega
    rw [← e]
    exact k _ (((s1.trans s2).trans s3).trans s4)

--@ are_edits: thing=tup; edit=tup; place=int; return=bool
--@ is_rule: thing=tup; items=str; following=str; mark=int; edits=tup; return=bool
--@ is_loop: thing=tup; rules=tup; ends=tup; rule=tup; end=str; return=bool
--@ is_program: thing=tup; loop=tup; return=bool
def sp_are_edits (K : PySem.W.Frag) : Sp := fun vs H Q _ => ∃ (v : V) (d : PyData), vs = [v] ∧ Dp K H v d ∧ small d = true ∧ ∀ H', Same H H' → Q (.bl (areEditsD d)) H'
theorem ok_are_edits (T : TT w K mg) : FnR P w K mg base CX0 3 (He.ga K "are_edits") (sp_are_edits K) := by
  refine T.ok0 7 rfl rfl rfl sc_are_edits (fun _ _ _ _ _ _ us hl => match us, hl with | [_], _ => rfl) ?len (fun cdv A outer s H vs Q E hr h => ⟨_, (pss_cons (ps_if (pt_not (pt_val (pe_callB (kcall_isi (K := K) rfl) (by rfl) (T.free 36 rfl) (by decide +kernel) (pa_cons (pv 0) (pa_cons (pty (n := "tuple") (T.free 44 rfl) (by decide +kernel)) pa_nil)))))
      (pss_one (ps_ret pe_bl))
      pss_nil)
      (pss_cons (ps_for PassesOwn.never rfl (kpi_enumT (K := K) rfl (by rfl) (T.free 34 rfl) (pa_cons (pv 0) pa_nil)) (kpg_tup (K := K) rfl rfl (pgs_cons (pg_name (i := 1) sc_are_edits.nd rfl (Or.inl rfl)) (pgs_cons (pg_name (i := 2) sc_are_edits.nd rfl (Or.inl rfl)) pgs_nil)))
      (pss_one (ps_if (PW.pt (pw_or (pt_not (pt_val (pc (ok_is_edit T) (hr.mono (by decide)) (T.glo 4 rfl) (T.kp 4 rfl) pass0 (pa_cons (pv 2) pa_nil)))) (pw_or1 (pt_not (pt_val (pc (ok_may_follow T) (hr.mono (by decide)) (T.glo 6 rfl) (T.kp 6 rfl) pass0 (pa_cons (pe_slice (ksl_tupA (K := K) rfl) (pv 0) po_none (po_some (pv 1))) (pa_cons (pv 2) pa_nil))))))))
      (pss_one (ps_ret pe_bl))
      pss_nil)))
      (pss_one (ps_ret pe_bl)))), ?read⟩)
  case len => intro vs H Q E h; obtain ⟨_, _, rfl, _⟩ := h; rfl
  case read =>
    obtain ⟨v, d, rfl, hd, hs, k⟩ := h
    refine x_start (σ' := [some v, none, none]) rfl ?_
    cases hd with
    | @tup a xs ds hq ha =>
      have hl := DpAll.length ha
      have hz := small_len hs
      (walk_at "s")
      refine ⟨a, xs, rfl, hq, for_enumT (fun i σ H' => (∃ x y, σ = [some (.ref a), x, y]) ∧ Same H H' ∧ areEditsFrom (ds.take i) (ds.drop i) = areEditsFrom [] ds ∧ (ds.take i).all shE = true) ⟨⟨_, _, rfl⟩, Same.refl _, by simp, by simp⟩ (fun i σ H' _ p => sqT_same p.2.1 hq) (fun i x T1 σ H' hx p hT => ?_) (fun σ H' p => ?_)⟩
      · obtain ⟨⟨y1, y2, rfl⟩, s1, p1, p2⟩ := p
        obtain ⟨d1, e1, e2⟩ := DpAll.get ha hx
        have hi : i < ds.length := (List.getElem?_eq_some_iff.mp e1).1
        have hdr : ds.drop i = d1 :: ds.drop (i + 1) := by
          rw [List.drop_eq_getElem_cons hi]
          rw [List.getElem?_eq_getElem hi] at e1
          rw [Option.some.inj e1]
        have htk : ds.take (i + 1) = ds.take i ++ [d1] := by rw [List.take_succ, e1]; rfl
        rw [hdr] at p1
        have s2 := s1.trans (same_new (o := .tup [.int (i : Nat), x]) hT)
        refine x_gTup (SqT.of upd_same) rfl ?_
        (walk_at "s")
        refine ⟨_, d1, rfl, Dp.same s2 _ _ e2, smallAll_mem (small_tup hs) (List.mem_of_getElem? e1), ?_⟩
        (walk_at "s")
        refine x_2 (fun h1 => ?_) (fun h1 => ?_) <;> (walk_at "s")
        · have h1' : isEditD d1 = false := by simpa using h1
          rw [areEditsFrom, if_neg (by rw [h1']; decide)] at p1
          have e : areEditsD (.tuple ds) = false := p1.symm
          rw [← e]
          exact k _ s2
        · have h1' : isEditD d1 = true := by simpa using h1
          rw [areEditsFrom, if_pos h1'] at p1
          refine x_slTake (n := i) (sqT_same s2 hq) (by omega) (fun p H2 s3 hp => ?_)
          (walk_at "s")
          have hall : (ds.take i ++ [d1]).all shE = true := by
            rw [List.all_append, p2]
            simp [shE_edit h1']
          refine ⟨_, _, ds.take i, d1, rfl, .tup hp (DpAll.same (s2.trans s3) _ _ (DpAll.take i ha)), Dp.same (s2.trans s3) _ _ e2, hall, by rw [List.length_take]; omega, fun H3 s4 => ?_⟩
          (walk_at "s")
          refine x_2 (fun h2 => ?_) (fun h2 => ?_) <;> (walk_at "s")
          · have h2' : mayFollowD (ds.take i) d1 = false := by simpa using h2
            rw [if_neg (by rw [h2']; decide)] at p1
            have e : areEditsD (.tuple ds) = false := p1.symm
            rw [← e]
            exact k _ ((s2.trans s3).trans s4)
          · have h2' : mayFollowD (ds.take i) d1 = true := by simpa using h2
            rw [if_pos h2'] at p1
            exact ⟨⟨_, _, rfl⟩, (s2.trans s3).trans s4, by rw [htk]; exact p1, by rw [htk]; exact hall⟩
      · obtain ⟨⟨y1, y2, rfl⟩, s1, p1, p2⟩ := p
        rw [hl, List.drop_length, areEditsFrom] at p1
        (walk_at "s")
        have e : areEditsD (.tuple ds) = true := p1.symm
        rw [← e]
        exact k _ s1
    | _ => (walk_at "s"); exact k _ (Same.refl _)

--@ is_rule: thing=tup; items=str; following=str; mark=int; edits=tup; return=bool
--@ is_loop: thing=tup; rules=tup; ends=tup; rule=tup; end=str; return=bool
--@ is_program: thing=tup; loop=tup; return=bool
theorem dp4 {K : PySem.W.Frag} {H : Hp} {vs : List V} {d1 d2 d3 d4 : PyData} (h : DpAll K H vs [d1, d2, d3, d4]) : ∃ v1 v2 v3 v4, vs = [v1, v2, v3, v4] ∧ Dp K H v1 d1 ∧ Dp K H v2 d2 ∧ Dp K H v3 d3 ∧ Dp K H v4 d4 := by
  cases h with
  | cons a h => cases h with
    | cons b h => cases h with
      | cons c h => cases h with
        | cons d h => cases h; exact ⟨_, _, _, _, rfl, a, b, c, d⟩
theorem dp2 {K : PySem.W.Frag} {H : Hp} {vs : List V} {d1 d2 : PyData} (h : DpAll K H vs [d1, d2]) : ∃ v1 v2, vs = [v1, v2] ∧ Dp K H v1 d1 ∧ Dp K H v2 d2 := by
  cases h with
  | cons a h => cases h with
    | cons b h => cases h; exact ⟨_, _, rfl, a, b⟩
theorem isRule_len {ds : List PyData} (h : ds.length ≠ 4) : isRuleD (.tuple ds) = false := by
  match ds, h with
  | [], _ => rfl
  | [_], _ => rfl
  | [_, _], _ => rfl
  | [_, _, _], _ => rfl
  | [_, _, _, _], h => exact absurd rfl h
  | _ :: _ :: _ :: _ :: _ :: _, _ => rfl
theorem isLoop_len {ds : List PyData} (h : ds.length ≠ 2) : isLoopD (.tuple ds) = false := by
  match ds, h with
  | [], _ => rfl
  | [_], _ => rfl
  | [_, _], h => exact absurd rfl h
  | _ :: _ :: _ :: _, _ => rfl
def sp_is_rule (K : PySem.W.Frag) : Sp := fun vs H Q _ => ∃ (v : V) (d : PyData), vs = [v] ∧ Dp K H v d ∧ small d = true ∧ ∀ H', Same H H' → Q (.bl (isRuleD d)) H'
theorem ok_is_rule (T : TT w K mg) : FnR P w K mg base CX0 4 (He.ga K "is_rule") (sp_is_rule K) := by
  refine T.ok0 8 rfl rfl rfl sc_is_rule (fun _ _ _ _ _ _ us hl => match us, hl with | [_], _ => rfl) ?len (fun cdv A outer s H vs Q E hr h => ⟨_, (pss_cons (ps_if (PW.pt (pw_or (pt_not (pt_val (pe_callB (kcall_isi (K := K) rfl) (by rfl) (T.free 36 rfl) (by decide +kernel) (pa_cons (pv 0) (pa_cons (pty (n := "tuple") (T.free 44 rfl) (by decide +kernel)) pa_nil))))) (pw_or1 (pt_cmpR op_ne (pe_callB (kcr_len (K := K) rfl) (by rfl) (T.free 37 rfl) (by decide +kernel) (pa_cons (pv 0) pa_nil)) pe_int (nomark _)))))
      (pss_one (ps_ret pe_bl))
      pss_nil)
      (pss_cons (ps_asg (pv 0) (kpg_tup (K := K) rfl rfl (pgs_cons (pg_name (i := 1) sc_is_rule.nd rfl (Or.inl rfl)) (pgs_cons (pg_name (i := 2) sc_is_rule.nd rfl (Or.inl rfl)) (pgs_cons (pg_name (i := 3) sc_is_rule.nd rfl (Or.inl rfl)) (pgs_cons (pg_name (i := 4) sc_is_rule.nd rfl (Or.inl rfl)) pgs_nil))))))
      (pss_cons (ps_if (PW.pt (pw_and (pt_cmpR op_notN1 (pv 1) pe_non (nomark _)) (pw_and1 (pt_not (pt_val (pc (ok_is_integer T) (hr.mono (by decide)) (T.glo 0 rfl) (T.kp 0 rfl) pass0 (pa_cons (pv 1) (pa_cons pe_int (pa_cons (pe_op op_sub (pgi (T.int 28 rfl)) pe_int) pa_nil)))))))))
      (pss_one (ps_ret pe_bl))
      pss_nil)
      (pss_one (ps_ret (pe_and (pc (ok_is_selection T) (hr.mono (by decide)) (T.glo 3 rfl) (T.kp 3 rfl) pass0 (pa_cons (pv 2) (pa_cons (pgs (T.str 22 rfl)) pa_nil))) (pe_and (pc (ok_is_selection T) (hr.mono (by decide)) (T.glo 3 rfl) (T.kp 3 rfl) pass0 (pa_cons (pv 3) (pa_cons (pe_op op_add_str (pgs (T.str 22 rfl)) (pgs (T.str 23 rfl))) pa_nil))) (pe_one (pc (ok_are_edits T) (hr.mono (by decide)) (T.glo 7 rfl) (T.kp 7 rfl) pass0 (pa_cons (pv 4) pa_nil)))))))))), ?read⟩)
  case len => intro vs H Q E h; obtain ⟨_, _, rfl, _⟩ := h; rfl
  case read =>
    obtain ⟨v, d, rfl, hd, hs, k⟩ := h
    refine x_start (σ' := [some v, none, none, none, none]) rfl ?_
    cases hd with
    | @tup a xs ds hq ha =>
      (walk_at "s")
      refine x_len (len_tup hq) ?_
      (walk_at "s")
      rw [DpAll.length ha]
      refine x_nd (fun h1 => ?_) (fun h1 => ?_) <;> (walk_at "s")
      · rw [isRule_len (fun z => h1 (by rw [z]; rfl))] at k
        exact k _ (Same.refl _)
      rw [vint] at h1
      match ds, h1 with
      | [m, it, fo, ed], _ =>
      obtain ⟨v1, v2, v3, v4, rfl, g1, g2, g3, g4⟩ := dp4 ha
      have sm : ∀ x, x ∈ [m, it, fo, ed] → small x = true := fun x hx => smallAll_mem (small_tup hs) hx
      refine x_gTup hq rfl ?_
      (walk_at "s")
      have main : isMarkD m = true → tRet (tAndV (tCl (sp_is_selection K) E0 (tCons (tVar 2) (tCons (tC (V.str "abcd")) tNil))) (tAndV (tCl (sp_is_selection K) E0 (tCons (tVar 3) (tCons (tOp (fun x y H Q => ∃ i j, x = .str i ∧ y = .str j ∧ i.length + j.length ≤ sizeLine ∧ Q (.str (i ++ j)) H) (tC (V.str "abcd")) (tC (V.str "$"))) tNil))) (tCl (sp_are_edits K) E0 (tCons (tVar 4) tNil)))) (Ends.mk (fun _ H' => Q .non H') Q (fun _ _ => False) (fun _ _ => False)) [some (.ref a), some v1, some v2, some v3, some v4] H := by
        intro hm
        have e0 : isRuleD (.tuple [m, it, fo, ed]) = if isSelD abcd it then (if isSelD abcdE fo then areEditsD ed else false) else false := by
          show (if isMarkD m then _ else false) = _
          rw [hm]
          rfl
        rw [e0] at k
        (walk_at "s")
        refine ⟨_, it, abcd, rfl, g2, sm _ (by simp), by decide +kernel, fun H1 s1 => ?_⟩
        (walk_at "s")
        refine x_2 (fun h2 => ?_) (fun h2 => ?_) <;> (walk_at "s")
        · refine ⟨_, _, rfl, rfl, by decide +kernel, ?_⟩
          (walk_at "s")
          refine ⟨_, fo, abcdE, by rw [show (("abcd" : Str) ++ ("$" : Str)) = abcdE by decide +kernel], Dp.same s1 _ _ g3, sm _ (by simp), by decide +kernel, fun H2 s2 => ?_⟩
          (walk_at "s")
          refine x_2 (fun h3 => ?_) (fun h3 => ?_) <;> (walk_at "s")
          · rw [h2, h3, if_pos rfl, if_pos rfl] at k
            exact ⟨_, ed, rfl, Dp.same (s1.trans s2) _ _ g4, sm _ (by simp), fun H3 s3 => k _ ((s1.trans s2).trans s3)⟩
          · rw [h2, h3, if_pos rfl, if_neg (by decide)] at k
            exact k _ (s1.trans s2)
        · rw [h2, if_neg (by decide)] at k
          exact k _ s1
      have bad : isMarkD m = false → ∀ H', Same H H' → Q (.bl false) H' := by
        intro hm
        have e0 : isRuleD (.tuple [m, it, fo, ed]) = false := by
          show (if isMarkD m then _ else false) = false
          rw [hm]
          rfl
        rw [e0] at k
        exact k
      by_cases hn : v1 = .non
      · subst hn
        cases g1
        exact x_ndF rfl (main rfl)
      · refine x_ndT hn ?_
        (walk_at "s")
        refine ⟨_, m, 0, 3, rfl, g1, ?_⟩
        (walk_at "s")
        have e1 : isMarkD m = isIntegerD 0 3 m := by
          cases m with
          | none => cases g1; exact absurd rfl hn
          | _ => rfl
        rw [← e1]
        refine x_2 (fun h2 => ?_) (fun h2 => ?_)
        · (walk_at "s")
          exact bad (by simpa using h2) _ (Same.refl _)
        · exact main (by simpa using h2)
    | _ => (walk_at "s"); exact k _ (Same.refl _)
def sp_is_loop (K : PySem.W.Frag) : Sp := fun vs H Q _ => ∃ (v : V) (d : PyData), vs = [v] ∧ Dp K H v d ∧ small d = true ∧ ∀ H', Same H H' → Q (.bl (isLoopD d)) H'
theorem ok_is_loop (T : TT w K mg) : FnR P w K mg base CX0 5 (He.ga K "is_loop") (sp_is_loop K) := by
  refine T.ok0 9 rfl rfl rfl sc_is_loop (fun _ _ _ _ _ _ us hl => match us, hl with | [_], _ => rfl) ?len (fun cdv A outer s H vs Q E hr h => ⟨_, (pss_cons (ps_if (PW.pt (pw_or (pt_not (pt_val (pe_callB (kcall_isi (K := K) rfl) (by rfl) (T.free 36 rfl) (by decide +kernel) (pa_cons (pv 0) (pa_cons (pty (n := "tuple") (T.free 44 rfl) (by decide +kernel)) pa_nil))))) (pw_or1 (pt_cmpR op_ne (pe_callB (kcr_len (K := K) rfl) (by rfl) (T.free 37 rfl) (by decide +kernel) (pa_cons (pv 0) pa_nil)) pe_int (nomark _)))))
      (pss_one (ps_ret pe_bl))
      pss_nil)
      (pss_cons (ps_asg (pv 0) (kpg_tup (K := K) rfl rfl (pgs_cons (pg_name (i := 1) sc_is_loop.nd rfl (Or.inl rfl)) (pgs_cons (pg_name (i := 2) sc_is_loop.nd rfl (Or.inl rfl)) pgs_nil))))
      (pss_cons (ps_if (PW.pt (pw_or (pt_not (pt_val (pe_callB (kcall_isi (K := K) rfl) (by rfl) (T.free 36 rfl) (by decide +kernel) (pa_cons (pv 1) (pa_cons (pty (n := "tuple") (T.free 44 rfl) (by decide +kernel)) pa_nil))))) (pw_or (pt_cmpR op_gt (pe_callB (kcr_len (K := K) rfl) (by rfl) (T.free 37 rfl) (by decide +kernel) (pa_cons (pv 1) pa_nil)) (pgi (T.int 24 rfl)) (nomark _)) (pw_or1 (pt_not (pt_val (pe_callB (kcr_all (K := K) rfl rfl) (by rfl) (T.free 32 rfl) (by decide +kernel) (pa_cons (pe_lc (own := [("rule", 3)]) (g := gName 3) (tt := tYes) (by rfl) sc_is_loop.nd (kpi_tup (K := K) rfl (pv 1)) (blkOk_by (own := [("rule", 3)]) (N := N_is_loop) (sc := defScope (top 19)) (by decide +kernel)) (fun _ _ _ _ _ => (pg_name (i := 3) sc_is_loop.nd rfl (Or.inl rfl))) (fun _ _ _ _ _ => pts_nil) (fun _ _ _ _ _ => (pc (ok_is_rule T) (hr.mono (by decide)) (T.glo 8 rfl) (T.kp 8 rfl) pass0 (pa_cons (pv 3) pa_nil)))) pa_nil))))))))
      (pss_one (ps_ret pe_bl))
      pss_nil)
      (pss_cons (ps_if (PW.pt (pw_or (pt_not (pt_val (pe_callB (kcall_isi (K := K) rfl) (by rfl) (T.free 36 rfl) (by decide +kernel) (pa_cons (pv 2) (pa_cons (pty (n := "tuple") (T.free 44 rfl) (by decide +kernel)) pa_nil))))) (pw_or1 (pt_cmpR op_ne (pe_callB (kcr_len (K := K) rfl) (by rfl) (T.free 37 rfl) (by decide +kernel) (pa_cons (pv 2) pa_nil)) (pgi (T.int 28 rfl)) (nomark _)))))
      (pss_one (ps_ret pe_bl))
      pss_nil)
      (pss_one (ps_ret (pe_callB (kcr_all (K := K) rfl rfl) (by rfl) (T.free 32 rfl) (by decide +kernel) (pa_cons (pe_lc (own := [("end", 4)]) (g := gName 4) (tt := tYes) (by rfl) sc_is_loop.nd (kpi_tup (K := K) rfl (pv 2)) (blkOk_by (own := [("end", 4)]) (N := N_is_loop) (sc := defScope (top 19)) (by decide +kernel)) (fun _ _ _ _ _ => (pg_name (i := 4) sc_is_loop.nd rfl (Or.inl rfl))) (fun _ _ _ _ _ => pts_nil) (fun _ _ _ _ _ => (pe_and (pc (ok_is_text T) (hr.mono (by decide)) (T.glo 2 rfl) (T.kp 2 rfl) pass0 (pa_cons (pv 4) pa_nil)) (pe_one (pe_cmpR op_le (pe_callB (kcr_len (K := K) rfl) (by rfl) (T.free 37 rfl) (by decide +kernel) (pa_cons (pv 4) pa_nil)) (pgi (T.int 29 rfl)) (nomark _)))))) pa_nil)))))))), ?read⟩)
  case len => intro vs H Q E h; obtain ⟨_, _, rfl, _⟩ := h; rfl
  case read =>
    obtain ⟨v, d, rfl, hd, hs, k⟩ := h
    refine x_start (σ' := [some v, none, none, none, none]) rfl ?_
    cases hd with
    | @tup a xs ds hq ha =>
      (walk_at "s")
      refine x_len (len_tup hq) ?_
      (walk_at "s")
      rw [DpAll.length ha]
      refine x_nd (fun h1 => ?_) (fun h1 => ?_) <;> (walk_at "s")
      · rw [isLoop_len (fun z => h1 (by rw [z]; rfl))] at k
        exact k _ (Same.refl _)
      rw [vint] at h1
      match ds, h1 with
      | [ru, en], _ =>
      obtain ⟨v1, v2, rfl, g1, g2⟩ := dp2 ha
      have sm : ∀ x, x ∈ [ru, en] → small x = true := fun x hx => smallAll_mem (small_tup hs) hx
      have k0 : ∀ H', Same H H' → Q (.bl (rulesOk ru en)) H' := k
      refine x_gTup hq rfl ?_
      (walk_at "s")
      cases g1 with
      | @tup a1 xs1 rs hq1 ha1 =>
        (walk_at "s")
        refine x_len (len_tup hq1) ?_
        (walk_at "s")
        rw [DpAll.length ha1]
        refine x_d (fun h2 => ?_) (fun h2 => ?_) <;> (walk_at "s")
        · have e : rulesOk (.tuple rs) en = false := if_neg (by omega)
          rw [e] at k0
          exact k0 _ (Same.refl _)
        have k1 : ∀ H', Same H H' → Q (.bl (if rs.all isRuleD then endsOk en else false)) H' := by
          have e : rulesOk (.tuple rs) en = if rs.all isRuleD then endsOk en else false := if_pos (by omega)
          rw [e] at k0
          exact k0
        refine ⟨_, rfl, ⟨_, hq1⟩, fun D hD => lcI Src.tup (fun H' s => sqT_same s hq1) hD (by rw [DpAll.length ha1]; omega) (fun i => some (.bl (isRuleD (rs.getD i .none)))) (fun i x hx H' s1 Y N hY hN => ?_) (fun H' s1 hl1 => ?_)⟩
        · obtain ⟨d1, e1, e2⟩ := DpAll.get ha1 hx
          have e3 : rs.getD i .none = d1 := by simp [List.getD, e1]
          (walk_at "s")
          refine ⟨rfl, ?_⟩
          (walk_at "s")
          refine ⟨_, d1, rfl, Dp.same s1 _ _ e2, smallAll_mem (small_tup (sm _ (by simp))) (List.mem_of_getElem? e1), fun H2 s2 => ?_⟩
          exact hY _ _ (by rw [e3]) s2
        · rw [DpAll.length ha1, mapI (fun d => V.bl (isRuleD d)) rs _ (fun i d hd => by simp [List.getD, hd])] at hl1
          (walk_at "s")
          refine x_all (SqL.of hl1) (bs := rs.map isRuleD) (by rw [List.map_map]; rfl) ?_
          (walk_at "s")
          rw [List.all_map]
          refine x_2 (fun h3 => ?_) (fun h3 => ?_) <;> (walk_at "s")
          · have h3' : rs.all isRuleD = false := by simpa using h3
            have := k1 H' s1
            rw [h3', if_neg (by decide)] at this
            exact this
          have h3' : rs.all isRuleD = true := by simpa using h3
          have k2 : ∀ H'', Same H' H'' → Q (.bl (endsOk en)) H'' := by
            intro H'' s2
            have := k1 H'' (s1.trans s2)
            rw [h3', if_pos rfl] at this
            exact this
          have g2' := Dp.same s1 _ _ g2
          cases g2' with
          | @tup a2 xs2 es hq2 ha2 =>
            (walk_at "s")
            refine x_len (len_tup hq2) ?_
            (walk_at "s")
            rw [DpAll.length ha2]
            refine x_nd (fun h4 => ?_) (fun h4 => ?_) <;> (walk_at "s")
            · have := k2 H' (Same.refl _)
              have e : endsOk (.tuple es) = false := if_neg (fun z => h4 (by rw [z]; rfl))
              rw [e] at this
              exact this
            rw [vint] at h4
            refine ⟨_, rfl, ⟨_, hq2⟩, fun D2 hD2 => lcI Src.tup (fun H' s => sqT_same s hq2) hD2 (by rw [DpAll.length ha2]; omega) (fun i => some (.bl (endOk (es.getD i .none)))) (fun i x hx H2 s2 Y N hY hN => ?_) (fun H2 s2 hl2 => ?_)⟩
            · obtain ⟨d1, e1, e2⟩ := DpAll.get ha2 hx
              have e3 : es.getD i .none = d1 := by simp [List.getD, e1]
              have sd : small d1 = true := smallAll_mem (small_tup (sm _ (by simp))) (List.mem_of_getElem? e1)
              (walk_at "s")
              refine ⟨rfl, ?_⟩
              (walk_at "s")
              refine ⟨_, d1, rfl, Dp.same s2 _ _ e2, sd, fun H3 s3 => ?_⟩
              (walk_at "s")
              refine x_2 (fun h5 => ?_) (fun h5 => ?_) <;> (walk_at "s")
              · match d1, h5, e2, e3, sd with
                | .str z, h5, e2, e3, sd =>
                  cases e2
                  refine x_len (len_str sd) ?_
                  (walk_at "s")
                  refine hY _ _ ?_ s3
                  rw [e3]
                  show some (V.bl (isTextD (.str z) && decide (z.length ≤ 4))) = _
                  rw [h5, Bool.true_and]
                  congr 2
                  rw [decide_eq_decide]
                  omega
              · refine hY _ _ ?_ s3
                rw [e3]
                unfold endOk
                rw [h5]
                rfl
            · rw [DpAll.length ha2, mapI (fun d => V.bl (endOk d)) es _ (fun i d hd => by simp [List.getD, hd])] at hl2
              (walk_at "s")
              refine x_all (SqL.of hl2) (bs := es.map endOk) (by rw [List.map_map]; rfl) ?_
              rw [List.all_map]
              have := k2 H2 s2
              have e : endsOk (.tuple es) = es.all endOk := if_pos (by omega)
              rw [e] at this
              exact this
          | _ => (walk_at "s"); exact k2 _ (Same.refl _)
      | _ => (walk_at "s"); exact k0 _ (Same.refl _)
    | _ => (walk_at "s"); exact k _ (Same.refl _)
def sp_is_program (K : PySem.W.Frag) : Sp := fun vs H Q _ => ∃ v : V, vs = [v] ∧ ((∃ d : PyData, Dp K H v d ∧ small d = true ∧ ∀ H', Same H H' → Q (.bl (isProgramD d)) H') ∨ ∃ a kvs, v = .ref a ∧ H a = some (.dK kvs) ∧ Q (.bl false) H)

--@ is_program: thing=tup; loop=tup; return=bool
theorem ok_is_program (T : TT w K mg) : FnR P w K mg base CX0 6 (He.ga K "is_program") (sp_is_program K) := by
  refine T.ok0 10 rfl rfl rfl sc_is_program (fun _ _ _ _ _ _ us hl => match us, hl with | [_], _ => rfl) ?len (fun cdv A outer s H vs Q E hr h => ⟨_, (pss_one (ps_ret (pe_and (pe_callB (kcall_isi (K := K) rfl) (by rfl) (T.free 36 rfl) (by decide +kernel) (pa_cons (pv 0) (pa_cons (pty (n := "tuple") (T.free 44 rfl) (by decide +kernel)) pa_nil))) (pe_and (pe_cmpR op_le (pe_callB (kcr_len (K := K) rfl) (by rfl) (T.free 37 rfl) (by decide +kernel) (pa_cons (pv 0) pa_nil)) (pgi (T.int 25 rfl)) (nomark _)) (pe_one (pe_callB (kcr_all (K := K) rfl rfl) (by rfl) (T.free 32 rfl) (by decide +kernel) (pa_cons (pe_lc (own := [("loop", 1)]) (g := gName 1) (tt := tYes) (by rfl) sc_is_program.nd (kpi_tup (K := K) rfl (pv 0)) (blkOk_by (own := [("loop", 1)]) (N := N_is_program) (sc := defScope (top 20)) (by decide +kernel)) (fun _ _ _ _ _ => (pg_name (i := 1) sc_is_program.nd rfl (Or.inl rfl))) (fun _ _ _ _ _ => pts_nil) (fun _ _ _ _ _ => (pc (ok_is_loop T) (hr.mono (by decide)) (T.glo 9 rfl) (T.kp 9 rfl) pass0 (pa_cons (pv 1) pa_nil)))) pa_nil))))))), ?read⟩)
  case len => intro vs H Q E h; obtain ⟨_, rfl, _⟩ := h; rfl
  case read =>
    obtain ⟨v, rfl, ⟨d, hd, hs, k⟩ | ⟨a, kvs, rfl, ha, k⟩⟩ := h
    rotate_left
    · refine x_start (σ' := [some (.ref a), none]) rfl ?_
      (walk_at "s")
      exact k
    refine x_start (σ' := [some v, none]) rfl ?_
    cases hd with
    | @tup a xs ls hq ha =>
      (walk_at "s")
      refine x_len (len_tup hq) ?_
      (walk_at "s")
      rw [DpAll.length ha]
      refine x_d (fun h1 => ?_) (fun h1 => ?_) <;> (walk_at "s")
      · have e0 : isProgramD (.tuple ls) = ls.all isLoopD := if_pos (by omega)
        rw [e0] at k
        refine ⟨_, rfl, ⟨_, hq⟩, fun D hD => lcI Src.tup (fun H' s => sqT_same s hq) hD (by rw [DpAll.length ha]; omega) (fun i => some (.bl (isLoopD (ls.getD i .none)))) (fun i x hx H' s1 Y N hY hN => ?_) (fun H' s1 hl1 => ?_)⟩
        · obtain ⟨d1, e1, e2⟩ := DpAll.get ha hx
          have e3 : ls.getD i .none = d1 := by simp [List.getD, e1]
          (walk_at "s")
          refine ⟨rfl, ?_⟩
          (walk_at "s")
          refine ⟨_, d1, rfl, Dp.same s1 _ _ e2, smallAll_mem (small_tup hs) (List.mem_of_getElem? e1), fun H2 s2 => ?_⟩
          exact hY _ _ (by rw [e3]) s2
        · rw [DpAll.length ha, mapI (fun d => V.bl (isLoopD d)) ls _ (fun i d hd => by simp [List.getD, hd])] at hl1
          (walk_at "s")
          refine x_all (SqL.of hl1) (bs := ls.map isLoopD) (by rw [List.map_map]; rfl) ?_
          rw [List.all_map]
          exact k _ s1
      · have e0 : isProgramD (.tuple ls) = false := if_neg (by omega)
        rw [e0] at k
        exact k _ (Same.refl _)
    | _ => (walk_at "s"); exact k _ (Same.refl _)

--@ _law_bag: _law_script=list; _law_cell=int; _law_great=int; _law_primes=list; _law_at=int; op 104701 * _law_at=op_mul; return=list
--@ _law_take: _law_bag_here=list; _law_many=int; op _law_bag_here[1] * 44221=op_mul; op 6353 * _law_bag_here[2]=op_mul; op _law_bag_here[0] % _law_many=op_mod; op _law_bag_here[0] // _law_many=op_fdivW; _law_bag_here[]=int; return=int
def primesL : List Int := [2147483629, 2147483587, 2147483579, 2147483563, 2147483549, 2147483543, 2147483497, 2147483489]
theorem primes_at (a : Int) : ∃ p, atI (primesL.map V.int) (a % 8) = some (.int p) ∧ 0 < p ∧ p < 2147483647 := by
  have h1 : 0 ≤ a % 8 := by omega
  have h2 : a % 8 < 8 := by omega
  generalize a % 8 = j at h1 h2
  obtain ⟨n, rfl⟩ := Int.eq_ofNat_of_zero_le h1
  have h3 : n < 8 := by omega
  match n, h3 with
  | 0, _ => exact ⟨_, rfl, by decide, by decide⟩
  | 1, _ => exact ⟨_, rfl, by decide, by decide⟩
  | 2, _ => exact ⟨_, rfl, by decide, by decide⟩
  | 3, _ => exact ⟨_, rfl, by decide, by decide⟩
  | 4, _ => exact ⟨_, rfl, by decide, by decide⟩
  | 5, _ => exact ⟨_, rfl, by decide, by decide⟩
  | 6, _ => exact ⟨_, rfl, by decide, by decide⟩
  | 7, _ => exact ⟨_, rfl, by decide, by decide⟩
def sp__law_bag (K : PySem.W.Frag) : Sp := fun vs H Q _ => ∃ (a : Addr) (ns : List Int) (n : Nat), vs = [.ref a, .int n] ∧ SqL K H a (ns.map V.int) ∧ ns.length ≤ 63 ∧ n < 1000 ∧ ∀ b H', H b = none → Same H H' → Bag H' b → Q (.ref b) H'
theorem ok__law_bag (T : TT w K mg) : FnR P w K mg base CX0 1 (He.ga K "_law_bag") (sp__law_bag K) := by
  refine T.ok0 11 rfl rfl rfl sc__law_bag (fun _ _ _ _ _ _ us hl => match us, hl with | [_, _], _ => rfl) ?len (fun cdv A outer s H vs Q E hr h => ⟨_, (pss_cons (ps_set (i := 2) sc__law_bag.nd rfl (Or.inl rfl) pe_int)
      (pss_cons (ps_if (pt_cmpR op_lt (pv 1) (pe_callB (kcr_len (K := K) rfl) (by rfl) (T.free 37 rfl) (by decide +kernel) (pa_cons (pv 0) pa_nil)) (nomark _))
      (pss_one (ps_set (i := 2) sc__law_bag.nd rfl (Or.inl rfl) (pe_ix (kix_list (K := K) rfl) (pv 0) (pv 1) (fun _ _ => rfl))))
      pss_nil)
      (pss_cons (ps_set (i := 3) sc__law_bag.nd rfl (Or.inl rfl) pe_int)
      (pss_cons (ps_if (pt_cmpR op_ge (pe_callB call_abs (by rfl) (T.free 31 rfl) (by decide +kernel) (pa_cons (pv 2) pa_nil)) (pe_op op_pow pe_int pe_int) (nomark _))
      (pss_one (ps_set (i := 3) sc__law_bag.nd rfl (Or.inl rfl) (pe_callB call_abs (by rfl) (T.free 31 rfl) (by decide +kernel) (pa_cons (pv 2) pa_nil))))
      pss_nil)
      (pss_cons (ps_set (i := 4) sc__law_bag.nd rfl (Or.inl rfl) (pe_lst (pa_cons pe_int (pa_cons pe_int (pa_cons pe_int (pa_cons pe_int (pa_cons pe_int (pa_cons pe_int (pa_cons pe_int (pa_cons pe_int pa_nil))))))))))
      (pss_one (ps_ret (pe_lst (pa_cons (pv 3) (pa_cons (pe_op op_mod (pe_op op_pow (pe_op op_add (pe_op op_add (pe_op op_mod (pv 2) pe_int) (pe_op op_mul pe_int (pv 1))) pe_int) pe_int) (pe_ix (kix_list (K := K) rfl) (pv 4) (pe_op op_mod (pv 1) pe_int) (fun _ _ => rfl))) (pa_cons pe_int pa_nil))))))))))), ?read⟩)
  case len => intro vs H Q E h; obtain ⟨_, _, _, rfl, _⟩ := h; rfl
  case read =>
    obtain ⟨a, ns, n, rfl, hq, hn, h1, k⟩ := h
    refine x_start (σ' := [some (.ref a), some (.int n), none, none, none]) rfl ?_
    (walk_at "s")
    refine x_len (len_lst hq) ?_
    (walk_at "s")
    rw [List.length_map]
    obtain ⟨p1, e1, e2, e3⟩ := primes_at n
    refine x_d (fun h2 => ?_) (fun h2 => ?_) <;> (walk_at "s")
    have hn2 : n < ns.length := by omega
    obtain ⟨c, hc⟩ : ∃ c : Int, (ns.map V.int)[n]? = some (.int c) := ⟨ns[n], by simp [hn2]⟩
    refine x_ixL hq (atI_nat hc) ?_
    (walk_at "s")
    all_goals
      refine ⟨_, rfl, ?_⟩
      (walk_at "s")
      refine x_I ⟨by decide, by decide, by decide⟩ ?_
      (walk_at "s")
      refine x_d (fun h3 => ?_) (fun h3 => ?_) <;> (walk_at "s")
      any_goals
        refine ⟨_, rfl, ?_⟩
        (walk_at "s")
      all_goals
        refine ⟨by rw [sizeLine_eq]; simp, fun p hp => ?_⟩
        (walk_at "s")
        refine x_I (by decide) ?_
        (walk_at "s")
        refine x_I (.inl ⟨by decide, by decide⟩) ?_
        (walk_at "s")
        refine x_I ⟨by decide, by decide, by omega⟩ ?_
        (walk_at "s")
        refine x_I (by decide) ?_
        refine x_ixL (SqL.of upd_same) e1 ?_
        refine x_I e2 ?_
        (walk_at "s")
        refine ⟨by rw [sizeLine_eq]; simp, fun b hb => ?_⟩
        refine k b _ ((same_new hp).free hb) ((same_new hp).trans (same_new hb)) ⟨_, _, _, ?_, ?_, ?_, upd_same⟩
        · first | exact Int.le_refl 0 | (split <;> omega)
        · exact Int.emod_nonneg _ (by omega)
        · exact Int.lt_trans (Int.emod_lt_of_pos _ e2) e3
def sp__law_take (K : PySem.W.Frag) : Sp := fun vs H Q _ => ∃ (b : Addr) (m : Nat), vs = [.ref b, .int m] ∧ Bag H b ∧ 1 ≤ m ∧ m ≤ 1000000 ∧ ∀ (n : Nat) H', n < m → Go b H H' → Q (.int n) H'
theorem bag_put {H : Hp} {b : Addr} {g r c : Int} (h1 : 0 ≤ g) (h2 : 0 ≤ r) (h3 : r < 2147483647) : Bag (upd H b (.lst [.int g, .int r, .int c])) b := ⟨g, r, c, h1, h2, h3, upd_same⟩
theorem go_put {H : Hp} {b : Addr} {g r c : Int} (h1 : 0 ≤ g) (h2 : 0 ≤ r) (h3 : r < 2147483647) : Go b H (upd H b (.lst [.int g, .int r, .int c])) := ⟨bag_put h1 h2 h3, by rw [wo_put (by simp)]; exact Same.refl _⟩
theorem to_nat {m : Nat} {x : Int} (h1 : 0 ≤ x) (h2 : x < m) : ∃ n : Nat, x = (n : Int) ∧ n < m := ⟨x.toNat, by omega, by omega⟩
theorem ok__law_take (T : TT w K mg) : FnR P w K mg base CX0 1 (He.ga K "_law_take") (sp__law_take K) := by
  refine T.ok0 12 rfl rfl rfl sc__law_take (fun _ _ _ _ _ _ us hl => match us, hl with | [_, _], _ => rfl) ?len (fun cdv A outer s H vs Q E hr h => ⟨_, (pss_cons (ps_if (pt_cmpR op_gt (pe_ix (kix_list (K := K) rfl) (pv 0) pe_int (fun _ _ => rfl)) pe_int (nomark _))
      (pss_cons (ps_set (i := 2) sc__law_take.nd rfl (Or.inl rfl) (pe_op op_mod (pe_ix (kix_list (K := K) rfl) (pv 0) pe_int (fun _ _ => rfl)) (pv 1)))
      (pss_cons (ps_asg (pe_op op_fdivW (pe_ix (kix_list (K := K) rfl) (pv 0) pe_int (fun _ _ => rfl)) (pv 1)) (pg_sub (pv 0) pe_int set_list))
      (pss_one (ps_ret (pv 2)))))
      pss_nil)
      (pss_cons (ps_asg (pe_op op_add (pe_ix (kix_list (K := K) rfl) (pv 0) pe_int (fun _ _ => rfl)) pe_int) (pg_sub (pv 0) pe_int set_list))
      (pss_cons (ps_asg (pe_op op_mod (pe_op op_add (pe_op op_add (pe_op op_mul (pe_ix (kix_list (K := K) rfl) (pv 0) pe_int (fun _ _ => rfl)) pe_int) (pe_op op_mul pe_int (pe_ix (kix_list (K := K) rfl) (pv 0) pe_int (fun _ _ => rfl)))) pe_int) pe_int) (pg_sub (pv 0) pe_int set_list))
      (pss_one (ps_ret (pe_op op_mod (pe_op op_mod (pe_op op_pow (pe_op op_fdivW (pe_ix (kix_list (K := K) rfl) (pv 0) pe_int (fun _ _ => rfl)) pe_int) pe_int) pe_int) (pv 1))))))), ?read⟩)
  case len => intro vs H Q E h; obtain ⟨_, _, rfl, _⟩ := h; rfl
  case read =>
    obtain ⟨b, m, rfl, ⟨g, r, c, h1, h2, h3, h4⟩, hm, hm2, k⟩ := h
    refine x_start (σ' := [some (.ref b), some (.int m), none]) rfl ?_
    (walk_at "s")
    refine x_ixL (SqL.of h4) rfl ?_
    (walk_at "s")
    refine x_d (fun h5 => ?_) (fun h5 => ?_) <;> (walk_at "s")
    · refine x_ixL (SqL.of h4) rfl ?_
      (walk_at "s")
      refine x_I (by omega) ?_
      (walk_at "s")
      refine x_ixL (SqL.of h4) rfl ?_
      (walk_at "s")
      refine x_I (wide_div (b := 20) (by omega) (by omega) (by decide) (by decide)) ?_
      (walk_at "s")
      refine x_setL h4 rfl ?_
      (walk_at "s")
      obtain ⟨n, e, hn⟩ := to_nat (m := m) (Int.emod_nonneg g (by omega)) (Int.emod_lt_of_pos g (by omega))
      rw [e]
      exact k n _ hn (go_put (Int.ediv_nonneg h1 (by omega)) h2 h3)
    · refine x_ixL (SqL.of h4) rfl ?_
      (walk_at "s")
      refine x_setL h4 rfl ?_
      (walk_at "s")
      refine x_ixL (SqL.of upd_same) rfl ?_
      (walk_at "s")
      refine x_I (.inr ⟨by decide, by decide⟩) ?_
      (walk_at "s")
      refine x_ixL (SqL.of upd_same) rfl ?_
      refine x_I (.inl ⟨by decide, by decide⟩) ?_
      (walk_at "s")
      refine x_I (by decide) ?_
      (walk_at "s")
      refine x_setL upd_same rfl ?_
      (walk_at "s")
      refine x_ixL (SqL.of upd_same) rfl ?_
      (walk_at "s")
      have b1 : 0 ≤ (r * 44221 + 6353 * (c + 1) + 29) % 2147483647 := Int.emod_nonneg _ (by decide)
      have b2 : (r * 44221 + 6353 * (c + 1) + 29) % 2147483647 < 2147483647 := Int.emod_lt_of_pos _ (by decide)
      generalize (r * 44221 + 6353 * (c + 1) + 29) % 2147483647 = r2 at b1 b2
      refine x_I ⟨by decide, by decide +kernel⟩ ?_
      (walk_at "s")
      refine x_I ⟨by decide, by decide, by omega⟩ ?_
      (walk_at "s")
      refine x_I (by decide) ?_
      (walk_at "s")
      refine x_I (by omega) ?_
      generalize (r2 / 8) ^ _ % 2147483629 = z
      obtain ⟨n, e, hn⟩ := to_nat (m := m) (Int.emod_nonneg z (by omega)) (Int.emod_lt_of_pos z (by omega))
      rw [e, upd_upd]
      exact k n _ hn (go_put h1 b1 b2)

--@ _law_text: _law_bag_here=list; _law_most=int; return=str
--@ _law_letters: _law_bag_here=list; _law_allowed=str; _law_road=int; _law_some=str; _law_one=str; return=str
theorem strs_of {K : PySem.W.Frag} {H : Hp} {L : List Nat} : ∀ {ys : List V} {ds : List PyData}, DpAll K H ys ds → (∀ d ∈ ds, ∃ c ∈ L, d = .str ⟨#[c]⟩) → ∃ cs : List Nat, ys = cs.map (fun c => V.str ⟨#[c]⟩) ∧ (∀ c ∈ cs, c ∈ L) ∧ cs.length = ds.length
  | _, _, .nil, _ => ⟨[], rfl, (fun c h => by cases h), rfl⟩
  | _, _, .cons (d := d) (ds := ds) a b, h => by
    obtain ⟨c, hc, e⟩ := h d (List.mem_cons_self ..)
    subst e
    cases a
    obtain ⟨cs, e1, e2, e3⟩ := strs_of b fun d hd => h d (List.mem_cons_of_mem _ hd)
    refine ⟨c :: cs, by rw [e1]; rfl, fun x hx => ?_, by simp [e3]⟩
    rcases List.mem_cons.mp hx with e | e
    · rw [e]; exact hc
    · exact e2 x e
def inAbcd (s : Str) : Bool := s.cps.toList.all fun c => decide (c ∈ abcd.cps.toList)
def sp__law_text (K : PySem.W.Frag) : Sp := fun vs H Q _ => ∃ (b : Addr) (m : Nat), vs = [.ref b, .int m] ∧ Bag H b ∧ m ≤ 1000 ∧ ∀ s H', Go b H H' → inAbcd s = true → s.length ≤ m → Q (.str s) H'
theorem ok__law_text (T : TT w K mg) : FnR P w K mg base CX0 2 (He.ga K "_law_text") (sp__law_text K) := by
  refine T.ok0 13 rfl rfl rfl sc__law_text (fun _ _ _ _ _ _ us hl => match us, hl with | [_, _], _ => rfl) ?len (fun cdv A outer s H vs Q E hr h => ⟨_, (pss_one (ps_ret (kpe_join (K := K) rfl pe_str (pe_lc (own := [("_law_k", 2)]) (g := gName 2) (tt := tYes) (by rfl) sc__law_text.nd (pi_range1 (by rfl) (T.free 41 rfl) (pa_cons (pc (ok__law_take T) (hr.mono (by decide)) (T.glo 12 rfl) (T.kp 12 rfl) pass0 (pa_cons (pv 0) (pa_cons (pe_op op_add (pv 1) pe_int) pa_nil))) pa_nil)) (blkOk_by (own := [("_law_k", 2)]) (N := N__law_text) (sc := defScope (top 24)) (by decide +kernel)) (fun _ _ _ _ _ => (pg_name (i := 2) sc__law_text.nd rfl (Or.inl rfl))) (fun _ _ _ _ _ => pts_nil) (fun _ _ _ _ _ => (pe_ix ix_str pe_str (pc (ok__law_take T) (hr.mono (by decide)) (T.glo 12 rfl) (T.kp 12 rfl) pass0 (pa_cons (pv 0) (pa_cons pe_int pa_nil))) (fun _ _ => rfl))))))), ?read⟩)
  case len => intro vs H Q E h; obtain ⟨_, _, rfl, _⟩ := h; rfl
  case read =>
    obtain ⟨b, m, rfl, hb, hm, k⟩ := h
    refine x_start (σ' := [some (.ref b), some (.int m), none]) rfl ?_
    (walk_at "s")
    refine ⟨b, m + 1, rfl, hb, by omega, by omega, fun n H1 hn g1 => ?_⟩
    (walk_at "s")
    refine ⟨_, rfl, by omega, by omega, fun D hD => ?_⟩
    rw [Int.toNat_natCast]
    refine lcB (K := K) (Z := [b]) Src.rng (Al.one g1.bag) (fun _ _ => trivial) hD (by simp [rngV]; omega) true (fun _ d => ∃ c ∈ abcd.cps.toList, d = .str ⟨#[c]⟩) (fun x hx H2 g2 al Y N hY hN => ?_) (fun H2 ys ds zs g2 al e a sb r ev => ?_)
    · (walk_at "s")
      refine ⟨rfl, ?_⟩
      (walk_at "s")
      refine ⟨b, 4, rfl, g2.bag, by decide, by decide, fun n2 H3 hn2 g3 => ?_⟩
      obtain ⟨c, hc⟩ : ∃ c, abcd.cps.toList[n2]? = some c := ⟨_, List.getElem?_eq_getElem (by exact hn2)⟩
      refine x_ixS (by decide +kernel) (atI_nat hc) ?_
      exact hY _ _ _ g3 (.str _) ⟨c, List.mem_of_getElem? hc, rfl⟩
    · obtain ⟨cs, e1, e2, e3⟩ := strs_of a fun d hd => (r.mem hd).elim fun _ z => z.2
      have hl : cs.length = n := by
        rw [e3, ← r.length, ev rfl]
        simp [rngV]
      refine x_joinS (SqL.of e) e1 (by omega) (k _ _ (g1.trans g2) ?_ ?_)
      · exact List.all_eq_true.mpr fun c hc => decide_eq_true (e2 c (by simpa using hc))
      · show cs.toArray.size ≤ m
        rw [List.size_toArray]
        omega
theorem filt_sub {l cs : List Nat} (n : l.Nodup) (s : cs.Sublist l) : l.filter (fun c => decide (c ∈ cs)) = cs := by
  induction s with
  | slnil => rfl
  | cons a s ih =>
    obtain ⟨n1, n2⟩ := List.nodup_cons.mp n
    rw [List.filter_cons, if_neg (by simpa using fun z => n1 (s.subset z))]
    exact ih n2
  | @cons_cons cs l a s ih =>
    obtain ⟨n1, n2⟩ := List.nodup_cons.mp n
    rw [List.filter_cons, if_pos (by simp)]
    have e : l.filter (fun c => decide (c ∈ a :: cs)) = l.filter (fun c => decide (c ∈ cs)) := List.filter_congr fun x hx => by
      have : ¬ x = a := fun z => n1 (z ▸ hx)
      simp [this]
    rw [e, ih n2]
def okAl (al : Str) : Bool := decide (al = "abcd") || decide (al = "abcd$")
theorem okAl_nodup {al : Str} (h : okAl al = true) : al.cps.toList.Nodup ∧ 1 ≤ al.cps.toList.length ∧ al.cps.toList.length ≤ 5 := by
  unfold okAl at h
  rw [Bool.or_eq_true] at h
  rcases h with h | h
  · rw [of_decide_eq_true h]; decide +kernel
  · rw [of_decide_eq_true h]; decide +kernel
theorem isSel_of {al : Str} {cs : List Nat} (h : okAl al = true) (s : cs.Sublist al.cps.toList) (n : cs ≠ []) : isSelD al (.str ⟨cs.toArray⟩) = true := by
  have e : pick al ⟨cs.toArray⟩ = ⟨cs.toArray⟩ := by
    unfold pick
    have := filt_sub (okAl_nodup h).1 s
    simp only [List.toList_toArray] at this ⊢
    rw [this]
  show (if (⟨cs.toArray⟩ : Str) = "" then false else decide ((⟨cs.toArray⟩ : Str) = pick al ⟨cs.toArray⟩)) = true
  rw [e, if_neg, decide_eq_true rfl]
  intro z
  apply n
  have h1 := congrArg (fun z : Str => z.cps.toList) z
  have h2 : (Str.ofString "").cps.toList = [] := by decide +kernel
  exact (show cs = (Str.ofString "").cps.toList by simpa using h1).trans h2
theorem str_eta (s : Str) : (⟨s.cps.toList.toArray⟩ : Str) = s := by
  cases s with
  | mk a => simp
def sp__law_letters (K : PySem.W.Frag) : Sp := fun vs H Q _ => ∃ (b : Addr) (al : Str), vs = [.ref b, .str al] ∧ okAl al = true ∧ Bag H b ∧ ∀ s H', Go b H H' → isSelD al (.str s) = true → s.length ≤ 5 → Q (.str s) H'
theorem ok__law_letters (T : TT w K mg) : FnR P w K mg base CX0 2 (He.ga K "_law_letters") (sp__law_letters K) := by
  refine T.ok0 14 rfl rfl rfl sc__law_letters (fun _ _ _ _ _ _ us hl => match us, hl with | [_, _], _ => rfl) ?len (fun cdv A outer s H vs Q E hr h => ⟨_, (pss_cons (ps_set (i := 2) sc__law_letters.nd rfl (Or.inl rfl) (pc (ok__law_take T) (hr.mono (by decide)) (T.glo 12 rfl) (T.kp 12 rfl) pass0 (pa_cons (pv 0) (pa_cons pe_int pa_nil))))
      (pss_cons (ps_if (pt_cmpR op_eq (pv 2) pe_int (nomark _))
      (pss_one (ps_ret (pv 1)))
      pss_nil)
      (pss_cons (ps_if (pt_cmpR op_eq (pv 2) pe_int (nomark _))
      (pss_one (ps_ret (pe_ix ix_str (pv 1) (pc (ok__law_take T) (hr.mono (by decide)) (T.glo 12 rfl) (T.kp 12 rfl) pass0 (pa_cons (pv 0) (pa_cons (pe_callB (kcr_len (K := K) rfl) (by rfl) (T.free 37 rfl) (by decide +kernel) (pa_cons (pv 1) pa_nil)) pa_nil))) (fun _ _ => rfl))))
      pss_nil)
      (pss_cons (ps_set (i := 3) sc__law_letters.nd rfl (Or.inl rfl) (kpe_join (K := K) rfl pe_str (pe_lc (own := [("_law_one", 4)]) (g := gName 4) (by rfl) sc__law_letters.nd (pi_str (pv 1)) (blkOk_by (own := [("_law_one", 4)]) (N := N__law_letters) (sc := defScope (top 25)) (by decide +kernel)) (fun _ _ _ _ _ => (pg_name (i := 4) sc__law_letters.nd rfl (Or.inl rfl))) (fun _ _ _ _ _ => (pts_one (pt_cmpR op_eq (pc (ok__law_take T) (hr.mono (by decide)) (T.glo 12 rfl) (T.kp 12 rfl) pass0 (pa_cons (pv 0) (pa_cons pe_int pa_nil))) pe_int (nomark _)))) (fun _ _ _ _ _ => (pv 4)))))
      (pss_one (ps_ret (pe_ifExp (pt_cmpR op_ne (pv 3) pe_str (nomark _)) (pv 3) (pe_ix ix_str (pv 1) pe_int (fun _ _ => rfl))))))))), ?read⟩)
  case len => intro vs H Q E h; obtain ⟨_, _, rfl, _⟩ := h; rfl
  case read =>
    obtain ⟨b, al, rfl, hal, hb, k⟩ := h
    obtain ⟨l1, l2, l3⟩ := okAl_nodup hal
    refine x_start (σ' := [some (.ref b), some (.str al), none, none, none]) rfl ?_
    (walk_at "s")
    refine ⟨b, 4, rfl, hb, by decide, by decide, fun n H1 hn g1 => ?_⟩
    (walk_at "s")
    refine x_d (fun h2 => ?_) (fun h2 => ?_) <;> (walk_at "s")
    · refine k _ _ g1 ?_ l3
      have := isSel_of hal (List.Sublist.refl _) (by intro z; rw [z] at l2; exact absurd l2 (by decide))
      rw [str_eta] at this
      exact this
    refine x_d (fun h3 => ?_) (fun h3 => ?_) <;> (walk_at "s")
    · have el : al.length = al.cps.toList.length := by simp [Str.length]
      refine x_len (len_str (show decide (al.length ≤ 100000) = true from decide_eq_true (by omega))) ?_
      (walk_at "s")
      refine ⟨b, al.length, rfl, g1.bag, by omega, by omega, fun n2 H2 hn2 g2 => ?_⟩
      obtain ⟨c, hc⟩ : ∃ c, al.cps.toList[n2]? = some c := ⟨_, List.getElem?_eq_getElem (by simpa [Str.length] using hn2)⟩
      refine x_ixS (by rw [sizeLine_eq]; simp [Str.length] at l3 ⊢; omega) (atI_nat hc) ?_
      refine k _ _ (g1.trans g2) ?_ (show 1 ≤ 5 by decide)
      exact isSel_of (cs := [c]) hal (List.singleton_sublist.mpr (List.mem_of_getElem? hc)) (by simp)
    refine ⟨al, rfl, fun D hD => ?_⟩
    refine lcB (K := K) (Z := [b]) Src.str (Al.one g1.bag) (fun _ _ => trivial) hD (by simp [sgV]; simp at l3; omega) false (fun x d => ∃ c, x = .str ⟨#[c]⟩ ∧ d = .str ⟨#[c]⟩) (fun x hx H2 g2 al2 Y N hY hN => ?_) (fun H2 ys ds zs g2 al2 e a sb r ev => ?_)
    · obtain ⟨c, hc, rfl⟩ := List.mem_map.mp hx
      (walk_at "s")
      refine ⟨rfl, ?_⟩
      (walk_at "s")
      refine ⟨b, 2, rfl, g2.bag, by decide, by decide, fun n2 H3 hn2 g3 => ?_⟩
      (walk_at "s")
      refine x_d (fun h4 => ?_) (fun h4 => ?_)
      · (walk_at "s")
        exact hY _ _ _ g3 (.str _) ⟨c, rfl, rfl⟩
      · exact hN rfl _ g3
    · have hh : ∃ cs : List Nat, ys = cs.map (fun c => V.str ⟨#[c]⟩) ∧ zs = sgV ⟨cs.toArray⟩ := by
        clear e sb ev
        induction r generalizing ys with
        | nil => cases a; exact ⟨[], rfl, rfl⟩
        | cons h r ih =>
          obtain ⟨c, rfl, rfl⟩ := h
          cases a with
          | cons a1 a2 =>
            cases a1
            obtain ⟨cs, e1, e2⟩ := ih _ a2
            exact ⟨c :: cs, by rw [e1]; rfl, by rw [e2]; simp [sgV]⟩
      obtain ⟨cs, e1, e2⟩ := hh
      have sb2 : cs.Sublist al.cps.toList := by
        rw [e2] at sb
        have := sb.map (fun v : V => match v with
          | .str s => s.cps.toList.headD 0
          | _ => 0)
        simpa [sgV, List.map_map, Function.comp_def] using this
      have hl := sb2.length_le
      refine x_joinS (SqL.of e) e1 (by omega) ?_
      (walk_at "s")
      refine x_nd (fun h4 => ?_) (fun h4 => ?_)
      · (walk_at "s")
        refine k _ _ (g1.trans g2) (isSel_of hal sb2 fun z => h4 (by rw [z]; rfl)) ?_
        show cs.toArray.size ≤ 5
        rw [List.size_toArray]
        omega
      · (walk_at "s")
        obtain ⟨c, hc⟩ : ∃ c, al.cps.toList[0]? = some c := ⟨_, List.getElem?_eq_getElem (by omega)⟩
        refine x_ixS (by rw [sizeLine_eq]; simp [Str.length] at l3 ⊢; omega) (atI_nat hc) ?_
        refine k _ _ (g1.trans g2) ?_ (show 1 ≤ 5 by decide)
        exact isSel_of (cs := [c]) hal (List.singleton_sublist.mpr (List.mem_of_getElem? hc)) (by simp)

--@ _law_edits: _law_bag_here=list; _law_most=int; _law_found=list; _law_bounds=dict; _law_road=int; _law_item=str; _law_bounds[]=int; return=tup
--@ _law_loop: _law_bag_here=list; _law_most=int; _law_rules=list; _law_mark=any; _law_items=str; _law_following=str; _law_ends=tup; _law_k=int; op _law_take(_law_bag_here, 3) // 2=op_fdivW; return=tup
--@ _law_program: _law_bag_here=list; return=tup
/-! valid data -/
theorem countW_app (ds : List PyData) (d : PyData) (ws : List Str) : countW (ds ++ [d]) ws = countW ds ws + (if wordOf d ∈ ws then 1 else 0) := by
  unfold countW
  rw [List.filter_append, List.length_append]
  by_cases h : wordOf d ∈ ws
  · simp [h]
  · simp [h]
theorem areEditsFrom_app (d : PyData) : ∀ (l pre : List PyData), areEditsFrom pre (l ++ [d]) = (areEditsFrom pre l && (isEditD d && mayFollowD (pre ++ l) d))
  | [], pre => by
    show (if isEditD d then (if mayFollowD pre d then true else false) else false) = (true && (isEditD d && mayFollowD (pre ++ []) d))
    rw [List.append_nil]
    cases isEditD d <;> cases mayFollowD pre d <;> rfl
  | x :: l, pre => by
    show (if isEditD x then (if mayFollowD pre x then areEditsFrom (pre ++ [x]) (l ++ [d]) else false) else false) = ((if isEditD x then (if mayFollowD pre x then areEditsFrom (pre ++ [x]) l else false) else false) && (isEditD d && mayFollowD (pre ++ x :: l) d))
    rw [areEditsFrom_app d l (pre ++ [x]), List.append_assoc]
    cases isEditD x <;> cases mayFollowD pre x <;> rfl
structure EdOk (ds : List PyData) (ni no : Int) : Prop where
  ok : areEditsFrom [] ds = true
  brk : countW ds ["break"] = 0
  i0 : 0 ≤ ni
  o0 : 0 ≤ no
  i1 : ni + countW ds ["before", "after"] ≤ 1
  o1 : no + countW ds ["drop", "drop_next"] ≤ 2
theorem EdOk.may {ds : List PyData} {ni no : Int} (h : EdOk ds ni no) {d : PyData} (hl : ds.length < 4) (h1 : (if wordOf d ∈ (["before", "after"] : List Str) then (1 : Int) else 0) ≤ ni) (h2 : (if wordOf d ∈ (["drop", "drop_next"] : List Str) then (1 : Int) else 0) ≤ no) : mayFollowD ds d = true := by
  unfold mayFollowD
  have a := h.i1
  have b := h.o1
  rw [if_neg (by omega), if_neg (by rw [h.brk]; omega), countW_app, countW_app, if_neg, decide_eq_true]
  · split at h2 <;> split <;> first | omega | (exfalso; contradiction)
  · split at h1 <;> split <;> first | omega | (exfalso; contradiction)
theorem EdOk.add {ds : List PyData} {ni no : Int} (h : EdOk ds ni no) {d : PyData} {ni' no' : Int} (hl : ds.length < 4) (hd : isEditD d = true) (hb : wordOf d ∉ (["break"] : List Str)) (n1 : 0 ≤ ni') (n2 : 0 ≤ no')
    (h1 : ni' + (if wordOf d ∈ (["before", "after"] : List Str) then (1 : Int) else 0) ≤ ni) (h2 : no' + (if wordOf d ∈ (["drop", "drop_next"] : List Str) then (1 : Int) else 0) ≤ no) : EdOk (ds ++ [d]) ni' no' where
  ok := by rw [areEditsFrom_app, h.ok, hd, List.nil_append, h.may hl (by omega) (by omega)]; rfl
  brk := by rw [countW_app, h.brk, if_neg hb]
  i0 := n1
  o0 := n2
  i1 := by
    have a := h.i1
    rw [countW_app]
    split at h1 <;> split <;> first | omega | (exfalso; contradiction)
  o1 := by
    have a := h.o1
    rw [countW_app]
    split at h2 <;> split <;> first | omega | (exfalso; contradiction)
theorem EdOk.nil : EdOk [] 1 2 := ⟨rfl, rfl, by decide, by decide, by decide, by decide⟩
theorem EdOk.last {ds : List PyData} {ni no : Int} (h : EdOk ds ni no) (hl : ds.length < 4) : areEditsD (.tuple (ds ++ [.tuple [.str "break"]])) = true := by
  show areEditsFrom [] _ = true
  have e1 : (if wordOf (.tuple [.str "break"]) ∈ (["before", "after"] : List Str) then (1 : Int) else 0) = 0 := by decide +kernel
  have e2 : (if wordOf (.tuple [.str "break"]) ∈ (["drop", "drop_next"] : List Str) then (1 : Int) else 0) = 0 := by decide +kernel
  rw [areEditsFrom_app, h.ok, List.nil_append, h.may hl (by rw [e1]; exact h.i0) (by rw [e2]; exact h.o0)]
  decide +kernel
theorem kv_in (x y : V) : valV [((.inr "in" : Key), x), ((.inr "out" : Key), y)] (.inr "in") = some x := by rfl
theorem kv_out (x y : V) : valV [((.inr "in" : Key), x), ((.inr "out" : Key), y)] (.inr "out") = some y := by rfl
theorem kp_in (x y v : V) : putK [((.inr "in" : Key), x), ((.inr "out" : Key), y)] (.inr "in") v = [((.inr "in" : Key), v), ((.inr "out" : Key), y)] := by rfl
theorem kp_out (x y v : V) : putK [((.inr "in" : Key), x), ((.inr "out" : Key), y)] (.inr "out") v = [((.inr "in" : Key), x), ((.inr "out" : Key), v)] := by rfl
structure EdAt (K : PySem.W.Frag) (b : Addr) (S : List Addr) (H0 : Hp) (f p : Addr) (H : Hp) (ys : List V) (ds : List PyData) (ni no : Int) : Prop where
  go : Go b H0 H
  hf : H f = some (.lst ys)
  hp : H p = some (.dK [((.inr "in" : Key), .int ni), ((.inr "out" : Key), .int no)])
  a : DpAll K (wo (f :: p :: S) H) ys ds
  ok : EdOk ds ni no
structure EdC (b : Addr) (S : List Addr) (H0 : Hp) (f p : Addr) : Prop where
  al : Al S b H0
  f0 : H0 f = none
  p0 : H0 p = none
  fp : f ≠ p
theorem EdC.fb {b : Addr} {S : List Addr} {H0 : Hp} {f p : Addr} (c : EdC b S H0 f p) : f ≠ b := c.al.bag.ne c.f0
theorem EdC.pb {b : Addr} {S : List Addr} {H0 : Hp} {f p : Addr} (c : EdC b S H0 f p) : p ≠ b := c.al.bag.ne c.p0
section
variable {K : PySem.W.Frag} {b f p : Addr} {S : List Addr} {H0 H H1 : Hp} {ys : List V} {ds : List PyData} {ni no : Int}
theorem EdAt.len (e : EdAt K b S H0 f p H ys ds ni no) : ys.length = ds.length := DpAll.length e.a
theorem EdAt.goo (c : EdC b S H0 f p) (e : EdAt K b S H0 f p H ys ds ni no) (g : Go b H H1) : EdAt K b S H0 f p H1 ys ds ni no :=
  ⟨e.go.trans g, g.keep e.hf c.fb, g.keep e.hp c.pb, g.dwAll (by simp [c.al.mem]) e.a, e.ok⟩
theorem EdAt.all (c : EdC b S H0 f p) (e : EdAt K b S H0 f p H ys ds ni no) : Al (f :: p :: S) b H := ((c.al.go e.go).cons (by rw [e.hp]; simp)).cons (by rw [e.hf]; simp)
/-- a new edit at the end -/
theorem EdAt.app (c : EdC b S H0 f p) (e : EdAt K b S H0 f p H ys ds ni no) {y : V} {d : PyData} (hy : Dp K (wo (f :: p :: S) H) y d) (ok : EdOk (ds ++ [d]) ni no) : EdAt K b S H0 f p (upd H f (.lst (ys ++ [y]))) (ys ++ [y]) (ds ++ [d]) ni no :=
  ⟨e.go.put c.f0 c.fb, upd_same, by rw [upd_ne (Ne.symm c.fp)]; exact e.hp, by rw [wo_put (by simp)]; exact DpAll.app e.a (.cons hy .nil), ok⟩
theorem EdAt.app2 (c : EdC b S H0 f p) (e : EdAt K b S H0 f p H ys ds ni no) {y : V} {d : PyData} (hy : Dp K (wo (f :: p :: S) H) y d) {ni' no' : Int} (ok : EdOk (ds ++ [d]) ni' no') :
    EdAt K b S H0 f p (upd (upd H f (.lst (ys ++ [y]))) p (.dK [((.inr "in" : Key), .int ni'), ((.inr "out" : Key), .int no')])) (ys ++ [y]) (ds ++ [d]) ni' no' :=
  ⟨(e.go.put c.f0 c.fb).put c.p0 c.pb, by rw [upd_ne c.fp]; exact upd_same, upd_same, by rw [wo_put (by simp), wo_put (by simp)]; exact DpAll.app e.a (.cons hy .nil), ok⟩
theorem EdAt.same (c : EdC b S H0 f p) (e : EdAt K b S H0 f p H ys ds ni no) (g : Same H H1) : EdAt K b S H0 f p H1 ys ds ni no := e.goo c (Go.of e.go.bag g)
theorem EdAt.tup (c : EdC b S H0 f p) (e : EdAt K b S H0 f p H ys ds ni no) {q : Addr} (hq : H q = none) {vs : List V} {es : List PyData} (a : DpAll K (wo (f :: p :: S) H) vs es) :
    EdAt K b S H0 f p (upd H q (.tup vs)) ys ds ni no ∧ Dp K (wo (f :: p :: S) (upd H q (.tup vs))) (.ref q) (.tuple es) := ⟨e.same c (same_new hq), dw_newTup (e.all c).all hq a⟩
theorem EdAt.hp2 (c : EdC b S H0 f p) (e : EdAt K b S H0 f p H ys ds ni no) {o : HO} : upd H f o p = some (.dK [((.inr "in" : Key), .int ni), ((.inr "out" : Key), .int no)]) := by
  rw [upd_ne (Ne.symm c.fp)]; exact e.hp
theorem ed_done (c : EdC b S H0 f p) (g : Go b H0 H) (a : DpAll K (wo (f :: p :: S) H) ys ds) {l : Addr} (hl : H l = none) : Go b H0 (upd H l (.tup ys)) ∧ Dp K (wo S (upd H l (.tup ys))) (.ref l) (.tuple ds) :=
  ⟨g.new hl, dw_newTup (c.al.go g).all hl (DpAll.same (wo_sub fun a ha => by simp [ha]) _ _ a)⟩
end
theorem x_dgS {H : Hp} {Q : V → Prop} {a : Addr} {kvs : List (Key × V)} {x : Str} {v : V} (h : H a = some (.dK kvs)) (e : valV kvs (.inr x) = some v) (q : Q v) : ∃ a' v', V.ref a = .ref a' ∧ DGet H a' (.str x) (some v') ∧ Q v' := ⟨a, v, rfl, e ▸ DGet.k (k := .inr x) h, q⟩
theorem x_dpS {H : Hp} {a : Addr} {kvs kvs' : List (Key × V)} {x : Str} {v : V} {R : Hp → Prop} (h : H a = some (.dK kvs)) (hl : kvs.length < 1000) (e : putK kvs (.inr x) v = kvs') (q : R (upd H a (.dK kvs'))) : ∃ a' H4, V.ref a = .ref a' ∧ DPut H a' (.str x) v H4 ∧ R H4 := x_dputK (k := .inr x) h hl e q
theorem inV45 : ∀ r : Nat, r < 8 → inV (V.int r) [V.int 4, V.int 5] = decide (r = 4 ∨ r = 5) := by decide +kernel
theorem ed_put {x : PyData} : isEditD (.tuple [.str "put", x]) = isItemD x := by
  show editOf (kdOf "put") [x] = _
  rw [show kdOf "put" = some .item by decide +kernel]
  rfl
theorem ed_before {x : PyData} : isEditD (.tuple [.str "before", x]) = isItemD x := by
  show editOf (kdOf "before") [x] = _
  rw [show kdOf "before" = some .item by decide +kernel]
  rfl
theorem ed_after {x : PyData} : isEditD (.tuple [.str "after", x]) = isItemD x := by
  show editOf (kdOf "after") [x] = _
  rw [show kdOf "after" = some .item by decide +kernel]
  rfl
theorem ed_mark {x : PyData} : isEditD (.tuple [.str "mark", x]) = isIntegerD 0 3 x := by
  show editOf (kdOf "mark") [x] = _
  rw [show kdOf "mark" = some .mark by decide +kernel]
  rfl
theorem item1 {c : Nat} (h : c ∈ abcd.cps.toList) : isItemD (.str ⟨#[c]⟩) = true := decide_eq_true h
theorem word_put {x : PyData} : wordOf (.tuple [.str "put", x]) = "put" := rfl
theorem word_mark {x : PyData} : wordOf (.tuple [.str "mark", x]) = "mark" := rfl
theorem word_before {x : PyData} : wordOf (.tuple [.str "before", x]) = "before" := rfl
theorem word_after {x : PyData} : wordOf (.tuple [.str "after", x]) = "after" := rfl
def sp__law_edits (K : PySem.W.Frag) : Sp := fun vs H Q _ => ∃ (b : Addr) (m : Nat), vs = [.ref b, .int m] ∧ m ≤ 4 ∧ DrawnS K b (fun d => areEditsD d = true) H Q
theorem ok__law_edits (T : TT w K mg) : FnR P w K mg base CX0 2 (He.ga K "_law_edits") (sp__law_edits K) := by
  refine T.ok0 15 rfl rfl rfl sc__law_edits (fun _ _ _ _ _ _ us hl => match us, hl with | [_, _], _ => rfl) ?len (fun cdv A outer s H vs Q E hr h => ⟨_, (pss_cons (ps_par (i := 2) (j := 3) (by rfl) sc__law_edits.nd rfl rfl (by decide) rfl rfl (pa_cons (pe_lst pa_nil) (pa_cons (pe_disp (pps_cons pe_str pe_int (pps_cons pe_str pe_int pps_nil)) (by rfl) (by rfl) (fun z => by cases z) (by decide)) pa_nil)) (by rfl))
      (pss_cons (ps_for PassesOwn.never rfl (pi_range1 (by rfl) (T.free 41 rfl) (pa_cons (pc (ok__law_take T) (hr.mono (by decide)) (T.glo 12 rfl) (T.kp 12 rfl) pass0 (pa_cons (pv 0) (pa_cons (pe_op op_add (pv 1) pe_int) pa_nil))) pa_nil)) (pg_name (i := 4) sc__law_edits.nd rfl (Or.inl rfl))
      (pss_cons (ps_par (i := 5) (j := 6) (by rfl) sc__law_edits.nd rfl rfl (by decide) rfl rfl (pa_cons (pc (ok__law_take T) (hr.mono (by decide)) (T.glo 12 rfl) (T.kp 12 rfl) pass0 (pa_cons (pv 0) (pa_cons pe_int pa_nil))) (pa_cons (pe_ix ix_str pe_str (pc (ok__law_take T) (hr.mono (by decide)) (T.glo 12 rfl) (T.kp 12 rfl) pass0 (pa_cons (pv 0) (pa_cons pe_int pa_nil))) (fun _ _ => rfl)) pa_nil)) (by rfl))
      (pss_one (ps_if (pt_cmpR op_lt (pv 5) pe_int (nomark _))
      (pss_one (ps_expr (pe_bm PySem.F.plainAttrs_list PySem.F.slot_list_append PySem.F.type_list_append mt_append (pv 2) (pa_cons (pe_tup (pa_cons pe_str (pa_cons (pv 6) pa_nil))) pa_nil))))
      (pss_one (ps_if (PW.pt (pw_and (pt_cmpR op_lt (pv 5) pe_int (nomark _)) (pw_and1 (pt_cmpR op_gt (pe_dget (hu_of hr) (pv 3) pe_str (fun _ _ => rfl)) pe_int (nomark _)))))
      (pss_cons (ps_expr (pe_bm PySem.F.plainAttrs_list PySem.F.slot_list_append PySem.F.type_list_append mt_append (pv 2) (pa_cons (pe_ix (kix_list (K := K) rfl) (pe_lst (pa_cons (pe_tup (pa_cons pe_str pa_nil)) (pa_cons (pe_tup (pa_cons pe_str pa_nil)) pa_nil))) (pe_op op_sub (pv 5) pe_int) (fun _ _ => rfl)) pa_nil)))
      (pss_one (ps_dput (hu_of hr) (pv 3) pe_str (pe_op op_sub (pe_dget (hu_of hr) (pv 3) pe_str (fun _ _ => rfl)) pe_int) rfl)))
      (pss_one (ps_if (PW.pt (pw_and (pt_cmpR (kop_in (K := K) rfl) (pv 5) (pe_lst (pa_cons pe_int (pa_cons pe_int pa_nil))) (by rfl)) (pw_and1 (pt_cmpR op_gt (pe_dget (hu_of hr) (pv 3) pe_str (fun _ _ => rfl)) pe_int (nomark _)))))
      (pss_cons (ps_expr (pe_bm PySem.F.plainAttrs_list PySem.F.slot_list_append PySem.F.type_list_append mt_append (pv 2) (pa_cons (pe_tup (pa_cons (pe_ix (kix_list (K := K) rfl) (pe_lst (pa_cons pe_str (pa_cons pe_str pa_nil))) (pe_op op_sub (pv 5) pe_int) (fun _ _ => rfl)) (pa_cons (pv 6) pa_nil))) pa_nil)))
      (pss_one (ps_dput (hu_of hr) (pv 3) pe_str pe_int rfl)))
      (pss_one (ps_if (pt_cmpR op_gt (pv 5) pe_int (nomark _))
      (pss_one (ps_expr (pe_bm PySem.F.plainAttrs_list PySem.F.slot_list_append PySem.F.type_list_append mt_append (pv 2) (pa_cons (pe_tup (pa_cons pe_str (pa_cons (pc (ok__law_take T) (hr.mono (by decide)) (T.glo 12 rfl) (T.kp 12 rfl) pass0 (pa_cons (pv 0) (pa_cons pe_int pa_nil))) pa_nil))) pa_nil))))
      pss_nil))))))))))
      (pss_cons (ps_if (PW.pt (pw_and (pt_cmpR op_lt (pe_callB (kcr_len (K := K) rfl) (by rfl) (T.free 37 rfl) (by decide +kernel) (pa_cons (pv 2) pa_nil)) pe_int (nomark _)) (pw_and1 (pt_cmpR op_eq (pc (ok__law_take T) (hr.mono (by decide)) (T.glo 12 rfl) (T.kp 12 rfl) pass0 (pa_cons (pv 0) (pa_cons pe_int pa_nil))) pe_int (nomark _)))))
      (pss_one (ps_expr (pe_bm PySem.F.plainAttrs_list PySem.F.slot_list_append PySem.F.type_list_append mt_append (pv 2) (pa_cons (pe_tup (pa_cons pe_str pa_nil)) pa_nil))))
      pss_nil)
      (pss_one (ps_ret (pe_callTy (kcall_tuple (K := K) rfl) (by rfl) (T.free 44 rfl) (by decide +kernel) (pa_cons (pv 2) pa_nil))))))), ?read⟩)
  case len => intro vs H Q E h; obtain ⟨_, _, rfl, _⟩ := h; rfl
  case read =>
    obtain ⟨b, m, rfl, hm, S, al, k⟩ := h
    refine x_start (σ' := [some (.ref b), some (.int m), none, none, none, none, none]) rfl ?_
    (walk_at "s")
    have hb := al.bag
    refine ⟨by rw [sizeLine_eq]; simp, fun f hf => ?_⟩
    (walk_at "s")
    refine x_disp2 (k1 := .inr "in") (k2 := .inr "out") (by decide) (fun p hp => ?_)
    (walk_at "s")
    have c : EdC b S H f p := ⟨al, hf, (same_new hf).free hp, fun z => by rw [z, upd_same] at hp; cases hp⟩
    have e0 : EdAt K b S H f p (upd (upd H f (.lst [])) p (.dK [((.inr "in" : Key), .int 1), ((.inr "out" : Key), .int 2)])) [] [] 1 2 :=
      ⟨((Go.refl hb).put hf c.fb).put c.p0 c.pb, by rw [upd_ne c.fp]; exact upd_same, upd_same, .nil, .nil⟩
    generalize upd (upd H f (.lst [])) p _ = H1 at e0
    refine ⟨b, m + 1, rfl, e0.go.bag, by omega, by omega, fun n H2 hn g2 => ?_⟩
    have e1 := e0.goo c g2
    (walk_at "s")
    refine ⟨_, rfl, by omega, by omega, ?_⟩
    rw [Int.toNat_natCast]
    refine forg Src.rng (fun i σ H' => ∃ t r it ys ds ni no, σ = [some (.ref b), some (.int m), some (.ref f), some (.ref p), t, r, it] ∧ EdAt K b S H f p H' ys ds ni no ∧ ds.length ≤ i) ⟨_, _, _, _, _, _, _, rfl, e1, by simp⟩ (fun _ _ _ _ _ => trivial) ?step ?done
    case step =>
      rintro i x σ H3 hx ⟨t, r, it, ys, ds, ni, no, rfl, e3, hl⟩
      have hi : i < n := by
        have := (List.getElem?_eq_some_iff.mp hx).1
        simpa [rngV] using this
      (walk_at "s")
      refine ⟨b, 8, rfl, e3.go.bag, by decide, by decide, fun road H4 hroad g4 => ?_⟩
      (walk_at "s")
      have e4 := e3.goo c g4
      refine ⟨b, 4, rfl, e4.go.bag, by decide, by decide, fun n2 H5 hn2 g5 => ?_⟩
      have e5 := e4.goo c g5
      obtain ⟨ch, hc⟩ : ∃ c, abcd.cps.toList[n2]? = some c := ⟨_, List.getElem?_eq_getElem (by exact hn2)⟩
      have hch := List.mem_of_getElem? hc
      refine x_ixS (by decide +kernel) (atI_nat hc) ?_
      (walk_at "s")
      have hl4 : ds.length < 4 := by omega
      have hys := e5.len
      refine x_d (fun r1 => ?_) (fun r1 => ?_) <;> (walk_at "s")
      · refine x_tyL (SqL.of e5.hf) ?_
        (walk_at "s")
        refine ⟨by rw [sizeLine_eq]; simp, fun q hq => ?_⟩
        obtain ⟨e6, d6⟩ := e5.tup c hq (.cons (.str "put") (.cons (.str ⟨#[ch]⟩) .nil))
        (walk_at "s")
        refine x_app e6.hf (by omega) ?_
        refine ⟨_, _, _, _, _, _, _, rfl, e6.app c d6 (e6.ok.add hl4 (by rw [ed_put]; exact item1 hch) (by rw [word_put]; decide +kernel) e6.ok.i0 e6.ok.o0 ?_ ?_), by simp; omega⟩
        · rw [word_put, if_neg (by decide +kernel)]; omega
        · rw [word_put, if_neg (by decide +kernel)]; omega
      refine x_d (fun r2 => ?_) (fun r2 => ?_) <;> (walk_at "s")
      · refine x_dgS e5.hp (kv_out _ _) ?_
        (walk_at "s")
        refine x_d (fun r3 => ?_) (fun r3 => ?_) <;> (walk_at "s")
        · refine x_tyL (SqL.of e5.hf) ?_
          (walk_at "s")
          refine ⟨by rw [sizeLine_eq]; simp, fun q1 h1 => ?_⟩
          obtain ⟨e6, d6⟩ := e5.tup c h1 (.cons (.str "drop") .nil)
          (walk_at "s")
          refine ⟨by rw [sizeLine_eq]; simp, fun q2 h2 => ?_⟩
          obtain ⟨e7, d7⟩ := e6.tup c h2 (.cons (.str "drop_next") .nil)
          replace d6 := Dp.same (wo_new (S := f :: p :: S) h2 (o := .tup [.str "drop_next"])) _ _ d6
          (walk_at "s")
          refine ⟨by rw [sizeLine_eq]; simp, fun q3 h3 => ?_⟩
          have e8 := e7.same c (same_new h3 (o := .lst [.ref q1, .ref q2]))
          replace d6 := Dp.same (wo_new (S := f :: p :: S) h3 (o := .lst [.ref q1, .ref q2])) _ _ d6
          replace d7 := Dp.same (wo_new (S := f :: p :: S) h3 (o := .lst [.ref q1, .ref q2])) _ _ d7
          (walk_at "s")
          have step : ∀ (q : Addr) (d : PyData), Dp K (wo (f :: p :: S) (upd (upd (upd H5 q1 (.tup [.str "drop"])) q2 (.tup [.str "drop_next"])) q3 (.lst [.ref q1, .ref q2]))) (.ref q) d → isEditD d = true → wordOf d ∈ (["drop", "drop_next"] : List Str) → wordOf d ∉ (["break"] : List Str) → wordOf d ∉ (["before", "after"] : List Str) →
              EdOk (ds ++ [d]) ni (no - 1) := fun q d h1 h2 h3 h4 h5 => e8.ok.add hl4 h2 h4 e8.ok.i0 (by omega) (by rw [if_neg h5]; omega) (by rw [if_pos h3]; omega)
          rcases (show road = 2 ∨ road = 3 by omega) with e | e
          · subst e
            refine x_ixL (SqL.of upd_same) (j := ((2 : Nat) : Int) - 2) (v := .ref q1) rfl ?_
            (walk_at "s")
            refine x_app e8.hf (by omega) ?_
            (walk_at "s")
            refine x_dgS (e8.hp2 c) (kv_out _ _) ?_
            (walk_at "s")
            refine x_dpS (e8.hp2 c) (by simp) (kp_out _ _ _) ?_
            exact ⟨_, _, _, _, _, _, _, rfl, e8.app2 c d6 (step _ _ d6 (by decide +kernel) (by decide +kernel) (by decide +kernel) (by decide +kernel)), by simp; omega⟩
          · subst e
            refine x_ixL (SqL.of upd_same) (j := ((3 : Nat) : Int) - 2) (v := .ref q2) rfl ?_
            (walk_at "s")
            refine x_app e8.hf (by omega) ?_
            (walk_at "s")
            refine x_dgS (e8.hp2 c) (kv_out _ _) ?_
            (walk_at "s")
            refine x_dpS (e8.hp2 c) (by simp) (kp_out _ _ _) ?_
            exact ⟨_, _, _, _, _, _, _, rfl, e8.app2 c d7 (step _ _ d7 (by decide +kernel) (by decide +kernel) (by decide +kernel) (by decide +kernel)), by simp; omega⟩
        · refine ⟨by rw [sizeLine_eq]; simp, fun q hq => ?_⟩
          refine x_inY (.inl (SqL.of upd_same)) rfl rfl ?_
          (walk_at "s")
          rw [inV45 _ hroad]
          refine x_dF (by omega) ?_
          (walk_at "s")
          refine x_dF (by omega) ?_
          (walk_at "s")
          exact ⟨_, _, _, _, _, _, _, rfl, e5.same c (same_new hq), by omega⟩
      · refine ⟨by rw [sizeLine_eq]; simp, fun q hq => ?_⟩
        have e6 := e5.same c (same_new hq (o := .lst [.int 4, .int 5]))
        refine x_inY (.inl (SqL.of upd_same)) rfl rfl ?_
        (walk_at "s")
        rw [inV45 _ hroad]
        refine x_d (fun r4 => ?_) (fun r4 => ?_) <;> (walk_at "s")
        · refine x_dgS e6.hp (kv_in _ _) ?_
          (walk_at "s")
          refine x_d (fun r5 => ?_) (fun r5 => ?_) <;> (walk_at "s")
          · refine x_tyL (SqL.of e6.hf) ?_
            (walk_at "s")
            refine ⟨by rw [sizeLine_eq]; simp, fun q1 h1 => ?_⟩
            have e7 := e6.same c (same_new h1 (o := .lst [.str "before", .str "after"]))
            (walk_at "s")
            rcases (show road = 4 ∨ road = 5 by omega) with e | e
            · subst e
              refine x_ixL (SqL.of upd_same) (j := ((4 : Nat) : Int) - 4) (v := .str "before") rfl ?_
              (walk_at "s")
              refine ⟨by rw [sizeLine_eq]; simp, fun q2 h2 => ?_⟩
              obtain ⟨e8, d8⟩ := e7.tup c h2 (.cons (.str "before") (.cons (.str ⟨#[ch]⟩) .nil))
              (walk_at "s")
              refine x_app e8.hf (by omega) ?_
              (walk_at "s")
              refine x_dpS (e8.hp2 c) (by simp) (kp_in _ _ _) ?_
              refine ⟨_, _, _, _, _, _, _, rfl, e8.app2 c d8 (e8.ok.add hl4 (by rw [ed_before]; exact item1 hch) (by rw [word_before]; decide +kernel) (by decide) e8.ok.o0 ?_ ?_), by simp; omega⟩
              · rw [word_before, if_pos (by decide +kernel)]; omega
              · rw [word_before, if_neg (by decide +kernel)]; omega
            · subst e
              refine x_ixL (SqL.of upd_same) (j := ((5 : Nat) : Int) - 4) (v := .str "after") rfl ?_
              (walk_at "s")
              refine ⟨by rw [sizeLine_eq]; simp, fun q2 h2 => ?_⟩
              obtain ⟨e8, d8⟩ := e7.tup c h2 (.cons (.str "after") (.cons (.str ⟨#[ch]⟩) .nil))
              (walk_at "s")
              refine x_app e8.hf (by omega) ?_
              (walk_at "s")
              refine x_dpS (e8.hp2 c) (by simp) (kp_in _ _ _) ?_
              refine ⟨_, _, _, _, _, _, _, rfl, e8.app2 c d8 (e8.ok.add hl4 (by rw [ed_after]; exact item1 hch) (by rw [word_after]; decide +kernel) (by decide) e8.ok.o0 ?_ ?_), by simp; omega⟩
              · rw [word_after, if_pos (by decide +kernel)]; omega
              · rw [word_after, if_neg (by decide +kernel)]; omega
          · refine x_dF (by omega) ?_
            (walk_at "s")
            exact ⟨_, _, _, _, _, _, _, rfl, e6, by omega⟩
        · refine x_d (fun r5 => ?_) (fun r5 => ?_) <;> (walk_at "s")
          · refine x_tyL (SqL.of e6.hf) ?_
            (walk_at "s")
            refine ⟨b, 4, rfl, e6.go.bag, by decide, by decide, fun mk H6 hmk g6 => ?_⟩
            have e7 := e6.goo c g6
            (walk_at "s")
            refine ⟨by rw [sizeLine_eq]; simp, fun q2 h2 => ?_⟩
            obtain ⟨e8, d8⟩ := e7.tup c h2 (.cons (.str "mark") (.cons (.int mk) .nil))
            (walk_at "s")
            refine x_app e8.hf (by omega) ?_
            refine ⟨_, _, _, _, _, _, _, rfl, e8.app c d8 (e8.ok.add hl4 (by rw [ed_mark]; show (if (0 : Int) ≤ mk then decide ((mk : Int) ≤ 3) else false) = true; rw [if_pos (by omega)]; exact decide_eq_true (by omega)) (by rw [word_mark]; decide +kernel) e8.ok.i0 e8.ok.o0 ?_ ?_), by simp; omega⟩
            · rw [word_mark, if_neg (by decide +kernel)]; omega
            · rw [word_mark, if_neg (by decide +kernel)]; omega
          · exact ⟨_, _, _, _, _, _, _, rfl, e6, by omega⟩
    case done =>
      rintro σ H3 ⟨t, r, it, ys, ds, ni, no, rfl, e3, hl⟩
      (walk_at "s")
      refine x_len (len_lst (SqL.of e3.hf)) ?_
      (walk_at "s")
      have hys := e3.len
      have hn3 : (rngV 0 n).length = n := by simp [rngV]
      rw [hn3] at hl
      refine x_d (fun r1 => ?_) (fun r1 => ?_) <;> (walk_at "s")
      · refine ⟨b, 9, rfl, e3.go.bag, by decide, by decide, fun z H4 hz g4 => ?_⟩
        have e4 := e3.goo c g4
        (walk_at "s")
        refine x_d (fun r2 => ?_) (fun r2 => ?_) <;> (walk_at "s")
        · refine x_tyL (SqL.of e4.hf) ?_
          (walk_at "s")
          refine ⟨by rw [sizeLine_eq]; simp, fun q hq => ?_⟩
          obtain ⟨e5, d5⟩ := e4.tup c hq (.cons (.str "break") .nil)
          (walk_at "s")
          refine x_app e5.hf (by omega) ?_
          (walk_at "s")
          refine ⟨f, _, rfl, .inl ⟨SqL.of upd_same, fun l h1 => ?_⟩⟩
          obtain ⟨a1, a2⟩ := ed_done c (e5.go.put c.f0 c.fb) (by rw [wo_put (by simp)]; exact DpAll.app e5.a (.cons d5 .nil)) h1
          exact k _ _ _ a1 a2 (e5.ok.last (by omega))
        · refine ⟨f, _, rfl, .inl ⟨SqL.of e4.hf, fun l h1 => ?_⟩⟩
          obtain ⟨a1, a2⟩ := ed_done c e4.go e4.a h1
          exact k _ _ _ a1 a2 e4.ok.ok
      · refine ⟨f, _, rfl, .inl ⟨SqL.of e3.hf, fun l h1 => ?_⟩⟩
        obtain ⟨a1, a2⟩ := ed_done c e3.go e3.a h1
        exact k _ _ _ a1 a2 e3.ok.ok

theorem smallAll_of {ds : List PyData} (h : ∀ d ∈ ds, small d = true) : smallAll ds = true := by
  induction ds with
  | nil => rfl
  | cons d ds ih =>
    show (small d && smallAll ds) = true
    rw [h d (List.mem_cons_self ..), ih fun x hx => h x (List.mem_cons_of_mem _ hx)]
    rfl
theorem small_tup_of {ds : List PyData} (h : ∀ d ∈ ds, small d = true) (hl : ds.length ≤ 1000) : small (.tuple ds) = true := by
  show (decide (ds.length ≤ 90000) && smallAll ds) = true
  rw [smallAll_of h, decide_eq_true (by omega)]
  rfl
theorem small_str_of {s : Str} (h : s.length ≤ 1000) : small (.str s) = true := decide_eq_true (by omega)
theorem kdOf_small {w : Str} {k : Kd} (h : kdOf w = some k) : w.length ≤ 1000 := by
  unfold kdOf at h
  repeat' split at h
  all_goals first
    | (cases h; done)
    | (rename_i e; rw [e]; decide +kernel)
theorem item_small {d : PyData} (h : isItemD d = true) : small d = true := by
  cases d with
  | str s =>
    have hl : s.length = s.cps.toList.length := by simp [Str.length]
    cases hL : s.cps.toList with
    | nil => simp [isItemD, hL] at h
    | cons c r =>
      cases r with
      | nil => exact small_str_of (by rw [hl, hL]; simp)
      | cons c2 r => simp [isItemD, hL] at h
  | _ => cases h
theorem int_small {d : PyData} {a b : Int} (h : isIntegerD a b d = true) : small d = true := by
  cases d with
  | int i => rfl
  | _ => cases h
theorem edit_small {d : PyData} (h : isEditD d = true) : small d = true := by
  match d, h with
  | .tuple (.str w :: r), h =>
    have h2 : editOf (kdOf w) r = true := h
    cases hk : kdOf w with
    | none => rw [hk] at h2; cases h2
    | some k =>
      rw [hk] at h2
      have hw := small_str_of (kdOf_small hk)
      cases k with
      | bare =>
        have : r = [] := by
          have h3 : (r.length == 0) = true := h2
          simpa using h3
        rw [this]
        exact small_tup_of (fun d hd => by rw [List.mem_singleton.mp hd]; exact hw) (by simp)
      | item =>
        match r, h2 with
        | [x], h2 => exact small_tup_of (fun d hd => by
            rcases List.mem_cons.mp hd with e | e
            · rw [e]; exact hw
            · rw [List.mem_singleton.mp e]; exact item_small h2) (by simp)
      | mark =>
        match r, h2 with
        | [x], h2 => exact small_tup_of (fun d hd => by
            rcases List.mem_cons.mp hd with e | e
            · rw [e]; exact hw
            · rw [List.mem_singleton.mp e]; exact int_small h2) (by simp)
theorem edits_from : ∀ {ds pre : List PyData}, areEditsFrom pre ds = true → (∀ d ∈ ds, isEditD d = true) ∧ (ds = [] ∨ pre.length + ds.length ≤ 4)
  | [], _, _ => ⟨(fun d hd => by cases hd), .inl rfl⟩
  | d :: ds, pre, h => by
    have h1 : (if isEditD d then (if mayFollowD pre d then areEditsFrom (pre ++ [d]) ds else false) else false) = true := h
    cases e1 : isEditD d with
    | false => rw [e1] at h1; cases h1
    | true =>
      rw [e1, if_pos rfl] at h1
      cases e2 : mayFollowD pre d with
      | false => rw [e2] at h1; cases h1
      | true =>
        rw [e2, if_pos rfl] at h1
        obtain ⟨i1, i2⟩ := edits_from h1
        refine ⟨fun x hx => ?_, .inr ?_⟩
        · rcases List.mem_cons.mp hx with e | e
          · rw [e]; exact e1
          · exact i1 x e
        · have : pre.length + 1 ≤ 4 := by
            unfold mayFollowD at e2
            split at e2
            · cases e2
            · omega
          rcases i2 with e | e
          · rw [e]; simp; omega
          · simp at e ⊢; omega
theorem edits_small {d : PyData} (h : areEditsD d = true) : small d = true := by
  cases d with
  | tuple ds =>
    obtain ⟨a, b⟩ := edits_from (show areEditsFrom [] ds = true from h)
    exact small_tup_of (fun d hd => edit_small (a d hd)) (by rcases b with e | e; rw [e]; simp; simp at e; omega)
  | _ => cases h
theorem sel_small {al : Str} {d : PyData} (ha : al.length ≤ 1000) (h : isSelD al d = true) : small d = true := by
  cases d with
  | str s =>
    have h1 : (if s = "" then false else decide (s = pick al s)) = true := h
    split at h1
    · cases h1
    · have e := of_decide_eq_true h1
      refine small_str_of ?_
      rw [e]
      show (List.toArray _).size ≤ 1000
      rw [List.size_toArray]
      refine Nat.le_trans (List.length_filter_le _ _) ?_
      have : al.length = al.cps.toList.length := by simp [Str.length]
      omega
  | _ => cases h
theorem mark_small {d : PyData} (h : isMarkD d = true) : small d = true := by
  cases d with
  | none => rfl
  | int i => rfl
  | _ => cases h
theorem rule_small {d : PyData} (h : isRuleD d = true) : small d = true := by
  match d, h with
  | .tuple [m, it, fo, ed], h =>
    have h1 : (if isMarkD m then (if isSelD abcd it then (if isSelD abcdE fo then areEditsD ed else false) else false) else false) = true := h
    cases e1 : isMarkD m with
    | false => rw [e1] at h1; cases h1
    | true =>
      rw [e1, if_pos rfl] at h1
      cases e2 : isSelD abcd it with
      | false => rw [e2] at h1; cases h1
      | true =>
        rw [e2, if_pos rfl] at h1
        cases e3 : isSelD abcdE fo with
        | false => rw [e3] at h1; cases h1
        | true =>
          rw [e3, if_pos rfl] at h1
          refine small_tup_of (fun d hd => ?_) (by simp)
          simp only [List.mem_cons, List.not_mem_nil, or_false] at hd
          rcases hd with e | e | e | e
          · rw [e]; exact mark_small e1
          · rw [e]; exact sel_small (by decide +kernel) e2
          · rw [e]; exact sel_small (by decide +kernel) e3
          · rw [e]; exact edits_small h1
theorem ends_small {d : PyData} (h : endsOk d = true) : small d = true ∧ isLoopD d = false := by
  cases d with
  | tuple es =>
    have h1 : (if es.length = 4 then es.all endOk else false) = true := h
    split at h1
    · rename_i hl
      refine ⟨small_tup_of (fun d hd => ?_) (by omega), isLoop_len (by omega)⟩
      have h2 := List.all_eq_true.mp h1 d hd
      unfold endOk at h2
      rw [Bool.and_eq_true] at h2
      cases d with
      | str s => exact small_str_of (Nat.le_trans (of_decide_eq_true h2.2) (by decide))
      | _ => exact absurd h2.2 (by simp)
    · cases h1
  | _ => cases h
theorem loop_parts {d : PyData} (h : isLoopD d = true) : ∃ rs en, d = .tuple [.tuple rs, en] ∧ rs.length ≤ 12 ∧ (∀ r ∈ rs, isRuleD r = true) ∧ endsOk en = true := by
  match d, h with
  | .tuple [ru, en], h =>
    have h1 : rulesOk ru en = true := h
    match ru, h1 with
    | .tuple rs, h1 =>
      have h2 : (if rs.length ≤ 12 then (if rs.all isRuleD then endsOk en else false) else false) = true := h1
      split at h2
      · rename_i hl
        split at h2
        · rename_i ha
          exact ⟨rs, en, rfl, hl, fun r hr => List.all_eq_true.mp ha r hr, h2⟩
        · cases h2
      · cases h2
theorem loop_of {rs : List PyData} {en : PyData} (hl : rs.length ≤ 12) (hr : ∀ r ∈ rs, isRuleD r = true) (he : endsOk en = true) : isLoopD (.tuple [.tuple rs, en]) = true := by
  show (if rs.length ≤ 12 then (if rs.all isRuleD then endsOk en else false) else false) = true
  rw [if_pos hl, List.all_eq_true.mpr hr, if_pos rfl, he]
theorem loop_small {d : PyData} (h : isLoopD d = true) : small d = true := by
  obtain ⟨rs, en, rfl, h1, h2, h3⟩ := loop_parts h
  refine small_tup_of (fun d hd => ?_) (by simp)
  rcases List.mem_cons.mp hd with e | e
  · rw [e]; exact small_tup_of (fun r hr => rule_small (h2 r hr)) (by omega)
  · rw [List.mem_singleton.mp e]; exact (ends_small h3).1
theorem program_small {d : PyData} (h : isProgramD d = true) : small d = true := by
  cases d with
  | tuple ls =>
    have h1 : (if ls.length ≤ 5 then ls.all isLoopD else false) = true := h
    split at h1
    · exact small_tup_of (fun d hd => loop_small (List.all_eq_true.mp h1 d hd)) (by omega)
    · cases h1
  | _ => cases h
/-- a loop is no program -/
theorem loop_noProgram {d : PyData} (h : isLoopD d = true) : isProgramD d = false := by
  obtain ⟨rs, en, rfl, h1, h2, h3⟩ := loop_parts h
  show (if [PyData.tuple rs, en].length ≤ 5 then [PyData.tuple rs, en].all isLoopD else false) = false
  rw [if_pos (by simp), List.all_cons, List.all_cons, (ends_small h3).2, Bool.false_and, Bool.and_false]
/-! drawing -/
structure LsAt (K : PySem.W.Frag) (b : Addr) (S : List Addr) (H0 : Hp) (f : Addr) (H : Hp) (ys : List V) (ds : List PyData) (p : PyData → Bool) : Prop where
  go : Go b H0 H
  hf : H f = some (.lst ys)
  a : DpAll K (wo (f :: S) H) ys ds
  ok : ∀ d ∈ ds, p d = true
section
variable {K : PySem.W.Frag} {b f : Addr} {S : List Addr} {H0 H H1 : Hp} {ys : List V} {ds : List PyData} {p : PyData → Bool}
theorem LsAt.len (e : LsAt K b S H0 f H ys ds p) : ys.length = ds.length := DpAll.length e.a
theorem LsAt.goo (al : Al S b H0) (f0 : H0 f = none) (e : LsAt K b S H0 f H ys ds p) (g : Go b H H1) : LsAt K b S H0 f H1 ys ds p := ⟨e.go.trans g, g.keep e.hf (al.bag.ne f0), g.dwAll (by simp [al.mem]) e.a, e.ok⟩
theorem LsAt.all (al : Al S b H0) (e : LsAt K b S H0 f H ys ds p) : Al (f :: S) b H := (al.go e.go).cons (by rw [e.hf]; simp)
theorem LsAt.app (al : Al S b H0) (f0 : H0 f = none) (e : LsAt K b S H0 f H ys ds p) {y : V} {d : PyData} (hy : Dp K (wo (f :: S) H) y d) (h : p d = true) : LsAt K b S H0 f (upd H f (.lst (ys ++ [y]))) (ys ++ [y]) (ds ++ [d]) p :=
  ⟨e.go.put f0 (al.bag.ne f0), upd_same, by rw [wo_put (by simp)]; exact DpAll.app e.a (.cons hy .nil), fun x hx => by
    rcases List.mem_append.mp hx with q | q
    · exact e.ok x q
    · rw [List.mem_singleton.mp q]; exact h⟩
theorem LsAt.new (al : Al S b H0) (f0 : H0 f = none) : LsAt K b S H0 f (upd H0 f (.lst [])) [] [] p := ⟨(Go.refl al.bag).put f0 (al.bag.ne f0), upd_same, .nil, fun _ h => by cases h⟩
theorem LsAt.same (al : Al S b H0) (f0 : H0 f = none) (e : LsAt K b S H0 f H ys ds p) (g : Same H H1) : LsAt K b S H0 f H1 ys ds p := e.goo al f0 (Go.of e.go.bag g)
theorem LsAt.done (al : Al S b H0) (e : LsAt K b S H0 f H ys ds p) {l : Addr} (hl : H l = none) : Go b H0 (upd H l (.tup ys)) ∧ Dp K (wo S (upd H l (.tup ys))) (.ref l) (.tuple ds) :=
  ⟨e.go.new hl, dw_newTup (al.go e.go).all hl (DpAll.same (wo_sub fun a ha => by simp [ha]) _ _ e.a)⟩
end
theorem areEnds {ys : List V} {ds : List PyData} {K : PySem.W.Frag} {H : Hp} (h : ∀ d ∈ ds, endOk d = true) (hl : ds.length = 4) : endsOk (.tuple ds) = true := by
  show (if ds.length = 4 then ds.all endOk else false) = true
  rw [if_pos hl, List.all_eq_true.mpr h]
theorem rule_of {m it fo ed : PyData} (h1 : isMarkD m = true) (h2 : isSelD abcd it = true) (h3 : isSelD abcdE fo = true) (h4 : areEditsD ed = true) : isRuleD (.tuple [m, it, fo, ed]) = true := by
  show (if isMarkD m then (if isSelD abcd it then (if isSelD abcdE fo then areEditsD ed else false) else false) else false) = true
  rw [h1, h2, h3, h4]
  rfl
theorem mark_at {K : PySem.W.Frag} {m2 m4 j : Nat} (h2 : m2 < 2) (h4 : m4 < 4) (hj : j < 4) : ∃ mv md, atI [V.non, .non, .int m2, .int m4] (j : Int) = some mv ∧ isMarkD md = true ∧ ∀ H', Dp K H' mv md := by
  have im : ∀ i : Nat, i < 4 → isMarkD (.int i) = true := fun i hi => by
    show (if (0 : Int) ≤ i then decide ((i : Int) ≤ 3) else false) = true
    rw [if_pos (by omega)]
    exact decide_eq_true (by omega)
  match j, hj with
  | 0, _ => exact ⟨_, .none, rfl, rfl, fun _ => .non⟩
  | 1, _ => exact ⟨_, .none, rfl, rfl, fun _ => .non⟩
  | 2, _ => exact ⟨_, .int m2, rfl, im _ (by omega), fun _ => .int _⟩
  | 3, _ => exact ⟨_, .int m4, rfl, im _ h4, fun _ => .int _⟩
def sp__law_loop (K : PySem.W.Frag) : Sp := fun vs H Q _ => ∃ (b : Addr) (m : Nat), vs = [.ref b, .int m] ∧ m ≤ 12 ∧ DrawnS K b (fun d => isLoopD d = true) H Q
theorem ok__law_loop (T : TT w K mg) : FnR P w K mg base CX0 3 (He.ga K "_law_loop") (sp__law_loop K) := by
  refine T.ok0 16 rfl rfl rfl sc__law_loop (fun _ _ _ _ _ _ us hl => match us, hl with | [_, _], _ => rfl) ?len (fun cdv A outer s H vs Q E hr h => ⟨_, (pss_cons (ps_set (i := 2) sc__law_loop.nd rfl (Or.inl rfl) (pe_lst pa_nil))
      (pss_cons (ps_for PassesOwn.never rfl (pi_range1 (by rfl) (T.free 41 rfl) (pa_cons (pc (ok__law_take T) (hr.mono (by decide)) (T.glo 12 rfl) (T.kp 12 rfl) pass0 (pa_cons (pv 0) (pa_cons (pe_op op_add (pv 1) pe_int) pa_nil))) pa_nil)) (pg_name (i := 3) sc__law_loop.nd rfl (Or.inl rfl))
      (pss_cons (ps_set (i := 4) sc__law_loop.nd rfl (Or.inl rfl) (pe_ix (kix_list (K := K) rfl) (pe_lst (pa_cons pe_non (pa_cons pe_non (pa_cons (pc (ok__law_take T) (hr.mono (by decide)) (T.glo 12 rfl) (T.kp 12 rfl) pass0 (pa_cons (pv 0) (pa_cons pe_int pa_nil))) (pa_cons (pc (ok__law_take T) (hr.mono (by decide)) (T.glo 12 rfl) (T.kp 12 rfl) pass0 (pa_cons (pv 0) (pa_cons pe_int pa_nil))) pa_nil))))) (pc (ok__law_take T) (hr.mono (by decide)) (T.glo 12 rfl) (T.kp 12 rfl) pass0 (pa_cons (pv 0) (pa_cons pe_int pa_nil))) (fun _ _ => rfl)))
      (pss_cons (ps_par (i := 5) (j := 6) (by rfl) sc__law_loop.nd rfl rfl (by decide) rfl rfl (pa_cons (pc (ok__law_letters T) (hr.mono (by decide)) (T.glo 14 rfl) (T.kp 14 rfl) pass0 (pa_cons (pv 0) (pa_cons pe_str pa_nil))) (pa_cons (pc (ok__law_letters T) (hr.mono (by decide)) (T.glo 14 rfl) (T.kp 14 rfl) pass0 (pa_cons (pv 0) (pa_cons pe_str pa_nil))) pa_nil)) (by rfl))
      (pss_one (ps_expr (pe_bm PySem.F.plainAttrs_list PySem.F.slot_list_append PySem.F.type_list_append mt_append (pv 2) (pa_cons (pe_tup (pa_cons (pv 4) (pa_cons (pv 5) (pa_cons (pv 6) (pa_cons (pc (ok__law_edits T) (hr.mono (by decide)) (T.glo 15 rfl) (T.kp 15 rfl) pass0 (pa_cons (pv 0) (pa_cons pe_int pa_nil))) pa_nil))))) pa_nil)))))))
      (pss_cons (ps_set (i := 7) sc__law_loop.nd rfl (Or.inl rfl) (pe_callTy (kcall_tuple (K := K) rfl) (by rfl) (T.free 44 rfl) (by decide +kernel) (pa_cons (pe_lc (own := [("_law_k", 8)]) (g := gName 8) (tt := tYes) (by rfl) sc__law_loop.nd (pi_range1 (by rfl) (T.free 41 rfl) (pa_cons pe_int pa_nil)) (blkOk_by (own := [("_law_k", 8)]) (N := N__law_loop) (sc := defScope (top 27)) (by decide +kernel)) (fun _ _ _ _ _ => (pg_name (i := 8) sc__law_loop.nd rfl (Or.inl rfl))) (fun _ _ _ _ _ => pts_nil) (fun _ _ _ _ _ => (pe_op op_mulStr (pc (ok__law_text T) (hr.mono (by decide)) (T.glo 13 rfl) (T.kp 13 rfl) pass0 (pa_cons (pv 0) (pa_cons pe_int pa_nil))) (pe_op op_fdivW (pc (ok__law_take T) (hr.mono (by decide)) (T.glo 12 rfl) (T.kp 12 rfl) pass0 (pa_cons (pv 0) (pa_cons pe_int pa_nil))) pe_int)))) pa_nil)))
      (pss_one (ps_ret (pe_tup (pa_cons (pe_callTy (kcall_tuple (K := K) rfl) (by rfl) (T.free 44 rfl) (by decide +kernel) (pa_cons (pv 2) pa_nil)) (pa_cons (pv 7) pa_nil)))))))), ?read⟩)
  case len => intro vs H Q E h; obtain ⟨_, _, rfl, _⟩ := h; rfl
  case read =>
    obtain ⟨b, m, rfl, hm, S, al, k⟩ := h
    refine x_start (σ' := [some (.ref b), some (.int m), none, none, none, none, none, none, none]) rfl ?_
    (walk_at "s")
    refine ⟨by rw [sizeLine_eq]; simp, fun f hf => ?_⟩
    have e0 := LsAt.new (K := K) (p := isRuleD) al hf
    generalize upd H f _ = H1 at e0
    (walk_at "s")
    refine ⟨b, m + 1, rfl, e0.go.bag, by omega, by omega, fun n H2 hn g2 => ?_⟩
    have e1 := e0.goo al hf g2
    (walk_at "s")
    refine ⟨_, rfl, by omega, by omega, ?_⟩
    rw [Int.toNat_natCast]
    refine forg Src.rng (fun i σ H' => ∃ t mk it fo en kk ys ds, σ = [some (.ref b), some (.int m), some (.ref f), t, mk, it, fo, en, kk] ∧ LsAt K b S H f H' ys ds isRuleD ∧ ds.length ≤ i) ⟨_, _, _, _, _, _, _, _, rfl, e1, by simp⟩ (fun _ _ _ _ _ => trivial) ?step ?done
    case step =>
      rintro i x σ H3 hx ⟨t, mk, it, fo, en, kk, ys, ds, rfl, e3, hl⟩
      have hi : i < n := by
        have := (List.getElem?_eq_some_iff.mp hx).1
        simpa [rngV] using this
      (walk_at "s")
      refine ⟨b, 2, rfl, e3.go.bag, by decide, by decide, fun m2 H4 h2 g4 => ?_⟩
      have e4 := e3.goo al hf g4
      (walk_at "s")
      refine ⟨b, 4, rfl, e4.go.bag, by decide, by decide, fun m4 H5 h4 g5 => ?_⟩
      have e5 := e4.goo al hf g5
      (walk_at "s")
      refine ⟨by rw [sizeLine_eq]; simp, fun q hq => ?_⟩
      have e6 := e5.same al hf (same_new hq (o := .lst [.non, .non, .int m2, .int m4]))
      (walk_at "s")
      refine ⟨b, 4, rfl, e6.go.bag, by decide, by decide, fun j H7 hj g7 => ?_⟩
      have e7 := e6.goo al hf g7
      obtain ⟨mv, md, a1, a2, a3⟩ := mark_at (K := K) h2 h4 hj
      refine x_ixL (SqL.of (g7.keep upd_same (e5.go.bag.ne hq))) a1 ?_
      (walk_at "s")
      refine ⟨b, "abcd", rfl, by decide +kernel, e7.go.bag, fun s1 H8 g8 hs1 _ => ?_⟩
      have e8 := e7.goo al hf g8
      (walk_at "s")
      refine ⟨b, "abcd$", rfl, by decide +kernel, e8.go.bag, fun s2 H9 g9 hs2 _ => ?_⟩
      have e9 := e8.goo al hf g9
      (walk_at "s")
      refine x_tyL (SqL.of e9.hf) ?_
      (walk_at "s")
      refine ⟨b, 3, rfl, by decide, f :: S, e9.all al, fun v H10 d g10 hv hd => ?_⟩
      have e10 := e9.goo al hf g10
      (walk_at "s")
      refine ⟨by rw [sizeLine_eq]; simp, fun q2 hq2 => ?_⟩
      have e11 := e10.same al hf (same_new hq2 (o := .tup [mv, .str s1, .str s2, v]))
      have d11 : Dp K (wo (f :: S) (upd H10 q2 (.tup [mv, .str s1, .str s2, v]))) (.ref q2) (.tuple [md, .str s1, .str s2, d]) := dw_newTup (e10.all al).all hq2 (.cons (a3 _) (.cons (.str s1) (.cons (.str s2) (.cons hv .nil))))
      (walk_at "s")
      have hys := e11.len
      refine x_app e11.hf (by omega) ?_
      exact ⟨_, _, _, _, _, _, _, _, rfl, e11.app al hf d11 (rule_of a2 hs1 hs2 hd), by simp; omega⟩
    case done =>
      rintro σ H3 ⟨t, mk, it, fo, en, kk, ys, ds, rfl, e3, hl⟩
      have hn3 : (rngV 0 n).length = n := by simp [rngV]
      rw [hn3] at hl
      (walk_at "s")
      refine ⟨_, rfl, by decide, by decide, fun D hD => ?_⟩
      refine lcB (K := K) (Z := S) (Src.rng (lo := 0) (n := 4)) (al.go e3.go) (fun _ _ => trivial) hD (by decide) true (fun _ d => endOk d = true) (fun x hx H4 g4 al4 Y N hY hN => ?_) (fun H4 ys2 ds2 zs g4 al4 e a sb r ev => ?_)
      · (walk_at "s")
        refine ⟨rfl, ?_⟩
        (walk_at "s")
        refine ⟨b, 2, rfl, g4.bag, by decide, fun s H5 g5 hs hl2 => ?_⟩
        (walk_at "s")
        refine ⟨b, 3, rfl, g5.bag, by decide, by decide, fun j H6 hj g6 => ?_⟩
        (walk_at "s")
        refine x_I (wide_div (b := 20) (by decide) (by decide) (by decide) (by decide)) ?_
        rcases (show (j : Int) / 2 = 0 ∨ (j : Int) / 2 = 1 by omega) with h | h
        · rw [h]
          exact x_mulS0 (by omega) (hY _ _ _ (g5.trans g6) (.str "") (by decide +kernel))
        · rw [h]
          refine x_mulS1 (by omega) (hY _ _ _ (g5.trans g6) (.str s) ?_)
          show (inAbcd s && decide (s.length ≤ 4)) = true
          rw [hs, decide_eq_true (by omega)]
          rfl
      · have e4 := e3.goo al hf g4
        have hds : ds2.length = 4 := by
          rw [← r.length, ev rfl]
          simp [rngV]
        (walk_at "s")
        refine ⟨D, _, rfl, .inl ⟨SqL.of e, fun l h1 => ?_⟩⟩
        have d1 : Dp K (wo S (upd H4 l (.tup ys2))) (.ref l) (.tuple ds2) := dw_newTup (al.go e4.go).all h1 (DpAll.same (wo_sub fun a ha => by simp [ha]) _ _ a)
        have e5 := e4.same al hf (same_new h1 (o := .tup ys2))
        (walk_at "s")
        refine ⟨f, _, rfl, .inl ⟨SqL.of e5.hf, fun l2 h2 => ?_⟩⟩
        obtain ⟨g6, d2⟩ := e5.done al h2
        replace d1 := Dp.same (wo_new (S := S) h2 (o := .tup ys)) _ _ d1
        (walk_at "s")
        refine ⟨by rw [sizeLine_eq]; simp, fun l3 h3 => ?_⟩
        refine k _ _ _ (g6.new h3) (dw_newTup (al.go g6).all h3 (.cons d2 (.cons d1 .nil))) (loop_of (by omega) e5.ok (areEnds (K := K) (H := H) (ys := []) (fun d hd => (r.mem hd).elim fun _ z => z.2) hds))
def sp__law_program (K : PySem.W.Frag) : Sp := fun vs H Q _ => ∃ (b : Addr) (m n : Nat), vs = [.ref b, .int m, .int n] ∧ m ≤ 5 ∧ n ≤ 12 ∧ DrawnS K b (fun d => isProgramD d = true) H Q
theorem ok__law_program (T : TT w K mg) : FnR P w K mg base CX0 4 (He.ga K "_law_program") (sp__law_program K) := by
  refine T.ok0 17 rfl rfl rfl sc__law_program (fun _ _ _ _ _ _ us hl => match us, hl with | [_, _, _], _ => rfl) ?len (fun cdv A outer s H vs Q E hr h => ⟨_, (pss_one (ps_ret (pe_callTy (kcall_tuple (K := K) rfl) (by rfl) (T.free 44 rfl) (by decide +kernel) (pa_cons (pe_lc (own := [("_law_k", 3)]) (g := gName 3) (tt := tYes) (by rfl) sc__law_program.nd (pi_range1 (by rfl) (T.free 41 rfl) (pa_cons (pc (ok__law_take T) (hr.mono (by decide)) (T.glo 12 rfl) (T.kp 12 rfl) pass0 (pa_cons (pv 0) (pa_cons (pe_op op_add (pv 1) pe_int) pa_nil))) pa_nil)) (blkOk_by (own := [("_law_k", 3)]) (N := N__law_program) (sc := defScope (top 28)) (by decide +kernel)) (fun _ _ _ _ _ => (pg_name (i := 3) sc__law_program.nd rfl (Or.inl rfl))) (fun _ _ _ _ _ => pts_nil) (fun _ _ _ _ _ => (pc (ok__law_loop T) (hr.mono (by decide)) (T.glo 16 rfl) (T.kp 16 rfl) pass0 (pa_cons (pv 0) (pa_cons (pv 2) pa_nil))))) pa_nil)))), ?read⟩)
  case len => intro vs H Q E h; obtain ⟨_, _, _, rfl, _⟩ := h; rfl
  case read =>
    obtain ⟨b, m, nr, rfl, hm, hnr, S, al, k⟩ := h
    refine x_start (σ' := [some (.ref b), some (.int m), some (.int nr), none]) rfl ?_
    (walk_at "s")
    refine ⟨b, m + 1, rfl, al.bag, by omega, by omega, fun n H2 hn g2 => ?_⟩
    (walk_at "s")
    refine ⟨_, rfl, by omega, by omega, fun D hD => ?_⟩
    rw [Int.toNat_natCast]
    refine lcB (K := K) (Z := S) (Src.rng (lo := 0) (n := n)) (al.go g2) (fun _ _ => trivial) hD (by simp [rngV]; omega) true (fun _ d => isLoopD d = true) (fun x hx H4 g4 al4 Y N hY hN => ?_) (fun H4 ys2 ds2 zs g4 al4 e a sb r ev => ?_)
    · (walk_at "s")
      refine ⟨rfl, ?_⟩
      (walk_at "s")
      exact ⟨b, nr, rfl, hnr, D :: S, al4, fun v H5 d g5 hv hd => hY _ _ _ g5 hv hd⟩
    · have hds : ds2.length = n := by
        rw [← r.length, ev rfl]
        simp [rngV]
      (walk_at "s")
      refine ⟨D, _, rfl, .inl ⟨SqL.of e, fun l h1 => ?_⟩⟩
      refine k _ _ _ ((g2.trans g4).new h1) (dw_newTup ((al.go g2).go g4).all h1 (DpAll.same (wo_sub fun a ha => by simp [ha]) _ _ a)) ?_
      show (if ds2.length ≤ 5 then ds2.all isLoopD else false) = true
      rw [if_pos (by omega)]
      exact List.all_eq_true.mpr fun d hd => (r.mem hd).elim fun _ z => z.2

/-! data that repr shows -/
def lay (k n : Nat) (d : PyData) : Bool := PyData.canLay0 d && (PyData.showable d && (PyData.intsShort 13 d && (decide (PyData.depth d ≤ k) && decide (PyData.weight d ≤ n))))
theorem lay_parts {k n : Nat} {d : PyData} (h : lay k n d = true) : PyData.canLay0 d = true ∧ PyData.showable d = true ∧ PyData.intsShort 13 d = true ∧ PyData.depth d ≤ k ∧ PyData.weight d ≤ n := by
  unfold lay at h
  simp only [Bool.and_eq_true, decide_eq_true_eq] at h
  exact h
theorem lay_of {k n : Nat} {d : PyData} (h1 : PyData.canLay0 d = true) (h2 : PyData.showable d = true) (h3 : PyData.intsShort 13 d = true) (h4 : PyData.depth d ≤ k) (h5 : PyData.weight d ≤ n) : lay k n d = true := by
  unfold lay
  simp only [Bool.and_eq_true, decide_eq_true_eq]
  exact ⟨h1, h2, h3, h4, h5⟩
theorem lay_mono {k n k' n' : Nat} {d : PyData} (h : lay k n d = true) (hk : k ≤ k') (hn : n ≤ n') : lay k' n' d = true := by
  obtain ⟨h1, h2, h3, h4, h5⟩ := lay_parts h
  exact lay_of h1 h2 h3 (Nat.le_trans h4 hk) (Nat.le_trans h5 hn)
theorem lay_all {k n : Nat} : ∀ {ds : List PyData}, (∀ d ∈ ds, lay k n d = true) → PyData.canLayAll0 ds = true ∧ PyData.showableAll ds = true ∧ PyData.intsShortAll 13 ds = true ∧ PyData.depthAll ds ≤ k ∧ PyData.weightAll ds ≤ ds.length * (n + 1)
  | [], _ => ⟨rfl, rfl, rfl, Nat.zero_le _, Nat.zero_le _⟩
  | d :: ds, h => by
    obtain ⟨h1, h2, h3, h4, h5⟩ := lay_parts (h d (List.mem_cons_self ..))
    obtain ⟨i1, i2, i3, i4, i5⟩ := lay_all fun x hx => h x (List.mem_cons_of_mem _ hx)
    refine ⟨?_, ?_, ?_, ?_, ?_⟩
    · show (PyData.canLay0 d && PyData.canLayAll0 ds) = true
      rw [h1, i1]; rfl
    · show (PyData.showable d && PyData.showableAll ds) = true
      rw [h2, i2]; rfl
    · show (PyData.intsShort 13 d && PyData.intsShortAll 13 ds) = true
      rw [h3, i3]; rfl
    · show max (PyData.depth d) (PyData.depthAll ds) ≤ k
      exact Nat.max_le.mpr ⟨h4, i4⟩
    · show PyData.weight d + 1 + PyData.weightAll ds ≤ (ds.length + 1) * (n + 1)
      rw [Nat.succ_mul]
      omega
theorem lay_tup {k n m : Nat} {ds : List PyData} (h : ∀ d ∈ ds, lay k n d = true) (hl : ds.length ≤ m) : lay (k + 1) (m * (n + 1)) (.tuple ds) = true := by
  obtain ⟨h1, h2, h3, h4, h5⟩ := lay_all h
  exact lay_of (by show PyData.canLayAll0 ds = true; exact h1) (by show PyData.showableAll ds = true; exact h2) (by show PyData.intsShortAll 13 ds = true; exact h3) (Nat.succ_le_succ h4) (Nat.le_trans h5 (Nat.mul_le_mul_right _ hl))
theorem lay_lst {k n m : Nat} {ds : List PyData} (h : ∀ d ∈ ds, lay k n d = true) (hl : ds.length ≤ m) : lay (k + 1) (m * (n + 1)) (.list ds) = true := by
  obtain ⟨h1, h2, h3, h4, h5⟩ := lay_all h
  exact lay_of (by show PyData.canLayAll0 ds = true; exact h1) (by show PyData.showableAll ds = true; exact h2) (by show PyData.intsShortAll 13 ds = true; exact h3) (Nat.succ_le_succ h4) (Nat.le_trans h5 (Nat.mul_le_mul_right _ hl))
theorem lay_shows {k n : Nat} {d : PyData} (h : lay k n d = true) (hk : k ≤ 60) (hn : n ≤ 1048576) : Shows d := by
  obtain ⟨h1, h2, h3, h4, h5⟩ := lay_parts h
  refine ⟨h2, PyData.hasDict_of_canLay d h1, by omega, Nat.le_trans (shown_le13 ?_ h3) (by rw [sizeLine_eq]; decide)⟩
  unfold PyData.layable0
  have e : (2 : Nat) ^ 20 = 1048576 := by decide
  simp only [Bool.and_eq_true, decide_eq_true_eq]
  exact ⟨⟨h1, by omega⟩, by omega⟩
theorem lay_str {s : Str} {n : Nat} (h : ∀ c ∈ s.cps.toList, c ∈ abcdE.cps.toList) (hl : s.length ≤ n) : lay 0 n (.str s) = true := by
  refine lay_of ?_ rfl rfl (Nat.le_refl _) hl
  show s.cps.all (· < 0x110000) = true
  rw [← Array.all_toList]
  refine List.all_eq_true.mpr fun c hc => ?_
  have h2 : ∀ c ∈ abcdE.cps.toList, c < 0x110000 := by decide +kernel
  exact decide_eq_true (h2 c (h c hc))
theorem abcd_sub {c : Nat} (h : c ∈ abcd.cps.toList) : c ∈ abcdE.cps.toList := by
  have : ∀ c ∈ abcd.cps.toList, c ∈ abcdE.cps.toList := by decide +kernel
  exact this c h
theorem lay_kd {w : Str} {k : Kd} (h : kdOf w = some k) : lay 0 10 (.str w) = true := by
  unfold kdOf at h
  repeat' split at h
  all_goals first
    | (cases h; done)
    | (rename_i e; rw [e]; decide +kernel)
theorem lay_item {d : PyData} (h : isItemD d = true) : lay 0 10 d = true := by
  cases d with
  | str s =>
    have hl : s.length = s.cps.toList.length := by simp [Str.length]
    cases hL : s.cps.toList with
    | nil => simp [isItemD, hL] at h
    | cons c r =>
      cases r with
      | nil =>
        have hc : c ∈ abcd.cps.toList := by simpa [isItemD, hL] using h
        refine lay_str (fun x hx => ?_) (by rw [hl, hL]; simp)
        rw [hL] at hx
        rw [List.mem_singleton.mp hx]
        exact abcd_sub hc
      | cons c2 r => simp [isItemD, hL] at h
  | _ => cases h
theorem lay_int {d : PyData} (h : isIntegerD 0 3 d = true) : lay 0 10 d = true := by
  cases d with
  | int i =>
    have h1 : (if (0 : Int) ≤ i then decide (i ≤ 3) else false) = true := h
    split at h1
    · have h2 := of_decide_eq_true h1
      rcases (show i = 0 ∨ i = 1 ∨ i = 2 ∨ i = 3 by omega) with e | e | e | e <;> (rw [e]; decide +kernel)
    · cases h1
  | _ => cases h
theorem lay2 {k n : Nat} {a b : PyData} (h1 : lay k n a = true) (h2 : lay k n b = true) : lay (k + 1) (2 * (n + 1)) (.tuple [a, b]) = true := lay_tup (fun d hd => by
  rcases List.mem_cons.mp hd with e | e
  · rw [e]; exact h1
  · rw [List.mem_singleton.mp e]; exact h2) (by simp)
theorem lay_edit {d : PyData} (h : isEditD d = true) : lay 1 22 d = true := by
  match d, h with
  | .tuple (.str w :: r), h =>
    have h2 : editOf (kdOf w) r = true := h
    cases hk : kdOf w with
    | none => rw [hk] at h2; cases h2
    | some k =>
      rw [hk] at h2
      have hw := lay_kd hk
      cases k with
      | bare =>
        have : r = [] := by
          have h3 : (r.length == 0) = true := h2
          simpa using h3
        rw [this]
        exact lay_mono (lay_tup (m := 1) (fun d hd => by rw [List.mem_singleton.mp hd]; exact hw) (by simp)) (by decide) (by decide)
      | item =>
        match r, h2 with
        | [x], h2 => exact lay2 hw (lay_item h2)
      | mark =>
        match r, h2 with
        | [x], h2 => exact lay2 hw (lay_int h2)
theorem lay_edits {d : PyData} (h : areEditsD d = true) : lay 2 92 d = true := by
  cases d with
  | tuple ds =>
    obtain ⟨a, b⟩ := edits_from (show areEditsFrom [] ds = true from h)
    exact lay_tup (m := 4) (fun d hd => lay_edit (a d hd)) (by rcases b with e | e; rw [e]; simp; simp at e; omega)
  | _ => cases h
theorem lay_sel {al : Str} {d : PyData} (ha : ∀ c ∈ al.cps.toList, c ∈ abcdE.cps.toList) (hl : al.cps.toList.length ≤ 10) (h : isSelD al d = true) : lay 0 10 d = true := by
  cases d with
  | str s =>
    have h1 : (if s = "" then false else decide (s = pick al s)) = true := h
    split at h1
    · cases h1
    · have e := of_decide_eq_true h1
      have e2 : s.cps.toList = al.cps.toList.filter fun c => decide (c ∈ s.cps.toList) := by
        have := congrArg (fun z : Str => z.cps.toList) e
        simpa [pick] using this
      refine lay_str (fun c hc => ?_) ?_
      · rw [e2] at hc
        exact ha c (List.mem_filter.mp hc).1
      · have hl2 : s.length = s.cps.toList.length := by simp [Str.length]
        rw [hl2, e2]
        exact Nat.le_trans (List.length_filter_le _ _) hl
  | _ => cases h
theorem lay_mark {d : PyData} (h : isMarkD d = true) : lay 0 10 d = true := by
  cases d with
  | none => decide +kernel
  | int i => exact lay_int h
  | _ => cases h
theorem lay_rule {d : PyData} (h : isRuleD d = true) : lay 3 500 d = true := by
  match d, h with
  | .tuple [m, it, fo, ed], h =>
    have h1 : (if isMarkD m then (if isSelD abcd it then (if isSelD abcdE fo then areEditsD ed else false) else false) else false) = true := h
    cases e1 : isMarkD m with
    | false => rw [e1] at h1; cases h1
    | true =>
      rw [e1, if_pos rfl] at h1
      cases e2 : isSelD abcd it with
      | false => rw [e2] at h1; cases h1
      | true =>
        rw [e2, if_pos rfl] at h1
        cases e3 : isSelD abcdE fo with
        | false => rw [e3] at h1; cases h1
        | true =>
          rw [e3, if_pos rfl] at h1
          refine lay_mono (lay_tup (k := 2) (n := 92) (m := 4) (fun d hd => ?_) (by simp)) (by decide) (by decide)
          simp only [List.mem_cons, List.not_mem_nil, or_false] at hd
          rcases hd with e | e | e | e
          · rw [e]; exact lay_mono (lay_mark e1) (by decide) (by decide)
          · rw [e]; exact lay_mono (lay_sel (fun c => abcd_sub) (by decide +kernel) e2) (by decide) (by decide)
          · rw [e]; exact lay_mono (lay_sel (fun c h => h) (by decide +kernel) e3) (by decide) (by decide)
          · rw [e]; exact lay_edits h1
theorem lay_ends {d : PyData} (h : endsOk d = true) : lay 4 20000 d = true := by
  cases d with
  | tuple es =>
    have h1 : (if es.length = 4 then es.all endOk else false) = true := h
    split at h1
    · rename_i hl
      refine lay_mono (lay_tup (k := 0) (n := 10) (m := 4) (fun d hd => ?_) (by omega)) (by decide) (by decide)
      have h2 := List.all_eq_true.mp h1 d hd
      unfold endOk at h2
      rw [Bool.and_eq_true] at h2
      cases d with
      | str s => exact lay_str (fun c hc => abcd_sub (of_decide_eq_true (List.all_eq_true.mp h2.1 c hc))) (Nat.le_trans (of_decide_eq_true h2.2) (by decide))
      | _ => exact absurd h2.2 (by simp)
    · cases h1
  | _ => cases h
theorem lay_rules {rs : List PyData} (h : ∀ r ∈ rs, isRuleD r = true) (hl : rs.length ≤ 12) : lay 4 20000 (.tuple rs) = true := lay_mono (lay_tup (m := 12) (fun r hr => lay_rule (h r hr)) hl) (by decide) (by decide)
theorem lay_loop {d : PyData} (h : isLoopD d = true) : lay 6 70000 d = true := by
  obtain ⟨rs, en, rfl, h1, h2, h3⟩ := loop_parts h
  exact lay_mono (lay2 (lay_rules h2 h1) (lay_ends h3)) (by decide) (by decide)

--@ _law_spoilt_edits: dat=1; env=_law_drop, _law_after, _law_put; _law_bag_here=list; _law_some=list
--@ _law_spoilt_rule: dat=1; _law_bag_here=list; _law_good=list; _law_spot=int
--@ _law_spoilt_loop: dat=1; env=_law_loop_here, _law_rules, _law_ends; _law_bag_here=list; _law_loop_here=tup; _law_rules=tup; _law_ends=tup; _law_wrong=list; _law_place=int; _law_road=int
theorem dp3 {K : PySem.W.Frag} {H : Hp} {vs : List V} {d1 d2 d3 : PyData} (h : DpAll K H vs [d1, d2, d3]) : ∃ v1 v2 v3, vs = [v1, v2, v3] ∧ Dp K H v1 d1 ∧ Dp K H v2 d2 ∧ Dp K H v3 d3 := by
  cases h with
  | cons a h => cases h with
    | cons b h => cases h with
      | cons c h => cases h; exact ⟨_, _, _, rfl, a, b, c⟩
def rhoE : Rho := fun i => if i = 1 then .tuple [.str "drop"] else if i = 2 then .tuple [.str "after", .str "a"] else .tuple [.str "put", .str "b"]
theorem cat_carry {K : PySem.W.Frag} {S : List Addr} {H H' : Hp} {p : Addr} {xs xs' : List V} {ds ds' : List PyData} (hw : DpAll K (wo S H) xs ds) (s : Same H H') (hp : H' p = none) (w' : DpAll K (wo S H') xs' ds') : DpAll K (wo S (upd H' p (.lst (xs ++ xs')))) (xs ++ xs') (ds ++ ds') :=
  DpAll.app (DpAll.same (wo_same (s.trans (same_new hp))) _ _ hw) (DpAll.same (wo_new hp) _ _ w')
def sp__law_spoilt_edits (K : PySem.W.Frag) : Sp := fun vs H Q _ => ∃ b : Addr, vs = [.ref b] ∧ DrawnS K b (fun d => areEditsD d = false ∧ small d = true ∧ lay 3 500 d = true) H Q
theorem ok__law_spoilt_edits (T : TT w K mg) : FnR P w K mg base CX0 2 (He.ga K "_law_spoilt_edits") (sp__law_spoilt_edits K) := by
  refine T.ok0 18 rfl rfl rfl sc__law_spoilt_edits (fun _ _ _ _ _ _ us hl => match us, hl with | [_], _ => rfl) ?len (fun cdv A outer s H vs Q E hr h => ⟨_, (pss_cons (ps_asg (pdt_tup (pat_cons (pdt_tup (pat_cons (pdt_str (K := K) (is := []) pe_str) (pat_nil (K := K) (is := []) pa_nil))) (pat_cons (pdt_tup (pat_cons (pdt_str (K := K) (is := []) pe_str) (pat_cons (pdt_str (K := K) (is := []) pe_str) (pat_nil (K := K) (is := []) pa_nil)))) (pat_cons (pdt_tup (pat_cons (pdt_str (K := K) (is := []) pe_str) (pat_cons (pdt_str (K := K) (is := []) pe_str) (pat_nil (K := K) (is := []) pa_nil)))) (pat_nil (K := K) (is := []) pa_nil))))) (kpg_tup (K := K) rfl rfl (pgs_cons (pg_name (i := 1) sc__law_spoilt_edits.nd rfl (Or.inl rfl)) (pgs_cons (pg_name (i := 2) sc__law_spoilt_edits.nd rfl (Or.inl rfl)) (pgs_cons (pg_name (i := 3) sc__law_spoilt_edits.nd rfl (Or.inl rfl)) pgs_nil)))))
      (pss_cons (ps_set (i := 4) sc__law_spoilt_edits.nd rfl (Or.inl rfl) (pdl_lst (pat_cons (pdt_tup (pat_cons (pdt_var (K := K) (is := [1, 2, 3]) (pv 1) (by simp)) (pat_cons (pdt_var (K := K) (is := [1, 2, 3]) (pv 1) (by simp)) (pat_cons (pdt_var (K := K) (is := [1, 2, 3]) (pv 1) (by simp)) (pat_nil (K := K) (is := [1, 2, 3]) pa_nil))))) (pat_cons (pdt_tup (pat_cons (pdt_var (K := K) (is := [1, 2, 3]) (pv 2) (by simp)) (pat_cons (pdt_tup (pat_cons (pdt_str (K := K) (is := [1, 2, 3]) pe_str) (pat_cons (pdt_str (K := K) (is := [1, 2, 3]) pe_str) (pat_nil (K := K) (is := [1, 2, 3]) pa_nil)))) (pat_nil (K := K) (is := [1, 2, 3]) pa_nil)))) (pat_cons (pdt_tup (pat_cons (pdt_tup (pat_cons (pdt_str (K := K) (is := [1, 2, 3]) pe_str) (pat_nil (K := K) (is := [1, 2, 3]) pa_nil))) (pat_cons (pdt_var (K := K) (is := [1, 2, 3]) (pv 1) (by simp)) (pat_nil (K := K) (is := [1, 2, 3]) pa_nil)))) (pat_cons (pdt_rep (K := K) (is := [1, 2, 3]) (pe_op (kop_repT (K := K) rfl) (pdt_tup (pat_cons (pdt_var (K := K) (is := [1, 2, 3]) (pv 3) (by simp)) (pat_nil (K := K) (is := [1, 2, 3]) pa_nil))) pe_int)) (pat_cons (pdt_tup (pat_cons (pdt_tup (pat_cons (pdt_str (K := K) (is := [1, 2, 3]) pe_str) (pat_cons (pdt_str (K := K) (is := [1, 2, 3]) pe_str) (pat_nil (K := K) (is := [1, 2, 3]) pa_nil)))) (pat_nil (K := K) (is := [1, 2, 3]) pa_nil))) (pat_cons (pdt_tup (pat_cons (pdt_tup (pat_cons (pdt_str (K := K) (is := [1, 2, 3]) pe_str) (pat_nil (K := K) (is := [1, 2, 3]) pa_nil))) (pat_nil (K := K) (is := [1, 2, 3]) pa_nil))) (pat_nil (K := K) (is := [1, 2, 3]) pa_nil)))))))))
      (pss_cons (ps_set (i := 4) sc__law_spoilt_edits.nd rfl (Or.inl rfl) (pe_op op_cat (pv 4) (pdl_lst (pat_cons (pdt_tup (pat_cons (pdt_tup (pat_cons (pdt_str (K := K) (is := []) pe_str) (pat_cons (pdt_str (K := K) (is := []) pe_str) (pat_nil (K := K) (is := []) pa_nil)))) (pat_nil (K := K) (is := []) pa_nil))) (pat_cons (pdt_tup (pat_cons (pdt_tup (pat_cons (pdt_str (K := K) (is := []) pe_str) (pat_cons (pdt_str (K := K) (is := []) pe_str) (pat_nil (K := K) (is := []) pa_nil)))) (pat_nil (K := K) (is := []) pa_nil))) (pat_cons (pdt_tup (pat_cons (pdt_tup (pat_cons (pdt_str (K := K) (is := []) pe_str) (pat_cons (pdt_str (K := K) (is := []) pe_str) (pat_nil (K := K) (is := []) pa_nil)))) (pat_nil (K := K) (is := []) pa_nil))) (pat_cons (pdt_tup (pat_cons (pdt_tup (pat_cons (pdt_str (K := K) (is := []) pe_str) (pat_cons (pdt_int (K := K) (is := []) pe_int) (pat_nil (K := K) (is := []) pa_nil)))) (pat_nil (K := K) (is := []) pa_nil))) (pat_cons (pdt_tup (pat_cons (pdt_tup (pat_cons (pdt_str (K := K) (is := []) pe_str) (pat_cons (pdt_bl (K := K) (is := []) pe_bl) (pat_nil (K := K) (is := []) pa_nil)))) (pat_nil (K := K) (is := []) pa_nil))) (pat_cons (pdt_tup (pat_cons (pdt_tup (pat_cons (pdt_str (K := K) (is := []) pe_str) (pat_nil (K := K) (is := []) pa_nil))) (pat_nil (K := K) (is := []) pa_nil))) (pat_nil (K := K) (is := []) pa_nil))))))))))
      (pss_cons (ps_set (i := 4) sc__law_spoilt_edits.nd rfl (Or.inl rfl) (pe_op op_cat (pv 4) (pdl_lst (pat_cons (pdt_tup (pat_cons (pdt_tup (pat_cons (pdt_str (K := K) (is := [1]) pe_str) (pat_cons (pdt_non (K := K) (is := [1]) pe_non) (pat_nil (K := K) (is := [1]) pa_nil)))) (pat_nil (K := K) (is := [1]) pa_nil))) (pat_cons (pdt_tup (pat_cons (pdt_tup (pat_cons (pdt_str (K := K) (is := [1]) pe_str) (pat_nil (K := K) (is := [1]) pa_nil))) (pat_nil (K := K) (is := [1]) pa_nil))) (pat_cons (pdt_tup (pat_cons (pdt_tup (pat_nil (K := K) (is := [1]) pa_nil)) (pat_nil (K := K) (is := [1]) pa_nil))) (pat_cons (pdt_tup (pat_cons (pdt_non (K := K) (is := [1]) pe_non) (pat_nil (K := K) (is := [1]) pa_nil))) (pat_cons (pdt_tup (pat_cons (pdt_lst (pat_nil (K := K) (is := [1]) pa_nil)) (pat_nil (K := K) (is := [1]) pa_nil))) (pat_cons (pdt_lst (pat_cons (pdt_var (K := K) (is := [1]) (pv 1) (by simp)) (pat_nil (K := K) (is := [1]) pa_nil))) (pat_cons (pdt_str (K := K) (is := [1]) pe_str) (pat_cons (pdt_non (K := K) (is := [1]) pe_non) (pat_cons (pdt_tup (pat_cons (pdt_tup (pat_cons (pdt_str (K := K) (is := [1]) pe_str) (pat_cons (pdt_str (K := K) (is := [1]) pe_str) (pat_nil (K := K) (is := [1]) pa_nil)))) (pat_nil (K := K) (is := [1]) pa_nil))) (pat_nil (K := K) (is := [1]) pa_nil)))))))))))))
      (pss_cons (ps_set (i := 4) sc__law_spoilt_edits.nd rfl (Or.inl rfl) (pe_op op_cat (pv 4) (pdl_lst (pat_cons (pdt_tup (pat_cons (pdt_tup (pat_cons (pdt_str (K := K) (is := [1]) pe_str) (pat_nil (K := K) (is := [1]) pa_nil))) (pat_cons (pdt_tup (pat_cons (pdt_str (K := K) (is := [1]) pe_str) (pat_nil (K := K) (is := [1]) pa_nil))) (pat_nil (K := K) (is := [1]) pa_nil)))) (pat_cons (pdt_tup (pat_cons (pdt_var (K := K) (is := [1]) (pv 1) (by simp)) (pat_cons (pdt_tup (pat_cons (pdt_str (K := K) (is := [1]) pe_str) (pat_nil (K := K) (is := [1]) pa_nil))) (pat_cons (pdt_var (K := K) (is := [1]) (pv 1) (by simp)) (pat_nil (K := K) (is := [1]) pa_nil))))) (pat_cons (pdt_tup (pat_cons (pdt_tup (pat_cons (pdt_str (K := K) (is := [1]) pe_str) (pat_cons (pdt_int (K := K) (is := [1]) pe_int) (pat_nil (K := K) (is := [1]) pa_nil)))) (pat_nil (K := K) (is := [1]) pa_nil))) (pat_cons (pdt_tup (pat_cons (pdt_lst (pat_cons (pdt_str (K := K) (is := [1]) pe_str) (pat_nil (K := K) (is := [1]) pa_nil))) (pat_nil (K := K) (is := [1]) pa_nil))) (pat_nil (K := K) (is := [1]) pa_nil))))))))
      (pss_cons (ps_set (i := 4) sc__law_spoilt_edits.nd rfl (Or.inl rfl) (pe_op op_cat (pv 4) (pdl_lst (pat_cons (pdt_tup (pat_cons (pdt_tup (pat_cons (pdt_tup (pat_cons (pdt_str (K := K) (is := []) pe_str) (pat_nil (K := K) (is := []) pa_nil))) (pat_nil (K := K) (is := []) pa_nil))) (pat_nil (K := K) (is := []) pa_nil))) (pat_cons (pdt_tup (pat_cons (pdt_tup (pat_cons (pdt_str (K := K) (is := []) pe_str) (pat_cons (pdt_str (K := K) (is := []) pe_str) (pat_cons (pdt_str (K := K) (is := []) pe_str) (pat_nil (K := K) (is := []) pa_nil))))) (pat_nil (K := K) (is := []) pa_nil))) (pat_cons (pdt_tup (pat_cons (pdt_tup (pat_cons (pdt_str (K := K) (is := []) pe_str) (pat_cons (pdt_str (K := K) (is := []) pe_str) (pat_cons (pdt_non (K := K) (is := []) pe_non) (pat_nil (K := K) (is := []) pa_nil))))) (pat_nil (K := K) (is := []) pa_nil))) (pat_cons (pdt_tup (pat_cons (pdt_tup (pat_cons (pdt_str (K := K) (is := []) pe_str) (pat_cons (pdt_int (K := K) (is := []) pe_int) (pat_cons (pdt_int (K := K) (is := []) pe_int) (pat_nil (K := K) (is := []) pa_nil))))) (pat_nil (K := K) (is := []) pa_nil))) (pat_cons (pdt_tup (pat_cons (pdt_tup (pat_cons (pdt_str (K := K) (is := []) pe_str) (pat_cons (pdt_neg (K := K) (is := []) (pe_un un_neg pe_int) (fun _ _ q => ⟨_, rfl, q⟩)) (pat_nil (K := K) (is := []) pa_nil)))) (pat_nil (K := K) (is := []) pa_nil))) (pat_nil (K := K) (is := []) pa_nil)))))))))
      (pss_cons (ps_set (i := 4) sc__law_spoilt_edits.nd rfl (Or.inl rfl) (pe_op op_cat (pv 4) (pdl_lst (pat_cons (pdt_tup (pat_cons (pdt_tup (pat_cons (pdt_str (K := K) (is := []) pe_str) (pat_cons (pdt_non (K := K) (is := []) pe_non) (pat_nil (K := K) (is := []) pa_nil)))) (pat_nil (K := K) (is := []) pa_nil))) (pat_cons (pdt_tup (pat_cons (pdt_tup (pat_cons (pdt_str (K := K) (is := []) pe_str) (pat_cons (pdt_neg (K := K) (is := []) (pe_un un_neg pe_int) (fun _ _ q => ⟨_, rfl, q⟩)) (pat_nil (K := K) (is := []) pa_nil)))) (pat_nil (K := K) (is := []) pa_nil))) (pat_cons (pdt_rep (K := K) (is := []) (pe_op (kop_repT (K := K) rfl) (pdt_tup (pat_cons (pdt_tup (pat_cons (pdt_str (K := K) (is := []) pe_str) (pat_nil (K := K) (is := []) pa_nil))) (pat_nil (K := K) (is := []) pa_nil))) pe_int)) (pat_cons (pdt_tup (pat_cons (pdt_tup (pat_cons (pdt_str (K := K) (is := []) pe_str) (pat_cons (pdt_str (K := K) (is := []) pe_str) (pat_nil (K := K) (is := []) pa_nil)))) (pat_cons (pdt_tup (pat_cons (pdt_str (K := K) (is := []) pe_str) (pat_cons (pdt_str (K := K) (is := []) pe_str) (pat_nil (K := K) (is := []) pa_nil)))) (pat_nil (K := K) (is := []) pa_nil)))) (pat_nil (K := K) (is := []) pa_nil))))))))
      (pss_one (ps_ret (pe_ix (kix_list (K := K) rfl) (pv 4) (pc (ok__law_take T) (hr.mono (by decide)) (T.glo 12 rfl) (T.kp 12 rfl) pass0 (pa_cons (pv 0) (pa_cons (pe_callB (kcr_len (K := K) rfl) (by rfl) (T.free 37 rfl) (by decide +kernel) (pa_cons (pv 4) pa_nil)) pa_nil))) (fun _ _ => rfl))))))))))), ?read⟩)
  case len => intro vs H Q E h; obtain ⟨_, rfl, _⟩ := h; rfl
  case read =>
    obtain ⟨b, rfl, S, al, k⟩ := h
    refine x_start (σ' := [some (.ref b), none, none, none, none]) rfl ?_
    (walk_at "s")
    refine x_datS (fun _ => .none) al envD_nil (fun v1 H1 g1 _ d1 => ?_)
    obtain ⟨a1, vs1, rfl, q1, w1⟩ := dp_tup d1
    obtain ⟨x1, x2, x3, rfl, e1, e2, e3⟩ := dp3 w1
    have al1 := al.go g1
    refine x_gTup (sqT_same wo_le q1) rfl ?_
    (walk_at "s")
    have en : ∀ (H' : Hp) (t : Option V) (is : List Nat), (∀ i ∈ is, i = 1 ∨ i = 2 ∨ i = 3) → Go b H1 H' → EnvD K is rhoE [some (.ref b), some x1, some x2, some x3, t] (wo S H') := by
      intro H' t is hi g i hi2
      rcases hi i hi2 with e | e | e
      · subst e; exact ⟨x1, rfl, g.dw al.mem e1⟩
      · subst e; exact ⟨x2, rfl, g.dw al.mem e2⟩
      · subst e; exact ⟨x3, rfl, g.dw al.mem e3⟩
    refine x_lsB rhoE al1 (en _ _ _ (by simp) (Go.refl al1.bag)) (fun l2 xs2 H2 g2 s2 n2 h2 w2 => ?_)
    (walk_at "s")
    refine x_lsB rhoE (al1.go g2) (en _ _ _ (by simp) g2) (fun l3 xs3 H3 g3 s3 n3 h3 w3 => ?_)
    refine x_cat (s3 _ _ h2) h3 (by rw [DpAll.length w2, DpAll.length w3]; exact Nat.le_of_ble_eq_true rfl) (fun p3 f3 => ?_)
    have w4 := cat_carry w2 s3 f3 w3
    have g4 := (g2.trans g3).new f3 (o := .lst (xs2 ++ xs3))
    (walk_at "s")
    refine x_lsB rhoE (al1.go g4) (en _ _ _ (by simp) g4) (fun l5 xs5 H5 g5 s5 n5 h5 w5 => ?_)
    refine x_cat (s5 _ _ upd_same) h5 (by rw [DpAll.length w4, DpAll.length w5]; exact Nat.le_of_ble_eq_true rfl) (fun p5 f5 => ?_)
    have w6 := cat_carry w4 s5 f5 w5
    have g6 := (g4.trans g5).new f5 (o := .lst (xs2 ++ xs3 ++ xs5))
    (walk_at "s")
    refine x_lsB rhoE (al1.go g6) (en _ _ _ (by simp) g6) (fun l7 xs7 H7 g7 s7 n7 h7 w7 => ?_)
    refine x_cat (s7 _ _ upd_same) h7 (by rw [DpAll.length w6, DpAll.length w7]; exact Nat.le_of_ble_eq_true rfl) (fun p7 f7 => ?_)
    have w8 := cat_carry w6 s7 f7 w7
    have g8 := (g6.trans g7).new f7 (o := .lst (xs2 ++ xs3 ++ xs5 ++ xs7))
    (walk_at "s")
    refine x_lsB rhoE (al1.go g8) (en _ _ _ (by simp) g8) (fun l9 xs9 H9 g9 s9 n9 h9 w9 => ?_)
    refine x_cat (s9 _ _ upd_same) h9 (by rw [DpAll.length w8, DpAll.length w9]; exact Nat.le_of_ble_eq_true rfl) (fun p9 f9 => ?_)
    have w10 := cat_carry w8 s9 f9 w9
    have g10 := (g8.trans g9).new f9 (o := .lst (xs2 ++ xs3 ++ xs5 ++ xs7 ++ xs9))
    (walk_at "s")
    refine x_lsB rhoE (al1.go g10) (en _ _ _ (by simp) g10) (fun l11 xs11 H11 g11 s11 n11 h11 w11 => ?_)
    refine x_cat (s11 _ _ upd_same) h11 (by rw [DpAll.length w10, DpAll.length w11]; exact Nat.le_of_ble_eq_true rfl) (fun p11 f11 => ?_)
    have w12 := cat_carry w10 s11 f11 w11
    have g12 := (g10.trans g11).new f11 (o := .lst (xs2 ++ xs3 ++ xs5 ++ xs7 ++ xs9 ++ xs11))
    clear w2 w3 w4 w5 w6 w7 w8 w9 w10 w11
    obtain ⟨ds, w12, hall, hlen⟩ : ∃ ds, DpAll K (wo S (upd H11 p11 (.lst (xs2 ++ xs3 ++ xs5 ++ xs7 ++ xs9 ++ xs11)))) (xs2 ++ xs3 ++ xs5 ++ xs7 ++ xs9 ++ xs11) ds ∧ ds.all (fun d => !areEditsD d && (small d && lay 3 500 d)) = true ∧ ds.length = 34 := ⟨_, w12, by decide +kernel, rfl⟩
    have hz := DpAll.length w12
    generalize xs2 ++ xs3 ++ xs5 ++ xs7 ++ xs9 ++ xs11 = xs at w12 g12 hz
    (walk_at "s")
    refine x_len (len_lst (SqL.of upd_same)) ?_
    (walk_at "s")
    refine ⟨b, _, rfl, g12.bag, by omega, by omega, fun n H13 hn g13 => ?_⟩
    obtain ⟨v, hv⟩ : ∃ v, xs[n]? = some v := ⟨_, List.getElem?_eq_getElem hn⟩
    obtain ⟨d, hd, hdv⟩ := DpAll.get w12 hv
    refine x_ixL (SqL.of (g13.keep upd_same ?_)) (atI_nat hv) ?_
    · exact fun z => (al1.go ((g10.trans g11))).bag.some (by rw [← z]; exact f11)
    · have := List.all_eq_true.mp hall d (List.mem_of_getElem? hd)
      rw [Bool.and_eq_true, Bool.and_eq_true] at this
      exact k _ _ _ ((g1.trans g12).trans g13) (g13.dw al.mem hdv) ⟨by simpa using this.1, this.2⟩

def rule0 : List PyData := [.none, .str "ab", .str "cd$", .tuple [.tuple [.str "drop"]]]
structure GdAt (K : PySem.W.Frag) (b : Addr) (S : List Addr) (H0 : Hp) (f : Addr) (H : Hp) (ys : List V) : Prop where
  go : Go b H0 H
  hf : H f = some (.lst ys)
  a : DpAll K (wo (f :: S) H) ys rule0
theorem GdAt.goo {K : PySem.W.Frag} {b f : Addr} {S : List Addr} {H0 H H1 : Hp} {ys : List V} (al : Al S b H0) (f0 : H0 f = none) (e : GdAt K b S H0 f H ys) (g : Go b H H1) : GdAt K b S H0 f H1 ys := ⟨e.go.trans g, g.keep e.hf (al.bag.ne f0), g.dwAll (by simp [al.mem]) e.a⟩
theorem GdAt.all {K : PySem.W.Frag} {b f : Addr} {S : List Addr} {H0 H : Hp} {ys : List V} (al : Al S b H0) (e : GdAt K b S H0 f H ys) : Al (f :: S) b H := (al.go e.go).cons (by rw [e.hf]; simp)
theorem GdAt.len {K : PySem.W.Frag} {b f : Addr} {S : List Addr} {H0 H : Hp} {ys : List V} (e : GdAt K b S H0 f H ys) : ys.length = 4 := DpAll.length e.a
/-- the list, one element exchanged, as a tuple -/
theorem GdAt.done {K : PySem.W.Frag} {b f : Addr} {S : List Addr} {H0 H : Hp} {ys : List V} (al : Al S b H0) (f0 : H0 f = none) (e : GdAt K b S H0 f H ys) {v : V} {d : PyData} (hv : Dp K (wo (f :: S) H) v d) (i : Nat) {l : Addr} (hl : upd H f (.lst (ys.set i v)) l = none) :
    Go b H0 (upd (upd H f (.lst (ys.set i v))) l (.tup (ys.set i v))) ∧ Dp K (wo S (upd (upd H f (.lst (ys.set i v))) l (.tup (ys.set i v)))) (.ref l) (.tuple (rule0.set i d)) := by
  have g := e.go.put f0 (al.bag.ne f0) (o := .lst (ys.set i v))
  have a := DpAll.set hv i e.a
  rw [← wo_put (S := f :: S) (b := f) (o := .lst (ys.set i v)) (by simp)] at a
  exact ⟨g.new hl, dw_newTup (al.go g).all hl (DpAll.same (wo_sub fun a ha => by simp [ha]) _ _ a)⟩
def sp__law_spoilt_rule (K : PySem.W.Frag) : Sp := fun vs H Q _ => ∃ b : Addr, vs = [.ref b] ∧ DrawnS K b (fun d => isRuleD d = false ∧ small d = true ∧ lay 4 2100 d = true) H Q
def badRule (i : Nat) (d : PyData) : Bool := !isRuleD (.tuple (rule0.set i d)) && (small (.tuple (rule0.set i d)) && lay 4 2100 (.tuple (rule0.set i d)))
theorem badRule_ok {i : Nat} {d : PyData} (h : badRule i d = true) : isRuleD (.tuple (rule0.set i d)) = false ∧ small (.tuple (rule0.set i d)) = true ∧ lay 4 2100 (.tuple (rule0.set i d)) = true := by
  unfold badRule at h
  rw [Bool.and_eq_true, Bool.and_eq_true] at h
  exact ⟨by simpa using h.1, h.2⟩
theorem all_get {α : Type} {ds : List α} {p : α → Bool} {j : Nat} {d : α} (h : ds[j]? = some d) (a : ds.all p = true) : p d = true := List.all_eq_true.mp a d (List.mem_of_getElem? h)
theorem rule3 {d : PyData} (h : areEditsD d = false) (s : small d = true) (ly : lay 3 500 d = true) : isRuleD (.tuple (rule0.set 3 d)) = false ∧ small (.tuple (rule0.set 3 d)) = true ∧ lay 4 2100 (.tuple (rule0.set 3 d)) = true := by
  refine ⟨?_, ?_, ?_⟩
  · show (if isMarkD .none then (if isSelD abcd (.str "ab") then (if isSelD abcdE (.str "cd$") then areEditsD d else false) else false) else false) = false
    rw [h]
    repeat' split
    all_goals rfl
  · refine small_tup_of (fun x hx => ?_) (by simp [rule0])
    have hx2 : x ∈ [PyData.none, .str "ab", .str "cd$", d] := hx
    simp only [List.mem_cons, List.not_mem_nil, or_false] at hx2
    rcases hx2 with e | e | e | e
    · rw [e]; rfl
    · rw [e]; decide +kernel
    · rw [e]; decide +kernel
    · rw [e]; exact s
  · refine lay_mono (lay_tup (k := 3) (n := 500) (m := 4) (fun x hx => ?_) (by simp [rule0])) (by decide) (by decide)
    have hx2 : x ∈ [PyData.none, .str "ab", .str "cd$", d] := hx
    simp only [List.mem_cons, List.not_mem_nil, or_false] at hx2
    rcases hx2 with e | e | e | e
    · rw [e]; decide +kernel
    · rw [e]; decide +kernel
    · rw [e]; decide +kernel
    · rw [e]; exact ly
theorem cutV_take {xs : List V} {n : Nat} (hn : n ≤ xs.length) : cutV xs none (some (n : Int)) = xs.take n := by
  have e1 : HT.sIx xs.length 0 none = 0 := rfl
  have e2 : HT.sIx xs.length xs.length (some (n : Int)) = n := by
    show (if (n : Int) < 0 then ((n : Int) + xs.length).toNat else min (n : Int).toNat xs.length) = n
    rw [if_neg (by omega)]
    omega
  unfold cutV
  rw [e1, e2]
  simp
theorem ok__law_spoilt_rule (T : TT w K mg) : FnR P w K mg base CX0 3 (He.ga K "_law_spoilt_rule") (sp__law_spoilt_rule K) := by
  refine T.ok0 19 rfl rfl rfl sc__law_spoilt_rule (fun _ _ _ _ _ _ us hl => match us, hl with | [_], _ => rfl) ?len (fun cdv A outer s H vs Q E hr h => ⟨_, (pss_cons (ps_set (i := 1) sc__law_spoilt_rule.nd rfl (Or.inl rfl) (pdl_lst (pat_cons (pdt_non (K := K) (is := []) pe_non) (pat_cons (pdt_str (K := K) (is := []) pe_str) (pat_cons (pdt_str (K := K) (is := []) pe_str) (pat_cons (pdt_tup (pat_cons (pdt_tup (pat_cons (pdt_str (K := K) (is := []) pe_str) (pat_nil (K := K) (is := []) pa_nil))) (pat_nil (K := K) (is := []) pa_nil))) (pat_nil (K := K) (is := []) pa_nil)))))))
      (pss_cons (ps_set (i := 2) sc__law_spoilt_rule.nd rfl (Or.inl rfl) (pc (ok__law_take T) (hr.mono (by decide)) (T.glo 12 rfl) (T.kp 12 rfl) pass0 (pa_cons (pv 0) (pa_cons pe_int pa_nil))))
      (pss_cons (ps_if (pt_cmpR op_eq (pv 2) pe_int (nomark _))
      (pss_one (ps_asg (pe_ix (kix_list (K := K) rfl) (pdl_lst (pat_cons (pdt_int (K := K) (is := []) pe_int) (pat_cons (pdt_neg (K := K) (is := []) (pe_un un_neg pe_int) (fun _ _ q => ⟨_, rfl, q⟩)) (pat_cons (pdt_bl (K := K) (is := []) pe_bl) (pat_cons (pdt_str (K := K) (is := []) pe_str) (pat_cons (pdt_tup (pat_nil (K := K) (is := []) pa_nil)) (pat_nil (K := K) (is := []) pa_nil))))))) (pc (ok__law_take T) (hr.mono (by decide)) (T.glo 12 rfl) (T.kp 12 rfl) pass0 (pa_cons (pv 0) (pa_cons pe_int pa_nil))) (fun _ _ => rfl)) (pg_sub (pv 1) pe_int set_list)))
      pss_nil)
      (pss_cons (ps_if (pt_cmpR op_eq (pv 2) pe_int (nomark _))
      (pss_one (ps_asg (pe_ix (kix_list (K := K) rfl) (pdl_lst (pat_cons (pdt_str (K := K) (is := []) pe_str) (pat_cons (pdt_str (K := K) (is := []) pe_str) (pat_cons (pdt_str (K := K) (is := []) pe_str) (pat_cons (pdt_str (K := K) (is := []) pe_str) (pat_cons (pdt_str (K := K) (is := []) pe_str) (pat_cons (pdt_str (K := K) (is := []) pe_str) (pat_cons (pdt_non (K := K) (is := []) pe_non) (pat_cons (pdt_tup (pat_cons (pdt_str (K := K) (is := []) pe_str) (pat_nil (K := K) (is := []) pa_nil))) (pat_cons (pdt_lst (pat_cons (pdt_str (K := K) (is := []) pe_str) (pat_nil (K := K) (is := []) pa_nil))) (pat_cons (pdt_str (K := K) (is := []) pe_str) (pat_nil (K := K) (is := []) pa_nil)))))))))))) (pc (ok__law_take T) (hr.mono (by decide)) (T.glo 12 rfl) (T.kp 12 rfl) pass0 (pa_cons (pv 0) (pa_cons pe_int pa_nil))) (fun _ _ => rfl)) (pg_sub (pv 1) pe_int set_list)))
      pss_nil)
      (pss_cons (ps_if (pt_cmpR op_eq (pv 2) pe_int (nomark _))
      (pss_one (ps_asg (pe_ix (kix_list (K := K) rfl) (pdl_lst (pat_cons (pdt_str (K := K) (is := []) pe_str) (pat_cons (pdt_str (K := K) (is := []) pe_str) (pat_cons (pdt_str (K := K) (is := []) pe_str) (pat_cons (pdt_str (K := K) (is := []) pe_str) (pat_cons (pdt_str (K := K) (is := []) pe_str) (pat_cons (pdt_non (K := K) (is := []) pe_non) (pat_cons (pdt_tup (pat_cons (pdt_str (K := K) (is := []) pe_str) (pat_nil (K := K) (is := []) pa_nil))) (pat_cons (pdt_str (K := K) (is := []) pe_str) (pat_cons (pdt_int (K := K) (is := []) pe_int) (pat_cons (pdt_str (K := K) (is := []) pe_str) (pat_nil (K := K) (is := []) pa_nil)))))))))))) (pc (ok__law_take T) (hr.mono (by decide)) (T.glo 12 rfl) (T.kp 12 rfl) pass0 (pa_cons (pv 0) (pa_cons pe_int pa_nil))) (fun _ _ => rfl)) (pg_sub (pv 1) pe_int set_list)))
      pss_nil)
      (pss_cons (ps_if (pt_cmpR op_eq (pv 2) pe_int (nomark _))
      (pss_one (ps_asg (pc (ok__law_spoilt_edits T) (hr.mono (by decide)) (T.glo 18 rfl) (T.kp 18 rfl) pass0 (pa_cons (pv 0) pa_nil)) (pg_sub (pv 1) pe_int set_list)))
      pss_nil)
      (pss_cons (ps_if (pt_cmpR op_eq (pv 2) pe_int (nomark _))
      (pss_one (ps_ret (pe_ix (kix_list (K := K) rfl) (pe_lst (pa_cons (pe_callTy (kcall_tuple (K := K) rfl) (by rfl) (T.free 44 rfl) (by decide +kernel) (pa_cons (pe_slice (ksl_list (K := K) rfl) (pv 1) po_none (po_some pe_int)) pa_nil)) (pa_cons (pe_callTy (kcall_tuple (K := K) rfl) (by rfl) (T.free 44 rfl) (by decide +kernel) (pa_cons (pe_op op_cat (pv 1) (pdl_lst (pat_cons (pdt_tup (pat_nil (K := K) (is := []) pa_nil)) (pat_nil (K := K) (is := []) pa_nil)))) pa_nil)) (pa_cons (pe_callTy (kcall_list (K := K) rfl) (by rfl) (T.free 38 rfl) (by decide +kernel) (pa_cons (pv 1) pa_nil)) (pa_cons pe_non (pa_cons (pe_tup pa_nil) (pa_cons pe_str (pa_cons (pe_tup (pa_cons (pv 1) pa_nil)) pa_nil)))))))) (pc (ok__law_take T) (hr.mono (by decide)) (T.glo 12 rfl) (T.kp 12 rfl) pass0 (pa_cons (pv 0) (pa_cons pe_int pa_nil))) (fun _ _ => rfl))))
      pss_nil)
      (pss_one (ps_ret (pe_callTy (kcall_tuple (K := K) rfl) (by rfl) (T.free 44 rfl) (by decide +kernel) (pa_cons (pv 1) pa_nil))))))))))), ?read⟩)
  case len => intro vs H Q E h; obtain ⟨_, rfl, _⟩ := h; rfl
  case read =>
    obtain ⟨b, rfl, S, al, k⟩ := h
    refine x_start (σ' := [some (.ref b), none, none]) rfl ?_
    (walk_at "s")
    refine x_lsS (fun _ => .none) al envD_nil (fun f ys H1 g1 s1 f0 h1 w1 => ?_)
    have e1 : GdAt K b S H f H1 ys := ⟨g1, h1, w1⟩
    (walk_at "s")
    refine ⟨b, 5, rfl, g1.bag, by decide, by decide, fun spot H2 hspot g2 => ?_⟩
    have e2 := e1.goo al f0 g2
    (walk_at "s")
    match spot, hspot with
    | 0, _ =>
      refine x_dT rfl ?_
      (walk_at "s")
      refine x_lsS (fun _ => .none) (e2.all al) envD_nil (fun l xs H3 g3 s3 l0 h3 w3 => ?_)
      have e3 := e2.goo al f0 g3
      have hz := DpAll.length w3
      (walk_at "s")
      refine ⟨b, 5, rfl, e3.go.bag, by decide, by decide, fun j H4 hj g4 => ?_⟩
      have e4 := e3.goo al f0 g4
      obtain ⟨v, hv⟩ : ∃ v, xs[j]? = some v := ⟨_, List.getElem?_eq_getElem (by rw [hz]; exact hj)⟩
      obtain ⟨d, hd, hdv⟩ := DpAll.get w3 hv
      have hdv2 : Dp K (wo (f :: S) H4) v d := g4.dw (by simp [al.mem]) (Dp.same (wo_sub fun a ha => List.mem_cons_of_mem _ ha) _ _ hdv)
      have hbad : badRule 0 d = true := all_get hd (by decide +kernel)
      refine x_ixL (SqL.of (g4.keep h3 (e2.go.bag.ne l0))) (atI_nat hv) ?_
      (walk_at "s")
      refine x_setL (j := 0) e4.hf (by rw [e4.len]; rfl) ?_
      (walk_at "s")
      refine x_dF (by simp) ?_
      (walk_at "s")
      refine x_dF (by simp) ?_
      (walk_at "s")
      refine x_dF (by simp) ?_
      (walk_at "s")
      refine x_dF (by simp) ?_
      (walk_at "s")
      refine ⟨f, _, rfl, .inl ⟨SqL.of upd_same, fun l5 h5 => ?_⟩⟩
      obtain ⟨a1, a2⟩ := e4.done al f0 hdv2 0 h5
      exact k _ _ _ a1 a2 (badRule_ok hbad)
    | 1, _ =>
      refine x_dF (by simp) ?_
      (walk_at "s")
      refine x_dT rfl ?_
      (walk_at "s")
      refine x_lsS (fun _ => .none) (e2.all al) envD_nil (fun l xs H3 g3 s3 l0 h3 w3 => ?_)
      have e3 := e2.goo al f0 g3
      have hz := DpAll.length w3
      (walk_at "s")
      refine ⟨b, 10, rfl, e3.go.bag, by decide, by decide, fun j H4 hj g4 => ?_⟩
      have e4 := e3.goo al f0 g4
      obtain ⟨v, hv⟩ : ∃ v, xs[j]? = some v := ⟨_, List.getElem?_eq_getElem (by rw [hz]; exact hj)⟩
      obtain ⟨d, hd, hdv⟩ := DpAll.get w3 hv
      have hdv2 : Dp K (wo (f :: S) H4) v d := g4.dw (by simp [al.mem]) (Dp.same (wo_sub fun a ha => List.mem_cons_of_mem _ ha) _ _ hdv)
      have hbad : badRule 1 d = true := all_get hd (by decide +kernel)
      refine x_ixL (SqL.of (g4.keep h3 (e2.go.bag.ne l0))) (atI_nat hv) ?_
      (walk_at "s")
      refine x_setL (j := 1) e4.hf (by rw [e4.len]; rfl) ?_
      (walk_at "s")
      refine x_dF (by simp) ?_
      (walk_at "s")
      refine x_dF (by simp) ?_
      (walk_at "s")
      refine x_dF (by simp) ?_
      (walk_at "s")
      refine ⟨f, _, rfl, .inl ⟨SqL.of upd_same, fun l5 h5 => ?_⟩⟩
      obtain ⟨a1, a2⟩ := e4.done al f0 hdv2 1 h5
      exact k _ _ _ a1 a2 (badRule_ok hbad)
    | 2, _ =>
      refine x_dF (by simp) ?_
      (walk_at "s")
      refine x_dF (by simp) ?_
      (walk_at "s")
      refine x_dT rfl ?_
      (walk_at "s")
      refine x_lsS (fun _ => .none) (e2.all al) envD_nil (fun l xs H3 g3 s3 l0 h3 w3 => ?_)
      have e3 := e2.goo al f0 g3
      have hz := DpAll.length w3
      (walk_at "s")
      refine ⟨b, 10, rfl, e3.go.bag, by decide, by decide, fun j H4 hj g4 => ?_⟩
      have e4 := e3.goo al f0 g4
      obtain ⟨v, hv⟩ : ∃ v, xs[j]? = some v := ⟨_, List.getElem?_eq_getElem (by rw [hz]; exact hj)⟩
      obtain ⟨d, hd, hdv⟩ := DpAll.get w3 hv
      have hdv2 : Dp K (wo (f :: S) H4) v d := g4.dw (by simp [al.mem]) (Dp.same (wo_sub fun a ha => List.mem_cons_of_mem _ ha) _ _ hdv)
      have hbad : badRule 2 d = true := all_get hd (by decide +kernel)
      refine x_ixL (SqL.of (g4.keep h3 (e2.go.bag.ne l0))) (atI_nat hv) ?_
      (walk_at "s")
      refine x_setL (j := 2) e4.hf (by rw [e4.len]; rfl) ?_
      (walk_at "s")
      refine x_dF (by simp) ?_
      (walk_at "s")
      refine x_dF (by simp) ?_
      (walk_at "s")
      refine ⟨f, _, rfl, .inl ⟨SqL.of upd_same, fun l5 h5 => ?_⟩⟩
      obtain ⟨a1, a2⟩ := e4.done al f0 hdv2 2 h5
      exact k _ _ _ a1 a2 (badRule_ok hbad)
    | 3, _ =>
      refine x_dF (by simp) ?_
      (walk_at "s")
      refine x_dF (by simp) ?_
      (walk_at "s")
      refine x_dF (by simp) ?_
      (walk_at "s")
      refine x_dT rfl ?_
      (walk_at "s")
      refine ⟨b, rfl, f :: S, e2.all al, fun v H3 d g3 hv hq => ?_⟩
      have e3 := e2.goo al f0 g3
      (walk_at "s")
      refine x_setL (j := 3) e3.hf (by rw [e3.len]; rfl) ?_
      (walk_at "s")
      refine x_dF (by simp) ?_
      (walk_at "s")
      refine ⟨f, _, rfl, .inl ⟨SqL.of upd_same, fun l5 h5 => ?_⟩⟩
      obtain ⟨a1, a2⟩ := e3.done al f0 hv 3 h5
      exact k _ _ _ a1 a2 (rule3 hq.1 hq.2.1 hq.2.2)
    | 4, _ =>
      refine x_dF (by simp) ?_
      (walk_at "s")
      refine x_dF (by simp) ?_
      (walk_at "s")
      refine x_dF (by simp) ?_
      (walk_at "s")
      refine x_dF (by simp) ?_
      (walk_at "s")
      refine x_dT rfl ?_
      (walk_at "s")
      refine ⟨f, _, rfl, SqL.of e2.hf, fun p1 n1 => ?_⟩
      have ct : cutV ys none (some 3) = ys.take 3 := cutV_take (n := 3) (by rw [e2.len]; decide)
      have e3 := e2.goo al f0 (Go.of e2.go.bag (same_new n1 (o := .lst (cutV ys none (some 3)))))
      (walk_at "s")
      refine ⟨p1, _, rfl, .inl ⟨SqL.of upd_same, fun t1 m1 => ?_⟩⟩
      have C1 := DpAll.take 3 (DpAll.same (wo_sub (T := S) fun a ha => by simp [ha]) _ _ e3.a)
      rw [← ct] at C1
      have A1 := dw_newTup (al.go e3.go).all m1 C1
      have e4 := e3.goo al f0 (Go.of e3.go.bag (same_new m1 (o := .tup (cutV ys none (some 3)))))
      (walk_at "s")
      refine x_lsS (fun _ => .none) (e4.all al) envD_nil (fun l2 xs2 H5 g5 s5 n2 h2 w2 => ?_)
      have e5 := e4.goo al f0 g5
      replace A1 := g5.dw al.mem A1
      refine x_cat e5.hf h2 (by rw [e5.len, DpAll.length w2]; decide) (fun p2 n3 => ?_)
      have C2 := DpAll.app (DpAll.same (wo_sub (T := S) fun a ha => by simp [ha]) _ _ e5.a) (DpAll.same (wo_sub (T := S) fun a ha => by simp [ha]) _ _ w2)
      have e6 := e5.goo al f0 (Go.of e5.go.bag (same_new n3 (o := .lst (ys ++ xs2))))
      replace A1 := Dp.same (wo_new n3 (o := .lst (ys ++ xs2))) _ _ A1
      replace C2 := DpAll.same (wo_new n3 (o := .lst (ys ++ xs2))) _ _ C2
      (walk_at "s")
      refine ⟨p2, _, rfl, .inl ⟨SqL.of upd_same, fun t2 m2 => ?_⟩⟩
      have A2 := dw_newTup (al.go e6.go).all m2 C2
      have e7 := e6.goo al f0 (Go.of e6.go.bag (same_new m2 (o := .tup (ys ++ xs2))))
      replace A1 := Dp.same (wo_new m2 (o := .tup (ys ++ xs2))) _ _ A1
      (walk_at "s")
      refine ⟨f, _, rfl, .inl (SqL.of e7.hf), fun l3 m3 => ?_⟩
      have A3 := dw_newLst (al.go e7.go).all m3 (DpAll.same (wo_sub (T := S) fun a ha => by simp [ha]) _ _ e7.a)
      have e8 := e7.goo al f0 (Go.of e7.go.bag (same_new m3 (o := .lst ys)))
      replace A1 := Dp.same (wo_new m3 (o := .lst ys)) _ _ A1
      replace A2 := Dp.same (wo_new m3 (o := .lst ys)) _ _ A2
      (walk_at "s")
      refine ⟨by rw [sizeLine_eq]; simp, fun t5 m5 => ?_⟩
      have A5 := dw_newTup (al.go e8.go).all m5 (.nil (K := K))
      have e9 := e8.goo al f0 (Go.of e8.go.bag (same_new m5 (o := .tup [])))
      replace A1 := Dp.same (wo_new m5 (o := .tup [])) _ _ A1
      replace A2 := Dp.same (wo_new m5 (o := .tup [])) _ _ A2
      replace A3 := Dp.same (wo_new m5 (o := .tup [])) _ _ A3
      (walk_at "s")
      refine ⟨by rw [sizeLine_eq]; simp, fun t7 m7 => ?_⟩
      have F9 : Dp K (wo S _) (.ref f) (.list rule0) := .lst (SqL.of (by rw [wo_out (not_mem_new al.all f0)]; exact e9.hf)) (DpAll.same (wo_sub (T := S) fun a ha => by simp [ha]) _ _ e9.a)
      have A7 := dw_newTup (al.go e9.go).all m7 (.cons F9 .nil)
      have e10 := e9.goo al f0 (Go.of e9.go.bag (same_new m7 (o := .tup [.ref f])))
      replace A1 := Dp.same (wo_new m7 (o := .tup [.ref f])) _ _ A1
      replace A2 := Dp.same (wo_new m7 (o := .tup [.ref f])) _ _ A2
      replace A3 := Dp.same (wo_new m7 (o := .tup [.ref f])) _ _ A3
      replace A5 := Dp.same (wo_new m7 (o := .tup [.ref f])) _ _ A5
      (walk_at "s")
      refine ⟨by rw [sizeLine_eq]; simp, fun L m8 => ?_⟩
      have W := DpAll.same (wo_new m8 (o := .lst [.ref t1, .ref t2, .ref l3, .non, .ref t5, .str "rule", .ref t7])) _ _ (.cons A1 (.cons A2 (.cons A3 (.cons .non (.cons A5 (.cons (.str "rule") (.cons A7 .nil)))))))
      have e11 := e10.goo al f0 (Go.of e10.go.bag (same_new m8 (o := .lst [.ref t1, .ref t2, .ref l3, .non, .ref t5, .str "rule", .ref t7])))
      (walk_at "s")
      refine ⟨b, 7, rfl, e11.go.bag, by decide, by decide, fun j H12 hj g12 => ?_⟩
      obtain ⟨v, hv⟩ : ∃ v, ([.ref t1, .ref t2, .ref l3, .non, .ref t5, .str "rule", .ref t7] : List V)[j]? = some v := ⟨_, List.getElem?_eq_getElem (by exact hj)⟩
      obtain ⟨d, hd, hdv⟩ := DpAll.get W hv
      refine x_ixL (SqL.of (g12.keep upd_same (e10.go.bag.ne m8))) (atI_nat hv) ?_
      have hb := all_get (p := fun d => !isRuleD d && (small d && lay 4 2100 d)) hd (by decide +kernel)
      rw [Bool.and_eq_true, Bool.and_eq_true] at hb
      exact k _ _ _ (e11.go.trans g12) (g12.dw al.mem hdv) ⟨by simpa using hb.1, hb.2⟩

theorem x_catS {K : PySem.W.Frag} {S : List Addr} {H : Hp} {a b : Addr} {xs ys : List V} {Q : VK} (h1 : SqT K (wo S H) a xs) (h2 : SqT K (wo S H) b ys) (hS : ∀ a ∈ S, H a ≠ none) (hl : xs.length + ys.length ≤ 100000)
    (k : ∀ p H', Same H H' → SqT K (wo S H') p (xs ++ ys) → Q (.ref p) H') : rCatA K (.ref a) (.ref b) H Q := by
  refine ⟨a, b, xs, ys, rfl, rfl, sqT_same wo_le h1, sqT_same wo_le h2, by rw [sizeLine_eq]; omega, fun e => ?_, fun _ e => ?_, fun _ _ p hp => ?_⟩
  · exact k b H (Same.refl _) (by rw [e, List.nil_append]; exact h2)
  · exact k a H (Same.refl _) (by rw [e, List.append_nil]; exact h1)
  · exact k p _ (same_new hp) (SqT.of (by rw [wo_out (not_mem_new hS hp)]; exact upd_same))
theorem cutV_drop {xs : List V} {n : Nat} (hn : n ≤ xs.length) : cutV xs (some (n : Int)) none = xs.drop n := by
  have e1 : HT.sIx xs.length 0 (some (n : Int)) = n := by
    show (if (n : Int) < 0 then ((n : Int) + xs.length).toNat else min (n : Int).toNat xs.length) = n
    rw [if_neg (by omega)]
    omega
  have e2 : HT.sIx xs.length xs.length none = xs.length := rfl
  unfold cutV
  rw [e1, e2]
  exact List.take_of_length_le (by rw [List.length_drop]; exact Nat.le_refl _)
theorem x_slS {K : PySem.W.Frag} {S : List Addr} {H : Hp} {a : Addr} {xs : List V} {lo hi : Option Int} {Q : VK} (h : SqT K (wo S H) a xs) (hS : ∀ a ∈ S, H a ≠ none) (k : ∀ p H', Same H H' → SqT K (wo S H') p (cutV xs lo hi) → Q (.ref p) H') : rSlA K (.ref a) lo hi H Q := by
  refine ⟨a, xs, rfl, sqT_same wo_le h, fun ⟨z1, z2⟩ => ?_, fun _ p hp => ?_⟩
  · have e : cutV xs lo hi = xs := by
      unfold cutV
      rw [z1, z2, Nat.sub_zero, List.drop_zero, List.take_length]
    exact k a H (Same.refl _) (by rw [e]; exact h)
  · exact k p _ (same_new hp) (SqT.of (by rw [wo_out (not_mem_new hS hp)]; exact upd_same))
theorem dpAll_drop {K : PySem.W.Frag} {H : Hp} : ∀ {vs : List V} {ds : List PyData} (n : Nat), DpAll K H vs ds → DpAll K H (vs.drop n) (ds.drop n)
  | _, _, 0, h => h
  | _, _, _ + 1, .nil => .nil
  | _, _, n + 1, .cons _ b => dpAll_drop n b
theorem bad_ends {ru en : PyData} (h : endsOk en = false) : isLoopD (.tuple [ru, en]) = false := by
  show rulesOk ru en = false
  cases ru with
  | tuple rs =>
    show (if rs.length ≤ 12 then (if rs.all isRuleD then endsOk en else false) else false) = false
    rw [h]
    repeat' split
    all_goals rfl
  | _ => rfl
theorem bad_rules {rs : List PyData} {en : PyData} (h : rs.length ≤ 12 → rs.all isRuleD = false) : isLoopD (.tuple [.tuple rs, en]) = false := by
  show (if rs.length ≤ 12 then (if rs.all isRuleD then endsOk en else false) else false) = false
  by_cases hl : rs.length ≤ 12
  · rw [if_pos hl, h hl, if_neg (by decide)]
  · rw [if_neg hl]
theorem bad_swap {en ru : PyData} (h : endsOk en = true) : isLoopD (.tuple [en, ru]) = false := by
  cases en with
  | tuple es =>
    have h1 : (if es.length = 4 then es.all endOk else false) = true := h
    split at h1
    · rename_i hl
      refine bad_rules fun _ => ?_
      match es, hl, h1 with
      | e :: r, _, h1 =>
        rw [List.all_cons, Bool.and_eq_true] at h1
        cases e with
        | str s => rfl
        | _ => exact absurd h1.1 (by simp [endOk, isTextD])
    · cases h1
  | _ => cases h
theorem small2 {a b : PyData} (h1 : small a = true) (h2 : small b = true) : small (.tuple [a, b]) = true := small_tup_of (fun d hd => by
  rcases List.mem_cons.mp hd with e | e
  · rw [e]; exact h1
  · rw [List.mem_singleton.mp e]; exact h2) (by simp)
def sp__law_spoilt_loop (K : PySem.W.Frag) : Sp := fun vs H Q _ => ∃ (b : Addr) (lv : V) (dl : PyData) (S : List Addr), vs = [.ref b, lv] ∧ Al S b H ∧ Dp K (wo S H) lv dl ∧ isLoopD dl = true ∧ ∀ v H' d, Go b H H' → Dp K (wo S H') v d → isLoopD d = false ∧ small d = true ∧ lay 7 130000 d = true → Q v H'
theorem ok__law_spoilt_loop (T : TT w K mg) : FnR P w K mg base CX0 4 (He.ga K "_law_spoilt_loop") (sp__law_spoilt_loop K) := by
  refine T.ok0 20 rfl rfl rfl sc__law_spoilt_loop (fun _ _ _ _ _ _ us hl => match us, hl with | [_, _], _ => rfl) ?len (fun cdv A outer s H vs Q E hr h => ⟨_, (pss_cons (ps_asg (pv 1) (kpg_tup (K := K) rfl rfl (pgs_cons (pg_name (i := 2) sc__law_spoilt_loop.nd rfl (Or.inl rfl)) (pgs_cons (pg_name (i := 3) sc__law_spoilt_loop.nd rfl (Or.inl rfl)) pgs_nil))))
      (pss_cons (ps_set (i := 4) sc__law_spoilt_loop.nd rfl (Or.inl rfl) (pc (ok__law_take T) (hr.mono (by decide)) (T.glo 12 rfl) (T.kp 12 rfl) pass0 (pa_cons (pv 0) (pa_cons (pe_op op_add (pe_callB (kcr_len (K := K) rfl) (by rfl) (T.free 37 rfl) (by decide +kernel) (pa_cons (pv 2) pa_nil)) pe_int) pa_nil))))
      (pss_cons (ps_set (i := 5) sc__law_spoilt_loop.nd rfl (Or.inl rfl) (pdl_lst (pat_cons (pdt_rep (K := K) (is := []) (pe_op (kop_repT (K := K) rfl) (pdt_tup (pat_cons (pdt_str (K := K) (is := []) pe_str) (pat_nil (K := K) (is := []) pa_nil))) pe_int)) (pat_cons (pdt_tup (pat_cons (pdt_str (K := K) (is := []) pe_str) (pat_cons (pdt_str (K := K) (is := []) pe_str) (pat_cons (pdt_str (K := K) (is := []) pe_str) (pat_cons (pdt_str (K := K) (is := []) pe_str) (pat_nil (K := K) (is := []) pa_nil)))))) (pat_cons (pdt_tup (pat_cons (pdt_str (K := K) (is := []) pe_str) (pat_cons (pdt_str (K := K) (is := []) pe_str) (pat_cons (pdt_str (K := K) (is := []) pe_str) (pat_cons (pdt_str (K := K) (is := []) pe_str) (pat_nil (K := K) (is := []) pa_nil)))))) (pat_cons (pdt_lst (pat_cons (pdt_str (K := K) (is := []) pe_str) (pat_cons (pdt_str (K := K) (is := []) pe_str) (pat_cons (pdt_str (K := K) (is := []) pe_str) (pat_cons (pdt_str (K := K) (is := []) pe_str) (pat_nil (K := K) (is := []) pa_nil)))))) (pat_cons (pdt_non (K := K) (is := []) pe_non) (pat_cons (pdt_tup (pat_cons (pdt_str (K := K) (is := []) pe_str) (pat_cons (pdt_str (K := K) (is := []) pe_str) (pat_cons (pdt_str (K := K) (is := []) pe_str) (pat_cons (pdt_non (K := K) (is := []) pe_non) (pat_nil (K := K) (is := []) pa_nil)))))) (pat_cons (pdt_tup (pat_nil (K := K) (is := []) pa_nil)) (pat_nil (K := K) (is := []) pa_nil))))))))))
      (pss_cons (ps_set (i := 6) sc__law_spoilt_loop.nd rfl (Or.inl rfl) (pc (ok__law_take T) (hr.mono (by decide)) (T.glo 12 rfl) (T.kp 12 rfl) pass0 (pa_cons (pv 0) (pa_cons pe_int pa_nil))))
      (pss_cons (ps_if (pt_cmpR op_eq (pv 6) pe_int (nomark _))
      (pss_one (ps_ret (pe_tup (pa_cons (pv 2) (pa_cons (pe_ix (kix_list (K := K) rfl) (pv 5) (pc (ok__law_take T) (hr.mono (by decide)) (T.glo 12 rfl) (T.kp 12 rfl) pass0 (pa_cons (pv 0) (pa_cons pe_int pa_nil))) (fun _ _ => rfl)) pa_nil)))))
      pss_nil)
      (pss_cons (ps_if (pt_cmpR op_eq (pv 6) pe_int (nomark _))
      (pss_one (ps_ret (pe_tup (pa_cons (pe_callTy (kcall_list (K := K) rfl) (by rfl) (T.free 38 rfl) (by decide +kernel) (pa_cons (pv 2) pa_nil)) (pa_cons (pv 3) pa_nil)))))
      pss_nil)
      (pss_cons (ps_if (pt_cmpR op_eq (pv 6) pe_int (nomark _))
      (pss_one (ps_ret (pe_ix (kix_list (K := K) rfl) (pdl_lst (pat_cons (pdt_var (K := K) (is := [1, 2, 3]) (pv 1) (by simp)) (pat_cons (pdt_tup (pat_cons (pdt_var (K := K) (is := [1, 2, 3]) (pv 2) (by simp)) (pat_nil (K := K) (is := [1, 2, 3]) pa_nil))) (pat_cons (pdt_tup (pat_cons (pdt_var (K := K) (is := [1, 2, 3]) (pv 2) (by simp)) (pat_cons (pdt_var (K := K) (is := [1, 2, 3]) (pv 3) (by simp)) (pat_cons (pdt_tup (pat_nil (K := K) (is := [1, 2, 3]) pa_nil)) (pat_nil (K := K) (is := [1, 2, 3]) pa_nil))))) (pat_cons (pdt_lst (pat_cons (pdt_var (K := K) (is := [1, 2, 3]) (pv 2) (by simp)) (pat_cons (pdt_var (K := K) (is := [1, 2, 3]) (pv 3) (by simp)) (pat_nil (K := K) (is := [1, 2, 3]) pa_nil)))) (pat_cons (pdt_non (K := K) (is := [1, 2, 3]) pe_non) (pat_cons (pdt_str (K := K) (is := [1, 2, 3]) pe_str) (pat_cons (pdt_tup (pat_cons (pdt_var (K := K) (is := [1, 2, 3]) (pv 3) (by simp)) (pat_cons (pdt_var (K := K) (is := [1, 2, 3]) (pv 2) (by simp)) (pat_nil (K := K) (is := [1, 2, 3]) pa_nil)))) (pat_nil (K := K) (is := [1, 2, 3]) pa_nil))))))))) (pe_op op_add pe_int (pc (ok__law_take T) (hr.mono (by decide)) (T.glo 12 rfl) (T.kp 12 rfl) pass0 (pa_cons (pv 0) (pa_cons pe_int pa_nil)))) (fun _ _ => rfl))))
      pss_nil)
      (pss_cons (ps_if (pt_cmpR op_eq (pv 6) pe_int (nomark _))
      (pss_one (ps_ret (pdt_tup (pat_cons (pdt_rep (K := K) (is := [3]) (pe_op (kop_repT (K := K) rfl) (pdt_tup (pat_cons (pdt_tup (pat_cons (pdt_non (K := K) (is := [3]) pe_non) (pat_cons (pdt_str (K := K) (is := [3]) pe_str) (pat_cons (pdt_str (K := K) (is := [3]) pe_str) (pat_cons (pdt_tup (pat_nil (K := K) (is := [3]) pa_nil)) (pat_nil (K := K) (is := [3]) pa_nil)))))) (pat_nil (K := K) (is := [3]) pa_nil))) pe_int)) (pat_cons (pdt_var (K := K) (is := [3]) (pv 3) (by simp)) (pat_nil (K := K) (is := [3]) pa_nil))))))
      pss_nil)
      (pss_one (ps_ret (pe_tup (pa_cons (pe_op (kop_catA (K := K) rfl) (pe_op (kop_catA (K := K) rfl) (pe_slice (ksl_tupA (K := K) rfl) (pv 2) po_none (po_some (pv 4))) (pe_tup (pa_cons (pc (ok__law_spoilt_rule T) (hr.mono (by decide)) (T.glo 19 rfl) (T.kp 19 rfl) pass0 (pa_cons (pv 0) pa_nil)) pa_nil))) (pe_slice (ksl_tupA (K := K) rfl) (pv 2) (po_some (pv 4)) po_none)) (pa_cons (pv 3) pa_nil))))))))))))), ?read⟩)
  case len => intro vs H Q E h; obtain ⟨_, _, _, _, rfl, _⟩ := h; rfl
  case read =>
    obtain ⟨b, lv, dl, S, rfl, al, dlv, hL, k⟩ := h
    obtain ⟨rs, en, rfl, l1, l2, l3⟩ := loop_parts hL
    obtain ⟨la, lvs, rfl, q1, w1⟩ := dp_tup dlv
    obtain ⟨rv, ev, rfl, dr, de⟩ := dp2 w1
    obtain ⟨ra, rvs, rfl, q2, w2⟩ := dp_tup dr
    have sr : small (.tuple rs) = true := small_tup_of (fun r hr => rule_small (l2 r hr)) (by omega)
    have se := (ends_small l3).1
    have yr : lay 5 40000 (.tuple rs) = true := lay_mono (lay_rules l2 l1) (by decide) (by decide)
    have ye : lay 5 40000 en = true := lay_mono (lay_ends l3) (by decide) (by decide)
    have y2 : ∀ {a b : PyData}, lay 5 40000 a = true → lay 5 40000 b = true → lay 7 130000 (.tuple [a, b]) = true := fun h1 h2 => lay_mono (lay2 h1 h2) (by decide) (by decide)
    refine x_start (σ' := [some (.ref b), some (.ref la), none, none, none, none, none]) rfl ?_
    (walk_at "s")
    refine x_gTup (sqT_same wo_le q1) rfl ?_
    (walk_at "s")
    refine x_len (len_tup (sqT_same wo_le q2)) ?_
    (walk_at "s")
    have hlen := DpAll.length w2
    refine ⟨b, rvs.length + 1, rfl, al.bag, by omega, by omega, fun place H1 hplace g1 => ?_⟩
    (walk_at "s")
    refine x_lsB (fun _ => .none) (al.go g1) envD_nil (fun wl ws H2 g2 s2 n2 h2 w3 => ?_)
    (walk_at "s")
    refine ⟨b, 5, rfl, g2.bag, by decide, by decide, fun road H3 hroad g3 => ?_⟩
    have h3 := g3.keep h2 (g1.bag.ne n2)
    replace w3 := g3.dwAll al.mem w3
    have g13 := (g1.trans g2).trans g3
    have al3 := al.go g13
    have dlv3 := g13.dw al.mem dlv
    have dr3 := g13.dw al.mem dr
    have de3 := g13.dw al.mem de
    have q23 := sqT_same (g13.wo al.mem) q2
    have w23 := g13.dwAll al.mem w2
    clear h2
    (walk_at "s")
    match road, hroad with
    | 0, _ =>
      refine x_dT rfl ?_
      (walk_at "s")
      refine ⟨b, 7, rfl, al3.bag, by decide, by decide, fun j H4 hj g4 => ?_⟩
      obtain ⟨v, hv⟩ : ∃ v, ws[j]? = some v := ⟨_, List.getElem?_eq_getElem (by rw [DpAll.length w3]; exact hj)⟩
      obtain ⟨d, hd, hdv⟩ := DpAll.get w3 hv
      have hb := all_get (p := fun d => !endsOk d && (small d && lay 5 40000 d)) hd (by decide +kernel)
      rw [Bool.and_eq_true, Bool.and_eq_true] at hb
      refine x_ixL (SqL.of (g4.keep h3 (g1.bag.ne n2))) (atI_nat hv) ?_
      (walk_at "s")
      refine ⟨by rw [sizeLine_eq]; simp, fun p hp => ?_⟩
      exact k _ _ _ ((g13.trans g4).new hp) (dw_newTup (al3.go g4).all hp (.cons (g4.dw al.mem dr3) (.cons (g4.dw al.mem hdv) .nil))) ⟨bad_ends (by simpa using hb.1), small2 sr hb.2.1, y2 yr hb.2.2⟩
    | 1, _ =>
      refine x_dF (by simp) ?_
      (walk_at "s")
      refine x_dT rfl ?_
      (walk_at "s")
      refine ⟨ra, _, rfl, .inr (sqT_same wo_le q23), fun p1 m1 => ?_⟩
      have d1 := dw_newLst al3.all m1 w23
      have g5 := Go.of al3.bag (same_new m1 (o := .lst rvs))
      (walk_at "s")
      refine ⟨by rw [sizeLine_eq]; simp, fun p hp => ?_⟩
      exact k _ _ _ ((g13.trans g5).new hp) (dw_newTup (al3.go g5).all hp (.cons d1 (.cons (g5.dw al.mem de3) .nil))) ⟨rfl, small2 (show small (.list rs) = true from sr) se, y2 (lay_mono (lay_lst (m := 12) (fun r hr => lay_rule (l2 r hr)) l1) (by decide) (by decide)) ye⟩
    | 2, _ =>
      refine x_dF (by simp) ?_
      (walk_at "s")
      refine x_dF (by simp) ?_
      (walk_at "s")
      refine x_dT rfl ?_
      (walk_at "s")
      refine x_lsB (fun i => if i = 1 then .tuple [.tuple rs, en] else if i = 2 then .tuple rs else en) al3 (envD_cons rfl dlv3 (envD_cons rfl dr3 (envD_cons rfl de3 envD_nil))) (fun l xs H4 g4 s4 n4 h4 w4 => ?_)
      (walk_at "s")
      refine ⟨b, 6, rfl, g4.bag, by decide, by decide, fun j H5 hj g5 => ?_⟩
      (walk_at "s")
      have ej : (1 : Int) + (j : Int) = ((j + 1 : Nat) : Int) := by omega
      rw [ej]
      obtain ⟨v, hv⟩ : ∃ v, xs[j + 1]? = some v := ⟨_, List.getElem?_eq_getElem (by rw [DpAll.length w4]; exact Nat.succ_lt_succ hj)⟩
      obtain ⟨d, hd, hdv⟩ := DpAll.get w4 hv
      refine x_ixL (SqL.of (g5.keep h4 (al3.bag.ne n4))) (atI_nat hv) ?_
      refine k _ _ _ ((g13.trans g4).trans g5) (g5.dw al.mem hdv) ?_
      clear hv hdv ej
      match j, hj with
      | 0, _ => cases hd; exact ⟨rfl, small_tup_of (fun d hd => by rw [List.mem_singleton.mp hd]; exact sr) (by simp), lay_mono (lay_tup (k := 5) (n := 40000) (m := 1) (fun d hd => by rw [List.mem_singleton.mp hd]; exact yr) (by simp)) (by decide) (by decide)⟩
      | 1, _ => cases hd; exact ⟨rfl, small_tup_of (fun d hd => by
          simp only [List.mem_cons, List.not_mem_nil, or_false] at hd
          rcases hd with e | e | e
          · rw [e]; exact sr
          · rw [e]; exact se
          · rw [e]; rfl) (by simp), lay_mono (lay_tup (k := 5) (n := 40000) (m := 3) (fun d hd => by
          simp only [List.mem_cons, List.not_mem_nil, or_false] at hd
          rcases hd with e | e | e
          · rw [e]; exact yr
          · rw [e]; exact ye
          · rw [e]; decide +kernel) (by simp)) (by decide) (by decide)⟩
      | 2, _ => cases hd; exact ⟨rfl, small2 sr se, lay_mono (lay_lst (k := 5) (n := 40000) (m := 2) (fun d hd => by
          simp only [List.mem_cons, List.not_mem_nil, or_false] at hd
          rcases hd with e | e
          · rw [e]; exact yr
          · rw [e]; exact ye) (by simp)) (by decide) (by decide)⟩
      | 3, _ => cases hd; exact ⟨rfl, rfl, by decide +kernel⟩
      | 4, _ => cases hd; exact ⟨rfl, by decide +kernel, by decide +kernel⟩
      | 5, _ => cases hd; exact ⟨bad_swap l3, small2 se sr, y2 ye yr⟩
    | 3, _ =>
      refine x_dF (by simp) ?_
      (walk_at "s")
      refine x_dF (by simp) ?_
      (walk_at "s")
      refine x_dF (by simp) ?_
      (walk_at "s")
      refine x_dT rfl ?_
      (walk_at "s")
      refine x_datS (fun _ => en) al3 (envD_cons rfl de3 envD_nil) (fun v H4 g4 _ dv => ?_)
      exact k _ _ _ (g13.trans g4) dv ⟨bad_rules (fun h => absurd h (by decide)), small2 (by decide +kernel) se, y2 (by decide +kernel) ye⟩
    | 4, _ =>
      refine x_dF (by simp) ?_
      (walk_at "s")
      refine x_dF (by simp) ?_
      (walk_at "s")
      refine x_dF (by simp) ?_
      (walk_at "s")
      refine x_dF (by simp) ?_
      (walk_at "s")
      refine x_slS q23 al3.all (fun p1 H4 s4 t1 => ?_)
      rw [cutV_take (by omega)] at t1
      have g4 := Go.of al3.bag s4
      (walk_at "s")
      refine ⟨b, rfl, S, al3.go g4, fun v H5 d g5 hv hq => ?_⟩
      (walk_at "s")
      have al5 := (al3.go g4).go g5
      refine ⟨by rw [sizeLine_eq]; simp, fun p2 m2 => ?_⟩
      have t2 : SqT K (wo S (upd H5 p2 (.tup [v]))) p2 [v] := SqT.of (by rw [wo_out (not_mem_new al5.all m2)]; exact upd_same)
      have g6 := g5.new m2 (o := .tup [v])
      (walk_at "s")
      refine x_catS (sqT_same (g6.wo al.mem) t1) t2 ((al3.go g4).go g6).all (by rw [List.length_take]; simp; omega) (fun p3 H7 s7 t3 => ?_)
      have g7 := (g4.trans g6).step s7
      (walk_at "s")
      refine x_slS (sqT_same (g7.wo al.mem) q23) (al3.go g7).all (fun p4 H8 s8 t4 => ?_)
      rw [cutV_drop (by omega)] at t4
      have g8 := g7.step s8
      (walk_at "s")
      refine x_catS (sqT_same (wo_same s8) t3) t4 (al3.go g8).all (by simp; omega) (fun p5 H9 s9 t5 => ?_)
      have g9 := g8.step s9
      (walk_at "s")
      refine ⟨by rw [sizeLine_eq]; simp, fun p6 m6 => ?_⟩
      have w9 := g9.dwAll al.mem w23
      have dv9 : Dp K (wo S H9) v d := Dp.same (wo_same ((((same_new m2).trans s7).trans s8).trans s9)) _ _ hv
      have dru : Dp K (wo S H9) (.ref p5) (.tuple (rs.take place ++ [d] ++ rs.drop place)) := .tup t5 (DpAll.app (DpAll.app (DpAll.take place w9) (.cons dv9 .nil)) (dpAll_drop place w9))
      refine k _ _ _ ((g13.trans g9).new m6) (dw_newTup (al3.go g9).all m6 (.cons dru (.cons (g9.dw al.mem de3) .nil))) ⟨bad_rules (fun _ => ?_), small2 (small_tup_of (fun r hr => ?_) ?_) se, y2 (lay_mono (lay_tup (k := 4) (n := 2100) (m := 13) (fun r hr => ?_) ?_) (by decide) (by decide)) ye⟩
      · rw [List.all_append, List.all_append, List.all_cons, hq.1]
        simp
      · rcases List.mem_append.mp hr with e | e
        · rcases List.mem_append.mp e with e | e
          · exact rule_small (l2 r (List.mem_of_mem_take e))
          · rw [List.mem_singleton.mp e]; exact hq.2.1
        · exact rule_small (l2 r (List.mem_of_mem_drop e))
      · rw [List.length_append, List.length_append, List.length_take, List.length_drop]
        simp
        omega
      · rcases List.mem_append.mp hr with e | e
        · rcases List.mem_append.mp e with e | e
          · exact lay_mono (lay_rule (l2 r (List.mem_of_mem_take e))) (by decide) (by decide)
          · rw [List.mem_singleton.mp e]; exact hq.2.2
        · exact lay_mono (lay_rule (l2 r (List.mem_of_mem_drop e))) (by decide) (by decide)
      · rw [List.length_append, List.length_append, List.length_take, List.length_drop]
        simp
        omega

--@ law: dat=1; _law_script=list; _law_bag_here=list; _law_program_here=tup; _law_shown=str; _law_full=tup; _law_thing=any
theorem cap (m : Nat) : ∃ n : Nat, (if (if (m : Int) < 5 then (m : Int) else 5) > 1 then (if (m : Int) < 5 then (m : Int) else 5) else 1) = (n : Int) ∧ n ≤ 5 := by
  by_cases h : (m : Int) < 5
  · rw [if_pos h]
    by_cases h2 : (m : Int) > 1
    · rw [if_pos h2]; exact ⟨m, rfl, by omega⟩
    · rw [if_neg h2]; exact ⟨1, rfl, by omega⟩
  · rw [if_neg h]
    exact ⟨5, by decide, by omega⟩
theorem dp_newTup {K : PySem.W.Frag} {H : Hp} {p : Addr} {vs : List V} {ds : List PyData} (h : H p = none) (a : DpAll K H vs ds) : Dp K (upd H p (.tup vs)) (.ref p) (.tuple ds) := .tup (SqT.of upd_same) (DpAll.same (same_new h) _ _ a)
theorem dp_newLst {K : PySem.W.Frag} {H : Hp} {p : Addr} {vs : List V} {ds : List PyData} (h : H p = none) (a : DpAll K H vs ds) : Dp K (upd H p (.lst vs)) (.ref p) (.list ds) := .lst (SqL.of upd_same) (DpAll.same (same_new h) _ _ a)
theorem x_dat {K : PySem.W.Frag} {is : List Nat} {σ : L2.St} {H : Hp} {Q : VK} {d : Rho → PyData} (e : EnvD K is (fun _ => .none) σ H) (h : ∀ v H', Same H H' → Dp K H' v (d fun _ => .none) → Q v H') : tDat K is d σ H Q :=
  ⟨[], _, (fun a z => by cases z), EnvD.same (H := H) (H' := wo [] H) (fun a o z => by rw [wo_out (S := []) (by simp)]; exact z) e, fun v H' s a => h v H' s (Dp.same wo_le _ _ a)⟩
theorem x_ls0 {K : PySem.W.Frag} {is : List Nat} {σ : L2.St} {H : Hp} {Q : VK} {d : Rho → List PyData} (e : EnvD K is (fun _ => .none) σ H) (h : ∀ l xs H', Same H H' → H' l = some (.lst xs) → DpAll K H' xs (d fun _ => .none) → Q (.ref l) H') : tLsD K is d σ H Q :=
  ⟨[], _, (fun a z => by cases z), EnvD.same (H := H) (H' := wo [] H) (fun a o z => by rw [wo_out (S := []) (by simp)]; exact z) e, fun l xs H' s _ hl a => h l xs H' s hl (DpAll.same wo_le _ _ a)⟩
theorem shows2 {a c : PyData} (h1 : lay 7 130000 a = true) (h2 : lay 8 800000 c = true) : Shows (.list [a, c]) := by
  obtain ⟨a1, a2, a3, a4, a5⟩ := lay_parts h1
  obtain ⟨c1, c2, c3, c4, c5⟩ := lay_parts h2
  refine lay_shows (k := 9) (n := 1048576) (lay_of ?_ ?_ ?_ ?_ ?_) (by decide) (by decide)
  · show (PyData.canLay0 a && (PyData.canLay0 c && true)) = true
    rw [a1, c1]; rfl
  · show (PyData.showable a && (PyData.showable c && true)) = true
    rw [a2, c2]; rfl
  · show (PyData.intsShort 13 a && (PyData.intsShort 13 c && true)) = true
    rw [a3, c3]; rfl
  · show max (PyData.depth a) (max (PyData.depth c) 0) + 1 ≤ 9
    omega
  · show PyData.weight a + 1 + (PyData.weight c + 1 + 0) ≤ 1048576
    omega
theorem prog_parts {d : PyData} (h : isProgramD d = true) : ∃ ls, d = .tuple ls ∧ ls.length ≤ 5 ∧ ∀ l ∈ ls, isLoopD l = true := by
  cases d with
  | tuple ls =>
    have h1 : (if ls.length ≤ 5 then ls.all isLoopD else false) = true := h
    split at h1
    · rename_i hl
      exact ⟨ls, rfl, hl, fun l hl => List.all_eq_true.mp h1 l hl⟩
    · cases h1
  | _ => cases h
theorem prog_bad {ls : List PyData} {wd : PyData} (n : Nat) (h : isLoopD wd = false) : isProgramD (.tuple (ls.take n ++ [wd])) = false := by
  show (if (ls.take n ++ [wd]).length ≤ 5 then (ls.take n ++ [wd]).all isLoopD else false) = false
  split
  · rw [List.all_append, List.all_cons, h]
    simp
  · rfl
theorem prog_six {ld : PyData} : isProgramD (.tuple (List.replicate 6 [ld]).flatten) = false := rfl
theorem prog_five {ld : PyData} (h : isLoopD ld = true) : isProgramD (.tuple (List.replicate 5 [ld]).flatten) = true := by
  show (([ld, ld, ld, ld, ld] : List PyData).all isLoopD) = true
  simp [h]
theorem small_rep {ld : PyData} (h : small ld = true) (n : Nat) (hn : n ≤ 10) : small (.tuple (List.replicate n [ld]).flatten) = true := by
  refine small_tup_of (fun d hd => ?_) ?_
  · obtain ⟨l, hl, hd2⟩ := List.mem_flatten.mp hd
    rw [(List.mem_replicate.mp hl).2] at hd2
    rw [List.mem_singleton.mp hd2]
    exact h
  · have : (List.replicate n [ld]).flatten.length = n := by
      induction n with
      | zero => rfl
      | succ n ih => rw [List.replicate_succ, List.flatten_cons, List.length_append, ih (by omega)]; simp; omega
    omega
def sp_law (K : PySem.W.Frag) : Sp := fun vs H Q _ => ∃ (a : Addr) (ns : List Int), vs = [.ref a] ∧ SqL K H a (ns.map V.int) ∧ ns.length ≤ 63 ∧ ∀ H', Q (.bl true) H'
theorem ok_law (T : TT w K mg) : FnG P w K mg base CX0 7 (He.ga K "law") (sp_law K) := by
  refine T.okG 21 rfl rfl rfl sc_law (fun _ _ _ _ _ _ us hl => match us, hl with | [_], _ => rfl) ?len (fun cdv A outer s H vs Q E hr h => ⟨_, (pss_cons (ps_for PassesOwn.never rfl (pi_range1 (by rfl) (T.free 41 rfl) (pa_cons (pe_callB (call_max2 rfl) (by rfl) (T.free 39 rfl) (by decide +kernel) (pa_cons pe_int (pa_cons (pe_callB (call_min2 rfl) (by rfl) (T.free 40 rfl) (by decide +kernel) (pa_cons pe_int (pa_cons (pe_callB (kcr_len (K := K) rfl) (by rfl) (T.free 37 rfl) (by decide +kernel) (pa_cons (pv 0) pa_nil)) pa_nil))) pa_nil))) pa_nil)) (pg_name (i := 1) sc_law.nd rfl (Or.inl rfl))
      (pss_cons (ps_set (i := 2) sc_law.nd rfl (Or.inl rfl) (pc (ok__law_bag T) (hr.r.mono (by decide)) (T.glo 11 rfl) (T.kp 11 rfl) pass0 (pa_cons (pv 0) (pa_cons (pv 1) pa_nil))))
      (pss_cons (ps_set (i := 3) sc_law.nd rfl (Or.inl rfl) (pc (ok__law_program T) (hr.r.mono (by decide)) (T.glo 17 rfl) (T.kp 17 rfl) pass0 (pa_cons (pv 2) (pa_cons pe_int (pa_cons pe_int pa_nil)))))
      (pss_cons (ps_set (i := 4) sc_law.nd rfl (Or.inl rfl) (pc (ok__law_loop T) (hr.r.mono (by decide)) (T.glo 16 rfl) (T.kp 16 rfl) pass0 (pa_cons (pv 2) (pa_cons pe_int pa_nil))))
      (pss_cons (ps_if (PW.pt (pw_or (pt_cmpR op_isnot_bl (pc (ok_is_program T) (hr.r.mono (by decide)) (T.glo 10 rfl) (T.kp 10 rfl) pass0 (pa_cons (pv 3) pa_nil)) pe_bl (nomark _)) (pw_or (pt_cmpR op_isnot_bl (pc (ok_is_loop T) (hr.r.mono (by decide)) (T.glo 9 rfl) (T.kp 9 rfl) pass0 (pa_cons (pv 4) pa_nil)) pe_bl (nomark _)) (pw_or1 (pt_cmpR op_isnot_bl (pc (ok_is_program T) (hr.r.mono (by decide)) (T.glo 10 rfl) (T.kp 10 rfl) pass0 (pa_cons (pv 4) pa_nil)) pe_bl (nomark _))))))
      (pss_one (ps_ret pe_bl))
      pss_nil)
      (pss_cons (ps_set (i := 5) sc_law.nd rfl (Or.inl rfl) (pc (ok__law_spoilt_loop T) (hr.r.mono (by decide)) (T.glo 20 rfl) (T.kp 20 rfl) pass0 (pa_cons (pv 2) (pa_cons (pv 4) pa_nil))))
      (pss_cons (ps_set (i := 6) sc_law.nd rfl (Or.inl rfl) (pe_op (kop_catA (K := K) rfl) (pe_slice (ksl_tupA (K := K) rfl) (pv 3) po_none (po_some (pc (ok__law_take T) (hr.r.mono (by decide)) (T.glo 12 rfl) (T.kp 12 rfl) pass0 (pa_cons (pv 2) (pa_cons (pe_op op_add (pe_callB (kcr_len (K := K) rfl) (by rfl) (T.free 37 rfl) (by decide +kernel) (pa_cons (pv 3) pa_nil)) pe_int) pa_nil))))) (pe_tup (pa_cons (pv 5) pa_nil))))
      (pss_cons (ps_set (i := 7) sc_law.nd rfl (Or.inl rfl) (pe_callB (call_reprG hr) (by rfl) (T.free 42 rfl) (by decide +kernel) (pa_cons (pe_lst (pa_cons (pv 5) (pa_cons (pv 6) pa_nil))) pa_nil)))
      (pss_cons (ps_if (PW.pt (pw_or (pt_cmpR op_isnot_bl (pc (ok_is_loop T) (hr.r.mono (by decide)) (T.glo 9 rfl) (T.kp 9 rfl) pass0 (pa_cons (pv 5) pa_nil)) pe_bl (nomark _)) (pw_or (pt_cmpR op_isnot_bl (pc (ok_is_program T) (hr.r.mono (by decide)) (T.glo 10 rfl) (T.kp 10 rfl) pass0 (pa_cons (pv 6) pa_nil)) pe_bl (nomark _)) (pw_or1 (pt_cmpR op_ne (pe_callB (call_reprG hr) (by rfl) (T.free 42 rfl) (by decide +kernel) (pa_cons (pe_lst (pa_cons (pv 5) (pa_cons (pv 6) pa_nil))) pa_nil)) (pv 7) (nomark _))))))
      (pss_one (ps_ret pe_bl))
      pss_nil)
      (pss_cons (ps_if (PW.pt (pw_or (pt_cmpR op_isnot_bl (pc (ok_is_program T) (hr.r.mono (by decide)) (T.glo 10 rfl) (T.kp 10 rfl) pass0 (pa_cons (pe_op (kop_repT (K := K) rfl) (pe_tup (pa_cons (pv 4) pa_nil)) pe_int) pa_nil)) pe_bl (nomark _)) (pw_or1 (pt_cmpR op_isnot_bl (pc (ok_is_program T) (hr.r.mono (by decide)) (T.glo 10 rfl) (T.kp 10 rfl) pass0 (pa_cons (pe_op (kop_repT (K := K) rfl) (pe_tup (pa_cons (pv 4) pa_nil)) pe_int) pa_nil)) pe_bl (nomark _)))))
      (pss_one (ps_ret pe_bl))
      pss_nil)
      (pss_one (ps_for PassesOwn.never rfl (kpi_list (K := K) rfl (pe_lst (pa_cons pe_non (pa_cons pe_bl (pa_cons pe_int (pa_cons pe_str (pa_cons (pe_lst (pa_cons (pv 4) pa_nil)) (pa_cons pe_dnewK (pa_cons (pe_lst pa_nil) (pa_cons (pv 4) pa_nil)))))))))) (pg_name (i := 8) sc_law.nd rfl (Or.inl rfl))
      (pss_one (ps_if (pt_cmpR op_isnot_bl (pc (ok_is_program T) (hr.r.mono (by decide)) (T.glo 10 rfl) (T.kp 10 rfl) pass0 (pa_cons (pv 8) pa_nil)) pe_bl (nomark _))
      (pss_one (ps_ret pe_bl))
      pss_nil))))))))))))))
      (pss_cons (ps_set (i := 9) sc_law.nd rfl (Or.inl rfl) (pdt_tup (pat_cons (pdt_rep (K := K) (is := []) (pe_op (kop_repT (K := K) rfl) (pdt_tup (pat_cons (pdt_tup (pat_cons (pdt_non (K := K) (is := []) pe_non) (pat_cons (pdt_str (K := K) (is := []) pe_str) (pat_cons (pdt_str (K := K) (is := []) pe_str) (pat_cons (pdt_tup (pat_nil (K := K) (is := []) pa_nil)) (pat_nil (K := K) (is := []) pa_nil)))))) (pat_nil (K := K) (is := []) pa_nil))) pe_int)) (pat_cons (pdt_tup (pat_cons (pdt_str (K := K) (is := []) pe_str) (pat_cons (pdt_str (K := K) (is := []) pe_str) (pat_cons (pdt_str (K := K) (is := []) pe_str) (pat_cons (pdt_str (K := K) (is := []) pe_str) (pat_nil (K := K) (is := []) pa_nil)))))) (pat_nil (K := K) (is := []) pa_nil)))))
      (pss_one (ps_ret (pe_and (pe_cmpR op_is_bl (pc (ok_is_loop T) (hr.r.mono (by decide)) (T.glo 9 rfl) (T.kp 9 rfl) pass0 (pa_cons (pv 9) pa_nil)) pe_bl (nomark _)) (pe_and (pe_cmpR op_is_bl (pc (ok_is_program T) (hr.r.mono (by decide)) (T.glo 10 rfl) (T.kp 10 rfl) pass0 (pa_cons (pe_tup pa_nil) pa_nil)) pe_bl (nomark _)) (pe_one (pe_cmpR (kop_eqD (K := K) rfl hr.r.units) (pe_lst (pa_cons (pgs (T.str 22 rfl)) (pa_cons (pgi (T.int 24 rfl)) (pa_cons (pgi (T.int 25 rfl)) pa_nil)))) (pdl_lst (pat_cons (pdt_str (K := K) (is := []) pe_str) (pat_cons (pdt_int (K := K) (is := []) pe_int) (pat_cons (pdt_int (K := K) (is := []) pe_int) (pat_nil (K := K) (is := []) pa_nil))))) (nomark _))))))))), ?read⟩)
  case len => intro vs H Q E h; obtain ⟨_, _, rfl, _⟩ := h; rfl
  case read =>
    obtain ⟨a, ns, rfl, hq, hn, k⟩ := h
    refine x_start (σ' := [some (.ref a), none, none, none, none, none, none, none, none, none]) rfl ?_
    (walk_at "s")
    refine x_len (len_lst hq) ?_
    (walk_at "s")
    rw [List.length_map]
    refine ⟨_, _, rfl, ?_⟩
    (walk_at "s")
    refine ⟨_, _, rfl, ?_⟩
    (walk_at "s")
    obtain ⟨n, en, hn5⟩ := cap ns.length
    refine ⟨_, rfl, ?_⟩
    rw [en, Int.toNat_natCast]
    refine ⟨by omega, by omega, ?_⟩
    refine forg (Src.rng (lo := 0) (n := n)) (fun i σ H' => ∃ t1 t2 t3 t4 t5 t6 t7 t8 t9, σ = [some (.ref a), t1, t2, t3, t4, t5, t6, t7, t8, t9] ∧ Same H H') ⟨_, _, _, _, _, _, _, _, _, rfl, Same.refl _⟩ (fun _ _ _ _ _ => trivial) ?step ?done
    case step =>
      rintro i x σ H0 hx ⟨t1, t2, t3, t4, t5, t6, t7, t8, t9, rfl, s0⟩
      have hi : i < n := by
        have := (List.getElem?_eq_some_iff.mp hx).1
        simpa [rngV] using this
      have hx2 : x = .int i := by
        have h2 : (rngV 0 n)[i]? = some (.int (0 + (i : Int))) := by simp [rngV, hi]
        rw [h2] at hx
        rw [← Option.some.inj hx, Int.zero_add]
      subst hx2
      (walk_at "s")
      refine ⟨a, ns, i, rfl, s0.seq hq, hn, by omega, fun b H1 hb0 s1 hb => ?_⟩
      have al := Al.one hb
      (walk_at "s")
      refine ⟨b, 5, 4, rfl, by decide, by decide, [b], al, fun pv H2 pd g2 hp hpd => ?_⟩
      (walk_at "s")
      refine ⟨b, 4, rfl, by decide, [b], al.go g2, fun lv H3 ld g3 hl hld => ?_⟩
      have al3 := (al.go g2).go g3
      replace hp := g3.dw al.mem hp
      (walk_at "s")
      refine ⟨pv, rfl, .inl ⟨pd, Dp.same wo_le _ _ hp, program_small hpd, fun H4 s4 => ?_⟩⟩
      rw [hpd]
      (walk_at "s")
      refine ⟨_, _, rfl, rfl, ?_⟩
      (walk_at "s")
      refine x_ndF rfl ?_
      (walk_at "s")
      refine ⟨lv, ld, rfl, Dp.same (wo_le.trans s4) _ _ hl, loop_small hld, fun H5 s5 => ?_⟩
      rw [hld]
      refine ⟨_, _, rfl, rfl, ?_⟩
      (walk_at "s")
      refine x_ndF rfl ?_
      (walk_at "s")
      refine ⟨lv, rfl, .inl ⟨ld, Dp.same (wo_le.trans (s4.trans s5)) _ _ hl, loop_small hld, fun H6 s6 => ?_⟩⟩
      rw [loop_noProgram hld]
      refine ⟨_, _, rfl, rfl, ?_⟩
      (walk_at "s")
      refine x_ndF rfl ?_
      (walk_at "s")
      have s36 := (s4.trans s5).trans s6
      have al6 := al3.same s36
      replace hp := Dp.same (wo_same s36) _ _ hp
      replace hl := Dp.same (wo_same s36) _ _ hl
      have g06 : Go b H1 H6 := (g2.trans g3).step s36
      clear s4 s5 s6
      refine ⟨b, lv, ld, [b], rfl, al6, hl, hld, fun wv H7 wd g7 hw hwd => ?_⟩
      replace hp := g7.dw al.mem hp
      replace hl := g7.dw al.mem hl
      have al7 := al6.go g7
      (walk_at "s")
      obtain ⟨ls, rfl, ll, hls⟩ := prog_parts hpd
      obtain ⟨pa, pvs, rfl, qp, wp⟩ := dp_tup hp
      have lpv := DpAll.length wp
      refine x_len (len_tup (sqT_same wo_le qp)) ?_
      (walk_at "s")
      refine ⟨b, pvs.length + 1, rfl, al7.bag, by omega, by omega, fun cut H8 hcut g8 => ?_⟩
      have al8 := al7.go g8
      (walk_at "s")
      refine x_slS (sqT_same (g8.wo al.mem) qp) al8.all (fun p1 H9 s9 t1' => ?_)
      rw [cutV_take (by omega)] at t1'
      have al9 := al8.same s9
      (walk_at "s")
      refine ⟨by rw [sizeLine_eq]; simp, fun p2 m2 => ?_⟩
      have t2' : SqT K (wo [b] (upd H9 p2 (.tup [wv]))) p2 [wv] := SqT.of (by rw [wo_out (not_mem_new al9.all m2)]; exact upd_same)
      have al10 := al9.same (same_new m2 (o := .tup [wv]))
      (walk_at "s")
      refine x_catS (sqT_same (wo_new m2 (o := .tup [wv])) t1') t2' al10.all (by rw [List.length_take]; simp; omega) (fun p3 H11 s11 t3' => ?_)
      have al11 := al10.same s11
      have s8_11 := (s9.trans (same_new m2 (o := .tup [wv]))).trans s11
      have g11 : Go b H1 H11 := ((g06.trans g7).trans g8).step s8_11
      have hw8 := g8.dw al.mem hw
      have hw11 := Dp.same (wo_same s8_11) _ _ hw8
      have hl11 := Dp.same (wo_same s8_11) _ _ (g8.dw al.mem hl)
      have wp11 := DpAll.same (wo_same s8_11) _ _ (g8.dwAll al.mem wp)
      have hs11 : Dp K (wo [b] H11) (.ref p3) (.tuple (ls.take cut ++ [wd])) := .tup t3' (DpAll.app (DpAll.take cut wp11) (.cons hw11 .nil))
      have yw : lay 7 130000 wd = true := hwd.2.2
      have ys : lay 8 800000 (.tuple (ls.take cut ++ [wd])) = true := lay_mono (lay_tup (k := 7) (n := 130000) (m := 6) (fun d hd => by
        rcases List.mem_append.mp hd with e | e
        · exact lay_mono (lay_loop (hls d (List.mem_of_mem_take e))) (by decide) (by decide)
        · rw [List.mem_singleton.mp e]; exact yw) (by rw [List.length_append, List.length_take]; simp; omega)) (by decide) (by decide)
      have sm : small (.tuple (ls.take cut ++ [wd])) = true := small_tup_of (fun d hd => by
        rcases List.mem_append.mp hd with e | e
        · exact loop_small (hls d (List.mem_of_mem_take e))
        · rw [List.mem_singleton.mp e]; exact hwd.2.1) (by rw [List.length_append, List.length_take]; simp; omega)
      clear hw8 wp11 t3' t2' t1'
      (walk_at "s")
      have yl : lay 9 1048000 (.list [wd, .tuple (ls.take cut ++ [wd])]) = true ∨ True := .inr trivial
      have dsh : ∀ {H : Hp} {p : Addr}, H p = none → Dp K (wo [b] H) wv wd → Dp K (wo [b] H) (.ref p3) (.tuple (ls.take cut ++ [wd])) → Dp K (upd H p (.lst [wv, .ref p3])) (.ref p) (.list [wd, .tuple (ls.take cut ++ [wd])]) := fun h a c => dp_newLst h (.cons (Dp.same wo_le _ _ a) (.cons (Dp.same wo_le _ _ c) .nil))
      have shw : Shows (.list [wd, .tuple (ls.take cut ++ [wd])]) := shows2 yw ys
      refine ⟨by rw [sizeLine_eq]; simp, fun p4 m4 => ?_⟩
      have s12 := same_new m4 (o := .lst [wv, .ref p3])
      (walk_at "s")
      refine ⟨p4, _, rfl, dsh m4 hw11 hs11, shw, ?_⟩
      (walk_at "s")
      refine ⟨wv, wd, rfl, Dp.same (wo_le.trans s12) _ _ hw11, hwd.2.1, fun H13 s13 => ?_⟩
      rw [hwd.1]
      refine ⟨_, _, rfl, rfl, ?_⟩
      (walk_at "s")
      refine x_ndF rfl ?_
      (walk_at "s")
      refine ⟨.ref p3, rfl, .inl ⟨_, Dp.same (wo_le.trans (s12.trans s13)) _ _ hs11, sm, fun H14 s14 => ?_⟩⟩
      rw [prog_bad cut hwd.1]
      refine ⟨_, _, rfl, rfl, ?_⟩
      (walk_at "s")
      refine x_ndF rfl ?_
      have s11_14 := (s12.trans s13).trans s14
      have hw14 := Dp.same (wo_same (S := [b]) s11_14) _ _ hw11
      have hs14 := Dp.same (wo_same (S := [b]) s11_14) _ _ hs11
      (walk_at "s")
      refine ⟨by rw [sizeLine_eq]; simp, fun p5 m5 => ?_⟩
      have s15 := same_new m5 (o := .lst [wv, .ref p3])
      (walk_at "s")
      refine ⟨p5, _, rfl, dsh m5 hw14 hs14, shw, ?_⟩
      (walk_at "s")
      refine x_ndF rfl ?_
      (walk_at "s")
      have g15 : Go b H1 _ := (g11.step s11_14).step s15
      have hl15 := Dp.same (wo_same (S := [b]) (s11_14.trans s15)) _ _ hl11
      clear hw14 hs14 hs11 hw11 dsh shw yl
      generalize upd H14 p5 _ = H15 at g15 hl15
      refine ⟨by rw [sizeLine_eq]; simp, fun p6 m6 => ?_⟩
      (walk_at "s")
      refine ⟨p6, 6, [lv], rfl, rfl, SqT.of upd_same, by simp, by decide, by decide, by simp, fun p7 m7 => ?_⟩
      have s17 := (same_new m6 (o := .tup [lv])).trans (same_new m7 (o := .tup (List.replicate (6 : Int).toNat [lv]).flatten))
      have d17 := dp_newTup m7 (rep_all (.cons (Dp.same (wo_le.trans (same_new m6 (o := .tup [lv]))) _ _ hl15) .nil) 6)
      (walk_at "s")
      refine ⟨.ref p7, rfl, .inl ⟨_, d17, small_rep (loop_small hld) 6 (by decide), fun H18 s18 => ?_⟩⟩
      rw [prog_six]
      refine ⟨_, _, rfl, rfl, ?_⟩
      (walk_at "s")
      refine x_ndF rfl ?_
      (walk_at "s")
      have hl18 := Dp.same (wo_same (S := [b]) (s17.trans s18)) _ _ hl15
      have g18 := g15.step (s17.trans s18)
      refine ⟨by rw [sizeLine_eq]; simp, fun q6 n6 => ?_⟩
      (walk_at "s")
      refine ⟨q6, 5, [lv], rfl, rfl, SqT.of upd_same, by simp, by decide, by decide, by simp, fun q7 n7 => ?_⟩
      have s19 := (same_new n6 (o := .tup [lv])).trans (same_new n7 (o := .tup (List.replicate (5 : Int).toNat [lv]).flatten))
      have d19 := dp_newTup n7 (rep_all (.cons (Dp.same (wo_le.trans (same_new n6 (o := .tup [lv]))) _ _ hl18) .nil) 5)
      (walk_at "s")
      refine ⟨.ref q7, rfl, .inl ⟨_, d19, small_rep (loop_small hld) 5 (by decide), fun H20 s20 => ?_⟩⟩
      rw [prog_five hld]
      refine ⟨_, _, rfl, rfl, ?_⟩
      (walk_at "s")
      refine x_ndF rfl ?_
      (walk_at "s")
      have hl20 := Dp.same (wo_same (S := [b]) (s19.trans s20)) _ _ hl18
      have g20 := g18.step (s19.trans s20)
      refine ⟨by rw [sizeLine_eq]; simp, fun r1 k1 => ?_⟩
      have a1 := dp_newLst k1 (.cons (Dp.same wo_le _ _ hl20) .nil)
      (walk_at "s")
      intro r2 k2
      (walk_at "s")
      refine ⟨by rw [sizeLine_eq]; simp, fun r3 k3 => ?_⟩
      have a3 := dp_newLst k3 .nil (K := K)
      (walk_at "s")
      refine ⟨by rw [sizeLine_eq]; simp, fun r4 k4 => ?_⟩
      have s4 := same_new k4 (o := .lst [.non, .bl true, .int 0, .str "x", .ref r1, .ref r2, .ref r3, lv])
      have s3 := same_new k3 (o := .lst [])
      have s2 := same_new k2 (o := .dK [])
      have s1' := same_new k1 (o := .lst [lv])
      have hr2 : upd (upd H20 r1 (.lst [lv])) r2 (.dK []) r2 = some (.dK []) := upd_same
      replace hr2 := s4 _ _ (s3 _ _ hr2)
      replace a1 := Dp.same ((s2.trans s3).trans s4) _ _ a1
      replace a3 := Dp.same s4 _ _ a3
      have s24 := ((s1'.trans s2).trans s3).trans s4
      have hXL : upd (upd (upd (upd H20 r1 (.lst [lv])) r2 (.dK [])) r3 (.lst [])) r4 (.lst [.non, .bl true, .int 0, .str "x", .ref r1, .ref r2, .ref r3, lv]) r4 = some (.lst [.non, .bl true, .int 0, .str "x", .ref r1, .ref r2, .ref r3, lv]) := upd_same
      generalize upd (upd (upd (upd H20 r1 (.lst [lv])) r2 (.dK [])) r3 (.lst [])) r4 (.lst [.non, .bl true, .int 0, .str "x", .ref r1, .ref r2, .ref r3, lv]) = HX at hr2 a1 a3 s24 hXL
      have cls : ∀ x ∈ [V.non, .bl true, .int 0, .str "x", .ref r1, .ref r2, .ref r3, lv], (∃ d, Dp K HX x d ∧ small d = true ∧ isProgramD d = false) ∨ ∃ a kvs, x = .ref a ∧ HX a = some (.dK kvs) := by
        intro x hx
        simp only [List.mem_cons, List.not_mem_nil, or_false] at hx
        rcases hx with e | e | e | e | e | e | e | e
        · rw [e]; exact .inl ⟨_, .non, rfl, rfl⟩
        · rw [e]; exact .inl ⟨_, .bl true, rfl, rfl⟩
        · rw [e]; exact .inl ⟨_, .int 0, rfl, rfl⟩
        · rw [e]; exact .inl ⟨_, .str "x", by decide +kernel, rfl⟩
        · rw [e]; exact .inl ⟨_, a1, by show (decide (1 ≤ 90000) && (small ld && true)) = true; rw [loop_small hld]; rfl, rfl⟩
        · rw [e]; exact .inr ⟨_, _, rfl, hr2⟩
        · rw [e]; exact .inl ⟨_, a3, rfl, rfl⟩
        · rw [e]; exact .inl ⟨_, Dp.same (wo_le.trans s24) _ _ hl20, loop_small hld, loop_noProgram hld⟩
      refine ⟨r4, rfl, ⟨_, SqL.of hXL⟩, ?_⟩
      refine forg (Src.list (K := K) (a := r4) (xs := [V.non, .bl true, .int 0, .str "x", .ref r1, .ref r2, .ref r3, lv])) (fun i2 σ H' => ∃ t8 t9, σ = [some (.ref a), some (.int i), some (.ref b), some (.ref pa), some lv, some wv, some (.ref p3), some (.str (PyData.list [wd, PyData.tuple (ls.take cut ++ [wd])]).shown), t8, t9] ∧ Same HX H') ⟨_, _, rfl, Same.refl _⟩ (fun i2 σ H' _ p => ?_) ?st ?dn
      · obtain ⟨_, _, _, sH⟩ := p
        exact sH.seq (SqL.of hXL)
      case st =>
        rintro i2 x σ H' hx ⟨t8, t9, rfl, sH⟩
        (walk_at "s")
        rcases cls x (List.mem_of_getElem? hx) with ⟨d, hd, hs, hp⟩ | ⟨a', kvs, rfl, ha⟩
        · refine ⟨x, rfl, .inl ⟨d, Dp.same sH _ _ hd, hs, fun H2 s2 => ?_⟩⟩
          rw [hp]
          refine ⟨_, _, rfl, rfl, ?_⟩
          (walk_at "s")
          refine x_ndF rfl ?_
          (walk_at "s")
          exact ⟨_, _, rfl, sH.trans s2⟩
        · refine ⟨.ref a', rfl, .inr ⟨a', kvs, rfl, sH _ _ ha, ?_⟩⟩
          refine ⟨_, _, rfl, rfl, ?_⟩
          (walk_at "s")
          refine x_ndF rfl ?_
          (walk_at "s")
          exact ⟨_, _, rfl, sH⟩
      case dn =>
        rintro σ H' ⟨t8, t9, rfl, sH⟩
        exact ⟨_, _, _, _, _, _, _, _, _, rfl, fun c o e => sH _ _ (s24 _ _ (g20.keep (s1 _ _ (s0 _ _ e)) (ne_of_none (s0 _ _ e) hb0)))⟩
    case done =>
      rintro σ H3 ⟨t1, t2, t3, t4, t5, t6, t7, t8, t9, rfl, s0⟩
      (walk_at "s")
      refine x_dat envD_nil (fun v H4 s4 dv => ?_)
      (walk_at "s")
      refine ⟨v, _, rfl, dv, by decide +kernel, fun H5 s5 => ?_⟩
      refine ⟨_, _, rfl, rfl, ?_⟩
      refine ⟨true, by first | rfl | (congr 1; exact decide_eq_true (by decide +kernel)) | decide +kernel, ?_⟩
      (walk_at "s")
      refine ⟨by rw [sizeLine_eq]; simp, fun p hp => ?_⟩
      (walk_at "s")
      refine ⟨.ref p, rfl, .inl ⟨.tuple [], dp_newTup hp .nil, by decide +kernel, fun H6 s6 => ?_⟩⟩
      (walk_at "s")
      refine ⟨_, _, rfl, rfl, ?_⟩
      refine ⟨true, by first | rfl | decide +kernel, ?_⟩
      (walk_at "s")
      refine ⟨by rw [sizeLine_eq]; simp, fun q1 h1 => ?_⟩
      refine x_ls0 envD_nil (fun l2 xs2 H7 s7 h7 w7 => ?_)
      refine ⟨_, _, Dp.same s7 _ _ (dp_newLst (ds := [.str "abcd", .int 12, .int 5]) h1 (.cons (.str "abcd") (.cons (.int 12) (.cons (.int 5) .nil)))), .lst (SqL.of h7) w7, by decide +kernel, by decide +kernel, ?_⟩
      have e : PyData.eqv (.list [.str "abcd", .int 12, .int 5]) (.list [.str "abcd", .int 12, .int 5]) = true := by decide +kernel
      rw [e]
      exact k _

abbrev RR : PySem.W.OpenRow := PySem.W.OpenLaw.row PySem.Challenge.rw_ownbranch_k02_loops_known
abbrev hk : PySem.W.Hook := He.hookX 6 fa fn ts [] ex
def ob (s : PySem.W.SharedT) : He.AlX := He.obsX 6 fa fn ts [] ex (HandSHeadRun.getT s)
theorem ob_eq (s : PySem.W.SharedT) : ob s = hk.obs s.abs := He.obsX_eq (HandSHeadRun.getT_eq s)
def lo : List PySem.Str := (["ITEMS", "END", "MOST_RULES", "MOST_LOOPS", "MOST_EDITS", "MOST_DELETIONS", "MARKS", "LONGEST_END", "EDIT_KINDS", "is_integer", "is_item", "is_text", "is_selection", "is_edit", "count_words", "may_follow", "are_edits", "is_rule", "is_loop", "is_program", "_law_bag", "_law_take", "_law_text", "_law_letters", "_law_edits", "_law_loop", "_law_program", "_law_spoilt_edits", "_law_spoilt_rule", "_law_spoilt_loop"] : List PySem.Str)
set_option maxHeartbeats 0 in
theorem run_0 (w : World) : HandSHeadRun.RunEq RR (PySem.W.view RR.prog [32]) hk ob 3000 lo (w.withFollow "special-get-raises" false) := by
  intro os
  kernel_rfl
set_option maxHeartbeats 0 in
theorem run_1 (w : World) : HandSHeadRun.RunEq RR (PySem.W.view RR.prog [32]) hk ob 3000 lo (w.withFollow "special-get-raises" true) := by
  intro os
  kernel_rfl
theorem run_hd (w : World) : HandSHeadRun.RunEq RR (PySem.W.view RR.prog [32]) hk ob 3000 lo w :=
  PySem.W.byRow2 (P := fun w => HandSHeadRun.RunEq RR (PySem.W.view RR.prog [32]) hk ob 3000 lo w) "special-get-raises" run_0 run_1 w

end
end Lw
open PySem PySem.W PySem.Calls PyProof.Rows
set_option maxHeartbeats 0 in
theorem PySem.Challenge.cw_ownbranch_k02_loops_known_holds : PySem.Challenge.rw_ownbranch_k02_loops_known.Holds := by
  w_on; o_law
  refine HandSHeadRun.head_any (r := OpenLaw.row PySem.Challenge.rw_ownbranch_k02_loops_known) (q := view (OpenLaw.row PySem.Challenge.rw_ownbranch_k02_loops_known).prog [32]) (H := Lw.hk) (ob := Lw.ob) (M := 3000) (loose := Lw.lo) (d := HandSHeadRun.topDef (OpenLaw.row PySem.Challenge.rw_ownbranch_k02_loops_known).prog 32) (kwd := []) Lw.ob_eq
    (by kernel_rfl) (fun s => by kernel_rfl) Lw.run_hd (by kernel_rfl) (by kernel_rfl) (by kernel_rfl) (by rfl) (by first | assumption | decide +kernel) (by decide +kernel) ⟨rfl, rfl, rfl, rfl, rfl, by decide +kernel⟩ ?hw ?hc
  case hw => w_witness2
  case hc =>
    refine Ob.walkG (l := PySem.Challenge.rw_ownbranch_k02_loops_known) (n := 63) (k := 7) rfl (by decide) (by kernel_rfl) ⟨rfl, by decide, by decide⟩ ?F
    intro w mg f h Y G hmg0
    obtain ⟨K, KX, c⟩ := Y
    have hmg : mg ("law" : PySem.Str) = some (.ref f) := by
      have e : (HandSHeadRun.topDef (OpenLaw.row PySem.Challenge.rw_ownbranch_k02_loops_known).prog 32).name = ("law" : PySem.Str) := by kernel_rfl
      rw [← e]
      exact hmg0
    have T : Lw.TT w K mg := ⟨⟨h, KX, G, c⟩⟩
    have e := hmg.symm.trans (Ob.Tp.glo T 21 (x := "law") rfl)
    cases e
    exact ⟨K, Lw.sp_law K, KX, fun H a ns hl _ hS => ⟨a, ns, rfl, hS, hl, fun _ => rfl⟩, fun base _ _ => Lw.ok_law T⟩
